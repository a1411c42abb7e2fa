import PyProof.Rows.All
import Wide.All
import OpenK.AllK
import Wide.FinOn
import HandS.ForMost
import HandS.ForExc
import HandS.Wide
import HandS.Deep
import HandS.Style
import HandS.Text
import HandS.TupAny
import HandS.TupLen
import HandS.Iter
import HandS.Conv
import HandS.Dict
import HandS.SetFor
import HandS.SortInts
import HandS.TupSets
import HandS.Zip
import HandS.IsInst
import HandS.RaiseMore
import KE.GoesMore
import KE.GoesZip
import HandS.Strs
import HandS.ExcValue
import HandS.ExcField
import HandS.ExcIs
import HandS.TryOnly
import HandS.SuiteRaise
import HandS.RaiseFrom
import KE.KExcIs
import HandS.Nested
import HandS.ExcInit
import HandS.FStr
import KE.KExcSuper
import HandS.Hot
import HandS.HotCalls
import HandS.NoneIn
import PySem.Challenge.RW_splitnames_k11_errors_of_the_grid
set_option Elab.async false
set_option linter.all false
set_option maxRecDepth 100000
set_option maxHeartbeats 4000000
/-! VE: an evaluator over plain data (value semantics: a list or dict that a name alone holds is owned; what is shared is data). -/
namespace VE
open PySem L2

/-- a container that owns what it holds: an instance, a dict, a list -/
inductive Bx where
  | obj (c : Str) (ns : List Str)
  | dK (ks : List Key)
  | dT (ks : List (List Key))
  | lst
/-- what a name holds -/
inductive S where
  | val (d : PyData)
  | lst (xs : List PyData)
  | dct (kvs : List (PyData × PyData))
  /-- a dict with tuple keys -/
  | dtt (kvs : List (PyData × PyData))
  | box (b : Bx) (fs : List S)
  | dead
/-- how a computation ends: stuck, a value and the names, an exception of the class c (with one kept value) and the names -/
inductive R (α : Type) where
  | stk
  | ok (a : α) (ρ : List S)
  | exc (c : Nat) (d : Option Int) (ρ : List S)
def R.bnd {α β : Type} (r : R α) (f : α → List S → R β) : R β := match r with
  | .stk => .stk
  | .ok a ρ => f a ρ
  | .exc c d ρ => .exc c d ρ
@[simp] theorem R.bnd_ok {α β : Type} (a : α) (ρ : List S) (f : α → List S → R β) : (R.ok a ρ).bnd f = f a ρ := rfl
@[simp] theorem R.bnd_stk {α β : Type} (f : α → List S → R β) : (R.stk : R α).bnd f = .stk := rfl
@[simp] theorem R.bnd_exc {α β : Type} (c : Nat) (d : Option Int) (ρ : List S) (f : α → List S → R β) : (R.exc c d ρ : R α).bnd f = .exc c d ρ := rfl
def ofO {α : Type} (o : Option α) (ρ : List S) : R α := match o with
  | some a => .ok a ρ
  | none => .stk
@[simp] theorem ofO_some {α : Type} (a : α) (ρ : List S) : ofO (some a) ρ = .ok a ρ := rfl
@[simp] theorem ofO_none {α : Type} (ρ : List S) : ofO (none : Option α) ρ = .stk := rfl

/-- the data that a name holds -/
def view : S → Option PyData
  | .val d => some d
  | .lst xs => some (.list xs)
  | .dct kvs => some (.dict kvs)
  | .dtt _ => none
  | .box _ _ => none
  | .dead => none

/-! ### operations on data -/
inductive Bop where
  | add | sub | mul | fdiv | mod | pow
  deriving DecidableEq
inductive Cop where
  | eq | ne | lt | le | gt | ge | is | isnot | mem | notmem
  deriving DecidableEq

def mulOk (a b : Int) : Bool := (decide (a.natAbs < 2 ^ 64) || decide (b.natAbs < 2 ^ 64)) || decide (a.natAbs.log2 + b.natAbs.log2 < 1000000)
def divOk (b : Int) : Bool := decide (0 < b) && decide (b.natAbs.log2 < 9000)
def powOk (a b : Int) : Bool := decide (0 ≤ b) && decide (b.natAbs ≤ 1000) && decide (a.natAbs.log2 < 1000)
def repS (a : Str) (k : Int) : Str := ⟨(List.replicate k.toNat a.cps).foldl (· ++ ·) #[]⟩
def opB : Bop → PyData → PyData → Option S
  | .add, .int a, .int b => some (.val (.int (a + b)))
  | .sub, .int a, .int b => some (.val (.int (a - b)))
  | .mul, .int a, .int b => if mulOk a b then some (.val (.int (a * b))) else none
  | .fdiv, .int a, .int b => if divOk b then some (.val (.int (a / b))) else none
  | .mod, .int a, .int b => if decide (0 < b) then some (.val (.int (a % b))) else none
  | .pow, .int a, .int b => if powOk a b then some (.val (.int (a ^ b.toNat))) else none
  | .add, .str a, .str b => if decide (a.length + b.length ≤ sizeLine) then some (.val (.str (a ++ b))) else none
  | .add, .list a, .list b => if decide (a.length + b.length ≤ sizeLine) then some (.lst (a ++ b)) else none
  | .add, .tuple a, .tuple b => if decide (a.length + b.length ≤ sizeLine) then some (.val (.tuple (a ++ b))) else none
  | .mul, .str a, .int k => if decide (2 ≤ k) && decide (k.natAbs ≤ 1000) && decide (1 ≤ a.length) && decide (a.length ≤ 1000) && decide ((repS a k).length ≤ sizeLine) then some (.val (.str (repS a k))) else none
  | .mul, .list a, .int k => if (decide (0 ≤ k) && decide (k.toNat < 2 ^ 63)) && decide (a.length * k.toNat ≤ sizeLine) then some (.lst (List.replicate k.toNat a).flatten) else none
  | _, _, _ => none
/-- name op= e, ints alone -/
def opAug : Bop → PyData → PyData → Option Int
  | .add, .int a, .int b => some (a + b)
  | .sub, .int a, .int b => some (a - b)
  | .mul, .int a, .int b => if decide (a.natAbs < 2 ^ 64) || decide (b.natAbs < 2 ^ 64) then some (a * b) else none
  | _, _, _ => none
def isNone : PyData → Bool
  | .none => true
  | _ => false
def keyD : PyData → Option Key
  | .int i => some (.inl i)
  | .str z => some (.inr z)
  | _ => none
/-- the keys, all of them ints or texts -/
def keysD : List (PyData × PyData) → Option (List Key)
  | [] => some []
  | (k, _) :: r => match keyD k, keysD r with
    | some k, some ks => some (k :: ks)
    | _, _ => none
/-- is it a key? of a dict that is not empty -/
def inDict (a : PyData) (kvs : List (PyData × PyData)) : Option Bool := match keyD a, keysD kvs with
  | some k, some ks => if ks.isEmpty then none else some (ks.any fun j => decide (j = k))
  | _, _ => none
/-- a tuple of ints and texts as a key -/
def keysL : List PyData → Option (List Key)
  | [] => some []
  | d :: r => match keyD d, keysL r with
    | some k, some ks => some (k :: ks)
    | _, _ => none
def keyT : PyData → Option (List Key)
  | .tuple ds => keysL ds
  | _ => none
def kDat' : Key → PyData
  | .inl i => .int i
  | .inr x => .str x
/-! ### exceptions -/
/-- the program's classes of errors -/
def cnm : Nat → Str
  | 0 => "SplitError"
  | 1 => "InvalidCount"
  | 2 => "InvalidSchedule"
  | 3 => "InvalidOutcome"
  | 4 => "InvalidCell"
  | 5 => "InvalidName"
  | 6 => "InvalidNames"
  | 7 => "InvalidNumber"
  | 8 => "InvalidProcess"
  | 9 => "InvalidText"
  | 10 => "InvalidCommand"
  | 11 => "NoRun"
  | 12 => "NothingToUndo"
  | 13 => "Impossible"
  | 14 => "TooLarge"
  | _ => "ValueError"
/-- is the class c' one of c's? 15 is ValueError -/
def subX (c' c : Nat) : Bool := decide (c' = c) || decide (c = 0) || decide (c = 15)
/-- the field of such an error -/
def fldX : Nat → Str
  | 13 => "diagonal"
  | 14 => "limit"
  | _ => ""
def oD : Option Int → PyData
  | none => .none
  | some i => .int i
/-- an error object as data: a dict that no program has -/
def exD (c : Nat) (o : Option Int) : PyData := .dict [(.list [.int c], oD o)]
def unX : PyData → Option (Nat × Option Int)
  | .dict [(.list [.int c], .none)] => some (c.toNat, none)
  | .dict [(.list [.int c], .int i)] => some (c.toNat, some i)
  | _ => none
/-- d[k] = x -/
def putT (kvs : List (PyData × PyData)) (k : List Key) (d : PyData) : List (PyData × PyData) :=
  if kvs.any (fun p => decide (keyT p.1 = some k)) then kvs.map (fun p => if keyT p.1 = some k then (p.1, d) else p) else kvs ++ [(.tuple (k.map kDat'), d)]
/-- are its keys tuples? -/
def tkey : List (PyData × PyData) → Bool
  | (.tuple _, _) :: _ => true
  | _ => false
/-- is it an error? -/
def lkey : List (PyData × PyData) → Bool
  | (.list _, _) :: _ => true
  | _ => false
def tkeyD : PyData → Bool
  | .dict kvs => tkey kvs || lkey kvs
  | _ => false
def opC : Cop → PyData → PyData → Option Bool
  | .eq, .str a, .str b => some (decide (a = b))
  | .ne, .str a, .str b => some (!decide (a = b))
  | .eq, .list xs, .list [] => some xs.isEmpty
  | .eq, a, b => if SeqAt.shaped a && SeqAt.shaped b then some (PyData.eqv a b) else none
  | .ne, a, b => if SeqAt.shaped a && SeqAt.shaped b then some (!PyData.eqv a b) else none
  | .lt, .int a, .int b => some (decide (a < b))
  | .le, .int a, .int b => some (decide (a ≤ b))
  | .gt, .int a, .int b => some (decide (b < a))
  | .ge, .int a, .int b => some (decide (b ≤ a))
  | .is, a, .none => some (isNone a)
  | .isnot, a, .none => some (!isNone a)
  | .is, .bool a, .bool b => some (decide (a = b))
  | .isnot, .bool a, .bool b => some (!decide (a = b))
  | .mem, .str a, .str z => match a.cps.toList with
    | [c] => some (decide (c ∈ z.cps.toList))
    | _ => none
  | .notmem, .str a, .str z => match a.cps.toList with
    | [c] => some (!decide (c ∈ z.cps.toList))
    | _ => none
  | .mem, a, .list xs => if SeqAt.shaped a && SeqAt.shaped (.list xs) then some (xs.any fun z => PyData.eqv z a) else none
  | .notmem, a, .list xs => if SeqAt.shaped a && SeqAt.shaped (.list xs) then some (!xs.any fun z => PyData.eqv z a) else none
  | .mem, a, .tuple xs => if SeqAt.shaped a && SeqAt.shaped (.tuple xs) then some (xs.any fun z => PyData.eqv z a) else none
  | .notmem, a, .tuple xs => if SeqAt.shaped a && SeqAt.shaped (.tuple xs) then some (!xs.any fun z => PyData.eqv z a) else none
  | .mem, a, .dict kvs => inDict a kvs
  | .notmem, a, .dict kvs => (inDict a kvs).map (!·)
  | _, _, _ => none
/-- the i-th item, as Python counts -/
def atP {α : Type} (xs : List α) (i : Int) : Option α := atI xs i
def opIx : PyData → PyData → Option PyData
  | .list xs, .int i => atI xs i
  | .tuple xs, .int i => atI xs i
  | .str z, .int i => if decide (z.length ≤ sizeLine) then (atI z.cps.toList i).map fun c => .str ⟨#[c]⟩ else none
  | _, _ => none
def cutD (xs : List PyData) (lo hi : Option Int) : List PyData := (xs.drop (HT.sIx xs.length 0 lo)).take (HT.sIx xs.length xs.length hi - HT.sIx xs.length 0 lo)

/-! ### places: a name and a path -/
/-- a step of a path -/
inductive Pk where
  | fld (f : Str)
  | key (d : PyData)
/-- the integer keys -/
def Pk.num : Pk → Option Int
  | .key (.int i) => some i
  | _ => none
def ixo {α : Type} [DecidableEq α] (x : α) : List α → Option Nat
  | [] => none
  | y :: r => if y = x then some 0 else (ixo x r).map (· + 1)
/-- the fields of the program's classes -/
def flds (c : Str) : List Str :=
  if c = ("Machine" : Str) then ["size", "owners", "flags", "cells", "performed", "stopped"]
  else if c = ("Run" : Str) then ["machine", "schedule", "past"]
  else if c = ("Desk" : Str) then ["run_held"]
  else if c = ("Splitter" : Str) then ["owner", "flag", "performed", "results"]
  else []
def child : Bx → Nat → Pk → Option Nat
  | .obj c ns, _, .fld f => if f ∈ flds c then ixo f ns else none
  | .dK ks, _, .key d => match keyD d with
    | some k => ixo k ks
    | none => none
  | .dT ks, _, .key d => match keyT d with
    | some k => ixo k ks
    | none => none
  | .lst, n, .key (.int i) => ixN n i
  | _, _, _ => none
def getS : S → List Pk → S
  | s, [] => s
  | .box b fs, k :: π => match child b fs.length k with
    | some j => getS (fs.getD j .dead) π
    | none => .dead
  | _, _ :: _ => .dead
def setS : S → List Pk → S → S
  | _, [], t => t
  | .box b fs, k :: π, t => match child b fs.length k with
    | some j => .box b (fs.set j (setS (fs.getD j .dead) π t))
    | none => .box b fs
  | s, _ :: _, _ => s

/-! ### the text -/
/-- built-in types, asked by isinstance -/
inductive Ty where
  | int | bool | str | list | tuple
  deriving DecidableEq
inductive Blt where
  | len | repr | min2 | max2 | list | isi (t : Ty) | int | minL | maxL | sumL | tup | all | any | sorted | str | dict
  deriving DecidableEq
/-- methods that change the list that a name owns -/
inductive Mut where
  | append | pop | reverse | remove
  deriving DecidableEq
/-- methods of lists that leave them as they are -/
inductive LM where
  | count
  deriving DecidableEq
/-- methods of texts -/
inductive SM where
  | join | split
  deriving DecidableEq
/-- which ends of a slice are written -/
inductive Sl where
  | no | lo | hi | both
  deriving DecidableEq
inductive Tg where
  | nm (i : Nat)
  | tp (is : List Nat)
/-- a step of a path as it is written -/
inductive Px where
  | fld (f : Str)
  | key (c : PyData)
  | nm (i : Nat)
/-- expressions that only look: a place is a name and a path, its last step first -/
inductive U where
  | cst (d : PyData)
  | nm (i : Nat)
  /-- what stands at a place, or below it -/
  | get (i : Nat) (π : List Px) (ks : List Px)
  | len (i : Nat) (π : List Px)
  | add (a b : U)
  | sub (a b : U)
  /-- k in a dict -/
  | inD (k : U) (i : Nat) (π : List Px)
  /-- a dict's get with a value for keys that are not there -/
  | dget (i : Nat) (π : List Px) (k d : U)
mutual
inductive A where
  /-- a name, borrowed -/
  | pl (i : Nat)
  | e (x : E)
inductive E where
  | rd (i : Nat) (mv : Bool)
  | cst (d : PyData)
  | glob (g : Nat)
  | bin (o : Bop) (a b : A)
  | neg (a : A)
  | not (a : E)
  | cmp (o : Cop) (a b : A)
  | chain (o₁ o₂ : Cop) (a b c : A)
  | bop (isAnd : Bool) (es : List E)
  | ite (c a b : E)
  | idx (a b : A)
  | slice (k : Sl) (as : List A)
  | tup (es : List A)
  | lst (es : List A)
  | call (f : Nat) (as : List A)
  | blt (b : Blt) (as : List A)
  | mut (m : Mut) (i : Nat) (as : List A)
  | ext (i : Nat) (x : E)
  | comp (t : Tg) (it : It) (c : Option E) (x : E)
  /-- a text's method of one operand -/
  | sm (k : SM) (o x : A)
  /-- list(range(..)) -/
  | lrg (as : List A)
  /-- len(set(..)) of ints -/
  | lset (a : A)
  /-- sorted(set(..)) of ints -/
  | sset (a : A)
  /-- a[::-1] -/
  | rev (a : A)
  /-- a list's method of one operand -/
  | lm (k : LM) (i : Nat) (x : A)
  /-- {}, or {k: c} of constants -/
  | dcst (o : Option (Key × PyData))
  /-- {}, its keys to be tuples -/
  | dnewT
  /-- {k: v}, k a tuple -/
  | dispT (k v : A)
  /-- a dict with tuple keys becomes data -/
  | keep (x : E)
  /-- a name's dict with tuple keys == {} -/
  | deq0 (i : Nat)
  /-- list(d) of it -/
  | dkeys (i : Nat)
  | u (x : U)
  /-- a method of a list at a place -/
  | mutP (m : Mut) (i : Nat) (π : List Px) (xs : List U)
  /-- a method of the object that an expression gives: class, name, the def's number -/
  | meth (c m : Str) (f : Nat) (x : E) (xs : List U)
  /-- .. of an object at a place -/
  | callP (c m : Str) (f : Nat) (i : Nat) (π : List Px) (xs : List U)
  /-- a new instance of the class c, its __init__ the def f -/
  | make (c : Str) (f : Nat) (xs : List U)
  /-- a dict of constant keys that owns its values -/
  | boxd (ks : List Key) (xs : List E)
  /-- a list that owns containers -/
  | boxl (as : List A)
  /-- d.pop(k) at a place, min(d) of int keys, {k: x} -/
  | dix (a b : A)
  | csel (fs : List Nat) (i : Nat) (as : List A)
  | dlist (a : A)
  | dpop (i : Nat) (π : List Px) (k : U)
  | dmin (i : Nat) (π : List Px)
  | disp1 (k : Key) (x : A)
  /-- isinstance(a, C), isinstance(a, (C, ..)): classes of errors -/
  | isx (a : A) (cs xs : List Nat)
  /-- a.f of an error -/
  | efld (c : Nat) (i : Nat)
  /-- an error made as a value; its field -/
  | mkx (c : Nat) (a : A)
  | mkf (c : Nat) (a : A)
  /-- a comprehension of two clauses -/
  | comp2 (t : Tg) (it : It) (c : Option E) (t1 : Tg) (it1 : It) (c1 : Option E) (x : E)
inductive It where
  | rng1 (a : A)
  | rng2 (a b : A)
  | rng3 (as : List A)
  | seq (a : A)
  | enum (a : A)
  | zip (a b : A)
  | chars (a : A)
  /-- the keys, tuples, of a dict that is data -/
  | keys (a : A)
  /-- the items of lists at places of one name -/
  | seqP (i : Nat) (π : List Px)
  | zipP (i : Nat) (π π' : List Px)
end
inductive St where
  | expr (x : E)
  | asg (i : Nat) (x : E)
  | par (is : List Nat) (xs : List A)
  | unp (is : List Nat) (x : E)
  | setit (i : Nat) (k : A) (x : E)
  /-- p[k] = x at a place -/
  | pset (i : Nat) (π : List Px) (k : U) (x : E)
  /-- p.f = x -/
  | fset (i : Nat) (π : List Px) (f : Str) (x : E)
  /-- d[k] = x, k a tuple -/
  | setd (i : Nat) (k : A) (x : E)
  | aug (i : Nat) (o : Bop) (a : A)
  /-- a name's own list += a list -/
  | augl (i : Nat) (x : E)
  | ret (x : E)
  | retN
  | ite (c : E) (a b : List St)
  | for_ (t : Tg) (it : It) (hold : Bool) (b : List St)
  | while_ (n : Nat) (c : E) (b : List St)
  | brk | cont | pass
  /-- raise C('..') -/
  | raise (c : Nat)
  /-- raise C(a), a an int -/
  | raiseF (c : Nat) (a : A)
  /-- try: b / except C: return d -/
  | tryC (b : List St) (c : Nat) (cs : List Nat) (d : PyData)
  /-- try: b / except C: raise C2('..') from None -/
  | tryR (b : List St) (c : Nat) (cs : List Nat) (c2 : Nat)
  /-- try: b / except C as e: u, e in slot i -/
  | tryA (b : List St) (c : Nat) (cs : List Nat) (i : Nat) (u : List St)
  | never
/-- how a statement ends -/
inductive F where
  | nx | brk | cont
  | ret (s : S)

/-! ### the evaluator -/
def rgOk (a b : Int) : Bool := decide (a.natAbs < 2 ^ 62) && decide (b.natAbs < 2 ^ 62) && decide ((b - a).toNat ≤ 2 ^ 24)
def ty : Ty → PyData → Bool
  | .int, .int _ => true
  | .int, .bool _ => true
  | .bool, .bool _ => true
  | .str, .str _ => true
  | .list, .list _ => true
  | .tuple, .tuple _ => true
  | _, _ => false
def allInts : List PyData → Option (List Int)
  | [] => some []
  | .int i :: r => (allInts r).map (i :: ·)
  | _ => none
def allBools : List PyData → Option (List Bool)
  | [] => some []
  | .bool i :: r => (allBools r).map (i :: ·)
  | _ => none
def insI (x : Int) : List Int → List Int
  | [] => [x]
  | y :: ys => if decide (x ≤ y) then x :: y :: ys else y :: insI x ys
def dedup (ns : List Int) : List Int := ns.foldl PyProof.Rows.step_dedup []
def isort : List Int → List Int
  | [] => []
  | x :: xs => insI x (isort xs)
/-- pairs of ints in order -/
def allPairs : List PyData → Option (List (Int × Int))
  | [] => some []
  | .tuple [.int i, .int j] :: r => (allPairs r).map ((i, j) :: ·)
  | _ => none
def leP (p q : Int × Int) : Bool := decide (p.1 < q.1) || (decide (p.1 = q.1) && decide (p.2 ≤ q.2))
/-- lists of tuples of four small ints -/
abbrev Qd := Int × Int × Int × Int
def allQuads : List PyData → Option (List Qd)
  | [] => some []
  | .tuple [.int a, .int b, .int c, .int d] :: r => (allQuads r).map ((a, b, c, d) :: ·)
  | _ => none
def qdI (q : Qd) : PyData := .tuple [.int q.1, .int q.2.1, .int q.2.2.1, .int q.2.2.2]
def qcode (q : Qd) : Int := q.1 * 262144 + (q.2.1 * 4096 + (q.2.2.1 * 64 + q.2.2.2))
def qok (q : Qd) : Bool := decide (0 ≤ q.1 ∧ q.1 < 64 ∧ 0 ≤ q.2.1 ∧ q.2.1 < 64 ∧ 0 ≤ q.2.2.1 ∧ q.2.2.1 < 64 ∧ 0 ≤ q.2.2.2 ∧ q.2.2.2 < 64)
def insQ (x : Qd) : List Qd → List Qd
  | [] => [x]
  | y :: ys => if decide (qcode x ≤ qcode y) then x :: y :: ys else y :: insQ x ys
def qsort : List Qd → List Qd
  | [] => []
  | x :: xs => insQ x (qsort xs)
def insP (x : Int × Int) : List (Int × Int) → List (Int × Int)
  | [] => [x]
  | y :: ys => if leP x y then x :: y :: ys else y :: insP x ys
def psort : List (Int × Int) → List (Int × Int)
  | [] => []
  | x :: xs => insP x (psort xs)
def prI (p : Int × Int) : PyData := .tuple [.int p.1, .int p.2]
def maxI (n : Int) : List Int → Int
  | [] => n
  | x :: xs => maxI (if decide (n < x) then x else n) xs
def minI (n : Int) : List Int → Int
  | [] => n
  | x :: xs => minI (if decide (x < n) then x else n) xs
mutual
def flatK : PyData → Bool
  | .list xs => flatKs xs
  | .tuple xs => flatKs xs
  | .dict kvs => flatKv kvs
  | _ => true
def flatKs : List PyData → Bool
  | [] => true
  | x :: xs => flatK x && flatKs xs
def flatKv : List (PyData × PyData) → Bool
  | [] => true
  | (k, v) :: r => (match k with | .tuple _ => false | .list _ => false | _ => true) && flatK v && flatKv r
end
def kDat : Key → PyData
  | .inl i => .int i
  | .inr x => .str x
/-- pairs of a key and a datum, all keys different -/
def pairsK : List PyData → Option (List (Key × PyData))
  | [] => some []
  | .tuple [k, d] :: r => match keyD k, pairsK r with
    | some k, some ps => if ps.any (fun p => decide (p.1 = k)) then none else some ((k, d) :: ps)
    | _, _ => none
  | _ => none
def opDctP : PyData → Option S
  | .list xs => (pairsK xs).map fun ps => .dct (ps.map fun p => (kDat p.1, p.2))
  | _ => none
def opBlt : Blt → List PyData → Option S
  | .len, [.list xs] => if decide (xs.length ≤ sizeLine) then some (.val (.int xs.length)) else none
  | .len, [.tuple xs] => if decide (xs.length ≤ sizeLine) then some (.val (.int xs.length)) else none
  | .len, [.dict kvs] => if lkey kvs then none else some (.val (.int kvs.length))
  | .len, [.str x] => if decide (x.length ≤ sizeLine) then some (.val (.int x.length)) else none
  | .repr, [d] => if PyData.showable d && decide (d.shown.length ≤ sizeLine) && decide (d.depth ≤ 60) && flatK d then some (.val (.str d.shown)) else none
  | .min2, [.int a, .int b] => some (.val (.int (if b < a then b else a)))
  | .max2, [.int a, .int b] => some (.val (.int (if b > a then b else a)))
  | .list, [.list xs] => if decide (xs.length ≤ sizeLine) then some (.lst xs) else none
  | .list, [.tuple xs] => if decide (xs.length ≤ sizeLine) then some (.lst xs) else none
  | .isi t, [d] => if tkeyD d then none else some (.val (.bool (ty t d)))
  | .int, [.int a] => some (.val (.int a))
  | .int, [.str a] => match PySem.intText? a with
    | some n => if decide (a.length ≤ 640) then some (.val (.int n)) else none
    | none => none
  | .int, [.bool a] => some (.val (.int (if a then 1 else 0)))
  | .tup, [.tuple xs] => some (.val (.tuple xs))
  | .tup, [.list xs] => if decide (xs.length ≤ sizeLine) then some (.val (.tuple xs)) else none
  | .sumL, [.list xs] => match allInts xs with
    | some ns => some (.val (.int ns.sum))
    | none => none
  | .sumL, [.tuple xs] => match allInts xs with
    | some ns => some (.val (.int ns.sum))
    | none => none
  | .maxL, [.list xs] => match allInts xs with
    | some (n :: ns) => some (.val (.int (maxI n ns)))
    | _ => none
  | .minL, [.list xs] => match allInts xs with
    | some (n :: ns) => some (.val (.int (minI n ns)))
    | _ => none
  | .all, [.list xs] => match allBools xs with
    | some bs => some (.val (.bool (bs.all id)))
    | none => none
  | .any, [.list xs] => match allBools xs with
    | some bs => some (.val (.bool (bs.any id)))
    | none => none
  | .sorted, [.list xs] => match allInts xs with
    | some ns => some (.lst ((isort ns).map .int))
    | none => match allPairs xs with
      | some ps => some (.lst ((psort ps).map prI))
      | none => match allQuads xs with
        | some qs => if decide (qs.length < 64) && qs.all qok then some (.lst ((qsort qs).map qdI)) else none
        | none => none
  | .str, [.int i] => if decide (i.natAbs.log2 < 1920) then some (.val (.str (Str.ofString (toString i)))) else none
  | .str, [.str a] => some (.val (.str a))
  | .dict, [d] => opDctP d
  | _, _ => none
def opSl : Sl → List PyData → Option S
  | .no, [.list xs] => some (.lst (cutD xs none none))
  | .lo, [.list xs, .int i] => some (.lst (cutD xs (some i) none))
  | .hi, [.list xs, .int j] => some (.lst (cutD xs none (some j)))
  | .both, [.list xs, .int i, .int j] => some (.lst (cutD xs (some i) (some j)))
  | .no, [.tuple xs] => some (.val (.tuple (cutD xs none none)))
  | .lo, [.tuple xs, .int i] => some (.val (.tuple (cutD xs (some i) none)))
  | .hi, [.tuple xs, .int j] => some (.val (.tuple (cutD xs none (some j))))
  | .both, [.tuple xs, .int i, .int j] => some (.val (.tuple (cutD xs (some i) (some j))))
  | .no, [.str z] => if decide (z.length ≤ sizeLine) then some (.val (.str (cutS z none none))) else none
  | .lo, [.str z, .int i] => if decide (z.length ≤ sizeLine) then some (.val (.str (cutS z (some i) none))) else none
  | .hi, [.str z, .int j] => if decide (z.length ≤ sizeLine) then some (.val (.str (cutS z none (some j)))) else none
  | .both, [.str z, .int i, .int j] => if decide (z.length ≤ sizeLine) then some (.val (.str (cutS z (some i) (some j)))) else none
  | _, _ => none
def opMut : Mut → List PyData → List PyData → Option (PyData × List PyData)
  | .append, xs, [d] => if decide (xs.length < sizeLine) then some (.none, xs ++ [d]) else none
  | .pop, xs, [.int i] => match atI xs i, ixN xs.length i with
    | some d, some j => some (d, xs.eraseIdx j)
    | _, _ => none
  | .pop, xs, [] => match xs.getLast? with
    | some d => some (d, xs.dropLast)
    | none => none
  | .reverse, xs, [] => some (.none, xs.reverse)
  | .remove, xs, [.int k] => match allInts xs with
    | some ns => if decide (ns.idxOf k < ns.length) then some (.none, (ns.eraseIdx (ns.idxOf k)).map .int) else none
    | none => none
  | _, _, _ => none

def allStrs : List PyData → Option (List Str)
  | [] => some []
  | .str i :: r => (allStrs r).map (i :: ·)
  | _ => none
def opSm : SM → Str → PyData → Option S
  | .join, a, .list ys => match allStrs ys with
    | some ss => if decide ((ss.map (·.length)).sum + ss.length * a.length ≤ 16777216) then some (.val (.str (Txt.join a ss))) else none
    | none => none
  | .split, a, .str b => if !(b.length == 0) && decide (a.length + 2 ≤ sizeLine) then some (.lst ((Txt.split a b).map .str)) else none
  | _, _, _ => none
def opLm : LM → PyData → PyData → Option S
  | .count, .list xs, d => if SeqAt.shaped d && SeqAt.shaped (.list xs) then some (.val (.int ((xs.countP fun z => PyData.eqv z d : Nat) : Int))) else none
  | _, _, _ => none
def revS (z : Str) : Str := ⟨z.cps.toList.reverse.toArray⟩
def opRev : PyData → Option S
  | .list xs => some (.lst xs.reverse)
  | .str z => if decide (z.length ≤ sizeLine) then some (.val (.str (revS z))) else none
  | _ => none
def dctO : Option (Key × PyData) → List (PyData × PyData)
  | none => []
  | some (k, d) => [(kDat k, d)]
/-- range(a, b, c), c above 0 -/
def rngC (a c : Int) (n : Nat) : List PyData := (List.range n).map fun (i : Nat) => .int (a + (i : Int) * c)
def cntC (a b c : Int) : Nat := ((b - a + c - 1) / c).toNat
def cnt3 (a b c : Int) : Nat := if c = -1 then (a - b).toNat else cntC a b c
/-- d[k] of a dict with tuple keys that is data; its keys in a list -/
def opDix (d k : PyData) : Option S := match d with
  | .dict kvs => match keyT k with
    | some kk => (kvs.find? fun p => decide (keyT p.1 = some kk)).map fun p => .val p.2
    | none => none
  | _ => none
def opDlist : PyData → Option S
  | .dict kvs => if tkey kvs then some (.lst (kvs.map (·.1))) else none
  | _ => none
def opSetLen : PyData → Option S
  | .list xs => match allInts xs with
    | some ns => if decide (ns.length ≤ 4000) then some (.val (.int (dedup ns).length)) else none
    | none => none
  | _ => none
def opSset : PyData → Option S
  | .list xs => match allInts xs with
    | some ns => if decide (ns.length ≤ 60) then some (.lst ((isort (dedup ns)).map .int)) else none
    | none => none
  | _ => none
def slot (ρ : List S) (i : Nat) : S := ρ.getD i .dead
/-- a path's step: a name's is what it holds -/
def pkOf (ρ : List S) : Px → Option Pk
  | .fld f => some (.fld f)
  | .key c => some (.key c)
  | .nm i => match slot ρ i with
    | .val d => some (.key d)
    | _ => none
def pthR (ρ : List S) : List Px → Option (List Pk)
  | [] => some []
  | p :: r => match pthR ρ r, pkOf ρ p with
    | some π, some k => some (π ++ [k])
    | _, _ => none
/-- what stands at a place -/
def atP' (ρ : List S) (i : Nat) (rπ : List Px) : S := match pthR ρ rπ with
  | some π => getS (slot ρ i) π
  | none => .dead
/-- .. and is put there -/
def putP (ρ : List S) (i : Nat) (rπ : List Px) (s : S) : List S := match pthR ρ rπ with
  | some π => ρ.set i (setS (slot ρ i) π s)
  | none => ρ
def lookT (kvs : List (PyData × PyData)) (k : List Key) : Option PyData := (kvs.find? fun p => decide (keyT p.1 = some k)).map (·.2)
def putD (kvs : List (PyData × PyData)) (k : Key) (d : PyData) : List (PyData × PyData) :=
  if kvs.any (fun p => decide (keyD p.1 = some k)) then kvs.map (fun p => if keyD p.1 = some k then (p.1, d) else p) else kvs ++ [(kDat' k, d)]
def dropD (kvs : List (PyData × PyData)) (k : Key) : List (PyData × PyData) := kvs.filter fun p => !decide (keyD p.1 = some k)
/-- the keys, ints -/
def keysI : List (PyData × PyData) → Option (List Int)
  | [] => some []
  | (.int i, _) :: r => (keysI r).map (i :: ·)
  | _ => none
def lookK (kvs : List (PyData × PyData)) (k : Key) : Option PyData := (kvs.find? fun p => decide (keyD p.1 = some k)).map (·.2)
/-- an item of a list or dict, or of data -/
def itemS : S → PyData → Option PyData
  | .val d, k => opIx d k
  | .lst xs, .int i => atI xs i
  | .dtt kvs, k => match keyT k with
    | some kk => lookT kvs kk
    | none => none
  | .dct kvs, k => match keyD k, keysD kvs with
    | some kk, some _ => lookK kvs kk
    | _, _ => none
  | _, _ => none
def keyOf (ρ : List S) (p : Px) : Option PyData := match pkOf ρ p with
  | some (.key d) => some d
  | _ => none
/-- below a place, the last step first -/
def below (ρ : List S) (s : S) : List Px → Option PyData
  | [] => match s with
    | .val d => some d
    | _ => none
  | [p] => match keyOf ρ p with
    | some k => itemS s k
    | none => none
  | p :: r => match below ρ s r, keyOf ρ p with
    | some d, some k => opIx d k
    | _, _ => none
def simpleC : PyData → Bool
  | .none => true
  | .bool _ => true
  | .int _ => true
  | .str _ => true
  | _ => false
def evU (ρ : List S) : U → Option PyData
  | .cst d => if simpleC d then some d else none
  | .nm i => match slot ρ i with
    | .val d => some d
    | _ => none
  | .get i π ks => below ρ (atP' ρ i π) ks
  | .len i π => match atP' ρ i π with
    | .lst xs => if decide (xs.length ≤ sizeLine) then some (.int xs.length) else none
    | _ => none
  | .add a b => match evU ρ a, evU ρ b with
    | some (.int x), some (.int y) => some (.int (x + y))
    | _, _ => none
  | .sub a b => match evU ρ a, evU ρ b with
    | some (.int x), some (.int y) => some (.int (x - y))
    | _, _ => none
  | .inD k i π => match evU ρ k, atP' ρ i π with
    | some d, .dtt kvs => match keyT d with
      | some kk => some (.bool (lookT kvs kk).isSome)
      | none => none
    | some d, .dct kvs => match keyD d with
      | some kk => some (.bool (lookK kvs kk).isSome)
      | none => none
    | _, _ => none
  | .dget i π k z => match evU ρ k, evU ρ z, atP' ρ i π with
    | some d, some e, .dtt kvs => match keyT d with
      | some kk => some ((lookT kvs kk).getD e)
      | none => none
    | some d, some e, .dct kvs => match keyD d with
      | some kk => some ((lookK kvs kk).getD e)
      | none => none
    | _, _, _ => none
def evUs (ρ : List S) : List U → Option (List PyData)
  | [] => some []
  | x :: r => match evU ρ x, evUs ρ r with
    | some d, some ds => some (d :: ds)
    | _, _ => none
/-- a place's container with an item stored -/
def putIt : S → PyData → PyData → Option S
  | .lst xs, .int j, d => match ixN xs.length j with
    | some n => some (.lst (xs.set n d))
    | none => none
  | .dtt kvs, .tuple ks, d => match keysL ks with
    | some kk => if kvs.length < sizeLine then some (.dtt (putT kvs kk d)) else none
    | none => none
  | .dct kvs, k, d => match keyD k with
    | some kk => if kvs.length < sizeLine then some (.dct (putD kvs kk d)) else none
    | none => none
  | _, _, _ => none
/-- a field stored anew -/
def putFd : S → Str → S → Option S
  | .box (.obj c ns) fs, f, s => if f ∈ flds c then match ixo f ns with
      | some j => some (.box (.obj c ns) (fs.set j s))
      | none => if ns.length < 800 then some (.box (.obj c (ns ++ [f])) (fs ++ [s])) else none
    else none
  | _, _, _ => none
/-- an instance of the class c, no attribute of its own called m -/
def isObj (c m : Str) : S → Bool
  | .box (.obj c' ns) _ => decide (c' = c) && !ns.contains m
  | _ => false
/-- a borrowed name is looked at when all else is evaluated -/
def res (a : A) (t : Option PyData) (ρ : List S) : Option PyData := match a with
  | .pl i => view (slot ρ i)
  | .e _ => t
def ress : List A → List (Option PyData) → List S → Option (List PyData)
  | [], _, _ => some []
  | a :: as, t :: ts, ρ => match res a t ρ, ress as ts ρ with
    | some d, some ds => some (d :: ds)
    | _, _ => none
  | _ :: _, [], _ => none
def fin1 (a : A) (t : Option S) (ρ : List S) (g : PyData → Option S) : R S := match res a (t.bind view) ρ with
  | some d => ofO (g d) ρ
  | none => .stk
def fin2 (a b : A) (t u : Option S) (ρ : List S) (g : PyData → PyData → Option S) : R S := match res a (t.bind view) ρ, res b (u.bind view) ρ with
  | some d, some d' => ofO (g d d') ρ
  | _, _ => .stk
/-- isinstance of an error, or of None -/
def opIsx (cs xs : List Nat) : PyData → Option S
  | .none => some (.val (.bool false))
  | d => (unX d).bind fun p => if p.1 ∈ xs then some (.val (.bool (cs.any fun c => subX p.1 c))) else none
/-- the field of an error of the class c -/
def opMkx (c : Nat) : PyData → Option S
  | .str _ => if c < 13 then some (.val (exD c none)) else none
  | .int i => if 13 ≤ c ∧ decide (i.natAbs.log2 < 1920) = true then some (.val (exD c (some i))) else none
  | _ => none
def opMkf (c : Nat) : PyData → Option S
  | .int i => if 13 ≤ c ∧ decide (i.natAbs.log2 < 1920) = true then some (.val (.int i)) else none
  | _ => none
def opEfld (c : Nat) (d : PyData) : Option PyData := match unX d with
  | some (c', some i) => if c' = c then some (.int i) else none
  | _ => none
def opNeg : PyData → Option S
  | .int i => some (.val (.int (-i)))
  | _ => none
def cmpS (o : Cop) (d e : PyData) : Option S := (opC o d e).map fun k => .val (.bool k)
def ixS (d e : PyData) : Option S := (opIx d e).map .val
/-- it owns nothing -/
def bare : S → Bool
  | .val _ => true
  | .dead => true
  | _ => false
def isVal : S → Bool
  | .val _ => true
  | _ => false
/-- the operands as data to be kept: a name's value only where it is data -/
def resV : List A → List (Option S) → List S → Option (List PyData)
  | [], _, _ => some []
  | .pl i :: as, _ :: ts, ρ => match slot ρ i, resV as ts ρ with
    | .val d, some ds => some (d :: ds)
    | _, _ => none
  | .e _ :: as, some s :: ts, ρ => match view s, resV as ts ρ with
    | some d, some ds => some (d :: ds)
    | _, _ => none
  | _, _, _ => none
/-- .. as values -/
def resS : List A → List (Option S) → List S → Option (List S)
  | [], _, _ => some []
  | .pl i :: as, _ :: ts, ρ => match slot ρ i, resS as ts ρ with
    | .val d, some ds => some (.val d :: ds)
    | _, _ => none
  | .e _ :: as, some s :: ts, ρ => match resS as ts ρ with
    | some ds => some (s :: ds)
    | _ => none
  | _, _, _ => none
/-- what is walked is held aside while it is walked -/
def holdO (a : A) (xs : List PyData) (ρ : List S) : R (List PyData × Option (Nat × S)) := match a with
  | .pl i => if isVal (slot ρ i) = true then .ok (xs, none) ρ else .ok (xs, some (i, slot ρ i)) (ρ.set i .dead)
  | .e _ => .ok (xs, none) ρ
/-- what is handed to a def: a name's own list is lent -/
def lend : List A → List (Option S) → List S → Option (List S × List S)
  | [], _, ρ => some ([], ρ)
  | .pl i :: as, _ :: ts, ρ => match slot ρ i with
    | .dead => none
    | .val d => (lend as ts ρ).map fun (r, ρ') => (.val d :: r, ρ')
    | s => (lend as ts (ρ.set i .dead)).map fun (r, ρ') => (s :: r, ρ')
  | .e _ :: as, some s :: ts, ρ => (lend as ts ρ).map fun (r, ρ') => (s :: r, ρ')
  | _, _, _ => none
def giveBack : List A → List S → List S → List S → List S
  | .pl i :: as, s :: ss, f :: fs, ρ => giveBack as ss fs (if isVal s then ρ else ρ.set i f)
  | .e _ :: as, _ :: ss, _ :: fs, ρ => giveBack as ss fs ρ
  | _, _, _, ρ => ρ
def sets : List Nat → List S → List S → List S
  | i :: is, s :: ss, ρ => sets is ss (ρ.set i s)
  | _, _, ρ => ρ
def tgs : Tg → List Nat
  | .nm i => [i]
  | .tp is => is
def kill : List Nat → List S → List S
  | [], ρ => ρ
  | i :: is, ρ => kill is (ρ.set i .dead)
def putBack (σ : List S) : List Nat → List S → List S
  | [], ρ => ρ
  | i :: is, ρ => putBack σ is (ρ.set i (slot σ i))
def unpk (n : Nat) : PyData → Option (List PyData)
  | .tuple ds => if ds.length = n then some ds else none
  | _ => none
def bindT : Tg → PyData → List S → Option (List S)
  | .nm i, d, ρ => some (ρ.set i (.val d))
  | .tp is, .tuple ds, ρ => if ds.length = is.length then some (sets is (ds.map S.val) ρ) else none
  | .tp _, _, _ => none
def toBool : S → Option Bool
  | .val (.bool b) => some b
  | _ => none
def items : PyData → Option (List PyData)
  | .list xs => some xs
  | .tuple xs => some xs
  | _ => none
def rng (a b : Int) : List PyData := (List.range (b - a).toNat).map fun (i : Nat) => .int (a + (i : Int))
/-- a text's signs -/
def chars (z : Str) : List PyData := z.cps.toList.map fun c => .str ⟨#[c]⟩
def enumFrom (xs : List PyData) : List PyData := xs.zipIdx.map fun p => .tuple [.int p.2, p.1]
def zipD (xs ys : List PyData) : List PyData := (xs.zip ys).map fun p => .tuple [p.1, p.2]
/-- a comprehension's turns -/
def turns (f : PyData → List S → R (Option PyData)) : List PyData → List PyData → List S → R (List PyData)
  | [], acc, ρ => .ok acc ρ
  | x :: xs, acc, ρ => (f x ρ).bnd fun o ρ' => match o with
    | none => turns f xs acc ρ'
    | some d => if acc.length < sizeLine then turns f xs (acc ++ [d]) ρ' else .stk
/-- .. of the outer clause of two -/
def turns2 (f : PyData → List PyData → List S → R (List PyData)) : List PyData → List PyData → List S → R (List PyData)
  | [], acc, ρ => .ok acc ρ
  | x :: xs, acc, ρ => (f x acc ρ).bnd fun acc' ρ' => turns2 f xs acc' ρ'
def noExc {α : Type} : R α → R α
  | .exc .. => .stk
  | r => r
/-- a loop's turns -/
def loop (f : PyData → List S → R F) : List PyData → List S → R F
  | [], ρ => .ok .nx ρ
  | x :: xs, ρ => (f x ρ).bnd fun r ρ' => match r with
    | .nx => loop f xs ρ'
    | .cont => loop f xs ρ'
    | .brk => .ok .nx ρ'
    | .ret s => .ok (.ret s) ρ'
def whl (c : List S → R S) (b : List S → R F) : Nat → List S → R F
  | 0, _ => .stk
  | n + 1, ρ => (c ρ).bnd fun s ρ' => match toBool s with
    | some true => (b ρ').bnd fun r ρ'' => match r with
      | .nx => whl c b n ρ''
      | .cont => whl c b n ρ''
      | .brk => .ok .nx ρ''
      | .ret s => .ok (.ret s) ρ''
    | some false => .ok .nx ρ'
    | none => .stk

/-- the defs by number, the module's constants by number -/
structure Fns where
  fn : Nat → List S → R S
  gl : Nat → PyData
section
variable (Φ : Fns)
mutual
/-- an operand: its value, where it is not a borrowed name -/
def evA : A → List S → R (Option S)
  | .pl i, ρ => match slot ρ i with
    | .dead => .stk
    | _ => .ok none ρ
  | .e x, ρ => (evE x ρ).bnd fun s ρ' => .ok (some s) ρ'
def evAs : List A → List S → R (List (Option S))
  | [], ρ => .ok [] ρ
  | a :: as, ρ => (evA a ρ).bnd fun s ρ' => (evAs as ρ').bnd fun ss ρ'' => .ok (s :: ss) ρ''
def evEs : List E → List S → R (List S)
  | [], ρ => .ok [] ρ
  | x :: r, ρ => (evE x ρ).bnd fun s ρ' => (evEs r ρ').bnd fun ss ρ'' => .ok (s :: ss) ρ''
def evBs : Bool → List E → List S → R S
  | _, [], _ => .stk
  | _, [x], ρ => evE x ρ
  | k, x :: y :: r, ρ => (evE x ρ).bnd fun s ρ' => match toBool s with
    | some b => if b = k then evBs k (y :: r) ρ' else .ok (.val (.bool b)) ρ'
    | none => .stk
def evC : Option E → List S → R Bool
  | none, ρ => .ok true ρ
  | some c, ρ => (evE c ρ).bnd fun s ρ' => ofO (toBool s) ρ'
def evIt : It → List S → R (List PyData × Option (Nat × S))
  | .rng1 a, ρ => (evA a ρ).bnd fun t ρ' => match res a (t.bind view) ρ' with
    | some (.int n) => if decide (n.natAbs < 2 ^ 60) then .ok (rng 0 n, none) ρ' else .stk
    | _ => .stk
  | .rng2 a b, ρ => (evA a ρ).bnd fun t ρ' => (evA b ρ').bnd fun u ρ'' => match res a (t.bind view) ρ'', res b (u.bind view) ρ'' with
    | some (.int m), some (.int n) => if decide (m.natAbs < 2 ^ 60 ∧ n.natAbs < 2 ^ 60) then .ok (rng m n, none) ρ'' else .stk
    | _, _ => .stk
  | .rng3 as, ρ => (evAs as ρ).bnd fun ts ρ' => match ress as (ts.map (·.bind view)) ρ' with
    | some [.int i, .int j, .int k] => if decide (i.natAbs < 2 ^ 60 ∧ j.natAbs < 2 ^ 60 ∧ (0 < k ∧ k < 1000000000 ∨ k = -1)) then .ok (rngC i k (cnt3 i j k), none) ρ' else .stk
    | _ => .stk
  | .seq a, ρ => (evA a ρ).bnd fun t ρ' => match res a (t.bind view) ρ' with
    | some d => match items d with
      | some xs => holdO a xs ρ'
      | none => .stk
    | none => .stk
  | .enum a, ρ => (evA a ρ).bnd fun t ρ' => match res a (t.bind view) ρ' with
    | some (.list xs) => holdO a (enumFrom xs) ρ'
    | some (.tuple xs) => holdO a (enumFrom xs) ρ'
    | _ => .stk
  | .zip a b, ρ => (evA a ρ).bnd fun t ρ1 => (evA b ρ1).bnd fun u ρ' => match resV [a, b] [t, u] ρ' with
    | some [d, d'] => match items d, items d' with
      | some xs, some ys => .ok (zipD xs ys, none) ρ'
      | _, _ => .stk
    | _ => .stk
  | .keys a, ρ => (evA a ρ).bnd fun t ρ' => match res a (t.bind view) ρ' with
    | some (.dict kvs) => if tkey kvs then .ok (kvs.map (·.1), none) ρ' else .stk
    | _ => .stk
  | .chars a, ρ => (evA a ρ).bnd fun t ρ' => match res a (t.bind view) ρ' with
    | some (.str z) => .ok (chars z, none) ρ'
    | _ => .stk
  | .seqP i π, ρ => match atP' ρ i π, slot ρ i with
    | .lst xs, .box b fs => .ok (xs, some (i, .box b fs)) (ρ.set i .dead)
    | _, _ => .stk
  | .zipP i π π', ρ => match atP' ρ i π, atP' ρ i π', slot ρ i with
    | .lst xs, .lst ys, .box b fs => .ok (zipD xs ys, some (i, .box b fs)) (ρ.set i .dead)
    | _, _, _ => .stk
def evE : E → List S → R S
  | .rd i mv, ρ => match slot ρ i with
    | .dead => .stk
    | .val d => .ok (.val d) ρ
    | s => if mv then .ok s (ρ.set i .dead) else match view s with
      | some d => .ok (.val d) (ρ.set i (.val d))
      | none => .stk
  | .cst d, ρ => .ok (.val d) ρ
  | .glob g, ρ => .ok (.val (Φ.gl g)) ρ
  | .bin o a b, ρ => (evA a ρ).bnd fun t ρ' => (evA b ρ').bnd fun u ρ'' => fin2 a b t u ρ'' (opB o)
  | .neg a, ρ => (evA a ρ).bnd fun t ρ' => fin1 a t ρ' opNeg
  | .not a, ρ => (evE a ρ).bnd fun s ρ' => match toBool s with
    | some b => .ok (.val (.bool (!b))) ρ'
    | none => .stk
  | .cmp o a b, ρ => (evA a ρ).bnd fun t ρ' => (evA b ρ').bnd fun u ρ'' => fin2 a b t u ρ'' (cmpS o)
  | .chain o₁ o₂ a b c, ρ => (evA a ρ).bnd fun t ρ' => (evA b ρ').bnd fun u ρ'' => match res a (t.bind view) ρ'', res b (u.bind view) ρ'' with
    | some d, some d' => match opC o₁ d d' with
      | some true => (evA c ρ'').bnd fun z ρ3 => fin2 b c u z ρ3 (cmpS o₂)
      | some false => .ok (.val (.bool false)) ρ''
      | none => .stk
    | _, _ => .stk
  | .bop k es, ρ => evBs k es ρ
  | .ite c a b, ρ => (evE c ρ).bnd fun s ρ' => match toBool s with
    | some true => evE a ρ'
    | some false => evE b ρ'
    | none => .stk
  | .idx a b, ρ => (evA a ρ).bnd fun t ρ' => (evA b ρ').bnd fun u ρ'' => fin2 a b t u ρ'' ixS
  | .slice k as, ρ => (evAs as ρ).bnd fun ts ρ' => match ress as (ts.map (·.bind view)) ρ' with
    | some ds => ofO (opSl k ds) ρ'
    | none => .stk
  | .tup as, ρ => (evAs as ρ).bnd fun ts ρ' => match resV as ts ρ' with
    | some ds => if decide (ds.length ≤ sizeLine) then .ok (.val (.tuple ds)) ρ' else .stk
    | none => .stk
  | .lst as, ρ => (evAs as ρ).bnd fun ts ρ' => match resV as ts ρ' with
    | some ds => if decide (ds.length ≤ sizeLine) then .ok (.lst ds) ρ' else .stk
    | none => .stk
  | .call f as, ρ => (evAs as ρ).bnd fun ts ρ' => match lend as ts ρ' with
    | some (ss, ρ'') => match Φ.fn f ss with
      | .stk => .stk
      | .ok s fs => .ok s (giveBack as ss fs ρ'')
      | .exc c d fs => .exc c d (giveBack as ss fs ρ'')
    | none => .stk
  | .csel fs i as, ρ => match slot ρ i with
    | .val (.int k) => match L2.atI fs k with
      | some f => (evAs as ρ).bnd fun ts ρ' => match lend as ts ρ' with
        | some (ss, ρ'') => match Φ.fn f ss with
          | .stk => .stk
          | .ok s fs => .ok s (giveBack as ss fs ρ'')
          | .exc c d fs => .exc c d (giveBack as ss fs ρ'')
        | none => .stk
      | none => .stk
    | _ => .stk
  | .blt f as, ρ => (evAs as ρ).bnd fun ts ρ' => match ress as (ts.map (·.bind view)) ρ' with
    | some ds => ofO (opBlt f ds) ρ'
    | none => .stk
  | .mut m i as, ρ => match slot ρ i with
    | .lst _ => (evAs as ρ).bnd fun ts ρ' => match slot ρ' i, resV as ts ρ' with
      | .lst xs, some ds => match opMut m xs ds with
        | some (d, ys) => .ok (.val d) (ρ'.set i (.lst ys))
        | none => .stk
      | _, _ => .stk
    | _ => .stk
  | .ext i x, ρ => match slot ρ i with
    | .lst _ => (evE x ρ).bnd fun s ρ' => match slot ρ' i, s with
      | .lst xs, .lst ys => if decide (xs.length + ys.length ≤ sizeLine) then .ok (.val .none) (ρ'.set i (.lst (xs ++ ys))) else .stk
      | _, _ => .stk
    | _ => .stk
  | .sm k o x, ρ => (evA o ρ).bnd fun t ρ' => match res o (t.bind view) ρ' with
    | some (.str a) => (evA x ρ').bnd fun u ρ'' => fin1 x u ρ'' (opSm k a)
    | _ => .stk
  | .lrg as, ρ => (evAs as ρ).bnd fun ts ρ' => match ress as (ts.map (·.bind view)) ρ' with
    | some [.int n] => if rgOk 0 n then .ok (.lst (rng 0 n)) ρ' else .stk
    | some [.int m, .int n] => if rgOk m n then .ok (.lst (rng m n)) ρ' else .stk
    | _ => .stk
  | .lset a, ρ => (evA a ρ).bnd fun t ρ' => fin1 a t ρ' opSetLen
  | .sset a, ρ => (evA a ρ).bnd fun t ρ' => fin1 a t ρ' opSset
  | .rev a, ρ => (evA a ρ).bnd fun t ρ' => fin1 a t ρ' opRev
  | .lm k i x, ρ => match view (slot ρ i) with
    | some (.list _) => (evA x ρ).bnd fun u ρ' => fin2 (.pl i) x none u ρ' (opLm k)
    | _ => .stk
  | .dcst o, ρ => .ok (.dct (dctO o)) ρ
  | .dnewT, ρ => .ok (.dtt []) ρ
  | .dispT k x, ρ => (evA k ρ).bnd fun t ρ1 => (evA x ρ1).bnd fun u ρ' => match resV [k, x] [t, u] ρ' with
    | some [.tuple ks, d] => if (keysL ks).isSome then .ok (.dtt [(.tuple ks, d)]) ρ' else .stk
    | _ => .stk
  | .keep x, ρ => (evE x ρ).bnd fun s ρ' => match s with
    | .dtt kvs => .ok (.val (.dict kvs)) ρ'
    | _ => .stk
  | .dix a b, ρ => (evA a ρ).bnd fun t ρ' => (evA b ρ').bnd fun u ρ'' => fin2 a b t u ρ'' opDix
  | .dlist a, ρ => (evA a ρ).bnd fun t ρ' => fin1 a t ρ' opDlist
  | .dpop i π k, ρ => match atP' ρ i π, evU ρ k with
    | .dct kvs, some kd => match keyD kd with
      | some kk => match lookK kvs kk with
        | some d => .ok (.val d) (putP ρ i π (.dct (dropD kvs kk)))
        | none => .stk
      | none => .stk
    | _, _ => .stk
  | .dmin i π, ρ => match atP' ρ i π with
    | .dct kvs => match keysI kvs with
      | some (n :: ns) => .ok (.val (.int (minI n ns))) ρ
      | _ => .stk
    | _ => .stk
  | .disp1 k x, ρ => (evA x ρ).bnd fun t ρ' => match resV [x] [t] ρ' with
    | some [d] => .ok (.dct [(kDat k, d)]) ρ'
    | _ => .stk
  | .isx a cs xs, ρ => (evA a ρ).bnd fun t ρ' => fin1 a t ρ' (opIsx cs xs)
  | .mkx c a, ρ => (evA a ρ).bnd fun t ρ' => fin1 a t ρ' (opMkx c)
  | .mkf c a, ρ => (evA a ρ).bnd fun t ρ' => fin1 a t ρ' (opMkf c)
  | .efld c i, ρ => match slot ρ i with
    | .val d => match opEfld c d with
      | some d' => .ok (.val d') ρ
      | none => .stk
    | _ => .stk
  | .deq0 i, ρ => match slot ρ i with
    | .dtt kvs => .ok (.val (.bool kvs.isEmpty)) ρ
    | .dct kvs => .ok (.val (.bool kvs.isEmpty)) ρ
    | _ => .stk
  | .dkeys i, ρ => match slot ρ i with
    | .dtt kvs => .ok (.lst (kvs.map (·.1))) ρ
    | _ => .stk
  | .u x, ρ => match evU ρ x with
    | some d => .ok (.val d) ρ
    | none => .stk
  | .mutP m i π xs, ρ => match atP' ρ i π, evUs ρ xs with
    | .lst ys, some ds => match opMut m ys ds with
      | some (d, zs) => .ok (.val d) (putP ρ i π (.lst zs))
      | none => .stk
    | _, _ => .stk
  | .meth c m f x xs, ρ => (evE x ρ).bnd fun s ρ' => match evUs ρ' xs, isObj c m s with
    | some ds, true => match Φ.fn f (s :: ds.map S.val) with
      | .stk => .stk
      | .ok s _ => .ok s ρ'
      | .exc c d _ => .exc c d ρ'
    | _, _ => .stk
  | .callP c m f i π xs, ρ => match evUs ρ xs, isObj c m (atP' ρ i π) with
    | some ds, true => match Φ.fn f (atP' ρ i π :: ds.map S.val) with
      | .stk => .stk
      | .ok s fs => .ok s (putP ρ i π (slot fs 0))
      | .exc c d fs => .exc c d (putP ρ i π (slot fs 0))
    | _, _ => .stk
  | .make c f xs, ρ => match evUs ρ xs with
    | some ds => match Φ.fn f (.box (.obj c []) [] :: ds.map S.val) with
      | .ok (.val .none) fs => .ok (slot fs 0) ρ
      | .exc c d _ => .exc c d ρ
      | _ => .stk
    | none => .stk
  | .boxl as, ρ => (evAs as ρ).bnd fun ts ρ' => match resS as ts ρ' with
    | some ss => if decide (ss.length ≤ sizeLine) then .ok (.box .lst ss) ρ' else .stk
    | none => .stk
  | .boxd ks xs, ρ => (evEs xs ρ).bnd fun ss ρ' => if decide (ks.length = ss.length) && decide ks.Nodup then .ok (.box (.dK ks) ss) ρ' else .stk
  | .comp2 t it c t1 it1 c1 x, ρ => noExc ((evIt it ρ).bnd fun p ρ1 => if (tgs t ++ tgs t1).all (fun i => bare (slot ρ1 i)) = true then (turns2 (fun d acc ρ2 => match bindT t d ρ2 with
      | some ρ3 => (evC c ρ3).bnd fun k ρ4 => if k = true then (evIt it1 ρ4).bnd fun p1 ρ5 => if p1.2.isNone = true then (turns (fun d1 ρ6 => match bindT t1 d1 ρ6 with
          | some ρ7 => (evC c1 ρ7).bnd fun k1 ρ8 => if k1 = true then (evE x ρ8).bnd fun s ρ9 => match view s with
              | some v => .ok (some v) (kill (tgs t1) ρ9)
              | none => .stk
            else .ok none (kill (tgs t1) ρ8)
          | none => .stk) p1.1 acc (kill (tgs t1) ρ5)).bnd fun acc' ρ7 => .ok acc' (kill (tgs t ++ tgs t1) ρ7) else .stk
        else .ok acc (kill (tgs t ++ tgs t1) ρ4)
      | none => .stk) p.1 [] (kill (tgs t ++ tgs t1) ρ1)).bnd fun ds ρ6 => .ok (.lst ds) (match p.2 with
        | some (i, s) => (putBack ρ1 (tgs t ++ tgs t1) ρ6).set i s
        | none => putBack ρ1 (tgs t ++ tgs t1) ρ6) else .stk)
  | .comp t it c x, ρ => noExc ((evIt it ρ).bnd fun p ρ1 => if (tgs t).all (fun i => bare (slot ρ1 i)) = true then (turns (fun d ρ2 => match bindT t d ρ2 with
      | some ρ3 => (evC c ρ3).bnd fun k ρ4 => if k = true then (evE x ρ4).bnd fun s ρ5 => match view s with
          | some v => .ok (some v) (kill (tgs t) ρ5)
          | none => .stk
        else .ok none (kill (tgs t) ρ4)
      | none => .stk) p.1 [] (kill (tgs t) ρ1)).bnd fun ds ρ6 => .ok (.lst ds) (match p.2 with
        | some (i, s) => (putBack ρ1 (tgs t) ρ6).set i s
        | none => putBack ρ1 (tgs t) ρ6) else .stk)
end
mutual
def evS : St → List S → R F
  | .expr x, ρ => (evE Φ x ρ).bnd fun _ ρ' => .ok .nx ρ'
  | .asg i x, ρ => (evE Φ x ρ).bnd fun s ρ' => .ok .nx (ρ'.set i s)
  | .par is as, ρ => (evAs Φ as ρ).bnd fun ts ρ' => match resS as ts ρ' with
    | some ss => if is.length = ss.length then .ok .nx (sets is ss ρ') else .stk
    | none => .stk
  | .unp is x, ρ => (evE Φ x ρ).bnd fun s ρ' => match view s with
    | some d => match unpk is.length d with
      | some ds => .ok .nx (sets is (ds.map S.val) ρ')
      | none => .stk
    | none => .stk
  | .setit i k x, ρ => (evE Φ x ρ).bnd fun s ρ' => match slot ρ' i with
    | .lst _ => (evA Φ k ρ').bnd fun t ρ'' => match view s, res k (t.bind view) ρ'', slot ρ'' i with
      | some d, some (.int j), .lst xs => match ixN xs.length j with
        | some n => .ok .nx (ρ''.set i (.lst (xs.set n d)))
        | none => .stk
      | _, _, _ => .stk
    | _ => .stk
  | .pset i π k x, ρ => (evE Φ x ρ).bnd fun s ρ' => match view s, evU ρ' k with
    | some d, some kd => match putIt (atP' ρ' i π) kd d with
      | some t => .ok .nx (putP ρ' i π t)
      | none => .stk
    | _, _ => .stk
  | .fset i π f x, ρ => (evE Φ x ρ).bnd fun s ρ' => match putFd (atP' ρ' i π) f s with
    | some t => .ok .nx (putP ρ' i π t)
    | none => .stk
  | .setd i k x, ρ => (evE Φ x ρ).bnd fun s ρ' => match slot ρ' i with
    | .dtt _ => (evA Φ k ρ').bnd fun t ρ'' => match view s, resV [k] [t] ρ'', slot ρ'' i with
      | some d, some [.tuple ks], .dtt kvs => match keysL ks with
        | some kk => if kvs.length < sizeLine then .ok .nx (ρ''.set i (.dtt (putT kvs kk d))) else .stk
        | none => .stk
      | _, _, _ => .stk
    | _ => .stk
  | .aug i o a, ρ => match slot ρ i with
    | .val d => (evA Φ a ρ).bnd fun t ρ' => match res a (t.bind view) ρ' with
      | some d' => match opAug o d d' with
        | some c => .ok .nx (ρ'.set i (.val (.int c)))
        | none => .stk
      | none => .stk
    | _ => .stk
  | .augl i x, ρ => match slot ρ i with
    | .lst _ => (evE Φ x ρ).bnd fun s ρ' => match slot ρ' i, s with
      | .lst xs, .lst ys => if decide (xs.length + ys.length ≤ sizeLine) then .ok .nx (ρ'.set i (.lst (xs ++ ys))) else .stk
      | _, _ => .stk
    | _ => .stk
  | .ret x, ρ => (evE Φ x ρ).bnd fun s ρ' => .ok (.ret s) ρ'
  | .retN, ρ => .ok (.ret (.val .none)) ρ
  | .ite c a b, ρ => (evE Φ c ρ).bnd fun s ρ' => match toBool s with
    | some true => evSs a ρ'
    | some false => evSs b ρ'
    | none => .stk
  | .for_ t it h b, ρ => (evIt Φ it ρ).bnd fun p ρ1 => match p.2 with
    | none => loop (fun d ρ2 => match bindT t d ρ2 with
      | some ρ3 => evSs b ρ3
      | none => .stk) p.1 ρ1
    | some (i, s) => if h = true then (match loop (fun d ρ2 => match bindT t d ρ2 with
        | some ρ3 => evSs b ρ3
        | none => .stk) p.1 ρ1 with
      | .stk => .stk
      | .ok f ρ4 => .ok f (ρ4.set i s)
      | .exc c d ρ4 => .exc c d (ρ4.set i s)) else .stk
  | .while_ n c b, ρ => whl (evE Φ c) (evSs b) n ρ
  | .brk, ρ => .ok .brk ρ
  | .cont, ρ => .ok .cont ρ
  | .pass, ρ => .ok .nx ρ
  | .raise c, ρ => .exc c none ρ
  | .raiseF c a, ρ => (evA Φ a ρ).bnd fun t ρ' => match res a (t.bind view) ρ' with
    | some (.int i) => if decide (i.natAbs.log2 < 1920) then .exc c (some i) ρ' else .stk
    | _ => .stk
  | .tryC b c cs d, ρ => match evSs b ρ with
    | .exc c' o ρ' => if c' ∈ cs then if subX c' c = true then .ok (.ret (.val d)) ρ' else .exc c' o ρ' else .stk
    | r => r
  | .tryR b c cs c2, ρ => match evSs b ρ with
    | .exc c' o ρ' => if c' ∈ cs then if subX c' c = true then .exc c2 none ρ' else .exc c' o ρ' else .stk
    | r => r
  | .tryA b c cs i u, ρ => match evSs b ρ with
    | .exc c' o ρ' => if c' ∈ cs then if subX c' c = true then (match evSs u (ρ'.set i (.val (exD c' o))) with
      | .ok f ρ'' => .ok f (ρ''.set i .dead)
      | _ => .stk) else .exc c' o ρ' else .stk
    | r => r
  | .never, _ => .stk
def evSs : List St → List S → R F
  | [], ρ => .ok .nx ρ
  | s :: r, ρ => (evS s ρ).bnd fun f ρ' => match f with
    | .nx => evSs r ρ'
    | f => .ok f ρ'
end
end
/-- the parameters at the end: what was stored anew is not the caller's -/
def fins (asg : List Nat) (n : Nat) (ρ : List S) : List S := (List.range n).map fun j => if j ∈ asg then .dead else slot ρ j
/-- a def: n parameters, m further names, the names that it stores -/
def evDef (Φ : Fns) (n m : Nat) (asg : List Nat) (body : List St) (ss : List S) : R S :=
  if ss.length = n then match evSs Φ body (ss ++ List.replicate m .dead) with
    | .ok (.ret s) ρ => .ok s (fins asg n ρ)
    | .ok .nx ρ => .ok (.val .none) (fins asg n ρ)
    | .exc c d ρ => .exc c d (fins asg n ρ)
    | _ => .stk
  else .stk
/-! ### defs that open a container that a parameter owns: names for its children, put back at the end -/
/-- rows of such a def: a statement; `if c: b` where b ends the def with the container whole again; the rest, with the container whole -/
inductive OSt where
  | pl (s : St)
  | iret (c : E) (b : List St)
  | clo (b : List St)
def opnP : List (Pk × Nat) → S → List S → S × List S
  | [], s, ρ => (s, ρ)
  | (k, j) :: r, s, ρ => opnP r (setS s [k] .dead) (ρ.set j (getS s [k]))
def closP : List (Pk × Nat) → S → List S → S × List S
  | [], s, ρ => (s, ρ)
  | (k, j) :: r, s, ρ => closP r (setS s [k] (slot ρ j)) (ρ.set j .dead)
def clos (i : Nat) (ops : List (Pk × Nat)) (s0 : S) (ρ : List S) : List S := (closP ops s0 ρ).2.set i (closP ops s0 ρ).1
def live : S → Bool
  | .dead => false
  | _ => true
/-- its children that are opened are there -/
def opnOk : List (Pk × Nat) → S → Bool
  | [], _ => true
  | (k, _) :: r, s => live (getS s [k]) && opnOk r (setS s [k] .dead)
def evO (Φ : Fns) (i : Nat) (ops : List (Pk × Nat)) (s0 : S) : List OSt → List S → R F
  | [], ρ => .ok .nx (clos i ops s0 ρ)
  | .pl s :: r, ρ => match evS Φ s ρ with
    | .stk => .stk
    | .exc c d ρ' => .exc c d (clos i ops s0 ρ')
    | .ok .nx ρ' => evO Φ i ops s0 r ρ'
    | .ok f ρ' => .ok f (clos i ops s0 ρ')
  | .iret c b :: r, ρ => match evE Φ c ρ with
    | .stk => .stk
    | .exc c d ρ' => .exc c d (clos i ops s0 ρ')
    | .ok s ρ' => match toBool s with
      | some true => (match evSs Φ b (clos i ops s0 ρ') with
        | .ok .nx _ => .stk
        | z => z)
      | some false => evO Φ i ops s0 r ρ'
      | none => .stk
  | .clo b :: _, ρ => evSs Φ b (clos i ops s0 ρ)
/-- how the children are opened by the first row: a, b, .. = x of a list of that length; a, b = x[0], x[1], or a = x.f -/
inductive Ow where
  | all
  | some
def opnLen (w : Ow) (ops : List (Pk × Nat)) (s : S) : Bool := match w with
  | .some => true
  | .all => match s with
    | .box .lst fs => decide (fs.length = ops.length) && decide (ops.map (·.1.num) = (List.range ops.length).map fun (k : Nat) => some (k : Int))
    | _ => false
def evDefU (Φ : Fns) (n m : Nat) (asg : List Nat) (w : Ow) (i : Nat) (ops : List (Pk × Nat)) (body : List OSt) (ss : List S) : R S :=
  if ss.length = n then
    if (opnOk ops (slot ss i) && opnLen w ops (slot ss i)) = true then
      match evO Φ i ops (opnP ops (slot ss i) []).1 body (opnP ops (slot ss i) ((ss ++ List.replicate m S.dead).set i S.dead)).2 with
      | .ok (.ret s) ρ => .ok s (fins asg n ρ)
      | .ok .nx ρ => .ok (.val .none) (fins asg n ρ)
      | .exc c d ρ => .exc c d (fins asg n ρ)
      | _ => .stk
    else .stk
  else .stk
end VE

/-! VS1: how the evaluator's data stands in the abstract heap. -/
namespace VE
open PySem L2 PySem.Spec PyProof.Rows

theorem Same.seqT {K : PySem.W.Frag} {H H' : Hp} {a : Addr} {xs : List V} (e : Same H H') (h : SqT K H a xs) : SqT K H' a xs := by
  rcases h with (h | ⟨o, h⟩) | h
  · exact .inl (.inl (e _ _ h))
  · exact .inl (.inr ⟨o, e _ _ h⟩)
  · exact .inr h

def kD : Key → PyData
  | .inl i => .int i
  | .inr x => .str x
/-- an error object of the class cls that has the dict dx, at a -/
def ErrO (cls : Value) (dx : Option Addr) (a : Addr) (φ : Heap → Prop) : Prop := ∀ h, φ h → ∃ oe, h.get? a = some oe ∧ Zc cls dx oe ∧ ∃ vs, oe.data = .fields vs
/-- it is known, and stays as it is -/
def ExtAt (G : Hp) (a : Addr) (φ : Heap → Prop) : Prop := ∃ o, G a = some (.frz o (.ext φ))
theorem ExtAt.mono {G G' : Hp} {a : Addr} {φ : Heap → Prop} (h : ExtAt G a φ) (e : Same G G') : ExtAt G' a φ := by
  obtain ⟨o, h⟩ := h
  exact ⟨o, e _ _ h⟩
/-- its field -/
inductive ErrF (G : Hp) (c : Nat) : Option Int → Option Addr → Prop
  | no : ErrF G c none none
  | int {x : Addr} {i : Int} : G x = some (.xd [(fldX c, .int i)]) → ErrF G c (some i) (some x)
theorem ErrF.mono {G G' : Hp} {c : Nat} {o : Option Int} {dx : Option Addr} (e : Same G G') (h : ErrF G c o dx) : ErrF G' c o dx := by
  cases h with
  | no => exact .no
  | int h => exact .int (e _ _ h)
mutual
/-- v reads as d in G -/
inductive DP (K : PySem.W.Frag) (G : Hp) : V → PyData → Prop
  | non : DP K G .non .none
  | bl (b : Bool) : DP K G (.bl b) (.bool b)
  | int (i : Int) : DP K G (.int i) (.int i)
  | str (x : Str) : DP K G (.str x) (.str x)
  | lst {a : Addr} {xs : List V} {ds : List PyData} : SqL K G a xs → DPs K G xs ds → DP K G (.ref a) (.list ds)
  | tup {a : Addr} {xs : List V} {ds : List PyData} : G a = some (.tup xs) → DPs K G xs ds → DP K G (.ref a) (.tuple ds)
  | dctK {a : Addr} {kv : List (Key × V)} {ds : List (PyData × PyData)} : G a = some (.dK kv) → DKs K G kv ds → DP K G (.ref a) (.dict ds)
  | dctT {a : Addr} {od : Obj} {kv : List (List Key × V)} {ds : List (PyData × PyData)} : G a = some (.frz od (.dT kv)) → DTs K G kv ds → ds ≠ [] → DP K G (.ref a) (.dict ds)
  | err {a C : Addr} {c : Nat} {o : Option Int} {dx : Option Addr} {φ : Heap → Prop} : PySem.W.nsIn K mainGlobals (cnm c) = some (some (.ref C)) → ExtAt G a φ → ErrO (.ref C) dx a φ → ErrF G c o dx → DP K G (.ref a) (exD c o)
inductive DPs (K : PySem.W.Frag) (G : Hp) : List V → List PyData → Prop
  | nil : DPs K G [] []
  | cons {v : V} {vs : List V} {d : PyData} {ds : List PyData} : DP K G v d → DPs K G vs ds → DPs K G (v :: vs) (d :: ds)
inductive DKs (K : PySem.W.Frag) (G : Hp) : List (Key × V) → List (PyData × PyData) → Prop
  | nil : DKs K G [] []
  | cons {k : Key} {v : V} {vs : List (Key × V)} {d : PyData} {ds : List (PyData × PyData)} : DP K G v d → DKs K G vs ds → DKs K G ((k, v) :: vs) ((kD k, d) :: ds)
inductive DTs (K : PySem.W.Frag) (G : Hp) : List (List Key × V) → List (PyData × PyData) → Prop
  | nil : DTs K G [] []
  | cons {k : List Key} {v : V} {vs : List (List Key × V)} {d : PyData} {ds : List (PyData × PyData)} : DP K G v d → DTs K G vs ds → DTs K G ((k, v) :: vs) ((.tuple (k.map kD), d) :: ds)
end
section
variable {K : PySem.W.Frag} {G G' H H' : Hp}
mutual
theorem DP.mono (e : Same G G') : ∀ {v : V} {d : PyData}, DP K G v d → DP K G' v d
  | _, _, .non => .non
  | _, _, .bl b => .bl b
  | _, _, .int b => .int b
  | _, _, .str b => .str b
  | _, _, .lst h r => .lst (e.seq h) (DPs.mono e r)
  | _, _, .tup h r => .tup (e _ _ h) (DPs.mono e r)
  | _, _, .dctK h r => .dctK (e _ _ h) (DKs.mono e r)
  | _, _, .dctT h r n => .dctT (e _ _ h) (DTs.mono e r) n
  | _, _, .err n h r f => .err n (h.mono e) r (f.mono e)
theorem DPs.mono (e : Same G G') : ∀ {v : List V} {d : List PyData}, DPs K G v d → DPs K G' v d
  | _, _, .nil => .nil
  | _, _, .cons h r => .cons (DP.mono e h) (DPs.mono e r)
theorem DKs.mono (e : Same G G') : ∀ {v : List (Key × V)} {d : List (PyData × PyData)}, DKs K G v d → DKs K G' v d
  | _, _, .nil => .nil
  | _, _, .cons h r => .cons (DP.mono e h) (DKs.mono e r)
theorem DTs.mono (e : Same G G') : ∀ {v : List (List Key × V)} {d : List (PyData × PyData)}, DTs K G v d → DTs K G' v d
  | _, _, .nil => .nil
  | _, _, .cons h r => .cons (DP.mono e h) (DTs.mono e r)
end
theorem DPs.length : ∀ {vs : List V} {ds : List PyData}, DPs K G vs ds → vs.length = ds.length
  | _, _, .nil => rfl
  | _, _, .cons _ r => by rw [List.length_cons, List.length_cons, DPs.length r]
theorem DPs.app : ∀ {vs ws : List V} {ds es : List PyData}, DPs K G vs ds → DPs K G ws es → DPs K G (vs ++ ws) (ds ++ es)
  | _, _, _, _, .nil, s => s
  | _, _, _, _, .cons h r, s => .cons h (DPs.app r s)
theorem DPs.get : ∀ {vs : List V} {ds : List PyData} {i : Nat} {d : PyData}, DPs K G vs ds → ds[i]? = some d → ∃ v, vs[i]? = some v ∧ DP K G v d
  | _, _, _, _, .nil, h => by simp at h
  | _, _, 0, _, .cons h r, e => by simp at e; subst e; exact ⟨_, rfl, h⟩
  | _, _, i + 1, _, .cons h r, e => by
    obtain ⟨v, h1, h2⟩ := DPs.get (i := i) r (by simpa using e)
    exact ⟨v, by simpa using h1, h2⟩
theorem DPs.take : ∀ {vs : List V} {ds : List PyData} (n : Nat), DPs K G vs ds → DPs K G (vs.take n) (ds.take n)
  | _, _, 0, _ => .nil
  | _, _, _ + 1, .nil => .nil
  | _, _, n + 1, .cons h r => .cons h (DPs.take n r)
theorem DPs.drop : ∀ {vs : List V} {ds : List PyData} (n : Nat), DPs K G vs ds → DPs K G (vs.drop n) (ds.drop n)
  | _, _, 0, r => r
  | _, _, _ + 1, .nil => .nil
  | _, _, n + 1, .cons h r => DPs.drop n r
theorem DPs.set {v : V} {d : PyData} (x : DP K G v d) : ∀ {vs : List V} {ds : List PyData} (i : Nat), DPs K G vs ds → DPs K G (vs.set i v) (ds.set i d)
  | _, _, _, .nil => .nil
  | _, _, 0, .cons h r => .cons x r
  | _, _, i + 1, .cons h r => .cons h (DPs.set x i r)
theorem DPs.erase : ∀ {vs : List V} {ds : List PyData} (i : Nat), DPs K G vs ds → DPs K G (vs.eraseIdx i) (ds.eraseIdx i)
  | _, _, _, .nil => .nil
  | _, _, 0, .cons h r => r
  | _, _, i + 1, .cons h r => .cons h (DPs.erase i r)
theorem DPs.rev : ∀ {vs : List V} {ds : List PyData}, DPs K G vs ds → DPs K G vs.reverse ds.reverse
  | _, _, .nil => .nil
  | _, _, .cons h r => by
    rw [List.reverse_cons, List.reverse_cons]
    exact (DPs.rev r).app (.cons h .nil)
theorem DPs.rep {v : List V} {d : List PyData} (h : DPs K G v d) : ∀ n : Nat, DPs K G (List.replicate n v).flatten (List.replicate n d).flatten
  | 0 => .nil
  | n + 1 => by
    rw [List.replicate_succ, List.replicate_succ, List.flatten_cons, List.flatten_cons]
    exact h.app (DPs.rep h n)
/-! data without dicts, as the layer has it -/
mutual
theorem DP.dp : ∀ {v : V} {d : PyData}, DP K G v d → d.canLay0 = true → Dp K G v d
  | _, _, .non, _ => .non
  | _, _, .bl b, _ => .bl b
  | _, _, .int b, _ => .int b
  | _, _, .str b, _ => .str b
  | _, _, .lst h r, c => .lst h (DPs.dp r (by simpa only [PyData.canLay0] using c))
  | _, _, .tup h r, c => .tup (.inl (.inl h)) (DPs.dp r (by simpa only [PyData.canLay0] using c))
  | _, _, .dctK h r, c => by simp [PyData.canLay0] at c
  | _, _, .dctT h r _, c => by simp [PyData.canLay0] at c
  | _, _, .err .., c => by simp [exD, PyData.canLay0] at c
theorem DPs.dp : ∀ {v : List V} {d : List PyData}, DPs K G v d → PyData.canLayAll0 d = true → DpAll K G v d
  | _, _, .nil, _ => .nil
  | _, _, .cons h r, c => by
    simp only [PyData.canLayAll0, Bool.and_eq_true] at c
    exact .cons (DP.dp h c.1) (DPs.dp r c.2)
end
mutual
theorem DP.dpN : ∀ {v : V} {d : PyData}, DP K G v d → d.hasDict = false → Dp K G v d
  | _, _, .non, _ => .non
  | _, _, .bl b, _ => .bl b
  | _, _, .int b, _ => .int b
  | _, _, .str b, _ => .str b
  | _, _, .lst h r, c => .lst h (DPs.dpN r (by simpa only [PyData.hasDict] using c))
  | _, _, .tup h r, c => .tup (.inl (.inl h)) (DPs.dpN r (by simpa only [PyData.hasDict] using c))
  | _, _, .dctK h r, c => by simp [PyData.hasDict] at c
  | _, _, .dctT h r _, c => by simp [PyData.hasDict] at c
  | _, _, .err .., c => by simp [exD, PyData.hasDict] at c
theorem DPs.dpN : ∀ {v : List V} {d : List PyData}, DPs K G v d → PyData.hasDictAll d = false → DpAll K G v d
  | _, _, .nil, _ => .nil
  | _, _, .cons h r, c => by
    simp only [PyData.hasDictAll, Bool.or_eq_false_iff] at c
    exact .cons (DP.dpN h c.1) (DPs.dpN r c.2)
end

/-- an instance's class, its fields' names no attributes of the class -/
def ObjC (K : PySem.W.Frag) (c : Str) (C : Addr) : Prop := PySem.W.nsIn K mainGlobals c = some (some (.ref C)) ∧ Cls K C ∧ ∀ f ∈ flds c, NoAttr K C f
/-- a box's own objects: at a, what it holds vs; ex: what else belongs to it -/
def BoxAt (K : PySem.W.Frag) (H : Hp) : Bx → Addr → List V → List Addr → Prop
  | .obj c ns, a, vs, ex => ∃ C dx, ObjC K c C ∧ H a = some (.ins C dx (ns.zip vs)) ∧ H dx = some (.own a) ∧ ex = [dx] ∧ ns.length = vs.length ∧ ns.length < 900
  | .dK ks, a, vs, ex => H a = some (.dK (ks.zip vs)) ∧ ex = [] ∧ ks.length = vs.length
  | .dT ks, a, vs, ex => H a = some (.dT (ks.zip vs)) ∧ ex = [] ∧ ks.length = vs.length
  | .lst, a, vs, ex => H a = some (.lst vs) ∧ ex = []
mutual
/-- what a name (or a value on the way) holds; f: the addresses that it owns -/
def RelS (K : PySem.W.Frag) (G H : Hp) : S → V → List Addr → Prop
  | .val d, v, f => DP K G v d ∧ f = []
  | .lst xs, v, f => ∃ a vs, v = .ref a ∧ H a = some (.lst vs) ∧ DPs K G vs xs ∧ f = [a]
  | .dct kvs, v, f => ∃ a, v = .ref a ∧ f = [a] ∧ ∃ kv, H a = some (.dK kv) ∧ DKs K G kv kvs
  | .dtt kvs, v, f => ∃ a, v = .ref a ∧ f = [a] ∧ ∃ kv, H a = some (.dT kv) ∧ DTs K G kv kvs
  | .box b fs, v, f => ∃ a vs gs ex, v = .ref a ∧ BoxAt K H b a vs ex ∧ RelSs K G H fs vs gs ∧ f = a :: (ex ++ gs.flatten) ∧ f.Nodup
  | .dead, _, f => f = []
def RelSs (K : PySem.W.Frag) (G H : Hp) : List S → List V → List (List Addr) → Prop
  | [], vs, gs => vs = [] ∧ gs = []
  | s :: ss, vs, gs => ∃ v vs' g gs', vs = v :: vs' ∧ gs = g :: gs' ∧ RelS K G H s v g ∧ RelSs K G H ss vs' gs'
end
theorem BoxAt.here {b : Bx} {a : Addr} {vs : List V} {ex : List Addr} (h : BoxAt K H b a vs ex) : ∀ c ∈ a :: ex, ∃ o, H c = some o ∧ ∀ xs, o ≠ .tup xs := by
  intro c hc
  cases b with
  | obj n ns =>
    obtain ⟨C, dx, _, h1, h2, rfl, _⟩ := h
    rcases List.mem_cons.mp hc with rfl | hc
    · exact ⟨_, h1, fun _ z => nomatch z⟩
    · obtain rfl := List.mem_singleton.mp hc
      exact ⟨_, h2, fun _ z => nomatch z⟩
  | dK ks =>
    obtain ⟨h1, rfl, _⟩ := h
    obtain rfl := List.mem_singleton.mp hc
    exact ⟨_, h1, fun _ z => nomatch z⟩
  | dT ks =>
    obtain ⟨h1, rfl, _⟩ := h
    obtain rfl := List.mem_singleton.mp hc
    exact ⟨_, h1, fun _ z => nomatch z⟩
  | lst =>
    obtain ⟨h1, rfl⟩ := h
    obtain rfl := List.mem_singleton.mp hc
    exact ⟨_, h1, fun _ z => nomatch z⟩
theorem BoxAt.mono {b : Bx} {a : Addr} {vs : List V} {ex : List Addr} (h : BoxAt K H b a vs ex) (k : ∀ c ∈ a :: ex, ∀ o, H c = some o → H' c = some o) : BoxAt K H' b a vs ex := by
  cases b with
  | obj n ns =>
    obtain ⟨C, dx, h0, h1, h2, rfl, h3⟩ := h
    exact ⟨C, dx, h0, k _ List.mem_cons_self _ h1, k _ (List.mem_cons_of_mem _ (List.mem_singleton.mpr rfl)) _ h2, rfl, h3⟩
  | dK ks => exact ⟨k _ List.mem_cons_self _ h.1, h.2⟩
  | dT ks => exact ⟨k _ List.mem_cons_self _ h.1, h.2⟩
  | lst => exact ⟨k _ List.mem_cons_self _ h.1, h.2⟩
mutual
theorem RelS.hereT : ∀ {s : S} {v : V} {f : List Addr}, RelS K G H s v f → ∀ a ∈ f, ∃ o, H a = some o ∧ ∀ xs, o ≠ .tup xs
  | .val d, v, f, r, a, ha => by
    simp only [RelS] at r
    rw [r.2] at ha; cases ha
  | .lst xs, v, f, r, a, ha => by
    simp only [RelS] at r
    obtain ⟨b, vs, _, h, _, e⟩ := r
    rw [e] at ha
    obtain rfl := List.mem_singleton.mp ha
    exact ⟨_, h, fun _ z => nomatch z⟩
  | .dct kvs, v, f, r, a, ha => by
    simp only [RelS] at r
    obtain ⟨b, _, e, _, h, _⟩ := r
    rw [e] at ha
    obtain rfl := List.mem_singleton.mp ha
    exact ⟨_, h, fun _ z => nomatch z⟩
  | .dtt kvs, v, f, r, a, ha => by
    simp only [RelS] at r
    obtain ⟨b, _, e, _, h, _⟩ := r
    rw [e] at ha
    obtain rfl := List.mem_singleton.mp ha
    exact ⟨_, h, fun _ z => nomatch z⟩
  | .box b fs, v, f, r, a, ha => by
    simp only [RelS] at r
    obtain ⟨c, vs, gs, ex, _, hb, hs, e, _⟩ := r
    rw [e] at ha
    rcases List.mem_cons.mp ha with rfl | ha
    · exact hb.here _ List.mem_cons_self
    · rcases List.mem_append.mp ha with ha | ha
      · exact hb.here _ (List.mem_cons_of_mem _ ha)
      · obtain ⟨g, hg, ha⟩ := List.mem_flatten.mp ha
        exact RelSs.hereT hs g hg a ha
  | .dead, v, f, r, a, ha => by
    simp only [RelS] at r
    rw [r] at ha; cases ha
theorem RelSs.hereT : ∀ {ss : List S} {vs : List V} {gs : List (List Addr)}, RelSs K G H ss vs gs → ∀ g ∈ gs, ∀ a ∈ g, ∃ o, H a = some o ∧ ∀ xs, o ≠ .tup xs
  | [], vs, gs, r, g, hg, _, _ => by
    simp only [RelSs] at r
    rw [r.2] at hg; cases hg
  | s :: ss, vs, gs, r, g, hg, a, ha => by
    simp only [RelSs] at r
    obtain ⟨v, vs', g', gs', _, rfl, h1, h2⟩ := r
    rcases List.mem_cons.mp hg with rfl | hg
    · exact RelS.hereT h1 a ha
    · exact RelSs.hereT h2 g hg a ha
end
theorem RelS.here {s : S} {v : V} {f : List Addr} (r : RelS K G H s v f) : ∀ a ∈ f, ∃ o, H a = some o := fun a ha => by
  obtain ⟨o, h, _⟩ := r.hereT a ha
  exact ⟨o, h⟩
theorem RelS.notNw {s : S} {v : V} {f : List Addr} (r : RelS K G H s v f) : ∀ a ∈ f, ¬ (H a = none ∨ ∃ xs, H a = some (.tup xs)) := by
  intro a ha q
  obtain ⟨o, h, n⟩ := r.hereT a ha
  rcases q with q | ⟨xs, q⟩
  · rw [h] at q; cases q
  · rw [h] at q
    exact n xs (Option.some.inj q)
mutual
theorem RelS.mono : ∀ {s : S} {v : V} {f : List Addr}, RelS K G H s v f → Same G G' → (∀ a ∈ f, ∀ o, H a = some o → H' a = some o) → RelS K G' H' s v f
  | .val d, v, f, r, e, k => by
    simp only [RelS] at r ⊢
    exact ⟨r.1.mono e, r.2⟩
  | .lst xs, v, f, r, e, k => by
    simp only [RelS] at r ⊢
    obtain ⟨b, vs, e1, h, hd, e2⟩ := r
    exact ⟨b, vs, e1, k b (by rw [e2]; exact List.mem_singleton.mpr rfl) _ h, hd.mono e, e2⟩
  | .dct kvs, v, f, r, e, k => by
    simp only [RelS] at r ⊢
    obtain ⟨b, e1, e2, q, h, hd⟩ := r
    exact ⟨b, e1, e2, q, k b (by rw [e2]; exact List.mem_singleton.mpr rfl) _ h, hd.mono e⟩
  | .dtt kvs, v, f, r, e, k => by
    simp only [RelS] at r ⊢
    obtain ⟨b, e1, e2, q, h, hd⟩ := r
    exact ⟨b, e1, e2, q, k b (by rw [e2]; exact List.mem_singleton.mpr rfl) _ h, hd.mono e⟩
  | .box b fs, v, f, r, e, k => by
    simp only [RelS] at r ⊢
    obtain ⟨c, vs, gs, ex, e1, hb, hs, e2, nd⟩ := r
    refine ⟨c, vs, gs, ex, e1, hb.mono fun a ha => k a ?_, RelSs.mono hs e fun g hg a ha => k a ?_, e2, nd⟩
    · rw [e2]
      rcases List.mem_cons.mp ha with rfl | ha
      · exact List.mem_cons_self
      · exact List.mem_cons_of_mem _ (List.mem_append_left _ ha)
    · rw [e2]
      exact List.mem_cons_of_mem _ (List.mem_append_right _ (List.mem_flatten.mpr ⟨g, hg, ha⟩))
  | .dead, v, f, r, e, k => by
    simp only [RelS] at r ⊢
    exact r
theorem RelSs.mono : ∀ {ss : List S} {vs : List V} {gs : List (List Addr)}, RelSs K G H ss vs gs → Same G G' → (∀ g ∈ gs, ∀ a ∈ g, ∀ o, H a = some o → H' a = some o) → RelSs K G' H' ss vs gs
  | [], vs, gs, r, e, k => by
    simp only [RelSs] at r ⊢
    exact r
  | s :: ss, vs, gs, r, e, k => by
    simp only [RelSs] at r ⊢
    obtain ⟨v, vs', g', gs', rfl, rfl, h1, h2⟩ := r
    exact ⟨v, vs', g', gs', rfl, rfl, RelS.mono h1 e (k g' List.mem_cons_self), RelSs.mono h2 e fun g hg => k g (List.mem_cons_of_mem _ hg)⟩
end

def own (φ : Nat → List Addr) (a : Addr) : Prop := ∃ i, a ∈ φ i
/-- the names' values -/
structure SR (K : PySem.W.Frag) (G H : Hp) (ρ : List S) (σ : L2.St) (φ : Nat → List Addr) : Prop where
  len : ρ.length = σ.length
  gh : Same G H
  rel : ∀ i, (slot ρ i = .dead ∧ φ i = []) ∨ ∃ v, σ[i]? = some (some v) ∧ RelS K G H (slot ρ i) v (φ i)
  dj : ∀ i j a, a ∈ φ i → a ∈ φ j → i = j
  gn : ∀ i a, a ∈ φ i → G a = none
/-- nothing stands there yet, or a tuple -/
def Nw (H : Hp) (a : Addr) : Prop := H a = none ∨ ∃ xs, H a = some (.tup xs)
/-- from (G, H), F owned, to (G', H'), F' owned -/
structure Stp (G H : Hp) (F : Addr → Prop) (G' H' : Hp) (F' : Addr → Prop) : Prop where
  gg : Same G G'
  keep : ∀ a o, H a = some o → ¬ F a → H' a = some o
  sub : ∀ a, F' a → F a ∨ H a = none
  gnew : ∀ a, G a = none → G' a ≠ none → F a ∨ Nw H a
  there : ∀ a, H a ≠ none → H' a ≠ none
/-- a value on the way -/
structure Tmp (K : PySem.W.Frag) (G H : Hp) (s : S) (v : V) (f : List Addr) (φ : Nat → List Addr) : Prop where
  rel : RelS K G H s v f
  gn : ∀ a ∈ f, G a = none
  off : ∀ a ∈ f, ¬ own φ a
variable {φ φ' φ'' : Nat → List Addr} {ρ ρ' : List S} {σ σ' : L2.St} {F F' F'' T : Addr → Prop}
theorem SR.here (r : SR K G H ρ σ φ) {a : Addr} (h : own φ a) : ∃ o, H a = some o := by
  obtain ⟨i, hi⟩ := h
  rcases r.rel i with ⟨_, e⟩ | ⟨v, _, q⟩
  · rw [e] at hi; cases hi
  · exact q.here a hi
theorem SR.gno (r : SR K G H ρ σ φ) {a : Addr} (h : own φ a) : G a = none := by
  obtain ⟨i, hi⟩ := h
  exact r.gn i a hi
theorem Stp.refl : Stp G H F G H F := ⟨Same.refl G, fun _ _ h _ => h, fun _ h => .inl h, fun _ h h' => absurd h h', fun _ h => h⟩
theorem Stp.weak (s : Stp G H F G' H' F') (h : ∀ a, T a → F' a) : Stp G H F G' H' T := ⟨s.gg, s.keep, fun a q => s.sub a (h a q), s.gnew, s.there⟩
/-- the second step goes from a part of what is owned; the rest T stays -/
theorem Stp.trans {G1 H1 : Hp} (s : Stp G H F G1 H1 F') (t : Stp G1 H1 F' G' H' F'') : Stp G H F G' H' F'' where
  gg := s.gg.trans t.gg
  keep := fun a o h n => by
    refine t.keep a o (s.keep a o h n) fun q => ?_
    rcases s.sub a q with q | q
    · exact n q
    · rw [h] at q; cases q
  sub := fun a q => by
    rcases t.sub a q with q | q
    · exact s.sub a q
    · refine .inr ?_
      cases e : H a with
      | none => rfl
      | some o => exact absurd q (s.there a (by rw [e]; exact fun z => nomatch z))
  gnew := fun a h h' => by
    by_cases e : G1 a = none
    · rcases t.gnew a e h' with q | q
      · exact (s.sub a q).imp id .inl
      · by_cases hF : F a
        · exact .inl hF
        · refine .inr ?_
          cases e2 : H a with
          | none => exact .inl e2
          | some o =>
            have k := s.keep a o e2 hF
            rcases q with q | ⟨xs, q⟩
            · rw [k] at q; cases q
            · rw [k] at q; exact .inr ⟨xs, by rw [e2, q]⟩
    · exact s.gnew a h e
  there := fun a h => t.there a (s.there a h)
/-- .. with T held aside through the step -/
theorem Stp.frame (s : Stp G H F G' H' F') (ht : ∀ a, T a → ¬ F a ∧ H a ≠ none) : Stp G H (fun a => F a ∨ T a) G' H' (fun a => F' a ∨ T a) :=
  ⟨s.gg, fun a o h n => s.keep a o h fun q => n (.inl q), fun a q => by
    rcases q with q | q
    · rcases s.sub a q with q | q
      · exact .inl (.inl q)
      · exact .inr q
    · exact .inl (.inr q), fun a h h' => by
    rcases s.gnew a h h' with q | q
    · exact .inl (.inl q)
    · exact .inr q, s.there⟩
/-- what is held aside stays what it is -/
theorem Tmp.frame {s : S} {v : V} {f : List Addr} (t : Tmp K G H s v f φ) (st : Stp G H F G' H' F') (hF : ∀ a ∈ f, ¬ F a) : RelS K G' H' s v f ∧ (∀ a ∈ f, G' a = none) ∧ (∀ a ∈ f, ¬ F' a) := by
  refine ⟨t.rel.mono st.gg fun a ha o h => st.keep a o h (hF a ha), fun a ha => ?_, fun a ha q => ?_⟩
  · cases e : G' a with
    | none => rfl
    | some o =>
      rcases st.gnew a (t.gn a ha) (by rw [e]; exact fun z => nomatch z) with q | q
      · exact absurd q (hF a ha)
      · exact (t.rel.notNw a ha q).elim
  · rcases st.sub a q with q | q
    · exact hF a ha q
    · obtain ⟨o', h⟩ := t.rel.here a ha
      rw [h] at q; cases q

/-! ### making something new -/
theorem Same.upd_new {p : Addr} {o : HO} (h : H p = none) : Same H (upd H p o) := fun b u e => by
  rw [upd_ne (ne_of_none e h)]; exact e
theorem Stp.newH {p : Addr} {o : HO} (h : H p = none) : Stp G H F G (upd H p o) (fun a => F a ∨ a = p) where
  gg := Same.refl G
  keep := fun a u e _ => Same.upd_new h a u e
  sub := fun a q => by
    rcases q with q | q
    · exact .inl q
    · rw [q]; exact .inr h
  gnew := fun a e e' => absurd e e'
  there := fun a e => by
    cases q : H a with
    | none => exact absurd q e
    | some u => rw [Same.upd_new h a u q]; exact fun z => nomatch z
theorem Stp.newG {p : Addr} {o : HO} (gh : Same G H) (h : H p = none) : Stp G H F (upd G p o) (upd H p o) F where
  gg := Same.upd_new (gh.free h)
  keep := fun a u e _ => Same.upd_new h a u e
  sub := fun a q => .inl q
  gnew := fun a e e' => by
    by_cases q : a = p
    · rw [q]; exact .inr (.inl h)
    · rw [upd_ne q] at e'; exact absurd e e'
  there := fun a e => by
    cases q : H a with
    | none => exact absurd q e
    | some u => rw [Same.upd_new h a u q]; exact fun z => nomatch z
theorem SR.newH {p : Addr} {o : HO} (r : SR K G H ρ σ φ) (h : H p = none) : SR K G (upd H p o) ρ σ φ where
  len := r.len
  gh := r.gh.trans (Same.upd_new h)
  rel := fun i => by
    rcases r.rel i with q | ⟨v, e, q⟩
    · exact .inl q
    · exact .inr ⟨v, e, q.mono (Same.refl G) fun a _ u hu => Same.upd_new h a u hu⟩
  dj := r.dj
  gn := r.gn
theorem SR.newG {p : Addr} {o : HO} (r : SR K G H ρ σ φ) (h : H p = none) : SR K (upd G p o) (upd H p o) ρ σ φ where
  len := r.len
  gh := fun a u e => by
    by_cases q : a = p
    · subst q; rw [upd_same] at e ⊢; exact e
    · rw [upd_ne q] at e ⊢; exact r.gh a u e
  rel := fun i => by
    rcases r.rel i with q | ⟨v, e, q⟩
    · exact .inl q
    · exact .inr ⟨v, e, q.mono (Same.upd_new (r.gh.free h)) fun a _ u hu => Same.upd_new h a u hu⟩
  dj := r.dj
  gn := fun i a ha => by
    obtain ⟨u, e⟩ := r.here ⟨i, ha⟩
    rw [upd_ne (ne_of_none e h)]
    exact r.gn i a ha

/-! ### slots -/
theorem slot_set {i j : Nat} {s : S} : slot (ρ.set i s) j = if i = j ∧ i < ρ.length then s else slot ρ j := by
  unfold slot
  rw [List.getD_eq_getElem?_getD, List.getD_eq_getElem?_getD, List.getElem?_set]
  by_cases e : i = j
  · subst e
    by_cases h : i < ρ.length
    · simp [h]
    · simp [h, List.getElem?_eq_none (Nat.le_of_not_lt h)]
  · simp [e]
theorem slot_set_ne {i j : Nat} {s : S} (h : i ≠ j) : slot (ρ.set i s) j = slot ρ j := by rw [slot_set, if_neg fun q => h q.1]
/-- the footprints with i's anew -/
def upf (φ : Nat → List Addr) (i : Nat) (f : List Addr) : Nat → List Addr := fun j => if j = i then f else φ j
theorem upf_same {i : Nat} {f : List Addr} : upf φ i f i = f := if_pos rfl
theorem upf_ne {i j : Nat} {f : List Addr} (h : j ≠ i) : upf φ i f j = φ j := if_neg h
theorem own_upf {i : Nat} {f : List Addr} {a : Addr} (h : own (upf φ i f) a) : a ∈ f ∨ own φ a := by
  obtain ⟨j, hj⟩ := h
  by_cases e : j = i
  · subst e; rw [upf_same] at hj; exact .inl hj
  · rw [upf_ne e] at hj; exact .inr ⟨j, hj⟩
/-- a name is stored -/
theorem SR.store {i : Nat} {s : S} {v : V} {f : List Addr} (r : SR K G H ρ σ φ) (t : Tmp K G H s v f φ) : SR K G H (ρ.set i s) (σ.set i (some v)) (upf φ i (if i < ρ.length then f else [])) where
  len := by rw [List.length_set, List.length_set]; exact r.len
  gh := r.gh
  rel := fun j => by
    by_cases e : j = i
    · subst e
      rw [upf_same]
      by_cases hl : j < ρ.length
      · rw [if_pos hl]
        refine .inr ⟨v, by rw [List.getElem?_set_self (by rw [← r.len]; exact hl)], ?_⟩
        rw [slot_set, if_pos ⟨rfl, hl⟩]
        exact t.rel
      · rw [if_neg hl]
        refine .inl ⟨?_, rfl⟩
        rw [slot_set, if_neg fun q => hl q.2]
        unfold slot
        rw [List.getD_eq_getElem?_getD, List.getElem?_eq_none (Nat.le_of_not_lt hl)]
        rfl
    · rw [upf_ne e, slot_set_ne (Ne.symm e)]
      rcases r.rel j with q | ⟨w, e1, q⟩
      · exact .inl q
      · exact .inr ⟨w, by rw [List.getElem?_set_ne (Ne.symm e)]; exact e1, q⟩
  dj := fun j k a hj hk => by
    have off : ∀ {b : Addr}, b ∈ (if i < ρ.length then f else []) → ¬ own φ b := fun {b} hb => by
      split at hb
      · exact t.off b hb
      · cases hb
    by_cases ej : j = i
    · by_cases ek : k = i
      · rw [ej, ek]
      · rw [ej, upf_same] at hj
        rw [upf_ne ek] at hk
        exact absurd ⟨k, hk⟩ (off hj)
    · by_cases ek : k = i
      · rw [ek, upf_same] at hk
        rw [upf_ne ej] at hj
        exact absurd ⟨j, hj⟩ (off hk)
      · rw [upf_ne ej] at hj
        rw [upf_ne ek] at hk
        exact r.dj j k a hj hk
  gn := fun j a hj => by
    by_cases ej : j = i
    · rw [ej, upf_same] at hj
      split at hj
      · exact t.gn a hj
      · cases hj
    · rw [upf_ne ej] at hj
      exact r.gn j a hj
/-- a name's value is taken away (it may still stand in its slot) -/
theorem SR.drop {i : Nat} (r : SR K G H ρ σ φ) : SR K G H (ρ.set i .dead) σ (upf φ i []) where
  len := by rw [List.length_set]; exact r.len
  gh := r.gh
  rel := fun j => by
    by_cases e : j = i
    · subst e
      rw [upf_same, slot_set]
      refine .inl ⟨?_, rfl⟩
      split
      · rfl
      · rename_i h
        have hl : ¬ j < ρ.length := fun q => h ⟨rfl, q⟩
        unfold slot
        rw [List.getD_eq_getElem?_getD, List.getElem?_eq_none (Nat.le_of_not_lt hl)]
        rfl
    · rw [upf_ne e, slot_set_ne (Ne.symm e)]
      exact r.rel j
  dj := fun j k a hj hk => by
    by_cases ej : j = i
    · rw [ej, upf_same] at hj; cases hj
    · by_cases ek : k = i
      · rw [ek, upf_same] at hk; cases hk
      · rw [upf_ne ej] at hj
        rw [upf_ne ek] at hk
        exact r.dj j k a hj hk
  gn := fun j a hj => by
    by_cases ej : j = i
    · rw [ej, upf_same] at hj; cases hj
    · rw [upf_ne ej] at hj
      exact r.gn j a hj
/-- .. and what it held is a value on the way -/
theorem SR.tmp {i : Nat} {v : V} (r : SR K G H ρ σ φ) (h : RelS K G H (slot ρ i) v (φ i)) : Tmp K G H (slot ρ i) v (φ i) (upf φ i []) :=
  ⟨h, r.gn i, fun a ha q => by
    obtain ⟨j, hj⟩ := q
    by_cases e : j = i
    · rw [e, upf_same] at hj; cases hj
    · rw [upf_ne e] at hj
      exact e (r.dj j i a hj ha)⟩
/-- put into its own slot again (the slot's value is the same) -/
theorem SR.back {i : Nat} {s : S} {v : V} {f : List Addr} (r : SR K G H ρ σ φ) (t : Tmp K G H s v f φ) (hv : σ[i]? = some (some v)) : SR K G H (ρ.set i s) σ (upf φ i (if i < ρ.length then f else [])) := by
  have hi : i < σ.length := (List.getElem?_eq_some_iff.mp hv).1
  have q := r.store (i := i) t
  have e : σ.set i (some v) = σ := by
    refine List.ext_getElem? fun j => ?_
    by_cases e : i = j
    · subst e; rw [List.getElem?_set_self hi, hv]
    · rw [List.getElem?_set_ne e]
  rw [e] at q
  exact q
theorem SR.at {i : Nat} (r : SR K G H ρ σ φ) (h : slot ρ i ≠ .dead) : ∃ v, σ[i]? = some (some v) ∧ RelS K G H (slot ρ i) v (φ i) := by
  rcases r.rel i with ⟨e, _⟩ | q
  · exact absurd e h
  · exact q
/-- the whole moves on by a step that leaves the names alone -/
theorem SR.step (r : SR K G H ρ σ φ) (st : Stp G H F G' H' F') (gh : Same G' H') (hF : ∀ a, own φ a → ¬ F a) : SR K G' H' ρ σ φ where
  len := r.len
  gh := gh
  rel := fun i => by
    rcases r.rel i with q | ⟨v, e, q⟩
    · exact .inl q
    · exact .inr ⟨v, e, q.mono st.gg fun a ha o h => st.keep a o h (hF a ⟨i, ha⟩)⟩
  dj := r.dj
  gn := fun i a ha => by
    cases e : G' a with
    | none => rfl
    | some o =>
      rcases st.gnew a (r.gn i a ha) (by rw [e]; exact fun z => nomatch z) with q | q
      · exact absurd q (hF a ⟨i, ha⟩)
      · rcases r.rel i with ⟨_, z⟩ | ⟨v, _, z⟩
        · rw [z] at ha; cases ha
        · exact (z.notNw a ha q).elim
end

/-! ### what is looked at -/
/-- v shows d: data at rest, or an owned list's or dict's items -/
def VW (K : PySem.W.Frag) (G H : Hp) (v : V) (d : PyData) : Prop :=
  DP K G v d ∨ (∃ a vs ds, v = .ref a ∧ d = .list ds ∧ H a = some (.lst vs) ∧ DPs K G vs ds) ∨
    ∃ a ds, v = .ref a ∧ d = .dict ds ∧ ∃ kv, H a = some (.dK kv) ∧ DKs K G kv ds
section
variable {K : PySem.W.Frag} {G H : Hp} {v : V} {d : PyData}
theorem VW.of {s : S} {f : List Addr} (r : RelS K G H s v f) (h : view s = some d) : VW K G H v d := by
  cases s with
  | val e => cases h; exact .inl r.1
  | lst xs =>
    cases h
    obtain ⟨a, vs, e, h1, h2, _⟩ := r
    exact .inr (.inl ⟨a, vs, xs, e, rfl, h1, h2⟩)
  | dct kvs =>
    cases h
    obtain ⟨a, e, _, h1⟩ := r
    exact .inr (.inr ⟨a, kvs, e, rfl, h1⟩)
  | dtt kvs => cases h
  | box b fs => cases h
  | dead => cases h
theorem VW.dp (gh : Same G H) (h : VW K G H v d) : DP K H v d := by
  rcases h with h | ⟨a, vs, ds, rfl, rfl, h1, h2⟩ | ⟨a, ds, rfl, rfl, kv, h1, h2⟩
  · exact h.mono gh
  · exact .lst (.inl (.inl h1)) (h2.mono gh)
  · exact .dctK h1 (h2.mono gh)
theorem VW.int {i : Int} (h : VW K G H v (.int i)) : v = .int i := by
  rcases h with h | ⟨a, vs, ds, _, e, _⟩ | ⟨a, ds, _, e, _⟩
  · cases h; rfl
  · cases e
  · cases e
theorem VW.bool {i : Bool} (h : VW K G H v (.bool i)) : v = .bl i := by
  rcases h with h | ⟨a, vs, ds, _, e, _⟩ | ⟨a, ds, _, e, _⟩
  · cases h; rfl
  · cases e
  · cases e
theorem VW.str {i : Str} (h : VW K G H v (.str i)) : v = .str i := by
  rcases h with h | ⟨a, vs, ds, _, e, _⟩ | ⟨a, ds, _, e, _⟩
  · cases h; rfl
  · cases e
  · cases e
theorem VW.none (h : VW K G H v .none) : v = .non := by
  rcases h with h | ⟨a, vs, ds, _, e, _⟩ | ⟨a, ds, _, e, _⟩
  · cases h; rfl
  · cases e
  · cases e
theorem VW.list (gh : Same G H) {ds : List PyData} (h : VW K G H v (.list ds)) : ∃ a vs, v = .ref a ∧ SqL K H a vs ∧ DPs K G vs ds := by
  rcases h with h | ⟨a, vs, ds', rfl, e, h1, h2⟩ | ⟨a, ds, _, e, _⟩
  · cases h with
    | lst h1 h2 => exact ⟨_, _, rfl, gh.seq h1, h2⟩
  · cases e
    exact ⟨a, vs, rfl, .inl (.inl h1), h2⟩
  · cases e
theorem VW.tuple {ds : List PyData} (h : VW K G H v (.tuple ds)) : ∃ a vs, v = .ref a ∧ SqT K G a vs ∧ DPs K G vs ds := by
  rcases h with h | ⟨a, vs, ds', rfl, e, h1, h2⟩ | ⟨a, ds, _, e, _⟩
  · cases h with
    | tup h1 h2 => exact ⟨_, _, rfl, .inl (.inl h1), h2⟩
  · cases e
  · cases e
theorem VW.dict (gh : Same G H) {ds : List (PyData × PyData)} (h : VW K G H v (.dict ds)) (hl : lkey ds = false) : ∃ a, v = .ref a ∧ ((∃ kv, Rd H a (.dK kv) ∧ DKs K G kv ds) ∨ ∃ kv, Rd H a (.dT kv) ∧ DTs K G kv ds) := by
  rcases h with h | ⟨a, vs, ds', rfl, e, h1, h2⟩ | ⟨a, ds', rfl, e, kv, h1, h2⟩
  · cases h with
    | dctK h1 h2 => exact ⟨_, rfl, .inl ⟨_, .inl (gh _ _ h1), h2⟩⟩
    | dctT h1 h2 _ => exact ⟨_, rfl, .inr ⟨_, .inr ⟨_, gh _ _ h1⟩, h2⟩⟩
    | err => cases hl
  · cases e
  · cases e
    exact ⟨a, rfl, .inl ⟨kv, .inl h1, h2⟩⟩
theorem DKs.length : ∀ {kv : List (Key × V)} {ds : List (PyData × PyData)}, DKs K G kv ds → kv.length = ds.length
  | _, _, .nil => rfl
  | _, _, .cons _ r => by rw [List.length_cons, List.length_cons, DKs.length r]
theorem DTs.length : ∀ {kv : List (List Key × V)} {ds : List (PyData × PyData)}, DTs K G kv ds → kv.length = ds.length
  | _, _, .nil => rfl
  | _, _, .cons _ r => by rw [List.length_cons, List.length_cons, DTs.length r]
theorem VW.tupX {ds : List PyData} (h : VW K G H v (.tuple ds)) : ∃ a vs, v = .ref a ∧ G a = some (.tup vs) ∧ DPs K G vs ds := by
  rcases h with h | ⟨a, vs, ds', rfl, e, h1, h2⟩ | ⟨a, ds, _, e, _⟩
  · cases h with
    | tup h1 h2 => exact ⟨_, _, rfl, h1, h2⟩
  · cases e
  · cases e
end
end VE

/-! VS2: readings by the evaluator; operands, operations. -/
namespace VE
open PySem L2 PySem.Spec PyProof.Rows

/-- how the exception c with its kept value d stands in a heap -/
abbrev XR := Nat → Option Int → Value → Option Addr → Hp → Prop
section
variable (K : PySem.W.Frag) (xr : XR) (W : WX)
/-- what is wanted behind an evaluation that began at G, H, φ -/
def PoX (σ : L2.St) (G H : Hp) (φ : Nat → List Addr) (c : Nat) (d : Option Int) (ρ' : List S) : Prop :=
  ∀ G' H' φ' cls dd, Stp G H (own φ) G' H' (own φ') → SR K G' H' ρ' σ φ' → xr c d cls dd G' → W cls dd σ H'
def PoE (σ : L2.St) (G H : Hp) (φ : Nat → List Addr) (r : R S) (Q : VK) : Prop := match r with
  | .stk => False
  | .ok s ρ' => ∀ v G' H' φ' f, Stp G H (own φ) G' H' (fun a => own φ' a ∨ a ∈ f) → SR K G' H' ρ' σ φ' → Tmp K G' H' s v f φ' → Q v H'
  | .exc c d ρ' => PoX K xr W σ G H φ c d ρ'
def tE (ev : List S → R S) : TE := fun σ H Q => ∃ ρ G φ, SR K G H ρ σ φ ∧ PoE K xr W σ G H φ (ev ρ) Q
variable (Φ : Fns)
def tA : A → TE
  | .pl i => tVar i
  | .e x => tE K xr W (evE Φ x)
def tAs : List A → TA
  | [] => tNil
  | a :: as => tCons (tA K xr W Φ a) (tAs as)
end
def OpR1 (K : PySem.W.Frag) (G H : Hp) (σ : L2.St) (a : A) (t : Option S) (v : V) (f : List Addr) : Prop := match a with
  | .pl i => f = [] ∧ σ[i]? = some (some v)
  | .e _ => ∃ s, t = some s ∧ RelS K G H s v f
inductive Ops (K : PySem.W.Frag) (G H : Hp) (σ : L2.St) : List A → List (Option S) → List V → List Addr → Prop
  | nil : Ops K G H σ [] [] [] []
  | cons {a as t ts v vs f g} : OpR1 K G H σ a t v f → Ops K G H σ as ts vs g → (∀ x ∈ f, x ∉ g) → Ops K G H σ (a :: as) (t :: ts) (v :: vs) (f ++ g)
section
variable {K : PySem.W.Frag} {xr : XR} {W : WX} {Φ : Fns} {σ : L2.St} {G H G' H' : Hp} {φ φ' : Nat → List Addr} {ρ : List S} {Q : VK}
theorem PoX.from {c : Nat} {d : Option Int} (h : PoX K xr W σ G H φ c d ρ) (st : Stp G H (own φ) G' H' (own φ')) : PoX K xr W σ G' H' φ' c d ρ :=
  fun G2 H2 φ2 cls dd s2 r2 x => h G2 H2 φ2 cls dd (st.trans s2) r2 x
theorem PoE.from {r : R S} (h : PoE K xr W σ G H φ r Q) (st : Stp G H (own φ) G' H' (own φ')) : PoE K xr W σ G' H' φ' r Q := by
  cases r with
  | stk => exact h
  | ok s ρ' => exact fun v G2 H2 φ2 f s2 r2 t2 => h v G2 H2 φ2 f (st.trans s2) r2 t2
  | exc c d ρ' => exact PoX.from h st
theorem fin_val {v : V} {d : PyData} (r : SR K G H ρ σ φ) (hd : DP K G v d) (h : PoE K xr W σ G H φ (.ok (.val d) ρ) Q) : Q v H :=
  h v G H φ [] (Stp.refl.weak fun a q => q.elim id fun z => nomatch z) r ⟨⟨hd, rfl⟩, (fun _ z => nomatch z), fun _ z => nomatch z⟩
theorem fin_lst {p : Addr} {vs : List V} {ds : List PyData} (r : SR K G H ρ σ φ) (hp : H p = none) (hd : DPs K G vs ds) (h : PoE K xr W σ G H φ (.ok (.lst ds) ρ) Q) : Q (.ref p) (upd H p (.lst vs)) :=
  h _ G _ φ [p] ((Stp.newH hp).weak fun a q => q.imp id fun z => List.mem_singleton.mp z) (r.newH hp) ⟨⟨p, vs, rfl, upd_same, hd, rfl⟩, (fun a ha => by
    obtain rfl := List.mem_singleton.mp ha
    exact r.gh.free hp), fun a ha q => by
    obtain rfl := List.mem_singleton.mp ha
    obtain ⟨o, e⟩ := r.here q
    rw [hp] at e; cases e⟩
theorem fin_tup {p : Addr} {vs : List V} {ds : List PyData} (r : SR K G H ρ σ φ) (hp : H p = none) (hd : DPs K G vs ds) (h : PoE K xr W σ G H φ (.ok (.val (.tuple ds)) ρ) Q) : Q (.ref p) (upd H p (.tup vs)) :=
  h _ _ _ φ [] ((Stp.newG r.gh hp).weak fun a q => q.elim id fun z => nomatch z) (r.newG hp) ⟨⟨.tup upd_same (hd.mono (Same.upd_new (r.gh.free hp))), rfl⟩, (fun _ z => nomatch z), fun _ z => nomatch z⟩
theorem fin_int {i : Int} (r : SR K G H ρ σ φ) (h : PoE K xr W σ G H φ (.ok (.val (.int i)) ρ) Q) : Q (.int i) H := fin_val r (.int i) h
theorem fin_bool {i : Bool} (r : SR K G H ρ σ φ) (h : PoE K xr W σ G H φ (.ok (.val (.bool i)) ρ) Q) : Q (.bl i) H := fin_val r (.bl i) h
theorem fin_str {i : Str} (r : SR K G H ρ σ φ) (h : PoE K xr W σ G H φ (.ok (.val (.str i)) ρ) Q) : Q (.str i) H := fin_val r (.str i) h
theorem fin_none (r : SR K G H ρ σ φ) (h : PoE K xr W σ G H φ (.ok (.val .none) ρ) Q) : Q .non H := fin_val r .non h

/-! ### operands -/
def PoL (K : PySem.W.Frag) (xr : XR) (W : WX) (σ : L2.St) (G H : Hp) (φ : Nat → List Addr) (as : List A) (r : R (List (Option S))) (Q : List V → Hp → Prop) : Prop := match r with
  | .stk => False
  | .ok ts ρ' => ∀ vs G' H' φ' fs, Stp G H (own φ) G' H' (fun a => own φ' a ∨ a ∈ fs) → SR K G' H' ρ' σ φ' → Ops K G' H' σ as ts vs fs → (∀ a ∈ fs, G' a = none ∧ ¬ own φ' a) → Q vs H'
  | .exc c d ρ' => PoX K xr W σ G H φ c d ρ'
theorem ops : ∀ (as : List A) (ρ : List S) (G H : Hp) (φ : Nat → List Addr) (Q : List V → Hp → Prop), SR K G H ρ σ φ → PoL K xr W σ G H φ as (evAs Φ as ρ) Q → tAs K xr W Φ as σ H Q
  | [], ρ, G, H, φ, Q, r, h => by
    rw [evAs] at h
    exact h [] G H φ [] (Stp.refl.weak fun a q => q.elim id fun z => nomatch z) r .nil fun _ z => nomatch z
  | .pl i :: as, ρ, G, H, φ, Q, r, h => by
    rw [evAs, evA] at h
    have hd : slot ρ i ≠ .dead := fun e => by
      rw [e] at h
      exact h
    obtain ⟨v, hv, _⟩ := r.at hd
    have h' : PoL K xr W σ G H φ (.pl i :: as) ((evAs Φ as ρ).bnd fun ss ρ'' => .ok (none :: ss) ρ'') Q := by
      cases e : slot ρ i with
      | dead => exact absurd e hd
      | val d => rw [e] at h; exact h
      | lst d => rw [e] at h; exact h
      | dct d => rw [e] at h; exact h
      | dtt d => rw [e] at h; exact h
      | box b fs => rw [e] at h; exact h
    refine ⟨v, hv, ops as ρ G H φ _ r ?_⟩
    cases e : evAs Φ as ρ with
    | stk => rw [e] at h'; exact h'
    | exc c d ρ' => rw [e] at h'; exact h'
    | ok ts ρ' =>
      rw [e] at h'
      exact fun vs G' H' φ' fs st r' o t => h' (v :: vs) G' H' φ' fs st r' (.cons (f := []) ⟨rfl, hv⟩ o fun _ z => nomatch z) t
  | .e x :: as, ρ, G, H, φ, Q, r, h => by
    rw [evAs, evA] at h
    refine ⟨ρ, G, φ, r, ?_⟩
    cases e1 : evE Φ x ρ with
    | stk => rw [e1] at h; exact h
    | exc c d ρ' => rw [e1] at h; exact h
    | ok s ρ1 =>
      rw [e1] at h
      simp only [R.bnd] at h
      intro v G1 H1 φ1 f st1 r1 t1
      refine ops as ρ1 G1 H1 φ1 _ r1 ?_
      cases e2 : evAs Φ as ρ1 with
      | stk => rw [e2] at h; exact h
      | exc c d ρ' =>
        rw [e2] at h
        exact PoX.from h (st1.weak fun _ q => .inl q)
      | ok ts ρ2 =>
        rw [e2] at h
        intro vs G2 H2 φ2 fs st2 r2 o2 t2
        obtain ⟨q1, q2, q3⟩ := t1.frame st2 t1.off
        refine h (v :: vs) G2 H2 φ2 (f ++ fs) ((st1.trans (st2.frame fun a ha => ⟨t1.off a ha, ?_⟩)).weak fun a q => ?_) r2 (.cons ⟨s, rfl, q1⟩ o2 fun a ha hb => q3 a ha (.inr hb)) fun a ha => ?_
        · obtain ⟨o, e⟩ := t1.rel.here a ha
          rw [e]; exact fun z => nomatch z
        · rcases q with q | q
          · exact .inl (.inl q)
          · rcases List.mem_append.mp q with q | q
            · exact .inr q
            · exact .inl (.inr q)
        · rcases List.mem_append.mp ha with q | q
          · exact ⟨q2 a q, fun z => q3 a q (.inl z)⟩
          · exact t2 a q
/-- operands, then a step k -/
theorem opsE {as : List A} {k : List (Option S) → List S → R S} {Qr : List V → Hp → Prop} (r : SR K G H ρ σ φ) (h : PoE K xr W σ G H φ ((evAs Φ as ρ).bnd k) Q)
    (hop : ∀ ts ρ' vs G' H' φ' fs, SR K G' H' ρ' σ φ' → Ops K G' H' σ as ts vs fs → (∀ a ∈ fs, G' a = none ∧ ¬ own φ' a) → PoE K xr W σ G' H' φ' (k ts ρ') Q → Stp G H (own φ) G' H' (fun a => own φ' a ∨ a ∈ fs) → Qr vs H') : tAs K xr W Φ as σ H Qr := by
  refine ops as ρ G H φ Qr r ?_
  cases e : evAs Φ as ρ with
  | stk => rw [e] at h; exact h
  | exc c d ρ' => rw [e] at h; exact h
  | ok ts ρ' =>
    rw [e] at h
    exact fun vs G' H' φ' fs st r' o t => hop ts ρ' vs G' H' φ' fs r' o t (PoE.from h (st.weak fun _ q => .inl q)) st
/-- what the operands show -/
theorem OpR1.vw {a : A} {t : Option S} {v : V} {f : List Addr} {d : PyData} (r : SR K G H ρ σ φ) (o : OpR1 K G H σ a t v f) (h : res a (t.bind view) ρ = some d) : VW K G H v d := by
  cases a with
  | pl i =>
    have h : view (slot ρ i) = some d := h
    have hd : slot ρ i ≠ .dead := fun e => by rw [e] at h; cases h
    obtain ⟨w, hw, q⟩ := r.at hd
    rw [o.2] at hw
    cases hw
    exact VW.of q h
  | e x =>
    obtain ⟨s, rfl, q⟩ := o
    exact VW.of q h
inductive VWs (K : PySem.W.Frag) (G H : Hp) : List V → List PyData → Prop
  | nil : VWs K G H [] []
  | cons {v vs d ds} : VW K G H v d → VWs K G H vs ds → VWs K G H (v :: vs) (d :: ds)
theorem Ops.vws (r : SR K G H ρ σ φ) : ∀ {as : List A} {ts : List (Option S)} {vs : List V} {fs : List Addr} {ds : List PyData}, Ops K G H σ as ts vs fs → ress as (ts.map (·.bind view)) ρ = some ds → VWs K G H vs ds
  | _, _, _, _, _, .nil, h => by cases h; exact .nil
  | _, _, _, _, ds, .cons (a := a) (as := as) (t := t) (ts := ts) o os _, h => by
    simp only [List.map_cons, ress] at h
    split at h
    · rename_i d ds' e1 e2
      cases h
      exact .cons (o.vw r e1) (Ops.vws r os e2)
    · cases h
theorem Ops.two {a b : A} {ts : List (Option S)} {vs : List V} {fs : List Addr} (o : Ops K G H σ [a, b] ts vs fs) : ∃ t u x y f g, ts = [t, u] ∧ vs = [x, y] ∧ OpR1 K G H σ a t x f ∧ OpR1 K G H σ b u y g ∧ fs = f ++ (g ++ []) := by
  cases o with
  | cons o1 o2 _ =>
    cases o2 with
    | cons o2 o3 _ =>
      cases o3
      exact ⟨_, _, _, _, _, _, rfl, rfl, o1, o2, rfl⟩
theorem Ops.one {a : A} {ts : List (Option S)} {vs : List V} {fs : List Addr} (o : Ops K G H σ [a] ts vs fs) : ∃ t x f, ts = [t] ∧ vs = [x] ∧ OpR1 K G H σ a t x f ∧ fs = f ++ [] := by
  cases o with
  | cons o1 o2 _ =>
    cases o2
    exact ⟨_, _, _, rfl, rfl, o1, rfl⟩

/-! ### two-place operations -/
/-- the operation's answer by data -/
def rD (K : PySem.W.Frag) (xr : XR) (W : WX) (g : PyData → PyData → Option S) : R2 := fun x y H Q => ∃ σ G φ ρ d e, SR K G H ρ σ φ ∧ VW K G H x d ∧ VW K G H y e ∧ PoE K xr W σ G H φ (ofO (g d e) ρ) Q
theorem op2 {a b : A} {g : PyData → PyData → Option S} {r : R2} (hr : ∀ x y H Q, rD K xr W g x y H Q → r x y H Q) (sr : SR K G H ρ σ φ)
    (h : PoE K xr W σ G H φ ((evA Φ a ρ).bnd fun t ρ' => (evA Φ b ρ').bnd fun u ρ'' => fin2 a b t u ρ'' g) Q) : tOp r (tA K xr W Φ a) (tA K xr W Φ b) σ H Q := by
  have h' : PoE K xr W σ G H φ ((evAs Φ [a, b] ρ).bnd fun ts ρ'' => match ts with
    | [t, u] => fin2 a b t u ρ'' g
    | _ => .stk) Q := by
    simp only [evAs]
    cases e1 : evA Φ a ρ with
    | stk => rw [e1] at h; exact h
    | exc c d ρ' => rw [e1] at h; exact h
    | ok t ρ1 =>
      rw [e1] at h
      simp only [R.bnd] at h ⊢
      cases e2 : evA Φ b ρ1 with
      | stk => rw [e2] at h; exact h
      | exc c d ρ' => rw [e2] at h; exact h
      | ok u ρ2 => rw [e2] at h; exact h
  refine opsE (as := [a, b]) (Q := Q) (Qr := fun vs H2 => match vs with | [x, y] => r x y H2 Q | _ => False) sr h' ?_
  intro ts ρ' vs G' H' φ' fs r' o _ q _
  obtain ⟨t, u, x, y, f, g', rfl, rfl, o1, o2, _⟩ := o.two
  refine hr x y H' Q ?_
  simp only [fin2] at q
  split at q
  · rename_i d d' h1 h2
    exact ⟨σ, G', φ', ρ', d, d', r', o1.vw r' h1, o2.vw r' h2, q⟩
  · exact q.elim
/-- one operand -/
def rD1 (K : PySem.W.Frag) (xr : XR) (W : WX) (g : PyData → Option S) : V → Hp → VK → Prop := fun x H Q => ∃ σ G φ ρ d, SR K G H ρ σ φ ∧ VW K G H x d ∧ PoE K xr W σ G H φ (ofO (g d) ρ) Q
theorem op1 {a : A} {g : PyData → Option S} {r : V → Hp → VK → Prop} (hr : ∀ x H Q, rD1 K xr W g x H Q → r x H Q) (sr : SR K G H ρ σ φ)
    (h : PoE K xr W σ G H φ ((evA Φ a ρ).bnd fun t ρ' => fin1 a t ρ' g) Q) : tUn r (tA K xr W Φ a) σ H Q := by
  have h' : PoE K xr W σ G H φ ((evAs Φ [a] ρ).bnd fun ts ρ'' => match ts with
    | [t] => fin1 a t ρ'' g
    | _ => .stk) Q := by
    simp only [evAs]
    cases e1 : evA Φ a ρ with
    | stk => rw [e1] at h; exact h
    | exc c d ρ' => rw [e1] at h; exact h
    | ok t ρ1 => rw [e1] at h; exact h
  refine opsE (as := [a]) (Q := Q) (Qr := fun vs H2 => match vs with | [x] => r x H2 Q | _ => False) sr h' ?_
  intro ts ρ' vs G' H' φ' fs r' o _ q _
  obtain ⟨t, x, f, rfl, rfl, o1, _⟩ := o.one
  refine hr x H' Q ?_
  simp only [fin1] at q
  split at q
  · rename_i d h1
    exact ⟨σ, G', φ', ρ', d, r', o1.vw r' h1, q⟩
  · exact q.elim
/-- a built-in's operands -/
def rDs (K : PySem.W.Frag) (xr : XR) (W : WX) (g : List PyData → Option S) : List V → Hp → VK → Prop := fun xs H Q => ∃ σ G φ ρ ds, SR K G H ρ σ φ ∧ VWs K G H xs ds ∧ PoE K xr W σ G H φ (ofO (g ds) ρ) Q
theorem opN {as : List A} {g : List PyData → Option S} {r : List V → Hp → VK → Prop} (hr : ∀ x H Q, rDs K xr W g x H Q → r x H Q) (sr : SR K G H ρ σ φ)
    (h : PoE K xr W σ G H φ ((evAs Φ as ρ).bnd fun ts ρ' => match ress as (ts.map (·.bind view)) ρ' with
      | some ds => ofO (g ds) ρ'
      | none => .stk) Q) : tCB r (tAs K xr W Φ as) σ H Q := by
  refine opsE (Q := Q) sr h ?_
  intro ts ρ' vs G' H' φ' fs r' o _ q _
  refine hr vs H' Q ?_
  split at q
  · rename_i ds h1
    exact ⟨σ, G', φ', ρ', ds, r', o.vws r' h1, q⟩
  · exact q.elim
end
section
variable {X : Cx} {xr : XR} {W : WX}
theorem op_powW : OpR X (binaryOp .Pow) (rI (fun i j => 0 ≤ j ∧ j ≤ 1000 ∧ i.natAbs.log2 < 1000) fun i j => .int (i ^ j.toNat)) := opI fun i j _ _ _ _ _ hc q => by
  refine pow_int hc.1 ?_ q
  have b : Builtin.Int.intBits i ≤ i.natAbs.log2 + 1 := by
    unfold Builtin.Int.intBits
    split <;> omega
  have h1 : Builtin.Int.intBits i ≤ 1000 := by have := hc.2.2; omega
  have h2 : ((Builtin.Int.intBits i : Nat) : Int) * j ≤ 1000 * 1000 := Int.mul_le_mul (by omega) hc.2.1 hc.1 (by decide)
  omega
theorem vals_len {xs : List V} {us : List Value} (r : Vals xs us) : xs.length = us.length := r.length
def rCatL (K : PySem.W.Frag) : R2 := fun x y H Q => ∃ l b xs zs, x = .ref l ∧ y = .ref b ∧ SqL K H l xs ∧ SqL K H b zs ∧ xs.length + zs.length ≤ sizeLine ∧ ∀ p, H p = none → Q (.ref p) (upd H p (.lst (xs ++ zs)))
theorem op_catL : OpR X (binaryOp .Add) (rCatL X.K) := by
  intro pins s σ H x y v u Q I rx ry h
  obtain ⟨l, b, xs, zs, rfl, rfl, hH, hB, hz, q⟩ := h
  cases rx
  cases ry
  obtain ⟨its, r, p1, _⟩ := I.list hH
  obtain ⟨its2, r2, p2, _⟩ := I.list hB
  obtain ⟨⟨cls, dd, data, sl⟩, ho, hc, n, hd⟩ := p1.isList
  obtain ⟨⟨cls2, dd2, data2, sl2⟩, ho2, hc2, n2, hd2⟩ := p2.isList
  simp only at hc hd hc2 hd2
  subst hc hd hc2 hd2
  have e : its.toArray ++ its2.toArray = (its ++ its2).toArray := by simp
  refine concat_meets ⟨_, ho, rfl⟩ ⟨_, ho2, rfl⟩ noFill_list_add seq_list_add PySem.F.slot_list_add PySem.F.entry_list_add (PySem.F.args_list_add_2 _ _) (list_addW l b its.toArray its2.toArray n n2 dd dd2 sl sl2 (by rw [List.size_toArray, List.size_toArray, ← r.length, ← r2.length]; exact hz)) ⟨ho, ho2, ?_⟩
  rw [e]
  exact ⟨.ref _, _, I.lnew (t' := s.toks) (r.append r2) (by rw [List.length_append]; exact hz), rfl, q _ I.fresh⟩
def rRepL (K : PySem.W.Frag) : R2 := fun x y H Q => ∃ l k xs, x = .ref l ∧ y = .int k ∧ SqL K H l xs ∧ 0 ≤ k ∧ k < 2 ^ 63 ∧ xs.length * k.toNat ≤ sizeLine ∧
  ∀ p, H p = none → Q (.ref p) (upd H p (.lst (List.replicate k.toNat xs).flatten))
theorem op_repL : OpR X (binaryOp .Mult) (rRepL X.K) := by
  intro pins s σ H x y v u Q I rx ry h
  obtain ⟨l, k, xs, rfl, rfl, hH, h0, h1, hz, q⟩ := h
  cases rx
  obtain ⟨t, rfl⟩ := ry
  obtain ⟨its, r, p1, _⟩ := I.list hH
  obtain ⟨⟨cls, d, data, sl⟩, ho, hcl, n, hd⟩ := p1.isList
  simp only at hcl hd
  subst hcl hd
  have hsl := sizeLine_eq
  have hl : xs.length = its.length := r.length
  have hsz' : its.toArray.size * k.toNat ≤ 2 ^ 24 := by rw [List.size_toArray, ← hl]; omega
  refine wpAny_binaryOp_repeat_ref (T := "list") (U := "int") (by decide) ⟨_, ho, rfl⟩ (fun s' => typeIs_int s' k t) noFill_list_mul PySem.F.fills_int_mul PySem.F.slot_int_rmul repeat_list PySem.F.slot_int_index.lookup
    (call_meets PySem.F.slot_int_rmul (typeIs_int s k t) PySem.F.entry_int_rmul (PySem.F.args_int_rmul_2 _ _) (lm_int_rmul_list_any k t l its.toArray n d sl)
      ⟨ho, rfl, ⟨_, ho, rfl⟩, call_meets PySem.F.slot_list_mul ⟨_, ho, rfl⟩ PySem.F.entry_list_mul (PySem.F.args_list_mul_2 _ _)
        (lm_list_mul_any l its.toArray n d sl k t (by simp [Builtin.List.listFitsIndex]; omega) (by omega) (by simp [Builtin.List.listTooLong, sizeLine]; omega))
        ⟨ho, ?_⟩⟩)
  have ef := listMul_foldl_if its.toArray k.toNat
  simp only [] at ef
  rw [ef]
  exact ⟨.ref _, _, I.lnew (t' := s.toks) (r.rep k.toNat) (by rw [PyProof.Rows.lm_len_rep_flat, Nat.mul_comm]; exact hz), rfl, q _ I.fresh⟩
def srcB : Bop → Operator
  | .add => .Add
  | .sub => .Sub
  | .mul => .Mult
  | .fdiv => .FloorDiv
  | .mod => .Mod
  | .pow => .Pow
theorem opB_ok (o : Bop) : OpR X (binaryOp (srcB o)) (rD X.K xr W (opB o)) := by
  intro pins s σ H x y v u Q I rx ry h
  obtain ⟨σ0, G, φ, ρ, d, e, sr, vx, vy, h⟩ := h
  unfold opB at h
  split at h
  · rw [vx.int] at rx; rw [vy.int] at ry
    exact op_add pins s σ H _ _ v u Q I rx ry ⟨_, _, rfl, rfl, fin_int sr h⟩
  · rw [vx.int] at rx; rw [vy.int] at ry
    exact op_sub pins s σ H _ _ v u Q I rx ry ⟨_, _, rfl, rfl, fin_int sr h⟩
  · rw [vx.int] at rx; rw [vy.int] at ry
    split at h
    · rename_i hc
      simp only [mulOk, Bool.or_eq_true, decide_eq_true_eq] at hc
      rcases hc with (hc | hc) | hc
      · exact op_mul pins s σ H _ _ v u Q I rx ry ⟨_, _, rfl, rfl, .inl (by omega), fin_int sr h⟩
      · exact op_mul pins s σ H _ _ v u Q I rx ry ⟨_, _, rfl, rfl, .inr (by omega), fin_int sr h⟩
      · exact op_mulW pins s σ H _ _ v u Q I rx ry ⟨_, _, rfl, rfl, hc, fin_int sr h⟩
    · exact h.elim
  · rw [vx.int] at rx; rw [vy.int] at ry
    split at h
    · rename_i hc
      simp only [divOk, Bool.and_eq_true, decide_eq_true_eq] at hc
      exact op_fdivW pins s σ H _ _ v u Q I rx ry ⟨_, _, rfl, rfl, hc, fin_int sr h⟩
    · exact h.elim
  · rw [vx.int] at rx; rw [vy.int] at ry
    split at h
    · rename_i hc
      exact op_mod pins s σ H _ _ v u Q I rx ry ⟨_, _, rfl, rfl, of_decide_eq_true hc, fin_int sr h⟩
    · exact h.elim
  · rw [vx.int] at rx; rw [vy.int] at ry
    split at h
    · rename_i hc
      simp only [powOk, Bool.and_eq_true, decide_eq_true_eq] at hc
      exact op_powW pins s σ H _ _ v u Q I rx ry ⟨_, _, rfl, rfl, ⟨hc.1.1, by have := hc.1.2; omega, hc.2⟩, fin_int sr h⟩
    · exact h.elim
  · rw [vx.str] at rx; rw [vy.str] at ry
    split at h
    · rename_i hc
      exact op_add_str pins s σ H _ _ v u Q I rx ry ⟨_, _, rfl, rfl, of_decide_eq_true hc, fin_str sr h⟩
    · exact h.elim
  · obtain ⟨a, xs, rfl, h1, h2⟩ := vx.list sr.gh
    obtain ⟨b, ys, rfl, h3, h4⟩ := vy.list sr.gh
    split at h
    · rename_i hc
      exact op_catL pins s σ H _ _ v u Q I rx ry ⟨a, b, xs, ys, rfl, rfl, h1, h3, by rw [h2.length, h4.length]; exact of_decide_eq_true hc, fun p hp => fin_lst sr hp (h2.app h4) h⟩
    · exact h.elim
  · obtain ⟨a, xs, rfl, h1, h2⟩ := vx.tupX
    obtain ⟨b, ys, rfl, h3, h4⟩ := vy.tupX
    split at h
    · rename_i hc
      have hz := of_decide_eq_true hc
      refine op_catA pins s σ H _ _ v u Q I rx ry ⟨a, b, xs, ys, rfl, rfl, .inl (.inl (sr.gh _ _ h1)), .inl (.inl (sr.gh _ _ h3)), by rw [h2.length, h4.length]; exact hz, fun e => ?_, fun _ e => ?_, fun _ _ p hp => fin_tup sr hp (h2.app h4) h⟩
      · subst e
        cases h2
        exact fin_val sr (.tup h3 h4) h
      · subst e
        cases h4
        rw [List.append_nil] at h
        exact fin_val sr (.tup h1 h2) h
    · exact h.elim
  · rw [vx.str] at rx; rw [vy.int] at ry
    split at h
    · rename_i a k hc
      simp only [Bool.and_eq_true, decide_eq_true_eq] at hc
      obtain ⟨⟨⟨⟨c1, c2⟩, c3⟩, c4⟩, c5⟩ := hc
      obtain ⟨t, rfl⟩ := rx
      obtain ⟨t', rfl⟩ := ry
      have hm : ((a.length : Int)) * k ≤ 1000 * 1000 := Int.mul_le_mul (by omega) (show k ≤ 1000 by omega) (by omega) (by omega)
      have hm2 : a.length * k.toNat ≤ 1000 * 1000 := Nat.mul_le_mul c4 (by omega)
      have n1 : (k == 1 || a.length == 0) = false := by
        rw [beq_false_of_ne (show k ≠ 1 by omega), beq_false_of_ne (show a.length ≠ 0 by omega)]
        rfl
      refine PySem.P.mul_str (by rw [decide_eq_false (by omega), decide_eq_false (by omega)]; rfl) (fun _ _ z => ?_) (fun _ _ => ?_) ?_
      · have q : (a.length : Int) ≤ (2 ^ 63 - 1) / k := (Int.le_ediv_iff_mul_le (by omega)).mpr (by omega)
        omega
      · unfold Builtin.Str.tooLong
        have := sizeLine_eq
        exact decide_eq_false (by omega)
      · rw [if_neg (by omega), n1, if_neg Bool.false_ne_true]
        exact ⟨c5, .str (repS a k), H, I.tok _, ⟨_, rfl⟩, fin_str sr h⟩
    · exact h.elim
  · obtain ⟨a, xs, rfl, h1, h2⟩ := vx.list sr.gh
    rw [vy.int] at ry
    split at h
    · rename_i hc
      simp only [Bool.and_eq_true, decide_eq_true_eq] at hc
      exact op_repL pins s σ H _ _ v u Q I rx ry ⟨a, _, xs, rfl, rfl, h1, hc.1.1, by have := hc.1.2; omega, by rw [h2.length]; exact hc.2, fun p hp => fin_lst sr hp (h2.rep _) h⟩
    · exact h.elim
  · exact h.elim
def srcC : Cop → CmpOp
  | .eq => .Eq
  | .ne => .NotEq
  | .lt => .Lt
  | .le => .LtE
  | .gt => .Gt
  | .ge => .GtE
  | .is => .Is
  | .isnot => .IsNot
  | .mem => .In
  | .notmem => .NotIn
theorem VW.isN {K : PySem.W.Frag} {G H : Hp} {v : V} {d : PyData} (h : VW K G H v d) : decide (v = .non) = isNone d := by
  rcases h with h | ⟨a, vs, ds, rfl, rfl, h1, h2⟩ | ⟨a, ds, rfl, rfl, _⟩
  · cases h <;> rfl
  · rfl
  · rfl
theorem canLay_of {d : PyData} (h : SeqAt.shaped d = true) : d.canLay0 = true := SeqAt.canLay_of_shaped h
theorem keyD_kD (k : Key) : keyD (kD k) = some k := by cases k <;> rfl
theorem keyD_kV {K : PySem.W.Frag} {G H : Hp} {x : V} {d : PyData} {k : Key} (h : keyD d = some k) (vx : VW K G H x d) : x = kV k := by
  cases d with
  | int i => cases h; exact vx.int
  | str z => cases h; exact vx.str
  | _ => cases h
theorem keysD_dks {K : PySem.W.Frag} {G : Hp} : ∀ {kv : List (Key × V)} {kvs : List (PyData × PyData)} {ks : List Key}, DKs K G kv kvs → keysD kvs = some ks → ks = kv.map (·.1)
  | _, _, _, .nil, h => by cases h; rfl
  | _, _, ks, .cons (k := k) (vs := vs) (ds := ds) _ r, h => by
    simp only [keysD, keyD_kD] at h
    cases e : keysD ds with
    | none => rw [e] at h; cases h
    | some ks' =>
      rw [e] at h
      cases h
      rw [keysD_dks r e]
      rfl
theorem inDict_ok {K : PySem.W.Frag} {G H : Hp} {x y : V} {a : PyData} {kvs : List (PyData × PyData)} {b : Bool} (gh : Same G H) (h : inDict a kvs = some b) (vx : VW K G H x a) (vy : VW K G H y (.dict kvs)) : ∃ c o, y = .ref c ∧ DGet H c x o ∧ o.isSome = b := by
  unfold inDict at h
  cases e1 : keyD a with
  | none => rw [e1] at h; cases h
  | some k =>
    cases e2 : keysD kvs with
    | none => rw [e1, e2] at h; cases h
    | some ks =>
      rw [e1, e2] at h
      simp only at h
      obtain rfl := keyD_kV e1 vx
      have fk : ∀ {c : Addr} {kv : List (Key × V)}, H c = some (.dK kv) → DKs K G kv kvs → ∃ c' o, V.ref c = .ref c' ∧ DGet H c' (kV k) o ∧ o.isSome = b := fun {c kv} hc hd => by
        refine ⟨c, _, rfl, DGet.k hc, ?_⟩
        rw [← valV_any]
        obtain rfl := keysD_dks hd e2
        split at h
        · cases h
        · rw [← Option.some.inj h, List.any_map]
          rfl
      have ft : ∀ {kv : List (List Key × V)}, DTs K G kv kvs → False := fun {kv} hd => by
        cases hd with
        | nil => cases e2; cases h
        | cons _ _ => simp [keysD, keyD] at e2
      rcases vy with vy | ⟨_, _, _, _, z, _⟩ | ⟨c, ds, rfl, z, kv, hc, hd⟩
      · cases vy with
        | dctK hc hd => exact fk (gh _ _ hc) hd
        | dctT hc hd _ => exact (ft hd).elim
        | err => simp [keysD, keyD] at e2
      · cases z
      · cases z
        exact fk hc hd
theorem cmp_ok (hu : X.A.units + 70 < cLine) (o : Cop) : OpR X (compareOp (srcC o)) (rD X.K xr W (cmpS o)) := by
  intro pins s σ H x y v u Q I rx ry h
  obtain ⟨σ0, G, φ, ρ, d, e, sr, vx, vy, h⟩ := h
  unfold cmpS opC at h
  split at h
  · rw [vx.str] at rx
    rw [vy.str] at ry
    refine op_eq pins s σ H _ _ v u Q I rx ry ⟨rfl, ?_⟩
    rw [decide_eq_decide.mpr (Iff.intro V.str.inj (congrArg V.str))]
    exact fin_bool sr h
  · rw [vx.str] at rx
    rw [vy.str] at ry
    refine op_ne pins s σ H _ _ v u Q I rx ry ⟨rfl, ?_⟩
    rw [decide_eq_decide.mpr (Iff.intro V.str.inj (congrArg V.str))]
    exact fin_bool sr h
  · rename_i xs
    obtain ⟨a, ws, rfl, h1, h2⟩ := vx.list sr.gh
    obtain ⟨b, zs, rfl, h3, h4⟩ := vy.list sr.gh
    cases h4
    cases xs with
    | nil => exact op_eqD (by omega) pins s σ H _ _ v u Q I rx ry ⟨_, _, (vx.dp sr.gh).dp rfl, (vy.dp sr.gh).dp rfl, rfl, rfl, fin_bool sr h⟩
    | cons z xs =>
      cases (show v = Value.ref a from rx)
      cases (show u = Value.ref b from ry)
      obtain ⟨its, rv, p1, _⟩ := I.list h1
      obtain ⟨its2, rv2, p2, _⟩ := I.list h3
      have l1 := rv.length
      have l2 := rv2.length
      have l3 := h2.length
      have ne : (its.toArray.size != its2.toArray.size) = true := by
        rw [List.size_toArray, List.size_toArray, ← l1, ← l2, l3]
        rfl
      exact SeqAt.RcAt.lists_lengths p1.isList p2.isList ne (by omega) X.prog X.w _ _ ⟨.bl false, H, I, rfl, fin_bool sr h⟩
  · split at h
    · rename_i hc
      rw [Bool.and_eq_true] at hc
      exact op_eqD (by omega) pins s σ H _ _ v u Q I rx ry ⟨_, _, (vx.dp sr.gh).dp (canLay_of hc.1), (vy.dp sr.gh).dp (canLay_of hc.2), hc.1, hc.2, fin_bool sr h⟩
    · exact h.elim
  · split at h
    · rename_i hc
      rw [Bool.and_eq_true] at hc
      exact op_neD (by omega) pins s σ H _ _ v u Q I rx ry ⟨_, _, (vx.dp sr.gh).dp (canLay_of hc.1), (vy.dp sr.gh).dp (canLay_of hc.2), hc.1, hc.2, fin_bool sr h⟩
    · exact h.elim
  · rw [vx.int] at rx; rw [vy.int] at ry
    exact op_lt pins s σ H _ _ v u Q I rx ry ⟨_, _, rfl, rfl, fin_bool sr h⟩
  · rw [vx.int] at rx; rw [vy.int] at ry
    exact op_le pins s σ H _ _ v u Q I rx ry ⟨_, _, rfl, rfl, fin_bool sr h⟩
  · rw [vx.int] at rx; rw [vy.int] at ry
    exact op_gt pins s σ H _ _ v u Q I rx ry ⟨_, _, rfl, rfl, fin_bool sr h⟩
  · rw [vx.int] at rx; rw [vy.int] at ry
    exact op_ge pins s σ H _ _ v u Q I rx ry ⟨_, _, rfl, rfl, fin_bool sr h⟩
  · rw [vy.none] at ry
    refine op_isN pins s σ H _ _ v u Q I rx ry ⟨rfl, ?_⟩
    rw [vx.isN]
    exact fin_bool sr h
  · rw [vy.none] at ry
    refine op_notN pins s σ H _ _ v u Q I rx ry ⟨rfl, ?_⟩
    rw [vx.isN]
    exact fin_bool sr h
  · rw [vx.bool] at rx
    rw [vy.bool] at ry
    exact op_isBl pins s σ H _ _ v u Q I rx ry ⟨_, _, rfl, rfl, fin_bool sr h⟩
  · rw [vx.bool] at rx
    rw [vy.bool] at ry
    exact op_notBl pins s σ H _ _ v u Q I rx ry ⟨_, _, rfl, rfl, fin_bool sr h⟩
  · rw [vx.str] at rx
    rw [vy.str] at ry
    rename_i a z
    cases ec : a.cps.toList with
    | nil => rw [ec] at h; exact h.elim
    | cons c l =>
      cases l with
      | cons _ _ => rw [ec] at h; exact h.elim
      | nil =>
        rw [ec] at h
        have ea : a = ⟨#[c]⟩ := by
          cases a with
          | mk cps => exact congrArg Str.mk (Array.ext' ec)
        subst ea
        exact op_in_sign pins s σ H _ _ v u Q I rx ry ⟨c, z, rfl, rfl, fin_bool sr h⟩
  · rw [vx.str] at rx
    rw [vy.str] at ry
    rename_i a z
    cases ec : a.cps.toList with
    | nil => rw [ec] at h; exact h.elim
    | cons c l =>
      cases l with
      | cons _ _ => rw [ec] at h; exact h.elim
      | nil =>
        rw [ec] at h
        have ea : a = ⟨#[c]⟩ := by
          cases a with
          | mk cps => exact congrArg Str.mk (Array.ext' ec)
        subst ea
        exact op_notIn_sign pins s σ H _ _ v u Q I rx ry ⟨c, z, rfl, rfl, fin_bool sr h⟩
  · split at h
    · rename_i hc
      rw [Bool.and_eq_true] at hc
      exact op_inD (by omega) pins s σ H _ _ v u Q I rx ry ⟨_, _, (vx.dp sr.gh).dp (canLay_of hc.1), (vy.dp sr.gh).dp (canLay_of hc.2), hc.1, hc.2, fin_bool sr h⟩
    · exact h.elim
  · split at h
    · rename_i hc
      rw [Bool.and_eq_true] at hc
      exact op_notInD (by omega) pins s σ H _ _ v u Q I rx ry ⟨_, _, (vx.dp sr.gh).dp (canLay_of hc.1), (vy.dp sr.gh).dp (canLay_of hc.2), hc.1, hc.2, fin_bool sr h⟩
    · exact h.elim
  · split at h
    · rename_i hc
      rw [Bool.and_eq_true] at hc
      obtain ⟨as, r1⟩ := Dp.reads I _ x v ((vx.dp sr.gh).dp (canLay_of hc.1)) rx
      obtain ⟨bs, r2⟩ := Dp.reads I _ y u ((vy.dp sr.gh).dp (canLay_of hc.2)) ry
      exact SeqAt.in_tuple_reads r2 r1 (SeqAt.canLay_of_shaped hc.2) (canLay_of hc.1) (room_in_shaped hc.1 (by omega)) ⟨.bl _, H, I, rfl, fin_bool sr h⟩
    · exact h.elim
  · split at h
    · rename_i hc
      rw [Bool.and_eq_true] at hc
      obtain ⟨as, r1⟩ := Dp.reads I _ x v ((vx.dp sr.gh).dp (canLay_of hc.1)) rx
      obtain ⟨bs, r2⟩ := Dp.reads I _ y u ((vy.dp sr.gh).dp (canLay_of hc.2)) ry
      exact SeqAt.notIn_tuple_reads r2 r1 (SeqAt.canLay_of_shaped hc.2) (canLay_of hc.1) (room_in_shaped hc.1 (by omega)) ⟨.bl _, H, I, rfl, fin_bool sr h⟩
    · exact h.elim
  · rename_i kvs
    cases e2 : inDict d kvs with
    | none => rw [e2] at h; exact h.elim
    | some b =>
      rw [e2] at h
      obtain ⟨c, o, rfl, g, eo⟩ := inDict_ok sr.gh e2 vx vy
      cases (show u = Value.ref c from ry)
      exact d_in (by omega) I g rx fun s' I' => ⟨.bl o.isSome, H, I', rfl, by rw [eo]; exact fin_bool sr h⟩
  · rename_i kvs
    cases e2 : inDict d kvs with
    | none => rw [e2] at h; exact h.elim
    | some b =>
      rw [e2] at h
      obtain ⟨c, o, rfl, g, eo⟩ := inDict_ok sr.gh e2 vx vy
      cases (show u = Value.ref c from ry)
      exact d_notIn (by omega) I g rx fun s' I' => ⟨.bl (!o.isSome), H, I', rfl, by rw [eo]; exact fin_bool sr h⟩
  · exact h.elim
end
end VE

/-! VP: places in boxes: what stands there is taken out and put back. -/
namespace VE
open PySem L2 PySem.Spec PyProof.Rows
section
variable {K : PySem.W.Frag} {G G' H H' : Hp}
theorem ixo_get {α : Type} [DecidableEq α] {x : α} : ∀ {l : List α} {j : Nat}, ixo x l = some j → l[j]? = some x
  | [], _, h => by cases h
  | y :: r, j, h => by
    unfold ixo at h
    split at h
    · rename_i e
      cases h
      simp [e]
    · cases q : ixo x r with
      | none => rw [q] at h; cases h
      | some i =>
        rw [q] at h
        cases h
        simpa using ixo_get q
theorem child_lt {b : Bx} {n : Nat} {k : Pk} {j : Nat} {a : Addr} {vs : List V} {ex : List Addr} (hb : BoxAt K H b a vs ex) (hn : vs.length = n) (h : child b n k = some j) : j < n := by
  cases b with
  | obj c ns =>
    obtain ⟨_, _, _, _, _, _, hl, _⟩ := hb
    cases k with
    | fld f =>
      simp only [child] at h
      split at h
      · have := (List.getElem?_eq_some_iff.mp (ixo_get h)).1
        omega
      · cases h
    | key d => cases h
  | dK ks =>
    obtain ⟨_, _, hl⟩ := hb
    cases k with
    | fld f => cases h
    | key d =>
      simp only [child] at h
      split at h
      · have := (List.getElem?_eq_some_iff.mp (ixo_get h)).1
        omega
      · cases h
  | dT ks =>
    obtain ⟨_, _, hl⟩ := hb
    cases k with
    | fld f => cases h
    | key d =>
      simp only [child] at h
      split at h
      · have := (List.getElem?_eq_some_iff.mp (ixo_get h)).1
        omega
      · cases h
  | lst =>
    cases k with
    | fld f => cases h
    | key d =>
      cases d with
      | int i => exact (ixN_seq h).2.1
      | _ => cases h
/-- the pointers along a path -/
inductive Ptr (K : PySem.W.Frag) (H : Hp) : V → List Pk → V → Prop
  | nil {v : V} : Ptr K H v [] v
  | cons {b : Bx} {a : Addr} {vs : List V} {ex : List Addr} {k : Pk} {π : List Pk} {j : Nat} {u w : V} : BoxAt K H b a vs ex → child b vs.length k = some j → vs[j]? = some u → Ptr K H u π w → Ptr K H (.ref a) (k :: π) w
theorem zip_inj {α β : Type} {xs xs' : List α} {ys ys' : List β} (h : xs.zip ys = xs'.zip ys') (l : xs.length = ys.length) (l' : xs'.length = ys'.length) : xs = xs' ∧ ys = ys' := by
  have e1 := congrArg (List.map Prod.fst) h
  have e2 := congrArg (List.map Prod.snd) h
  rw [List.map_fst_zip (Nat.le_of_eq l), List.map_fst_zip (Nat.le_of_eq l')] at e1
  rw [List.map_snd_zip (Nat.le_of_eq l.symm), List.map_snd_zip (Nat.le_of_eq l'.symm)] at e2
  exact ⟨e1, e2⟩
theorem BoxAt.same {b b' : Bx} {a : Addr} {vs vs' : List V} {ex ex' : List Addr} {k : Pk} {j j' : Nat} {u u' : V} (h : BoxAt K H b a vs ex) (h' : BoxAt K H b' a vs' ex') (c : child b vs.length k = some j) (c' : child b' vs'.length k = some j') (e : vs[j]? = some u) (e' : vs'[j']? = some u') : u = u' := by
  have fin : vs = vs' → j = j' → u = u' := fun e1 e2 => by
    subst e1 e2
    rw [e] at e'
    exact Option.some.inj e'
  cases b with
  | obj n ns =>
    obtain ⟨_, _, _, h1, _, _, l, _⟩ := h
    cases b' with
    | obj n' ns' =>
      obtain ⟨_, _, _, h1', _, _, l', _⟩ := h'
      rw [h1] at h1'
      cases k with
      | fld f =>
        obtain ⟨rfl, rfl⟩ := zip_inj (by injection h1' with z; injection z) l l'
        simp only [child] at c c'
        split at c
        · split at c'
          · exact fin rfl (Option.some.inj (c.symm.trans c'))
          · cases c'
        · cases c
      | key d => cases c
    | dK ks => have z := h'.1; rw [h1] at z; cases z
    | dT ks => have z := h'.1; rw [h1] at z; cases z
    | lst => have z := h'.1; rw [h1] at z; cases z
  | dK ks =>
    obtain ⟨h1, _, l⟩ := h
    cases b' with
    | obj n' ns' => obtain ⟨_, _, _, h1', _⟩ := h'; rw [h1] at h1'; cases h1'
    | dK ks' =>
      obtain ⟨h1', _, l'⟩ := h'
      rw [h1] at h1'
      obtain ⟨rfl, rfl⟩ := zip_inj (by injection h1' with z; injection z) l l'
      exact fin rfl (Option.some.inj (c.symm.trans c'))
    | dT ks' => have z := h'.1; rw [h1] at z; cases z
    | lst => have z := h'.1; rw [h1] at z; cases z
  | dT ks =>
    obtain ⟨h1, _, l⟩ := h
    cases b' with
    | obj n' ns' => obtain ⟨_, _, _, h1', _⟩ := h'; rw [h1] at h1'; cases h1'
    | dK ks' => have z := h'.1; rw [h1] at z; cases z
    | dT ks' =>
      obtain ⟨h1', _, l'⟩ := h'
      rw [h1] at h1'
      obtain ⟨rfl, rfl⟩ := zip_inj (by injection h1' with z; injection z) l l'
      exact fin rfl (Option.some.inj (c.symm.trans c'))
    | lst => have z := h'.1; rw [h1] at z; cases z
  | lst =>
    obtain ⟨h1, _⟩ := h
    cases b' with
    | obj n' ns' => obtain ⟨_, _, _, h1', _⟩ := h'; rw [h1] at h1'; cases h1'
    | dK ks' => have z := h'.1; rw [h1] at z; cases z
    | dT ks' => have z := h'.1; rw [h1] at z; cases z
    | lst =>
      obtain ⟨h1', _⟩ := h'
      rw [h1] at h1'
      injection h1' with z
      injection z with z
      subst z
      exact fin rfl (Option.some.inj (c.symm.trans c'))
theorem Ptr.fn : ∀ {π : List Pk} {v u u' : V}, Ptr K H v π u → Ptr K H v π u' → u = u'
  | [], _, _, _, p, p' => by cases p; cases p'; rfl
  | k :: π, _, _, _, p, p' => by
    cases p with
    | cons h1 h2 h3 h4 =>
      cases p' with
      | cons g1 g2 g3 g4 =>
        obtain rfl := h1.same g1 h2 g2 h3 g3
        exact Ptr.fn h4 g4
theorem RelSs.len : ∀ {ss : List S} {vs : List V} {gs : List (List Addr)}, RelSs K G H ss vs gs → vs.length = ss.length ∧ gs.length = ss.length
  | [], vs, gs, r => by
    simp only [RelSs] at r
    rw [r.1, r.2]
    exact ⟨rfl, rfl⟩
  | s :: ss, vs, gs, r => by
    simp only [RelSs] at r
    obtain ⟨v, vs', g', gs', rfl, rfl, _, h2⟩ := r
    have := RelSs.len h2
    simp [this.1, this.2]
theorem RelSs.get : ∀ {ss : List S} {vs : List V} {gs : List (List Addr)} {j : Nat}, RelSs K G H ss vs gs → j < ss.length → ∃ u g, vs[j]? = some u ∧ gs[j]? = some g ∧ RelS K G H (ss.getD j .dead) u g
  | [], _, _, _, _, h => by simp at h
  | s :: ss, vs, gs, j, r, h => by
    simp only [RelSs] at r
    obtain ⟨v, vs', g', gs', rfl, rfl, h1, h2⟩ := r
    cases j with
    | zero => exact ⟨v, g', rfl, rfl, h1⟩
    | succ j =>
      obtain ⟨u, g, e1, e2, q⟩ := RelSs.get (j := j) h2 (by simpa using h)
      exact ⟨u, g, by simpa using e1, by simpa using e2, by simpa using q⟩
theorem RelSs.set : ∀ {ss : List S} {vs : List V} {gs : List (List Addr)} {j : Nat} {t : S} {u : V} {g : List Addr}, RelSs K G H ss vs gs → vs[j]? = some u → RelS K G H t u g → RelSs K G H (ss.set j t) vs (gs.set j g)
  | [], vs, gs, j, t, u, g, r, e, h => by
    simp only [RelSs] at r
    rw [r.1] at e
    cases e
  | s :: ss, vs, gs, j, t, u, g, r, e, h => by
    simp only [RelSs] at r
    obtain ⟨v, vs', g', gs', rfl, rfl, h1, h2⟩ := r
    cases j with
    | zero =>
      cases e
      exact ⟨_, vs', g, gs', rfl, rfl, h, h2⟩
    | succ j => exact ⟨v, vs', g', gs'.set j g, rfl, rfl, h1, RelSs.set h2 (by simpa using e) h⟩
theorem RelS.nodup {s : S} {v : V} {f : List Addr} (r : RelS K G H s v f) : f.Nodup := by
  cases s with
  | val d => rw [r.2]; exact List.nodup_nil
  | lst xs => obtain ⟨a, vs, _, _, _, e⟩ := r; rw [e]; simp
  | dct kvs => obtain ⟨a, _, e, _⟩ := r; rw [e]; simp
  | dtt kvs => obtain ⟨a, _, e, _⟩ := r; rw [e]; simp
  | box b fs => obtain ⟨_, _, _, _, _, _, _, _, nd⟩ := r; exact nd
  | dead => rw [show f = [] from r]; exact List.nodup_nil
/-- the j-th of disjoint parts replaced -/
theorem flat_set {gs : List (List Addr)} {j : Nat} {g g' : List Addr} (h : gs[j]? = some g) (nd : gs.flatten.Nodup) (nd' : g'.Nodup) (off : ∀ a ∈ g', a ∈ gs.flatten → a ∈ g) :
    (gs.set j g').flatten.Nodup ∧ ∀ a, a ∈ (gs.set j g').flatten ↔ (a ∈ gs.flatten ∧ a ∉ g) ∨ a ∈ g' := by
  induction gs generalizing j with
  | nil => cases h
  | cons x gs ih =>
    rw [List.flatten_cons, List.nodup_append] at nd
    obtain ⟨n1, n2, n3⟩ := nd
    cases j with
    | zero =>
      cases h
      rw [List.set_cons_zero, List.flatten_cons]
      refine ⟨List.nodup_append.mpr ⟨nd', n2, fun a ha b hb e => ?_⟩, fun a => ?_⟩
      · subst e
        have := off a ha (by rw [List.flatten_cons]; exact List.mem_append_right _ hb)
        exact n3 a this a hb rfl
      · rw [List.mem_append, List.flatten_cons, List.mem_append]
        constructor
        · rintro (q | q)
          · exact .inr q
          · exact .inl ⟨.inr q, fun z => n3 a z a q rfl⟩
        · rintro (⟨q | q, z⟩ | q)
          · exact absurd q z
          · exact .inr q
          · exact .inl q
    | succ j =>
      have hg : gs[j]? = some g := by simpa using h
      have gm : ∀ a ∈ g, a ∈ gs.flatten := fun a ha => List.mem_flatten.mpr ⟨g, List.mem_of_getElem? hg, ha⟩
      obtain ⟨m1, m2⟩ := ih hg n2 fun a ha hb => off a ha (by rw [List.flatten_cons]; exact List.mem_append_right _ hb)
      rw [List.set_cons_succ, List.flatten_cons]
      refine ⟨List.nodup_append.mpr ⟨n1, m1, fun a ha b hb e => ?_⟩, fun a => ?_⟩
      · subst e
        rcases (m2 a).mp hb with ⟨q, _⟩ | q
        · exact n3 a ha a q rfl
        · have := off a q (by rw [List.flatten_cons]; exact List.mem_append_left _ ha)
          exact n3 a ha a (gm a this) rfl
      · rw [List.mem_append, m2 a, List.flatten_cons, List.mem_append]
        constructor
        · rintro (q | ⟨q, z⟩ | q)
          · exact .inl ⟨.inl q, fun z => n3 a q a (gm a z) rfl⟩
          · exact .inl ⟨.inr q, z⟩
          · exact .inr q
        · rintro (⟨q | q, z⟩ | q)
          · exact .inl q
          · exact .inr (.inl ⟨q, z⟩)
          · exact .inr (.inr q)
/-- what stands at a place, and how it is replaced there -/
theorem RelS.focus : ∀ (π : List Pk) {s : S} {v : V} {f : List Addr}, RelS K G H s v f → getS s π ≠ .dead →
    ∃ u g, Ptr K H v π u ∧ RelS K G H (getS s π) u g ∧ (∀ a ∈ g, a ∈ f) ∧
      ∀ {G' H' : Hp} {t : S} {g' : List Addr}, Same G G' → (∀ a ∈ f, a ∉ g → ∀ o, H a = some o → H' a = some o) → RelS K G' H' t u g' → (∀ a ∈ g', a ∈ f → a ∈ g) →
        ∃ f', RelS K G' H' (setS s π t) v f' ∧ Ptr K H' v π u ∧ ∀ a, a ∈ f' ↔ (a ∈ f ∧ a ∉ g) ∨ a ∈ g'
  | [], s, v, f, r, hne => by
    refine ⟨v, f, .nil, r, fun _ h => h, fun {G' H' t g'} e k rt off => ⟨g', rt, .nil, fun a => ⟨.inr, ?_⟩⟩⟩
    rintro (⟨h1, h2⟩ | h)
    · exact absurd h1 h2
    · exact h
  | k :: π, s, v, f, r, hne => by
    cases s with
    | box b fs =>
      cases hc : child b fs.length k with
      | none => rw [getS, hc] at hne; exact absurd rfl hne
      | some j =>
        simp only [getS, hc] at hne ⊢
        obtain ⟨a, vs, gs, ex, rfl, hb, hs, ef, nd⟩ := r
        have hl := hs.len
        have hj := child_lt hb hl.1 hc
        obtain ⟨w, gj, e1, e2, rj⟩ := hs.get hj
        obtain ⟨u, g, p1, p2, p3, p4⟩ := RelS.focus π rj hne
        have gjm : ∀ c ∈ gj, c ∈ gs.flatten := fun c hc' => List.mem_flatten.mpr ⟨gj, List.mem_of_getElem? e2, hc'⟩
        have gf : ∀ c ∈ gj, c ∈ f := fun c hc' => by rw [ef]; exact List.mem_cons_of_mem _ (List.mem_append_right _ (gjm c hc'))
        have nd0 := nd
        rw [ef, List.nodup_cons, List.nodup_append] at nd0
        obtain ⟨n1, n2, n3, n4⟩ := nd0
        have hc2 : child b vs.length k = some j := by rw [hl.1]; exact hc
        refine ⟨u, g, .cons hb hc2 e1 p1, p2, fun c hc' => gf c (p3 c hc'), fun {G' H' t g'} e kp rt off => ?_⟩
        obtain ⟨g2, q1, q2, q3⟩ := p4 e (fun c hc' hn o ho => kp c (gf c hc') hn o ho) rt fun c hc' hm => off c hc' (gf c hm)
        have boxk : ∀ c ∈ a :: ex, ∀ o, H c = some o → H' c = some o := fun c hc' o ho => by
          have cf : c ∈ f := by
            rw [ef]
            rcases List.mem_cons.mp hc' with rfl | hc'
            · exact List.mem_cons_self
            · exact List.mem_cons_of_mem _ (List.mem_append_left _ hc')
          refine kp c cf (fun z => ?_) o ho
          have zf := gjm c (p3 c z)
          rcases List.mem_cons.mp hc' with rfl | hc'
          · exact n1 (List.mem_append_right _ zf)
          · exact n4 c hc' c zf rfl
        have hb' := hb.mono boxk
        have offg : ∀ c ∈ g2, c ∈ gs.flatten → c ∈ gj := fun c hc' hm => by
          rcases (q3 c).mp hc' with ⟨y, _⟩ | y
          · exact y
          · exact p3 c (off c y (by rw [ef]; exact List.mem_cons_of_mem _ (List.mem_append_right _ hm)))
        obtain ⟨m1, m2⟩ := flat_set e2 n3 q1.nodup offg
        -- the others stay
        have hsm : RelSs K G' H' (fs.set j (setS (fs.getD j .dead) π t)) vs (gs.set j g2) := by
          have keep : ∀ (i : Nat) (gi : List Addr), i ≠ j → gs[i]? = some gi → ∀ c ∈ gi, ∀ o, H c = some o → H' c = some o := fun i gi hij hgi c hc' o ho => by
            have cf : c ∈ f := by rw [ef]; exact List.mem_cons_of_mem _ (List.mem_append_right _ (List.mem_flatten.mpr ⟨gi, List.mem_of_getElem? hgi, hc'⟩))
            refine kp c cf (fun z => ?_) o ho
            -- gi and gj are apart
            have zj := p3 c z
            have apart : ∀ (l : List (List Addr)), l.flatten.Nodup → ∀ (i j : Nat) (x y : List Addr), i ≠ j → l[i]? = some x → l[j]? = some y → ∀ c ∈ x, c ∈ y → False := by
              intro l
              induction l with
              | nil => intro _ i j x y _ h; cases h
              | cons z l ih =>
                intro nd i j x y hij hx hy c hcx hcy
                rw [List.flatten_cons, List.nodup_append] at nd
                obtain ⟨a1, a2, a3⟩ := nd
                cases i with
                | zero =>
                  cases j with
                  | zero => exact hij rfl
                  | succ j =>
                    cases hx
                    have hy' : l[j]? = some y := by simpa using hy
                    exact a3 c hcx c (List.mem_flatten.mpr ⟨y, List.mem_of_getElem? hy', hcy⟩) rfl
                | succ i =>
                  have hx' : l[i]? = some x := by simpa using hx
                  cases j with
                  | zero =>
                    cases hy
                    exact a3 c hcy c (List.mem_flatten.mpr ⟨x, List.mem_of_getElem? hx', hcx⟩) rfl
                  | succ j => exact ih a2 i j x y (fun z => hij (by rw [z])) hx' (by simpa using hy) c hcx hcy
            exact apart gs n3 i j gi gj hij hgi e2 c hc' zj
          have gen : ∀ (fs : List S) (vs : List V) (gs : List (List Addr)) (j : Nat) (w : V) (T : S), RelSs K G H fs vs gs → vs[j]? = some w → (∀ (i : Nat) (gi : List Addr), i ≠ j → gs[i]? = some gi → ∀ c ∈ gi, ∀ o, H c = some o → H' c = some o) → RelS K G' H' T w g2 → RelSs K G' H' (fs.set j T) vs (gs.set j g2) := by
            intro fs
            induction fs with
            | nil =>
              intro vs gs j w T r ew
              simp only [RelSs] at r
              rw [r.1] at ew
              cases ew
            | cons s ss ih =>
              intro vs gs j w T r ew kk rT
              simp only [RelSs] at r
              obtain ⟨v, vs', g', gs', rfl, rfl, h1, h2⟩ := r
              cases j with
              | zero =>
                cases ew
                refine ⟨_, vs', g2, gs', rfl, rfl, rT, RelSs.mono h2 e fun gi hgi c hc' => ?_⟩
                obtain ⟨i, hi⟩ := List.getElem?_of_mem hgi
                exact kk (i + 1) gi (Nat.succ_ne_zero i) (by simpa using hi) c hc'
              | succ j =>
                refine ⟨v, vs', g', gs'.set j g2, rfl, rfl, RelS.mono h1 e (kk 0 g' (Nat.succ_ne_zero j).symm rfl), ih vs' gs' j w T h2 (by simpa using ew) (fun i gi hij hgi => kk (i + 1) gi (fun z => hij (Nat.succ.inj z)) (by simpa using hgi)) rT⟩
          exact gen fs vs gs j w _ hs e1 keep q1
        have es : setS (.box b fs) (k :: π) t = .box b (fs.set j (setS (fs.getD j .dead) π t)) := by
          rw [setS, hc]
        rw [es]
        refine ⟨a :: (ex ++ (gs.set j g2).flatten), ⟨a, vs, gs.set j g2, ex, rfl, hb', hsm, rfl, ?_⟩, .cons hb' hc2 e1 q2, fun c => ?_⟩
        · rw [List.nodup_cons, List.nodup_append]
          have out : ∀ c, c ∈ a :: ex → c ∉ (gs.set j g2).flatten := fun c hc' hm => by
            have cf : c ∈ f := by
              rw [ef]
              rcases List.mem_cons.mp hc' with rfl | hc'
              · exact List.mem_cons_self
              · exact List.mem_cons_of_mem _ (List.mem_append_left _ hc')
            have no : c ∉ gs.flatten := fun y => by
              rcases List.mem_cons.mp hc' with rfl | hc'
              · exact n1 (List.mem_append_right _ y)
              · exact n4 c hc' c y rfl
            rcases (m2 c).mp hm with ⟨y, _⟩ | y
            · exact no y
            · rcases (q3 c).mp y with ⟨y, _⟩ | y
              · exact no (gjm c y)
              · exact no (gjm c (p3 c (off c y cf)))
          refine ⟨fun hm => ?_, n2, m1, fun c hc' d hd z => ?_⟩
          · rcases List.mem_append.mp hm with y | y
            · exact n1 (List.mem_append_left _ y)
            · exact out a List.mem_cons_self y
          · subst z
            exact out c (List.mem_cons_of_mem _ hc') hd
        · rw [ef]
          simp only [List.mem_cons, List.mem_append, m2 c, q3 c]
          have g_in : c ∈ g → c ∈ gs.flatten := fun z => gjm c (p3 c z)
          have no1 : c = a → c ∉ g := fun z y => n1 (by rw [← z]; exact List.mem_append_right _ (g_in y))
          have no2 : c ∈ ex → c ∉ g := fun z y => n4 c z c (g_in y) rfl
          constructor
          · rintro (q | q | ⟨q, z⟩ | ⟨q, z⟩ | q)
            · exact .inl ⟨.inl q, no1 q⟩
            · exact .inl ⟨.inr (.inl q), no2 q⟩
            · exact .inl ⟨.inr (.inr q), fun y => z (p3 c y)⟩
            · exact .inl ⟨.inr (.inr (gjm c q)), z⟩
            · exact .inr q
          · rintro (⟨q | q | q, z⟩ | q)
            · exact .inl q
            · exact .inr (.inl q)
            · by_cases y : c ∈ gj
              · exact .inr (.inr (.inr (.inl ⟨y, z⟩)))
              · exact .inr (.inr (.inl ⟨q, y⟩))
            · exact .inr (.inr (.inr (.inr q)))
    | val d => rw [getS] at hne <;> first | exact absurd rfl hne | (intros; contradiction)
    | lst d => rw [getS] at hne <;> first | exact absurd rfl hne | (intros; contradiction)
    | dct d => rw [getS] at hne <;> first | exact absurd rfl hne | (intros; contradiction)
    | dtt d => rw [getS] at hne <;> first | exact absurd rfl hne | (intros; contradiction)
    | dead => rw [getS] at hne <;> first | exact absurd rfl hne | (intros; contradiction)
variable {σ : L2.St} {φ : Nat → List Addr} {ρ : List S}
/-- what stands at a place -/
theorem SR.place {i : Nat} {rπ : List Px} (r : SR K G H ρ σ φ) (h : atP' ρ i rπ ≠ .dead) : ∃ π v0 u g, pthR ρ rπ = some π ∧ σ[i]? = some (some v0) ∧ Ptr K H v0 π u ∧ RelS K G H (atP' ρ i rπ) u g ∧ getS (slot ρ i) π = atP' ρ i rπ ∧ ∀ a ∈ g, a ∈ φ i := by
  unfold atP' at h ⊢
  cases e : pthR ρ rπ with
  | none => rw [e] at h; exact absurd rfl h
  | some π =>
    rw [e] at h
    simp only at h ⊢
    have nd : slot ρ i ≠ .dead := fun z => by
      rw [z] at h
      cases π with
      | nil => exact h rfl
      | cons k π => exact h rfl
    obtain ⟨v, hv, q⟩ := r.at nd
    obtain ⟨u, g, p1, p2, p3, _⟩ := q.focus π h
    exact ⟨π, v, u, g, rfl, hv, p1, p2, rfl, p3⟩
/-- the reading of a place -/
def tPt (K : PySem.W.Frag) (i : Nat) (rπ : List Px) : TE := fun σ H Q => ∃ ρ G φ π v0 u, SR K G H ρ σ φ ∧ pthR ρ rπ = some π ∧ σ[i]? = some (some v0) ∧ Ptr K H v0 π u ∧ Q u H
end
end VE

/-! VT: sum of a tuple of ints, dicts with tuple keys: a display of one pair, len, a lock that stays. -/
namespace VE
open PySem L2 PySem.Spec PyProof.Rows
section
variable {prog : Program} {w : World} {A : Around} {E : Value → Shared → Prop} {s : Shared}
theorem sum_tup {l : Addr} {its : List Value} {ns : List Int} {Q : Value → Shared → Prop} (hh : A.handled = none) (hl : s.heap.IsTuple l its.toArray) (hi : IntsAre its ns)
    (h : ∀ h' tk t', (∀ b o, s.heap.get? b = some o → h'.get? b = some o) → Q (.int ns.sum t') { s with heap := h', toks := tk }) : wpAny (model prog w) A (call (.builtin "sum") [.ref l]) Q E s := by
  obtain ⟨xs, e⟩ := hi.allInts.items
  have hn : numsOf (intItems xs).toList = ns := by
    rw [← e]
    exact hi.numsOf
  rw [nums_intItems] at hn
  rw [e] at hl
  have lt : l < s.heap.objs.size := by
    obtain ⟨_, q, _⟩ := id hl
    exact Heap.lt_size q
  refine call_sum_walkG (wpAny_pyIter_tuple hl ?_)
  refine ⟨_, _, _, _, _, _, numAt xs, rfl, Walks.tuple (A := A.in1) hh _ l (Nat.ne_of_lt lt) (intItems xs), ⟨⟨_, Heap.get?_push_size _ rfl, rfl, rfl⟩, hl.at fun o q => Heap.get?_push_of_some _ q⟩, fun b hb => ?_, (fun _ _ => intItems_at), fun h' tk t' hk => ?_⟩
  · show b < (s.heap.push _).objs.size
    rw [Heap.size_push]
    rcases (by simpa using hb : b = s.heap.objs.size ∨ b = l) with z | z
    · rw [z]; exact Nat.lt_succ_self _
    · rw [z]; exact Nat.lt_succ_of_lt lt
  · have q := h h' tk t' fun b o hb => hk b o (by
      have : b < s.heap.objs.size := Heap.lt_size hb
      simp
      exact Nat.ne_of_lt this) (Heap.get?_push_of_some _ hb)
    have z : preSum (numAt xs) (intItems xs).size = ns.sum := by
      rw [preSum_eq, List.take_of_length_le (by simp [intItems]), hn]
    rw [z]
    exact q
end
section
variable {X : Cx}
def rSumT (K : PySem.W.Frag) : List V → Hp → VK → Prop := fun vs H Q => ∃ (a : Addr) (ns : List Int), vs = [V.ref a] ∧ SqT K H a (ns.map V.int) ∧ Q (.int ns.sum) H
theorem cr_sumT (hc : X.calm = true) : CallR X (.builtin "sum") (rSumT X.K) := by
  intro pins s σ H vs us Q I r h
  obtain ⟨a, ns, rfl, hs, q⟩ := h
  obtain ⟨its, rv, hl, _⟩ := I.tuple hs
  rw [Vals.ref1 r]
  exact sum_tup (I.ok.hd hc) (show s.heap.IsTuple a its.toArray from hl) rv.ints fun h' tk t' hk => ⟨.int _, H, I.kept hk, ⟨_, rfl⟩, q⟩
/-- len of a dict with tuple keys, locked or not -/
def rLenR : List V → Hp → VK → Prop := fun xs H Q => ∃ (p : Addr) (kvs : List (List Key × V)), xs = [.ref p] ∧ Rd H p (.dT kvs) ∧ Q (.int ((kvs.length : Nat) : Int)) H
theorem cr_lenR : CallR X (.builtin "len") rLenR := by
  intro pins s σ H xs us Q I r h
  obtain ⟨p, kvs, rfl, hp, q⟩ := h
  obtain ⟨u, rfl, rx⟩ := vals1 r
  obtain rfl : u = .ref p := rx
  obtain ⟨z, hd, ys, rel, dd⟩ := dt_rd I.hok hp
  have hl : kvs.length = ys.length := Paired.length rel
  have fit : (ys.length : Int) < 2 ^ 63 := by
    rw [← hl]
    rw [sizeLine_eq] at z
    omega
  refine call_len_dictH hd dd fit ?_
  rw [← hl]
  exact ⟨.int ((kvs.length : Nat) : Int), H, I.tok _, ⟨_, rfl⟩, q⟩
def rLenK : List V → Hp → VK → Prop := fun xs H Q => ∃ (p : Addr) (kvs : List (Key × V)), xs = [.ref p] ∧ Rd H p (.dK kvs) ∧ Q (.int ((kvs.length : Nat) : Int)) H
theorem cr_lenK : CallR X (.builtin "len") rLenK := by
  intro pins s σ H xs us Q I r h
  obtain ⟨p, kvs, rfl, hp, q⟩ := h
  obtain ⟨u, rfl, rx⟩ := vals1 r
  obtain rfl : u = .ref p := rx
  exact d_len I hp fun t s' I' => ⟨.int ((kvs.length : Nat) : Int), H, I', ⟨_, rfl⟩, q⟩
/-- the dict that is made is locked for good; an empty one is told to be one of plain keys -/
def tKeepD (te : TE) : TE := fun σ H Q => te σ H fun x H1 => ∃ d kvs, x = .ref d ∧ H1 d = some (.dT kvs) ∧ (kvs = [] → Q x (upd H1 d (.dK []))) ∧ (kvs ≠ [] → ∀ od, Q x (upd H1 d (.frz od (.dT kvs))))
theorem pe_keepD {e : Expr} {te : TE} (he : PE X e te) : PE X e (tKeepD te) := by
  refine ⟨fun pins s σ H Q I h => ?_⟩
  refine thn (he.run pins s σ H _ I h) fun v s1 ⟨x, H1, I1, r1, d, kvs, ex, hd, q0, q⟩ => ?_
  by_cases hk : kvs = []
  · subst hk
    obtain ⟨z, y, xs, rel, dd⟩ := dt_of I1.hok hd
    cases rel
    obtain ⟨o, es, ep, ho, g2, g3, g4, _, g5⟩ := dd
    have e0 : es = #[] := by
      have q := congrArg List.length g4
      rw [List.length_map, Array.length_toList] at q
      exact Array.eq_empty_of_size_eq_zero q
    subst e0
    exact ⟨x, _, d_write (h' := s1.heap) (t' := s1.toks) I1 (by rw [hd]; exact True.intro) (Heap.SameBut.refl _ _) ⟨o, ho⟩ (dk_new (Nat.zero_le _) y .nil ⟨o, #[], ep, ho, g2, g3, (fun _ he => by simp at he), .nil, List.nodup_nil⟩), r1, q0 rfl⟩
  · obtain ⟨od, I2⟩ := I1.lock hd True.intro
    exact ⟨x, _, I2, r1, q hk od⟩
/-- {k: v}, k a tuple -/
def tDispT (tk tv : TE) : TE := fun σ H Q => ∀ p, H p = none → tk σ (upd H p (.dT [])) fun x H1 => tv σ H1 fun y H2 => H2 p = some (.dT []) ∧ ∃ b ks, x = .ref b ∧ H2 b = some (.tup (ks.map kV)) ∧ Q (.ref p) (upd H2 p (.dT [(ks, y)]))
theorem pe_dispT {k v : Expr} {pos : Pos} {tk tv : TE} (hu : X.A.units + 1 < cLine) (hk : PE X k tk) (hv : PE X v tv) : PE X (.Dict [some k] [v] pos) (tDispT tk tv) := by
  refine ⟨fun pins s σ H Q I h => ?_⟩
  have hn := I.hok.fresh (Nat.le_refl s.heap.objs.size)
  have I0 := I.laid (a := s.heap.objs.size) (o := .dT []) (h' := s.heap.push { cls := .type "dict", data := .dict #[] }) (t' := s.toks) (fun _ _ q => Heap.get?_push_of_some _ q) (Nat.le_refl _) (dt_empty s.heap I.big)
  refine wpAny_Dict_any rfl rfl (fun z => nomatch z) (Nat.le_of_ble_eq_true rfl) ?_
  refine pairTrees_cons_walk (thn (hk.run pins _ σ _ _ I0 (h _ hn)) fun u s1 ⟨x, H1, I1, rx, q1⟩ => thn (hv.run pins s1 σ H1 _ I1 q1) fun r s2 ⟨y, H2, I2, ry, e, b, ks, ex, hb, q2⟩ => pairTrees_nil_walk ?_)
  subst ex
  obtain rfl : u = Value.ref b := rx
  obtain ⟨z, hd, ys, rel, dd⟩ := dt_of I2.hok e
  cases rel
  unfold storeAll
  simp only [List.forIn_cons, List.forIn_nil]
  refine wpAny_bind (wpAny_bind (wpAny_dictSet_heap (hsz := Nat.zero_le _) (show X.A.units < cLine by omega) (key_of I2.hok hb) dd fun h' dd' hs => wpAny_pure (wpAny_pure ?_)))
  obtain ⟨o, es, ep, ho, g2, g3, g4, _, g5⟩ := dd'
  have hz : (putK ([] : List (List Key × V)) ks y).length ≤ sizeLine := by
    have := length_putK ([] : List (List Key × V)) ks y
    rw [List.length_nil] at this
    exact Nat.le_trans this (by decide)
  refine ⟨.ref s.heap.objs.size, upd H2 s.heap.objs.size (.dT [(ks, y)]), ?_, rfl, q2⟩
  refine d_write I2 (by rw [e]; exact True.intro) hs ⟨o, ho⟩ ⟨hz, hd, _, (KT.put (H := H2) .nil ks hb ry).keeps fun c zs ec => ?_, o, es, ep, ho, g2, g3, g4, g5⟩
  rw [upd_ne (ne_of ec e (fun z => nomatch z))]
  exact ec
end
/-! a dict compared with {} -/
def RawD (h : Heap) (d : Addr) (es : Array DictEntry) (ep : Nat) : Prop := (d == sysModules) = false ∧ ∃ o, h.get? d = some o ∧ o.ExactDict ∧ o.data = .dict es ep
section
variable {prog : Program} {w : World} {A : Around} {E : Value → Shared → Prop} {s : Shared}
theorem RawD.ty {d : Addr} {es : Array DictEntry} {ep : Nat} (x : RawD s.heap d es ep) : s.TypeIs (.ref d) "dict" := by
  obtain ⟨_, o, h1, h2, _⟩ := x
  exact ⟨o, h1, h2.1⟩
theorem same_nil {nm : String} {a b : Addr} {es es' : Array DictEntry} {ep ep' : Nat} {Q : Bool → Shared → Prop} (da : RawD s.heap a es ep) (db : RawD s.heap b es' ep') (h0 : es'.size = 0) (h : Q (es.size == 0) s) :
    wpAny (model prog w) A (Builtin.Dict.samePairs nm a b) Q E s := by
  obtain ⟨na, oa, ga, _, ea⟩ := da
  obtain ⟨nb, ob, gb, _, eb⟩ := db
  unfold Builtin.Dict.samePairs Builtin.Dict.showsAll
  rw [if_neg (by rw [na]; exact Bool.false_ne_true), if_neg (by rw [nb]; exact Bool.false_ne_true)]
  refine wpAny_bind (wpAny_pure (wpAny_bind (wpAny_pure (wpAny_bind (wpAny_dictEntries ga ea ?_)))))
  dsimp only
  refine wpAny_bind (wpAny_dictEntries gb eb ?_)
  by_cases hs : es.size = 0
  · rw [if_neg (by rw [hs, h0]; simp)]
    refine wpAny_bind (wpAny_dictEpoch ga ea (wpAny_bind ?_))
    rw [Std.Legacy.Range.forIn_eq_forIn_range']
    simp only [Std.Legacy.Range.size, Nat.sub_zero, Nat.add_sub_cancel, Nat.div_one, hs, List.range'_zero, List.forIn_nil]
    refine wpAny_pure ?_
    rw [hs] at h
    exact wpAny_pure h
  · rw [if_pos (by rw [h0]; simpa using hs)]
    have e : (es.size == 0) = false := by simpa using hs
    rw [e] at h
    exact wpAny_bind (wpAny_rule (wpAny_pure h))
theorem eq_nilD {a b : Addr} {es es' : Array DictEntry} {ep ep' : Nat} {Q : Value → Shared → Prop} (da : RawD s.heap a es ep) (db : RawD s.heap b es' ep') (h0 : es'.size = 0) (hu : A.units < cLine) (h : Q (.bool (es.size == 0)) s) :
    wpAny (model prog w) A (richCompare .Eq (.ref a) (.ref b)) Q E s := by
  refine wpAny_richCompare_same_room (op := .Eq) da.ty db.ty PySem.F.slot_dict_eq (wpAny_call_entry PySem.F.slot_dict_eq da.ty PySem.F.entry_dict_eq ?_ (PySem.F.args_dict_eq_2 _ _)) hu
  show wpAny _ _ (Builtin.Dict.dictSlotArgs "__eq__" ⟨[.ref a, .ref b], []⟩ >>= _) _ _ s
  unfold Builtin.Dict.dictSlotArgs
  refine wpAny_bind (wpAny_bind (wpAny_notOrdered_dict da.ty (wpAny_pure ?_)))
  refine wpAny_bind (wpAny_isInstance (T := "dict") db.ty PySem.F.sub_dict_dict ?_)
  simp only [Bool.not_true, Bool.false_eq_true, if_false]
  refine wpAny_bind (wpAny_pure (wpAny_bind (wpAny_pure (wpAny_bind (same_nil da db h0 (wpAny_pure ⟨_, rfl, (fun x => nomatch x), ?_⟩))))))
  simpa using h
end
section
variable {X : Cx}
/-- a dict of n pairs -/
def DLen (H : Hp) (a : Addr) (n : Nat) : Prop := (∃ kvs, Rd H a (.dK kvs) ∧ kvs.length = n) ∨ ∃ kvs, Rd H a (.dT kvs) ∧ kvs.length = n
theorem DLen.raw {pins : List (Addr × Obj)} {σ : L2.St} {H : Hp} {s : Shared} (I : Inv X pins σ H s) {a : Addr} {n : Nat} (h : DLen H a n) : ∃ es ep, RawD s.heap a es ep ∧ es.size = n := by
  rcases h with ⟨kvs, h, e⟩ | ⟨kvs, h, e⟩
  · obtain ⟨_, y, vs, rel, o, es, ep, g1, g2, g3, _, g5, _⟩ := dk_rd I.hok h
    refine ⟨es, ep, ⟨y, o, g1, g2, g3⟩, ?_⟩
    rw [← e, Paired.length rel, ← g5.length]
    exact Array.length_toList.symm
  · obtain ⟨_, y, vs, rel, o, es, ep, g1, g2, g3, g4, _⟩ := dt_rd I.hok h
    refine ⟨es, ep, ⟨y, o, g1, g2, g3⟩, ?_⟩
    have q := congrArg List.length g4
    rw [List.length_map, Array.length_toList] at q
    rw [← e, Paired.length rel, q]
def rEqNil : R2 := fun x y H Q => ∃ a b n, x = .ref a ∧ y = .ref b ∧ DLen H a n ∧ DLen H b 0 ∧ Q (.bl (n == 0)) H
theorem op_eqNil (hu : X.A.units < cLine) : OpR X (compareOp .Eq) rEqNil := by
  intro pins s σ H x y v u Q I rx ry h
  obtain ⟨a, b, n, rfl, rfl, ha, hb, q⟩ := h
  obtain rfl : v = Value.ref a := rx
  obtain rfl : u = Value.ref b := ry
  obtain ⟨es, ep, d1, e1⟩ := ha.raw I
  obtain ⟨es', ep', d2, e2⟩ := hb.raw I
  exact eq_nilD d1 d2 e2 hu ⟨.bl (n == 0), H, I, by rw [e1]; rfl, q⟩
end
end VE

/-! VD: data with dicts: its repr; counting in lists. -/
namespace VE
open PySem L2 PySem.Spec PyProof.Rows

mutual
/-- a value reads as data; no dict of it is the module table -/
inductive RdS (h : Heap) : Value → PyData → Prop
  | none : RdS h .none .none
  | bool (b : Bool) : RdS h (.bool b) (.bool b)
  | int (i : Int) (t : Tok) : RdS h (.int i t) (.int i)
  | str (x : Str) (t : Tok) : RdS h (.str x t) (.str x)
  | list {a : Addr} {o : Obj} {vs : Array Value} {n : Nat} {xs : List PyData} : h.get? a = some o → o.cls = .type "list" → o.data = .seq vs n → RdSs h vs.toList xs → RdS h (.ref a) (.list xs)
  | tuple {a : Addr} {o : Obj} {vs : Array Value} {n : Nat} {xs : List PyData} : h.get? a = some o → o.cls = .type "tuple" → o.data = .seq vs n → RdSs h vs.toList xs → RdS h (.ref a) (.tuple xs)
  | dict {a : Addr} {o : Obj} {es : Array DictEntry} {n : Nat} {kvs : List (PyData × PyData)} : h.get? a = some o → o.cls = .type "dict" → o.data = .dict es n → (a == sysModules) = false →
      RdSs h (es.toList.map (·.key)) (kvs.map (·.1)) → RdSs h (es.toList.map (·.val)) (kvs.map (·.2)) → RdS h (.ref a) (.dict kvs)
inductive RdSs (h : Heap) : List Value → List PyData → Prop
  | nil : RdSs h [] []
  | cons {v : Value} {vs : List Value} {d : PyData} {ds : List PyData} : RdS h v d → RdSs h vs ds → RdSs h (v :: vs) (d :: ds)
end
section
variable {h : Heap}
mutual
theorem RdS.rd : ∀ {v : Value} {d : PyData}, RdS h v d → ∃ as, Reads h v d as
  | _, _, .none => ⟨_, .none⟩
  | _, _, .bool b => ⟨_, .bool b⟩
  | _, _, .int i t => ⟨_, .int i t⟩
  | _, _, .str x t => ⟨_, .str x t⟩
  | _, _, .list h1 h2 h3 h4 => let ⟨_, q⟩ := RdSs.rd h4; ⟨_, .list h1 h2 h3 q⟩
  | _, _, .tuple h1 h2 h3 h4 => let ⟨_, q⟩ := RdSs.rd h4; ⟨_, .tuple h1 h2 h3 q⟩
  | _, _, .dict h1 h2 h3 _ h4 h5 => let ⟨_, q⟩ := RdSs.rd h4; let ⟨_, r⟩ := RdSs.rd h5; ⟨_, .dict h1 h2 h3 q r⟩
theorem RdSs.rd : ∀ {v : List Value} {d : List PyData}, RdSs h v d → ∃ as, ReadsAll h v d as
  | _, _, .nil => ⟨_, .nil⟩
  | _, _, .cons q r => let ⟨_, q⟩ := RdS.rd q; let ⟨_, r⟩ := RdSs.rd r; ⟨_, .cons q r⟩
end
variable {P : Program} {w : World}
mutual
theorem RdS.rep : ∀ {v : Value} {d : PyData}, RdS h v d → d.showable = true → d.shown.length ≤ sizeLine → ∃ bs, ReadAtMost h d.depth bs ∧ ReprK P w bs h d.depth v d.shown
  | _, _, .none, _, _ => ⟨[], (fun _ z => nomatch z), by simp only [PyData.shown]; exact ReprK.of_is ReprIs.none _ _ _⟩
  | _, _, .bool b, _, _ => ⟨[], (fun _ z => nomatch z), by simp only [PyData.shown]; exact ReprK.of_is (ReprIs.bool b) _ _ _⟩
  | _, _, .int i t, hs, _ => ⟨[], (fun _ z => nomatch z), by simp only [PyData.shown]; exact ReprK.of_is (ReprIs.int t (by simpa [PyData.showable] using hs)) _ _ _⟩
  | _, _, .str x t, _, hz => ⟨[], (fun _ z => nomatch z), by simp only [PyData.shown]; exact ReprK.of_is (ReprIs.str x t (by simpa only [PyData.shown] using hz)) _ _ _⟩
  | _, _, .list (a := a) (vs := vs) (xs := xs) h1 h2 h3 h4, hs, hz => by
    have zz : (listText (PyData.shownAll xs)).length ≤ sizeLine := by simpa only [PyData.shown] using hz
    obtain ⟨bs, hb, hk⟩ := RdSs.rep h4 (by simpa [PyData.showable] using hs) fun t ht => Nat.le_trans (listText_mem_le ht) zz
    obtain ⟨_, r⟩ := RdS.rd (.list h1 h2 h3 h4)
    have lo : PyData.depthAll xs < (PyData.list xs).depth := by simp only [PyData.depth]; omega
    have na := not_mem_of_deeper r lo hb
    refine ⟨a :: bs, ReadAtMost.cons r (Nat.le_of_lt lo) hb, ?_⟩
    simp only [PyData.depth, PyData.shown]
    cases vs with
    | mk l =>
      cases l with
      | nil =>
        cases (show RdSs h [] xs from h4)
        simp only [PyData.shownAll, listText_nil]
        exact ReprK.listEmpty h1 h2 h3
      | cons x l => exact ReprK.list h1 h2 h3 na (by simpa using hk.length_eq) fun i y e => hk.item i y (by simpa using e)
  | _, _, .tuple (a := a) (xs := xs) h1 h2 h3 h4, hs, hz => by
    have zz : (tupleText (PyData.shownAll xs)).length ≤ sizeLine := by simpa only [PyData.shown] using hz
    obtain ⟨bs, hb, hk⟩ := RdSs.rep h4 (by simpa [PyData.showable] using hs) fun t ht => Nat.le_trans (tupleText_mem_le ht) zz
    obtain ⟨_, r⟩ := RdS.rd (.tuple h1 h2 h3 h4)
    have lo : PyData.depthAll xs < (PyData.tuple xs).depth := by simp only [PyData.depth]; omega
    have na := not_mem_of_deeper r lo hb
    refine ⟨a :: bs, ReadAtMost.cons r (Nat.le_of_lt lo) hb, ?_⟩
    simp only [PyData.depth, PyData.shown]
    exact ReprK.tuple h1 h2 h3 na hk
  | _, _, .dict (a := a) (es := es) (kvs := kvs) h1 h2 h3 hy h4 h5, hs, hz => by
    have zz : (dictText (PyData.shownKv kvs)).length ≤ sizeLine := by simpa only [PyData.shown] using hz
    obtain ⟨s1, s2⟩ := PyData.showableKv_split kvs (by simpa [PyData.showable] using hs)
    obtain ⟨b1, c1, k1⟩ := RdSs.rep h4 s1 fun t ht => by
      obtain ⟨p, hp, hl⟩ := PyData.shownKv_key_le kvs t ht
      exact Nat.le_trans hl (Nat.le_trans (dictText_mem_le hp) zz)
    obtain ⟨b2, c2, k2⟩ := RdSs.rep h5 s2 fun t ht => by
      obtain ⟨p, hp, hl⟩ := PyData.shownKv_val_le kvs t ht
      exact Nat.le_trans hl (Nat.le_trans (dictText_mem_le hp) zz)
    obtain ⟨_, r⟩ := RdS.rd (.dict h1 h2 h3 hy h4 h5)
    have d1 := PyData.depthAll_keys_le kvs
    have d2 := PyData.depthAll_vals_le kvs
    have cc : ReadAtMost h (PyData.depthKv kvs) (b1 ++ b2) := (c1.mono d1).append (c2.mono d2)
    have lo : PyData.depthKv kvs < (PyData.dict kvs).depth := by simp only [PyData.depth]; omega
    have na := not_mem_of_deeper r lo cc
    refine ⟨a :: (b1 ++ b2), ReadAtMost.cons r (Nat.le_of_lt lo) cc, ?_⟩
    simp only [PyData.depth, PyData.shown, PyData.shownKv_eq]
    refine ReprK.dict h1 h2 h3 hy na (ReprEntriesK.of_two es.toList _ _ (k1.more_le (fun b hb => ?_) d1) (k2.more_le (fun b hb => ?_) d2))
    · exact List.mem_append_left _ hb
    · exact List.mem_append_right _ hb
theorem RdSs.rep : ∀ {vs : List Value} {ds : List PyData}, RdSs h vs ds → PyData.showableAll ds = true → (∀ t ∈ PyData.shownAll ds, t.length ≤ sizeLine) → ∃ bs, ReadAtMost h (PyData.depthAll ds) bs ∧ ReprAllK P w bs h (PyData.depthAll ds) vs (PyData.shownAll ds)
  | _, _, .nil, _, _ => ⟨[], (fun _ z => nomatch z), by simp only [PyData.shownAll]; exact ReprAllK.nil⟩
  | _, _, .cons (d := d) (ds := ds) r rs, hs, hz => by
    simp only [PyData.showableAll, Bool.and_eq_true] at hs
    obtain ⟨b1, c1, k1⟩ := RdS.rep r hs.1 (hz _ (by simp only [PyData.shownAll]; exact List.mem_cons_self))
    obtain ⟨b2, c2, k2⟩ := RdSs.rep rs hs.2 fun t ht => hz t (by simp only [PyData.shownAll]; exact List.mem_cons_of_mem _ ht)
    have e1 : d.depth ≤ PyData.depthAll (d :: ds) := by simp only [PyData.depthAll]; exact Nat.le_max_left _ _
    have e2 : PyData.depthAll ds ≤ PyData.depthAll (d :: ds) := by simp only [PyData.depthAll]; exact Nat.le_max_right _ _
    refine ⟨b1 ++ b2, (c1.mono e1).append (c2.mono e2), ?_⟩
    simp only [PyData.shownAll]
    exact ReprAllK.cons ((k1.more fun b hb => List.mem_append_left _ hb).level_le e1) (k2.more_le (fun b hb => List.mem_append_right _ hb) e2)
end
variable {A : Around} {E : Value → Shared → Prop} {s : Shared} {Q : Value → Shared → Prop}
/-- repr(x) of a list, a tuple, a dict -/
theorem RdS.call {a : Addr} {d : PyData} (r : RdS s.heap (.ref a) d) (hs : d.showable = true) (hg : A.guards = some []) (hu : A.units + (d.depth + 1) < cLine) (hz : d.shown.length ≤ sizeLine)
    (hQ : ∀ h' u tk, (∀ b o, s.heap.get? b = some o → h'.get? b = some o) → Q (.str d.shown u) { s with heap := h', toks := tk }) : wpAny (model P w) A (call (.builtin "repr") [.ref a]) Q E s := by
  have same : ∀ b o, s.heap.get? b = some o → s.heap.get? b = some o := fun _ _ e => e
  have fin : ∀ h' u tk, (∀ b o, s.heap.get? b = some o → h'.get? b = some o) → ∃ x t, Value.str d.shown u = .str x t ∧ Q (.str d.shown u) { s with heap := h', toks := tk } := fun h' u tk k => ⟨_, _, rfl, hQ h' u tk k⟩
  have hu1 : A.in1.units + d.depth < cLine := by show A.units + 1 + d.depth < cLine; omega
  cases r with
  | list h1 h2 h3 h4 =>
    rename_i o vs n xs
    have zz : (listText (PyData.shownAll xs)).length ≤ sizeLine := by simpa only [PyData.shown] using hz
    obtain ⟨bs, hb, hk⟩ := RdSs.rep (P := P) (w := w) h4 (by simpa [PyData.showable] using hs) fun t ht => Nat.le_trans (listText_mem_le ht) zz
    obtain ⟨_, r⟩ := RdS.rd (.list h1 h2 h3 h4)
    have na : a ∉ bs := not_mem_of_deeper r (by simp only [PyData.depth]; omega) hb
    refine call_repr_slot (by omega) ⟨o, h1, h2⟩ F.slot_list_repr.toG ?_
    simp only [PyData.depth] at hu1
    simp only [PyData.shown] at fin
    cases vs with
    | mk l =>
      cases l with
      | nil =>
        cases (show RdSs s.heap [] xs from h4)
        simp only [PyData.shownAll, listText_nil] at fin
        exact call_list_repr_empty ⟨o, h1, h2⟩ h1 h3 (fin s.heap _ _ same)
      | cons x l => exact call_list_reprK h1 h2 h3 na (by simpa using hk.length_eq) (fun i y e => hk.item i y (by simpa using e)) hg (fun b _ => Clear.nil b) hu1 same fin zz
  | tuple h1 h2 h3 h4 =>
    rename_i o vs n xs
    have zz : (tupleText (PyData.shownAll xs)).length ≤ sizeLine := by simpa only [PyData.shown] using hz
    obtain ⟨bs, hb, hk⟩ := RdSs.rep (P := P) (w := w) h4 (by simpa [PyData.showable] using hs) fun t ht => Nat.le_trans (tupleText_mem_le ht) zz
    obtain ⟨_, r⟩ := RdS.rd (.tuple h1 h2 h3 h4)
    have na : a ∉ bs := not_mem_of_deeper r (by simp only [PyData.depth]; omega) hb
    refine call_repr_slot (by omega) ⟨o, h1, h2⟩ F.slot_tuple_repr ?_
    simp only [PyData.depth] at hu1
    simp only [PyData.shown] at fin
    exact call_tuple_reprK h1 h2 h3 na hk hg (fun b _ => Clear.nil b) hu1 same fin zz
  | dict h1 h2 h3 hy h4 h5 =>
    rename_i o es n kvs
    have zz : (dictText (PyData.shownKv kvs)).length ≤ sizeLine := by simpa only [PyData.shown] using hz
    obtain ⟨s1, s2⟩ := PyData.showableKv_split kvs (by simpa [PyData.showable] using hs)
    obtain ⟨b1, c1, k1⟩ := RdSs.rep (P := P) (w := w) h4 s1 fun t ht => by
      obtain ⟨p, hp, hl⟩ := PyData.shownKv_key_le kvs t ht
      exact Nat.le_trans hl (Nat.le_trans (dictText_mem_le hp) zz)
    obtain ⟨b2, c2, k2⟩ := RdSs.rep (P := P) (w := w) h5 s2 fun t ht => by
      obtain ⟨p, hp, hl⟩ := PyData.shownKv_val_le kvs t ht
      exact Nat.le_trans hl (Nat.le_trans (dictText_mem_le hp) zz)
    obtain ⟨_, r⟩ := RdS.rd (.dict h1 h2 h3 hy h4 h5)
    have d1 := PyData.depthAll_keys_le kvs
    have d2 := PyData.depthAll_vals_le kvs
    have cc : ReadAtMost s.heap (PyData.depthKv kvs) (b1 ++ b2) := (c1.mono d1).append (c2.mono d2)
    have na : a ∉ b1 ++ b2 := not_mem_of_deeper r (by simp only [PyData.depth]; omega) cc
    refine call_repr_slot (by omega) ⟨o, h1, h2⟩ F.slot_dict_repr ?_
    simp only [PyData.depth] at hu1
    simp only [PyData.shown, PyData.shownKv_eq] at fin
    have zz2 := zz
    rw [PyData.shownKv_eq] at zz2
    refine call_dict_reprK h1 h2 h3 hy na (ReprEntriesK.of_two es.toList _ _ (k1.more_le (fun b hb => ?_) d1) (k2.more_le (fun b hb => ?_) d2)) hg (fun b _ => Clear.nil b) hu1 same fin zz2
    · exact List.mem_append_left _ hb
    · exact List.mem_append_right _ hb
end
/-! ### data of the abstract heap reads so -/
section
variable {X : Cx} {pins : List (Addr × Obj)} {σ : L2.St} {H : Hp} {s : Shared}
theorem kD_rd {h : Heap} {k : Key} {u : Value} (e : keyIs k u = true) : RdS h u (kD k) := by
  rcases keyIs_shape e with ⟨i, t, rfl, rfl⟩ | ⟨x, t, rfl, rfl⟩
  · exact .int i t
  · exact .str x t
mutual
theorem DP.rdS (I : L2.Inv X pins σ H s) : ∀ {v : V} {d : PyData} {u : Value}, DP X.K H v d → RelV v u → flatK d = true → RdS s.heap u d
  | _, _, u, .non, r, _ => by
    cases (show u = Value.none from r)
    exact .none
  | _, _, u, .bl b, r, _ => by
    cases (show u = Value.bool b from r)
    exact .bool b
  | _, _, u, .int i, r, _ => by
    obtain ⟨t, rfl⟩ := (show ∃ t, u = Value.int i t from r)
    exact .int i t
  | _, _, u, .str x, r, _ => by
    obtain ⟨t, rfl⟩ := (show ∃ t, u = Value.str x t from r)
    exact .str x t
  | _, _, u, .lst (a := a) h q, r, f => by
    cases (show u = Value.ref a from r)
    obtain ⟨its, rv, ⟨o, n, ho, hc, hdn, hd⟩, _⟩ := I.list h
    exact .list ho hc hd (DPs.rdS I q rv (by simpa only [flatK] using f))
  | _, _, u, .tup (a := a) h q, r, f => by
    cases (show u = Value.ref a from r)
    obtain ⟨its, rv, ⟨o, ho, hc, n, hd⟩, _⟩ := I.tuple (.inl (.inl h))
    exact .tuple ho hc hd (DPs.rdS I q rv (by simpa only [flatK] using f))
  | _, _, u, .dctK (a := a) h q, r, f => by
    cases (show u = Value.ref a from r)
    obtain ⟨_, hy, vs, rel, o, es, ep, ho, hx, hd, _, hp, _⟩ := dk_of I.hok h
    obtain ⟨h1, h2⟩ := pairs_of I q rel hp (by simpa only [flatK] using f)
    exact .dict ho hx.1 hd hy h1 h2
  | _, _, u, .dctT h .nil n, r, f => absurd rfl n
  | _, _, u, .dctT h (.cons _ _) _, r, f => by simp [flatK, flatKv] at f
  | _, _, u, .err .., r, f => by simp [exD, flatK, flatKv] at f
theorem DPs.rdS (I : L2.Inv X pins σ H s) : ∀ {v : List V} {d : List PyData} {u : List Value}, DPs X.K H v d → Vals v u → flatKs d = true → RdSs s.heap u d
  | _, _, _, .nil, .nil, _ => .nil
  | _, _, _, .cons q r, .cons a b, f => by
    simp only [flatKs, Bool.and_eq_true] at f
    exact .cons (DP.rdS I q a f.1) (DPs.rdS I r b f.2)
theorem pairs_of (I : L2.Inv X pins σ H s) : ∀ {kv : List (Key × V)} {ds : List (PyData × PyData)} {vs : List (Key × Value)} {es : List DictEntry}, DKs X.K H kv ds → KV kv vs → Pairs (mixKind X.prog X.w) es vs → flatKv ds = true →
    RdSs s.heap (es.map (·.key)) (ds.map (·.1)) ∧ RdSs s.heap (es.map (·.val)) (ds.map (·.2))
  | _, _, _, _, .nil, .nil, .nil, _ => ⟨.nil, .nil⟩
  | _, _, _, _, .cons q r, .cons r1 r2, .cons p1 p2 p3, f => by
    simp only [flatKv, Bool.and_eq_true] at f
    obtain ⟨a, b⟩ := pairs_of I r r2 p3 f.2
    refine ⟨.cons (kD_rd ?_) a, .cons (DP.rdS I q ?_ f.1.2) b⟩
    · have e := r1.1
      subst e
      exact p1
    · have z := r1.2
      rw [← p2] at z
      exact z
end
end
/-! ### list.count -/
section
variable {X : Cx} {xr : XR} {W : WX}
def rLm (K : PySem.W.Frag) (xr : XR) (W : WX) (k : LM) : V → List V → Hp → VK → Prop := fun x ys H Q => ∃ y, ys = [y] ∧ rD K xr W (opLm k) x y H Q
def lmN : LM → String
  | .count => "list.count"
theorem lm_mt (hu : X.A.units + 70 < cLine) (k : LM) : MtR X (lmN k) (rLm X.K xr W k) := by
  intro pins s σ H x ys v us Q I rx rs h
  obtain ⟨y, rfl, σ0, G, φ, ρ, d, e, sr, vx, vy, h⟩ := h
  obtain ⟨uy, rfl, ry⟩ := rs.one
  unfold opLm at h
  split at h
  · split at h
    · rename_i ds hc
      rw [Bool.and_eq_true] at hc
      have hd : Dp X.K H y e := (vy.dp sr.gh).dp (canLay_of hc.1)
      obtain ⟨bs, r1⟩ := Dp.reads I e y uy hd ry
      have hx : Dp X.K H x (.list ds) := (vx.dp sr.gh).dp (canLay_of hc.2)
      have lay : PyData.canLayAll0 ds = true := SeqAt.canLay_of_shaped hc.2
      have room : X.A.units + 1 + min (PyData.depthAll ds) e.depth < cLine := room_in_shaped hc.1 (by omega)
      cases hx with
      | lst h1 h2 =>
        rename_i a ws
        cases (show v = Value.ref a from rx)
        obtain ⟨its, rv, ⟨⟨cls, dd, data, sl⟩, n, ho, hcl, hdn, hdt⟩, hlen⟩ := I.list h1
        simp only at hcl hdt
        subst hcl hdt
        obtain ⟨as, h4⟩ := Dp.readsAll I ds _ its h2 rv
        have hm := SeqAt.readsAll_map ds its as lay h4
        have items := SeqAt.items_eqAt (A := X.A) (vs := its.toArray) (show ReadsAll s.heap its.toArray.toList ds as from h4) r1 lay (canLay_of hc.1) room
        refine call_meets PySem.F.slot_list_count ⟨_, ho, rfl⟩ PySem.F.entry_list_count (PySem.F.args_list_count_2 _ _) (SeqAt.list_countAt a its.toArray n dd sl uy (fun u => PyData.eqv (SeqAt.readOf s.heap u) e)) ⟨ho, items, ?_⟩
        have ec : its.toArray.toList.countP (fun u => PyData.eqv (SeqAt.readOf s.heap u) e) = ds.countP fun z => PyData.eqv z e := by
          conv => rhs; rw [← hm]
          rw [List.countP_map]
          rfl
        rw [ec]
        exact ⟨.int _, H, I.tok _, ⟨_, rfl⟩, fin_int sr h⟩
    · exact h.elim
  · exact h.elim
end
end VE

/-! VS3: built-ins, indexes, methods by data. -/
namespace VE
open PySem L2 PySem.Spec PyProof.Rows
section
variable {X : Cx} {xr : XR} {W : WX}
/-! ### repr -/
theorem call_reprD (hg : X.A.guards = some []) (hu : X.A.units + 70 < cLine) : CallR X (.builtin "repr") (fun xs H Q => ∃ x d, xs = [x] ∧ DP X.K H x d ∧ flatK d = true ∧ d.showable = true ∧ d.shown.length ≤ sizeLine ∧ d.depth ≤ 60 ∧ Q (.str d.shown) H) := by
  intro pins s σ H xs us Q I r h
  obtain ⟨x, d, rfl, hd, hf, hs, hz, hp, q⟩ := h
  obtain ⟨u, rfl, rx⟩ := r.one
  have hr := DP.rdS I hd rx hf
  have fin : ∀ t k, EP X pins σ Q (.str d.shown t) { s with toks := k } := fun t k => ⟨.str d.shown, H, I.tok k, ⟨_, rfl⟩, q⟩
  have finR : ∀ h' (u : Tok) tk, (∀ b o, s.heap.get? b = some o → h'.get? b = some o) → EP X pins σ Q (.str d.shown u) { s with heap := h', toks := tk } := fun h' u tk k => ⟨.str d.shown, H, I.kept k, ⟨_, rfl⟩, q⟩
  cases hr with
  | none =>
    refine PySem.P.repr_of_none ?_
    have e := fin s.toks (s.toks + 1)
    simp only [PyData.shown] at e
    exact e
  | bool b =>
    refine PySem.P.repr_of_bool ?_
    have e := fin s.toks (s.toks + 1)
    simp only [PyData.shown] at e
    cases b <;> exact e
  | int i t =>
    refine PySem.P.repr_of_int (by simpa [PyData.showable] using hs) ?_
    have e := fin s.toks (s.toks + 1)
    simp only [PyData.shown] at e
    exact e
  | str y t =>
    refine PySem.P.repr_of_str ?_ (by simpa only [PyData.shown] using hz)
    have e := fin s.toks (s.toks + 1)
    simp only [PyData.shown] at e
    exact e
  | list h1 h2 h3 h4 => exact RdS.call (.list h1 h2 h3 h4) hs hg (by omega) hz finR
  | tuple h1 h2 h3 h4 => exact RdS.call (.tuple h1 h2 h3 h4) hs hg (by omega) hz finR
  | dict h1 h2 h3 h4 h5 h6 => exact RdS.call (.dict h1 h2 h3 h4 h5 h6) hs hg (by omega) hz finR

/-! ### isinstance -/
def tyN : Ty → String
  | .int => "int"
  | .bool => "bool"
  | .str => "str"
  | .list => "list"
  | .tuple => "tuple"
def tyD : PyData → String
  | .none => "NoneType"
  | .bool _ => "bool"
  | .int _ => "int"
  | .str _ => "str"
  | .list _ => "list"
  | .tuple _ => "tuple"
  | .dict _ => "dict"
theorem DP.tyX {K : PySem.W.Frag} {H : Hp} {v : V} {d : PyData} (hk : tkeyD d = false) (h : DP K H v d) : TyX K H v (.type (tyD d)) := by
  cases h with
  | non => exact .base .non
  | bl b => exact .base (.bl b)
  | int b => exact .base (.int b)
  | str b => exact .base (.str b)
  | lst h _ =>
    rcases h with (h | ⟨o, h⟩) | ⟨o, its, n, h, hc, _⟩
    · exact .base (.lst h)
    · exact .base (.frz h)
    · exact .kList h hc
  | tup h _ => exact .base (.tup h)
  | dctK h _ => exact .base (.dK h)
  | dctT h r n =>
    cases r with
    | nil => exact absurd rfl n
    | cons _ _ => cases hk
  | err => cases hk
theorem ty_kit (t : Ty) (d : PyData) : kitB (tyD d) (tyN t) = some (ty t d) := by
  cases t <;> cases d <;> simp only [tyD, tyN, ty] <;> decide +kernel

/-! ### the built-ins by data -/
inductive BK where
  | fn (x : String)
  | type (x : String)
def bltK : Blt → BK
  | .len => .fn "len"
  | .repr => .fn "repr"
  | .min2 => .fn "min"
  | .max2 => .fn "max"
  | .list => .type "list"
  | .isi _ => .fn "isinstance"
  | .int => .type "int"
  | .tup => .type "tuple"
  | .minL => .fn "min"
  | .maxL => .fn "max"
  | .sumL => .fn "sum"
  | .all => .fn "all"
  | .any => .fn "any"
  | .sorted => .fn "sorted"
  | .str => .type "str"
  | .dict => .type "dict"
def bltV : Blt → Value
  | b => match bltK b with
    | .fn x => .builtin x
    | .type x => .type x
/-- isinstance's class stands behind the operands -/
def bltA : Blt → List V → List V
  | .isi t, xs => xs ++ [.ty (tyN t)]
  | _, xs => xs
theorem allInts_map : ∀ {xs : List PyData} {ns : List Int}, allInts xs = some ns → xs = ns.map .int
  | [], ns, h => by cases h; rfl
  | .int i :: r, ns, h => by
    simp only [allInts] at h
    cases e : allInts r with
    | none => rw [e] at h; cases h
    | some ms =>
      rw [e] at h
      cases h
      rw [allInts_map e]
      rfl
  | .none :: _, _, h => by simp [allInts] at h
  | .bool _ :: _, _, h => by simp [allInts] at h
  | .str _ :: _, _, h => by simp [allInts] at h
  | .list _ :: _, _, h => by simp [allInts] at h
  | .tuple _ :: _, _, h => by simp [allInts] at h
  | .dict _ :: _, _, h => by simp [allInts] at h
theorem allBools_map : ∀ {xs : List PyData} {ns : List Bool}, allBools xs = some ns → xs = ns.map .bool
  | [], ns, h => by cases h; rfl
  | .bool i :: r, ns, h => by
    simp only [allBools] at h
    cases e : allBools r with
    | none => rw [e] at h; cases h
    | some ms =>
      rw [e] at h
      cases h
      rw [allBools_map e]
      rfl
  | .none :: _, _, h => by simp [allBools] at h
  | .int _ :: _, _, h => by simp [allBools] at h
  | .str _ :: _, _, h => by simp [allBools] at h
  | .list _ :: _, _, h => by simp [allBools] at h
  | .tuple _ :: _, _, h => by simp [allBools] at h
  | .dict _ :: _, _, h => by simp [allBools] at h
theorem allStrs_map : ∀ {xs : List PyData} {ns : List Str}, allStrs xs = some ns → xs = ns.map .str
  | [], ns, h => by cases h; rfl
  | .str i :: r, ns, h => by
    simp only [allStrs] at h
    cases e : allStrs r with
    | none => rw [e] at h; cases h
    | some ms =>
      rw [e] at h
      cases h
      rw [allStrs_map e]
      rfl
  | .none :: _, _, h => by simp [allStrs] at h
  | .bool _ :: _, _, h => by simp [allStrs] at h
  | .int _ :: _, _, h => by simp [allStrs] at h
  | .list _ :: _, _, h => by simp [allStrs] at h
  | .tuple _ :: _, _, h => by simp [allStrs] at h
  | .dict _ :: _, _, h => by simp [allStrs] at h
theorem DPs.strs {K : PySem.W.Frag} {G : Hp} : ∀ {ns : List Str} {vs : List V}, DPs K G vs (ns.map .str) → vs = ns.map V.str
  | [], vs, h => by cases h; rfl
  | i :: r, vs, h => by
    cases h with
    | cons h1 h2 =>
      cases h1
      rw [DPs.strs h2]
      rfl
theorem DPs.ofStrs {K : PySem.W.Frag} {G : Hp} : ∀ (ns : List Str), DPs K G (ns.map V.str) (ns.map .str)
  | [] => .nil
  | i :: r => .cons (.str i) (DPs.ofStrs r)
theorem DPs.ints {K : PySem.W.Frag} {G : Hp} : ∀ {ns : List Int} {vs : List V}, DPs K G vs (ns.map .int) → vs = ns.map V.int
  | [], vs, h => by cases h; rfl
  | i :: r, vs, h => by
    cases h with
    | cons h1 h2 =>
      cases h1
      rw [DPs.ints h2]
      rfl
theorem DPs.bools {K : PySem.W.Frag} {G : Hp} : ∀ {ns : List Bool} {vs : List V}, DPs K G vs (ns.map .bool) → vs = ns.map V.bl
  | [], vs, h => by cases h; rfl
  | i :: r, vs, h => by
    cases h with
    | cons h1 h2 =>
      cases h1
      rw [DPs.bools h2]
      rfl
theorem DPs.ofInts {K : PySem.W.Frag} {G : Hp} : ∀ (ns : List Int), DPs K G (ns.map V.int) (ns.map .int)
  | [] => .nil
  | i :: r => .cons (.int i) (DPs.ofInts r)
theorem allPairs_map : ∀ {xs : List PyData} {ps : List (Int × Int)}, allPairs xs = some ps → xs = ps.map prI
  | [], _, h => by cases h; rfl
  | x :: r, ps, h => by
    unfold allPairs at h
    split at h
    · rename_i e; cases e
    · rename_i i j r' e
      cases e
      cases q : allPairs r with
      | none => rw [q] at h; cases h
      | some qs =>
        rw [q] at h
        cases h
        rw [List.map_cons, ← allPairs_map q]
        rfl
    · cases h
/-- the pair at a value -/
def pairAt (H : Hp) : V → Int × Int
  | .ref t => match H t with
    | some (.tup [.int i, .int j]) => (i, j)
    | _ => (0, 0)
  | _ => (0, 0)
theorem DPs.prs {K : PySem.W.Frag} {G H : Hp} (gh : Same G H) : ∀ {ps : List (Int × Int)} {vs : List V}, DPs K G vs (ps.map prI) → vs.map (pairAt H) = ps ∧ ∀ x ∈ vs, ∃ t, x = V.ref t ∧ H t = some (.tup [.int (pairAt H x).1, .int (pairAt H x).2]) ∧ DP K G x (prI (pairAt H x))
  | [], _, .nil => ⟨rfl, fun _ h => nomatch h⟩
  | p :: ps, _, .cons h r => by
    obtain ⟨e1, e2⟩ := DPs.prs gh r
    cases h with
    | tup g1 g2 =>
      rename_i t xs
      cases g2 with
      | cons a1 g2 =>
        cases g2 with
        | cons a2 g2 =>
          cases g2
          cases a1
          cases a2
          have hh := gh _ _ g1
          have ep : pairAt H (.ref t) = p := by
            unfold pairAt
            simp only [hh]
          refine ⟨by rw [List.map_cons, ep, e1], fun x hx => ?_⟩
          rcases List.mem_cons.mp hx with rfl | hx
          · rw [ep]
            exact ⟨t, rfl, hh, .tup g1 (.cons (.int _) (.cons (.int _) .nil))⟩
          · exact e2 x hx
theorem allQuads_map : ∀ {xs : List PyData} {ps : List Qd}, allQuads xs = some ps → xs = ps.map qdI
  | [], _, h => by cases h; rfl
  | x :: r, ps, h => by
    unfold allQuads at h
    split at h
    · rename_i e; cases e
    · rename_i a b c d r' e
      cases e
      cases q : allQuads r with
      | none => rw [q] at h; cases h
      | some qs =>
        rw [q] at h
        cases h
        rw [List.map_cons, ← allQuads_map q]
        rfl
    · cases h
def quadAt (H : Hp) : V → Qd
  | .ref t => match H t with
    | some (.tup [.int a, .int b, .int c, .int d]) => (a, b, c, d)
    | _ => (0, 0, 0, 0)
  | _ => (0, 0, 0, 0)
def qls (q : Qd) : List Int := [q.1, q.2.1, q.2.2.1, q.2.2.2]
theorem qcode_eq (q : Qd) : TS.code 64 (qls q) = qcode q := by
  have e3 : (64 : Int) ^ 3 = 262144 := by decide
  have e2 : (64 : Int) ^ 2 = 4096 := by decide
  have e1 : (64 : Int) ^ 1 = 64 := by decide
  have e0 : (64 : Int) ^ 0 = 1 := by decide
  show q.1 * 64 ^ 3 + (q.2.1 * 64 ^ 2 + (q.2.2.1 * 64 ^ 1 + (q.2.2.2 * 64 ^ 0 + 0))) = _
  rw [e3, e2, e1, e0]
  unfold qcode
  omega
theorem DPs.qds {K : PySem.W.Frag} {G H : Hp} (gh : Same G H) : ∀ {ps : List Qd} {vs : List V}, DPs K G vs (ps.map qdI) → vs.map (quadAt H) = ps ∧ ∀ x ∈ vs, ∃ t, x = V.ref t ∧ H t = some (.tup ((qls (quadAt H x)).map V.int)) ∧ DP K G x (qdI (quadAt H x))
  | [], _, .nil => ⟨rfl, fun _ h => nomatch h⟩
  | p :: ps, _, .cons h r => by
    obtain ⟨e1, e2⟩ := DPs.qds gh r
    cases h with
    | tup g1 g2 =>
      rename_i t xs
      cases g2 with
      | cons a1 g2 =>
        cases g2 with
        | cons a2 g2 =>
          cases g2 with
          | cons a3 g2 =>
            cases g2 with
            | cons a4 g2 =>
              cases g2
              cases a1
              cases a2
              cases a3
              cases a4
              have hh := gh _ _ g1
              have ep : quadAt H (.ref t) = p := by
                unfold quadAt
                simp only [hh]
              refine ⟨by rw [List.map_cons, ep, e1], fun x hx => ?_⟩
              rcases List.mem_cons.mp hx with rfl | hx
              · rw [ep]
                exact ⟨t, rfl, hh, .tup g1 (.cons (.int _) (.cons (.int _) (.cons (.int _) (.cons (.int _) .nil))))⟩
              · exact e2 x hx
theorem insQ_perm (x : Qd) : ∀ ys : List Qd, (insQ x ys).Perm (x :: ys)
  | [] => .refl _
  | y :: ys => by
    unfold insQ
    split
    · exact .refl _
    · exact ((insQ_perm x ys).cons y).trans (.swap x y ys)
theorem qsort_perm : ∀ xs : List Qd, (qsort xs).Perm xs
  | [] => .refl _
  | x :: xs => (insQ_perm x _).trans ((qsort_perm xs).cons x)
theorem insQ_rises (x : Qd) : ∀ ys : List Qd, ys.Pairwise (fun a b => qcode a ≤ qcode b) → (insQ x ys).Pairwise (fun a b => qcode a ≤ qcode b)
  | [], _ => List.pairwise_singleton _ _
  | y :: ys, h => by
    unfold insQ
    obtain ⟨h1, h2⟩ := List.pairwise_cons.mp h
    split
    · rename_i c
      have c := of_decide_eq_true c
      refine List.pairwise_cons.mpr ⟨fun z hz => ?_, h⟩
      rcases List.mem_cons.mp hz with rfl | hz
      · exact c
      · exact Int.le_trans c (h1 z hz)
    · rename_i c
      have c : ¬ qcode x ≤ qcode y := fun z => c (decide_eq_true z)
      refine List.pairwise_cons.mpr ⟨fun z hz => ?_, insQ_rises x ys h2⟩
      rcases List.mem_cons.mp ((insQ_perm x ys).mem_iff.mp hz) with rfl | hz
      · omega
      · exact h1 z hz
theorem qsort_rises : ∀ xs : List Qd, (qsort xs).Pairwise (fun a b => qcode a ≤ qcode b)
  | [] => .nil
  | x :: xs => insQ_rises x _ (qsort_rises xs)
theorem qcode_inj {a b : Qd} (ha : qok a = true) (hb : qok b = true) (h : qcode a = qcode b) : a = b := by
  obtain ⟨a1, a2, a3, a4⟩ := a
  obtain ⟨b1, b2, b3, b4⟩ := b
  have ha := of_decide_eq_true ha
  have hb := of_decide_eq_true hb
  unfold qcode at h
  simp only at ha hb h
  have e1 : a1 = b1 := by omega
  have e2 : a2 = b2 := by omega
  have e3 : a3 = b3 := by omega
  have e4 : a4 = b4 := by omega
  rw [e1, e2, e3, e4]
theorem qsort_only {ns ms : List Qd} (ok : ∀ q ∈ ns, qok q = true) (p : ms.Perm ns) (h : ms.Pairwise (fun a b => qcode a ≤ qcode b)) : ms = qsort ns :=
  List.Perm.eq_of_pairwise (fun a b ha hb x y => qcode_inj (ok a (p.mem_iff.mp ha)) (ok b ((qsort_perm ns).mem_iff.mp hb)) (Int.le_antisymm x y)) h (qsort_rises ns) (p.trans (qsort_perm ns).symm)
theorem insP_perm (x : Int × Int) : ∀ ys : List (Int × Int), (insP x ys).Perm (x :: ys)
  | [] => .refl _
  | y :: ys => by
    unfold insP
    split
    · exact .refl _
    · exact ((insP_perm x ys).cons y).trans (.swap x y ys)
theorem psort_perm : ∀ xs : List (Int × Int), (psort xs).Perm xs
  | [] => .refl _
  | x :: xs => (insP_perm x _).trans ((psort_perm xs).cons x)
theorem leP_iff {p q : Int × Int} : leP p q = true ↔ p.1 < q.1 ∨ (p.1 = q.1 ∧ p.2 ≤ q.2) := by
  unfold leP
  simp only [Bool.or_eq_true, Bool.and_eq_true, decide_eq_true_eq]
theorem leP_of {p q : Int × Int} (h : SrtO.lexB q p = false) : leP p q = true := by
  have z := SrtO.lexB_no.mp h
  rw [leP_iff]
  omega
theorem insP_rises (x : Int × Int) : ∀ ys : List (Int × Int), ys.Pairwise (fun a b => leP a b = true) → (insP x ys).Pairwise (fun a b => leP a b = true)
  | [], _ => List.pairwise_singleton _ _
  | y :: ys, h => by
    unfold insP
    obtain ⟨h1, h2⟩ := List.pairwise_cons.mp h
    split
    · rename_i c
      refine List.pairwise_cons.mpr ⟨fun z hz => ?_, h⟩
      rcases List.mem_cons.mp hz with rfl | hz
      · exact c
      · have a := leP_iff.mp c
        have b := leP_iff.mp (h1 z hz)
        rw [leP_iff]
        omega
    · rename_i c
      refine List.pairwise_cons.mpr ⟨fun z hz => ?_, insP_rises x ys h2⟩
      rcases List.mem_cons.mp ((insP_perm x ys).mem_iff.mp hz) with rfl | hz
      · rw [leP_iff] at c ⊢
        omega
      · exact h1 z hz
theorem psort_rises : ∀ xs : List (Int × Int), (psort xs).Pairwise (fun a b => leP a b = true)
  | [] => .nil
  | x :: xs => insP_rises x _ (psort_rises xs)
theorem psort_only {ns ms : List (Int × Int)} (p : ms.Perm ns) (h : ms.Pairwise (fun a b => leP a b = true)) : ms = psort ns :=
  List.Perm.eq_of_pairwise (fun a b _ _ x y => by
    have x := leP_iff.mp x
    have y := leP_iff.mp y
    exact Prod.ext (by omega) (by omega)) h (psort_rises ns) (p.trans (psort_perm ns).symm)
theorem maxI_ok : ∀ (ns : List Int) (n : Int), maxI n ns ∈ n :: ns ∧ ∀ y ∈ n :: ns, y ≤ maxI n ns
  | [], n => ⟨List.mem_cons_self, fun y hy => by
    cases hy with
    | head => exact Int.le_refl _
    | tail _ h => cases h⟩
  | x :: xs, n => by
    obtain ⟨h1, h2⟩ := maxI_ok xs (if decide (n < x) then x else n)
    show maxI (if decide (n < x) then x else n) xs ∈ n :: x :: xs ∧ ∀ y ∈ n :: x :: xs, y ≤ maxI (if decide (n < x) then x else n) xs
    by_cases c : n < x
    · rw [if_pos (decide_eq_true c)] at h1 h2 ⊢
      refine ⟨List.mem_cons_of_mem _ h1, fun y hy => ?_⟩
      rcases List.mem_cons.mp hy with rfl | hy
      · exact Int.le_trans (Int.le_of_lt c) (h2 _ List.mem_cons_self)
      · exact h2 y hy
    · rw [if_neg (by simpa using c)] at h1 h2 ⊢
      refine ⟨?_, fun y hy => ?_⟩
      · rcases List.mem_cons.mp h1 with e | e
        · rw [e]; exact List.mem_cons_self
        · exact List.mem_cons_of_mem _ (List.mem_cons_of_mem _ e)
      · rcases List.mem_cons.mp hy with rfl | hy
        · exact h2 _ List.mem_cons_self
        · rcases List.mem_cons.mp hy with rfl | hy
          · exact Int.le_trans (Int.not_lt.mp c) (h2 _ List.mem_cons_self)
          · exact h2 y (List.mem_cons_of_mem _ hy)
theorem minI_ok : ∀ (ns : List Int) (n : Int), minI n ns ∈ n :: ns ∧ ∀ y ∈ n :: ns, minI n ns ≤ y
  | [], n => ⟨List.mem_cons_self, fun y hy => by
    cases hy with
    | head => exact Int.le_refl _
    | tail _ h => cases h⟩
  | x :: xs, n => by
    obtain ⟨h1, h2⟩ := minI_ok xs (if decide (x < n) then x else n)
    show minI (if decide (x < n) then x else n) xs ∈ n :: x :: xs ∧ ∀ y ∈ n :: x :: xs, minI (if decide (x < n) then x else n) xs ≤ y
    by_cases c : x < n
    · rw [if_pos (decide_eq_true c)] at h1 h2 ⊢
      refine ⟨List.mem_cons_of_mem _ h1, fun y hy => ?_⟩
      rcases List.mem_cons.mp hy with rfl | hy
      · exact Int.le_trans (h2 _ List.mem_cons_self) (Int.le_of_lt c)
      · exact h2 y hy
    · rw [if_neg (by simpa using c)] at h1 h2 ⊢
      refine ⟨?_, fun y hy => ?_⟩
      · rcases List.mem_cons.mp h1 with e | e
        · rw [e]; exact List.mem_cons_self
        · exact List.mem_cons_of_mem _ (List.mem_cons_of_mem _ e)
      · rcases List.mem_cons.mp hy with rfl | hy
        · exact h2 _ List.mem_cons_self
        · rcases List.mem_cons.mp hy with rfl | hy
          · exact Int.le_trans (h2 _ List.mem_cons_self) (Int.not_lt.mp c)
          · exact h2 y (List.mem_cons_of_mem _ hy)
theorem insI_perm (x : Int) : ∀ ys : List Int, (insI x ys).Perm (x :: ys)
  | [] => .refl _
  | y :: ys => by
    unfold insI
    split
    · exact .refl _
    · exact ((insI_perm x ys).cons y).trans (.swap x y ys)
theorem isort_perm : ∀ xs : List Int, (isort xs).Perm xs
  | [] => .refl _
  | x :: xs => (insI_perm x _).trans ((isort_perm xs).cons x)
theorem insI_rises (x : Int) : ∀ ys : List Int, ys.Pairwise (· ≤ ·) → (insI x ys).Pairwise (· ≤ ·)
  | [], _ => List.pairwise_singleton _ _
  | y :: ys, h => by
    unfold insI
    obtain ⟨h1, h2⟩ := List.pairwise_cons.mp h
    split
    · rename_i c
      have c' : x ≤ y := of_decide_eq_true c
      refine List.pairwise_cons.mpr ⟨fun z hz => ?_, h⟩
      rcases List.mem_cons.mp hz with rfl | hz
      · exact c'
      · exact Int.le_trans c' (h1 z hz)
    · rename_i c
      have c' : ¬ x ≤ y := by simpa using c
      refine List.pairwise_cons.mpr ⟨fun z hz => ?_, insI_rises x ys h2⟩
      rcases List.mem_cons.mp ((insI_perm x ys).mem_iff.mp hz) with rfl | hz
      · omega
      · exact h1 z hz
theorem isort_rises : ∀ xs : List Int, (isort xs).Pairwise (· ≤ ·)
  | [] => .nil
  | x :: xs => insI_rises x _ (isort_rises xs)
theorem isort_only {ns ms : List Int} (p : ms.Perm ns) (h : ms.Pairwise (· ≤ ·)) : ms = isort ns :=
  List.Perm.eq_of_pairwise (fun _ _ _ _ a b => Int.le_antisymm a b) h (isort_rises ns) (p.trans (isort_perm ns).symm)
theorem paired_imp {α β : Type} {F F' : α → β → Prop} (h : ∀ a b, F a b → F' a b) : ∀ {l₁ : List α} {l₂ : List β}, Paired F l₁ l₂ → Paired F' l₁ l₂
  | _, _, .nil => .nil
  | _, _, .cons q r => .cons (h _ _ q) (paired_imp h r)
theorem merge_new : ∀ {kvs acc : List (Key × V)}, (∀ kv ∈ kvs, valV acc kv.1 = none) → kvs.Pairwise (fun p q => ¬ p.1 = q.1) → mergeK acc kvs = acc ++ kvs
  | [], acc, _, _ => (List.append_nil acc).symm
  | p :: r, acc, h, hp => by
    rw [List.pairwise_cons] at hp
    have h0 := h p List.mem_cons_self
    show mergeK (putK acc p.1 p.2) r = _
    rw [putK_new p.2 h0, merge_new (acc := acc ++ [(p.1, p.2)]) (fun kv hkv => ?_) hp.2, List.append_assoc]
    · rfl
    · rw [valV_snoc _ _ _ _ h0, if_neg fun z => hp.1 kv hkv z.symm]
      exact h kv (List.mem_cons_of_mem _ hkv)
theorem pairsK_ok {K : PySem.W.Frag} {G : Hp} : ∀ {xs : List PyData} {ws : List V} {prs : List (Key × PyData)}, DPs K G ws xs → pairsK xs = some prs →
    ∃ (ps : List Addr) (kvs : List (Key × V)), ws = ps.map V.ref ∧ Paired (fun p kv => SqT K G p [kV kv.1, kv.2]) ps kvs ∧ DKs K G kvs (prs.map fun p => (kDat p.1, p.2)) ∧ kvs.Pairwise (fun p q => ¬ p.1 = q.1) ∧ kvs.map (·.1) = prs.map (·.1)
  | [], ws, prs, hd, h => by
    cases hd
    cases h
    exact ⟨[], [], rfl, .nil, .nil, .nil, rfl⟩
  | x :: r, ws, prs, hd, h => by
    cases hd with
    | cons h1 h2 =>
      cases x with
      | tuple ds =>
        match ds, h with
        | [k, d], h =>
          simp only [pairsK] at h
          cases e1 : keyD k with
          | none => rw [e1] at h; cases h
          | some k' =>
            cases e2 : pairsK r with
            | none => rw [e1, e2] at h; cases h
            | some prs' =>
              rw [e1, e2] at h
              simp only at h
              split at h
              · cases h
              · rename_i hn
                cases h
                obtain ⟨ps, kvs, rfl, q1, q2, q3, q4⟩ := pairsK_ok h2 e2
                cases h1 with
                | tup hs hx =>
                  cases hx with
                  | cons hk hx =>
                    cases hx with
                    | cons hv hx =>
                      cases hx
                      rename_i p v1 v2
                      obtain rfl := keyD_kV (H := G) e1 (.inl hk)
                      have ek : kD k' = kDat k' := by cases k' <;> rfl
                      refine ⟨p :: ps, (k', v2) :: kvs, rfl, .cons (.inl (.inl hs)) q1, ?_, ?_, by rw [List.map_cons, List.map_cons, q4]⟩
                      · show DKs K G ((k', v2) :: kvs) ((kDat k', d) :: _)
                        rw [← ek]
                        exact .cons hv q2
                      · rw [List.pairwise_cons]
                        refine ⟨fun q hq z => hn ?_, q3⟩
                        have m : q.1 ∈ prs'.map (·.1) := by rw [← q4]; exact List.mem_map_of_mem hq
                        obtain ⟨y, hy, ey⟩ := List.mem_map.mp m
                        exact List.any_eq_true.mpr ⟨y, hy, decide_eq_true (ey.trans z.symm)⟩
        | [], h => simp [pairsK] at h
        | [_], h => simp [pairsK] at h
        | _ :: _ :: _ :: _, h => simp [pairsK] at h
      | _ => simp [pairsK] at h
/-- what walks its operand: not within an except suite -/
def loudB : Blt → Bool
  | .min2 => true
  | .max2 => true
  | .minL => true
  | .maxL => true
  | .sumL => true
  | .all => true
  | .any => true
  | .dict => true
  | _ => false
theorem blt_ok (b : Blt) (hc : loudB b = true → X.calm = true) (hg : X.A.guards = some []) (hu : X.A.units + 70 < cLine) : CallR X (bltV b) (fun xs H Q => ∃ ys, xs = bltA b ys ∧ rDs X.K xr W (opBlt b) ys H Q) := by
  intro pins s σ H xs us Q I r h
  obtain ⟨ys, e, σ0, G, φ, ρ, ds, sr, vw, h⟩ := h
  unfold opBlt at h
  split at h
  · -- len of a list
    cases vw with
    | cons v1 v2 =>
      cases v2
      obtain ⟨a, ws, rfl, h1, h2⟩ := v1.list sr.gh
      split at h
      · refine call_len_seq pins s σ H xs us Q I r ⟨a, ws, e, .inl h1, ?_⟩
        rw [h2.length]
        exact fin_int sr h
      · exact h.elim
  · cases vw with
    | cons v1 v2 =>
      cases v2
      obtain ⟨a, ws, rfl, h1, h2⟩ := v1.tuple
      split at h
      · refine call_len_seq pins s σ H xs us Q I r ⟨a, ws, e, .inr (Same.seqT sr.gh h1), ?_⟩
        rw [h2.length]
        exact fin_int sr h
      · exact h.elim
  · cases vw with
    | cons v1 v2 =>
      cases v2
      split at h
      · exact h.elim
      rename_i hlk
      obtain ⟨a, rfl, ⟨kv, h1, h2⟩ | ⟨kv, h1, h2⟩⟩ := v1.dict sr.gh (by simpa using hlk)
      · exact cr_lenK pins s σ H xs us Q I r ⟨a, kv, e, h1, by rw [h2.length]; exact fin_int sr h⟩
      · exact cr_lenR pins s σ H xs us Q I r ⟨a, kv, e, h1, by rw [h2.length]; exact fin_int sr h⟩
  · cases vw with
    | cons v1 v2 =>
      cases v2
      obtain rfl := v1.str
      split at h
      · rename_i hz
        exact call_len_str pins s σ H xs us Q I r ⟨_, e, of_decide_eq_true hz, fin_int sr h⟩
      · exact h.elim
  · cases vw with
    | cons v1 v2 =>
      cases v2
      split at h
      · rename_i hz
        simp only [Bool.and_eq_true, decide_eq_true_eq] at hz
        exact call_reprD hg hu pins s σ H xs us Q I r ⟨_, _, e, v1.dp sr.gh, hz.2, hz.1.1.1, hz.1.1.2, hz.1.2, fin_str sr h⟩
      · exact h.elim
  · cases vw with
    | cons v1 v2 =>
      cases v2 with
      | cons v2 v3 =>
        cases v3
        obtain rfl := v1.int
        obtain rfl := v2.int
        exact call_min2 (hc rfl) pins s σ H xs us Q I r ⟨_, _, e, fin_int sr h⟩
  · cases vw with
    | cons v1 v2 =>
      cases v2 with
      | cons v2 v3 =>
        cases v3
        obtain rfl := v1.int
        obtain rfl := v2.int
        exact call_max2 (hc rfl) pins s σ H xs us Q I r ⟨_, _, e, fin_int sr h⟩
  · cases vw with
    | cons v1 v2 =>
      cases v2
      obtain ⟨a, ws, rfl, h1, h2⟩ := v1.list sr.gh
      split at h
      · exact call_list_of pins s σ H xs us Q I r ⟨a, ws, e, .inl h1, fun p hp => fin_lst sr hp h2 h⟩
      · exact h.elim
  · cases vw with
    | cons v1 v2 =>
      cases v2
      obtain ⟨a, ws, rfl, h1, h2⟩ := v1.tuple
      split at h
      · exact call_list_of pins s σ H xs us Q I r ⟨a, ws, e, .inr (Same.seqT sr.gh h1), fun p hp => fin_lst sr hp h2 h⟩
      · exact h.elim
  · cases vw with
    | cons v1 v2 =>
      cases v2
      rename_i t d _
      split at h
      · exact h.elim
      · rename_i hk
        exact call_isi pins s σ H xs us Q I r ⟨_, _, _, _, _, e, .ty _, (v1.dp sr.gh).tyX (by simpa using hk), kit_ty (ty_kit t d), fin_bool sr h⟩
  · cases vw with
    | cons v1 v2 =>
      cases v2
      obtain rfl := v1.int
      exact call_int1 pins s σ H xs us Q I r (.inl ⟨_, e, fin_int sr h⟩)
  · cases vw with
    | cons v1 v2 =>
      cases v2
      obtain rfl := v1.str
      split at h
      · rename_i n hn
        split at h
        · rename_i hz
          exact call_int_str pins s σ H xs us Q I r ⟨_, n, e, hn, of_decide_eq_true hz, fin_int sr h⟩
        · exact h.elim
      · exact h.elim
  · cases vw with
    | cons v1 v2 =>
      cases v2
      obtain rfl := v1.bool
      exact call_int1 pins s σ H xs us Q I r (.inr ⟨_, e, fin_int sr h⟩)
  · cases vw with
    | cons v1 v2 =>
      cases v2
      obtain ⟨a, ws, rfl, h1, h2⟩ := v1.tupX
      exact call_tuple_of pins s σ H xs us Q I r ⟨a, ws, e, .inr ⟨.inl (.inl (sr.gh _ _ h1)), fin_val sr (.tup h1 h2) h⟩⟩
  · cases vw with
    | cons v1 v2 =>
      cases v2
      obtain ⟨a, ws, rfl, h1, h2⟩ := v1.list sr.gh
      split at h
      · exact call_tuple_of pins s σ H xs us Q I r ⟨a, ws, e, .inl ⟨h1, fun p hp => fin_tup sr hp h2 h⟩⟩
      · exact h.elim
  · cases vw with
    | cons v1 v2 =>
      cases v2
      obtain ⟨a, ws, rfl, h1, h2⟩ := v1.list sr.gh
      split at h
      · rename_i ns hn
        rw [allInts_map hn] at h2
        obtain rfl := h2.ints
        exact cr_sum (hc rfl) pins s σ H xs us Q I r ⟨a, ns, e, h1, fin_int sr h⟩
      · exact h.elim
  · cases vw with
    | cons v1 v2 =>
      cases v2
      obtain ⟨a, ws, rfl, h1, h2⟩ := v1.tuple
      split at h
      · rename_i ns hn
        rw [allInts_map hn] at h2
        obtain rfl := h2.ints
        exact cr_sumT (hc rfl) pins s σ H xs us Q I r ⟨a, ns, e, Same.seqT sr.gh h1, fin_int sr h⟩
      · exact h.elim
  · cases vw with
    | cons v1 v2 =>
      cases v2
      obtain ⟨a, ws, rfl, h1, h2⟩ := v1.list sr.gh
      split at h
      · rename_i n ns hn
        rw [allInts_map hn] at h2
        obtain rfl := h2.ints
        refine cr_max (hc rfl) pins s σ H xs us Q I r ⟨a, n :: ns, e, h1, Nat.succ_pos _, fun m hm hy => ?_⟩
        obtain ⟨q1, q2⟩ := maxI_ok ns n
        rw [show m = maxI n ns from Int.le_antisymm (q2 m hm) (hy _ q1)]
        exact fin_int sr h
      · exact h.elim
  · cases vw with
    | cons v1 v2 =>
      cases v2
      obtain ⟨a, ws, rfl, h1, h2⟩ := v1.list sr.gh
      split at h
      · rename_i n ns hn
        rw [allInts_map hn] at h2
        obtain rfl := h2.ints
        refine cr_min (hc rfl) pins s σ H xs us Q I r ⟨a, n :: ns, e, h1, Nat.succ_pos _, fun m hm hy => ?_⟩
        obtain ⟨q1, q2⟩ := minI_ok ns n
        rw [show m = minI n ns from Int.le_antisymm (hy _ q1) (q2 m hm)]
        exact fin_int sr h
      · exact h.elim
  · cases vw with
    | cons v1 v2 =>
      cases v2
      obtain ⟨a, ws, rfl, h1, h2⟩ := v1.list sr.gh
      split at h
      · rename_i bs hn
        rw [allBools_map hn] at h2
        obtain rfl := h2.bools
        exact cr_all (hc rfl) pins s σ H xs us Q I r ⟨a, bs, e, h1, fin_bool sr h⟩
      · exact h.elim
  · cases vw with
    | cons v1 v2 =>
      cases v2
      obtain ⟨a, ws, rfl, h1, h2⟩ := v1.list sr.gh
      split at h
      · rename_i bs hn
        rw [allBools_map hn] at h2
        obtain rfl := h2.bools
        exact cr_any (hc rfl) pins s σ H xs us Q I r ⟨a, bs, e, h1, fin_bool sr h⟩
      · exact h.elim
  · cases vw with
    | cons v1 v2 =>
      cases v2
      obtain ⟨a, ws, rfl, h1, h2⟩ := v1.list sr.gh
      split at h
      · rename_i ns hn
        rw [allInts_map hn] at h2
        obtain rfl := h2.ints
        refine cr_sortedI pins s σ H xs us Q I r ⟨a, ns, e, h1, fun ms p hp hr hn' => ?_⟩
        obtain rfl := isort_only hp hr
        exact fin_lst sr hn' (DPs.ofInts _) h
      · split at h
        · rename_i prs hn
          rw [allPairs_map hn] at h2
          obtain ⟨z1, z2⟩ := h2.prs sr.gh
          refine cr_sortedPO pins s σ H xs us Q I r ⟨a, ws, pairAt H, e, h1, fun x hx => ?_, fun ys p hy hst hn' => ?_⟩
          · obtain ⟨t, e1, e2, _⟩ := z2 x hx
            exact ⟨t, e1, e2⟩
          · have e1 : ys.map (pairAt H) = psort prs := by
              rw [← z1]
              exact psort_only (hst.perm.map _) (List.pairwise_map.mpr (hy.imp fun {x y} q => leP_of q))
            refine fin_lst sr hn' ?_ h
            rw [← e1]
            have all : ∀ x ∈ ys, DP X.K G x (prI (pairAt H x)) := fun x hx => by
              obtain ⟨t, _, _, e3⟩ := z2 x (hst.perm.mem_iff.mp hx)
              exact e3
            clear hy hst e1 hn'
            induction ys with
            | nil => exact .nil
            | cons y ys ih => exact .cons (all y List.mem_cons_self) (ih fun x hx => all x (List.mem_cons_of_mem _ hx))
        · split at h
          · rename_i qs hn
            split at h
            · rename_i hq
              rw [Bool.and_eq_true] at hq
              have hl64 := of_decide_eq_true hq.1
              have hok := List.all_eq_true.mp hq.2
              rw [allQuads_map hn] at h2
              obtain ⟨z1, z2⟩ := h2.qds sr.gh
              have hwl : ws.length = qs.length := by rw [← z1, List.length_map]
              have tup : ∀ x ∈ ws, TupI X.K H x (qls (quadAt H x)) := fun x hx => by
                obtain ⟨t, e1, e2, _⟩ := z2 x hx
                exact ⟨t, e1, .inl (.inl e2)⟩
              have okx : ∀ x ∈ ws, qok (quadAt H x) = true := fun x hx => hok _ (by rw [← z1]; exact List.mem_map.mpr ⟨x, hx, rfl⟩)
              refine cr_sortT (d := 4) (B := 64) (by decide) pins s σ H xs us Q I r ⟨a, ws, e, h1, by omega, fun x hx => ⟨_, tup x hx, rfl, ?_⟩, fun ys p hy hpw hn' => ?_⟩
              · have q := of_decide_eq_true (okx x hx)
                intro m hm
                simp only [qls, List.mem_cons, List.mem_nil_iff, or_false] at hm
                rcases hm with rfl | rfl | rfl | rfl <;> omega
              · have e1 : ys.map (quadAt H) = qsort qs := by
                  rw [← z1]
                  refine qsort_only (fun q hq => ?_) (hy.map _) ?_
                  · obtain ⟨x, hx, rfl⟩ := List.mem_map.mp hq
                    exact okx x hx
                  · rw [List.pairwise_map]
                    refine List.Pairwise.imp_of_mem (fun {x y} hx hy' q => ?_) hpw
                    have z := q _ _ (tup x (hy.mem_iff.mp hx)) (tup y (hy.mem_iff.mp hy'))
                    rw [qcode_eq, qcode_eq] at z
                    exact z
                refine fin_lst sr hn' ?_ h
                rw [← e1]
                have all : ∀ x ∈ ys, DP X.K G x (qdI (quadAt H x)) := fun x hx => by
                  obtain ⟨t, _, _, e3⟩ := z2 x (hy.mem_iff.mp hx)
                  exact e3
                clear hpw hy e1 hn'
                induction ys with
                | nil => exact .nil
                | cons y ys ih => exact .cons (all y List.mem_cons_self) (ih fun x hx => all x (List.mem_cons_of_mem _ hx))
            · exact h.elim
          · exact h.elim
  · cases vw with
    | cons v1 v2 =>
      cases v2
      obtain rfl := v1.int
      split at h
      · rename_i hz
        exact call_str_int pins s σ H xs us Q I r ⟨_, e, of_decide_eq_true hz, fin_str sr h⟩
      · exact h.elim
  · cases vw with
    | cons v1 v2 =>
      cases v2
      obtain rfl := v1.str
      exact SkE.call_str_str pins s σ H xs us Q I r ⟨_, e, fin_str sr h⟩
  · cases vw with
    | cons v1 v2 =>
      cases v2
      unfold opDctP at h
      split at h
      · rename_i xs0
        obtain ⟨a, ws, rfl, h1, h2⟩ := v1.list sr.gh
        cases ep : pairsK xs0 with
        | none => rw [ep] at h; exact h.elim
        | some prs =>
          rw [ep] at h
          obtain ⟨ps, kvs, rfl, q1, q2, q3, _⟩ := pairsK_ok h2 ep
          have em : mergeK [] kvs = kvs := by
            rw [merge_new (fun _ _ => rfl) q3]
            rfl
          have q1' : Paired (fun p kv => SqT X.K H p [kV kv.1, kv.2]) ps kvs := paired_imp (fun _ _ z => Same.seqT sr.gh z) q1
          refine call_dictP (hc rfl) pins s σ H xs us Q I r ⟨a, ps, kvs, e, h1, q1', fun p hp => ?_⟩
          rw [em]
          exact h _ G _ φ [p] ((Stp.newH hp).weak fun a q => q.imp id fun z => List.mem_singleton.mp z) (sr.newH hp) ⟨⟨p, rfl, rfl, kvs, upd_same, q2⟩, (fun a ha => by
            obtain rfl := List.mem_singleton.mp ha
            exact sr.gh.free hp), fun a ha q => by
            obtain rfl := List.mem_singleton.mp ha
            obtain ⟨o, e⟩ := sr.here q
            rw [hp] at e; cases e⟩
      · exact h.elim
  · exact h.elim

/-! ### len(set(..)), list(range(..)) -/
theorem map_getD : ∀ (ns : List Int), (List.range ns.length).map (fun i => ns.getD i 0) = ns := by
  intro ns
  apply List.ext_getElem
  · simp
  · intro i h1 h2
    simp [List.getElem?_eq_getElem h2]
def tLset (K : PySem.W.Frag) (ta : TE) : TE := fun σ H Q => ta σ H fun x H1 => ∃ (l : Addr) (ns : List Int), x = .ref l ∧ SqL K H1 l (ns.map V.int) ∧ ns.length ≤ 4000 ∧ Q (.int (dedup ns).length) H1
theorem pe_lset {e : Expr} {ta : TE} {p p2 q pos : Pos} (hc : X.calm = true) (hg : Gl X "len") (hm : X.mg "len" = none) (hg2 : Gl X "set") (hm2 : X.mg "set" = none) (ha : PE X e ta)
    (na : starEach [e] X.env = (false, eval e X.env) :: starEach [] X.env) : PE X (.Call (.Name "len" p) [.Call (.Name "set" p2) [e] [] q] [] pos) (tLset X.K ta) := by
  constructor
  intro pins s σ H Q I h
  refine Call_ (ld_blt I hg hm PySem.boot_len (PyProof.Rows.callWith_builtin1 (PyProof.Rows.args_cons (Call_ (ld_blt I hg2 hm2 boot_set (PyProof.Rows.callWith_type1 (PyProof.Rows.args_cons (thn (ha.run pins s σ H _ I h) ?_) na) na rfl))) rfl) rfl rfl))
  rintro v s1 ⟨x, H1, I1, r1, l, ns, rfl, hq, hl, q1⟩
  cases r1
  obtain ⟨its, r, pl, hz⟩ := I1.list hq
  have hi : PyProof.Rows.IntsAre its ns := r.ints
  have hn : its.toArray.size = ns.length := by rw [List.size_toArray]; exact hi.length
  refine PyProof.Rows.args_nil (call_set_list (I1.ok.hd hc) pl.isList (by simpa using hi) (by rw [hn]; unfold scanBound; omega) fun h' tk hS hk => PyProof.Rows.args_nil ?_)
  have e1 : PyProof.Rows.firstMet (fun i => ns.getD i 0) ns.length = dedup ns := by
    unfold PyProof.Rows.firstMet dedup
    rw [map_getD]
  rw [hn, e1] at hS
  obtain ⟨o, es, ep, t, ho, hex, hd, _, _, _, hf, hnn⟩ := hS
  have le : (dedup ns).length ≤ ns.length := by
    rw [← e1]
    exact PyProof.Rows.firstMet_length_le _ _
  have I2 : L2.Inv X pins σ H1 { s1 with heap := h', toks := tk } := I1.kept fun b o e => hk b o (Heap.lt_size e) e
  exact call_len_set ho hex hd hf (by rw [hnn] <;> omega) ⟨.int (dedup ns).length, H1, I2.tok _, ⟨_, by rw [hnn]⟩, q1⟩

/-! ### an item -/
theorem DPs.atI {K : PySem.W.Frag} {G : Hp} {vs : List V} {ds : List PyData} {i : Int} {d : PyData} (h : DPs K G vs ds) (e : L2.atI ds i = some d) : ∃ v, L2.atI vs i = some v ∧ DP K G v d := by
  unfold L2.atI at e ⊢
  rw [h.length]
  cases q : ixN ds.length i with
  | none => rw [q] at e; cases e
  | some j =>
    rw [q] at e
    exact h.get e
theorem ix_ok : IxR X (rD X.K xr W ixS) := by
  intro value slice pins s σ H x y v u Q I rx ry h hs
  obtain ⟨σ0, G, φ, ρ, d, e, sr, vx, vy, h⟩ := h
  unfold ixS opIx at h
  split at h
  · obtain ⟨a, ws, rfl, h1, h2⟩ := vx.list sr.gh
    rw [vy.int] at ry
    rename_i xs i
    cases q : L2.atI xs i with
    | none => rw [q] at h; exact h.elim
    | some d =>
      rw [q] at h
      obtain ⟨w, h3, h4⟩ := h2.atI q
      exact ix_list value slice pins s σ H _ _ v u Q I rx ry ⟨a, ws, i, w, rfl, rfl, h1, h3, fin_val sr h4 h⟩ hs
  · obtain ⟨a, ws, rfl, h1, h2⟩ := vx.tuple
    rw [vy.int] at ry
    rename_i xs i
    cases q : L2.atI xs i with
    | none => rw [q] at h; exact h.elim
    | some d =>
      rw [q] at h
      obtain ⟨w, h3, h4⟩ := h2.atI q
      exact ix_tup value slice pins s σ H _ _ v u Q I rx ry ⟨a, ws, i, w, rfl, rfl, Same.seqT sr.gh h1, h3, fin_val sr h4 h⟩ hs
  · rw [vx.str] at rx
    rw [vy.int] at ry
    rename_i z i
    by_cases hz : z.length ≤ sizeLine
    · rw [if_pos (decide_eq_true hz)] at h
      cases q : L2.atI z.cps.toList i with
      | none => rw [q] at h; exact h.elim
      | some c =>
        rw [q] at h
        exact ix_str value slice pins s σ H _ _ v u Q I rx ry ⟨z, i, c, rfl, rfl, hz, q, fin_str sr h⟩ hs
    · rw [if_neg (by simpa using hz)] at h
      exact h.elim
  · exact h.elim
theorem neg_ok : UnR X (unaryOp .USub) (rD1 X.K xr W opNeg) := by
  intro pins s σ H x v Q I rx h
  obtain ⟨σ0, G, φ, ρ, d, sr, vx, h⟩ := h
  unfold opNeg at h
  split at h
  · rw [vx.int] at rx
    exact un_neg pins s σ H _ v Q I rx ⟨_, rfl, fin_int sr h⟩
  · exact h.elim
end

/-! ### values on the way become data -/
section
variable {K : PySem.W.Frag} {xr : XR} {W : WX} {Φ : Fns} {σ : L2.St} {G H G' H' : Hp} {φ φ' : Nat → List Addr} {ρ : List S} {Q : VK}
theorem Stp.frz {a : Addr} {o : HO} {F : Addr → Prop} (gn : G a = none) (hF : F a) : Stp G H F (upd G a o) H F where
  gg := Same.upd_new gn
  keep := fun _ _ h _ => h
  sub := fun _ h => .inl h
  gnew := fun b e e' => by
    by_cases q : b = a
    · rw [q]; exact .inl hF
    · rw [upd_ne q] at e'; exact absurd e e'
  there := fun _ h => h
theorem same_frz {a : Addr} {o : HO} (gh : Same G H) (h : H a = some o) : Same (upd G a o) H := fun b u e => by
  by_cases q : b = a
  · subst q; rw [upd_same] at e; rw [h]; exact e
  · rw [upd_ne q] at e; exact gh b u e
/-- one value on the way is kept as data -/
theorem Tmp.freeze {s : S} {v : V} {f : List Addr} {d : PyData} (t : Tmp K G H s v f φ) (r : SR K G H ρ σ φ) (h : view s = some d) :
    ∃ G', Stp G H (fun a => own φ a ∨ a ∈ f) G' H (own φ) ∧ SR K G' H ρ σ φ ∧ DP K G' v d ∧ ∀ a, G' a ≠ none → G a ≠ none ∨ a ∈ f := by
  have core : ∀ (a : Addr) (o : HO), f = [a] → H a = some o → Stp G H (fun a => own φ a ∨ a ∈ f) (upd G a o) H (own φ) ∧ SR K (upd G a o) H ρ σ φ := fun a o e ho => by
    have hm : a ∈ f := by rw [e]; exact List.mem_singleton.mpr rfl
    have st : Stp G H (fun a => own φ a ∨ a ∈ f) (upd G a o) H (own φ) := (Stp.frz (t.gn a hm) (.inr hm)).weak fun _ q => .inl q
    refine ⟨st, ?_⟩
    have st2 : Stp G H (fun b => b = a) (upd G a o) H (fun b => b = a) := Stp.frz (t.gn a hm) rfl
    exact r.step st2 (same_frz r.gh ho) fun b hb q => t.off a hm (q ▸ hb)
  have new : ∀ (a : Addr) (o : HO), f = [a] → ∀ b, upd G a o b ≠ none → G b ≠ none ∨ b ∈ f := fun a o e b hb => by
    by_cases q : b = a
    · rw [q, e]; exact .inr (List.mem_singleton.mpr rfl)
    · rw [upd_ne q] at hb; exact .inl hb
  cases s with
  | val d' =>
    cases h
    exact ⟨G, Stp.refl.weak fun _ q => .inl q, r, t.rel.1, fun _ h => .inl h⟩
  | lst xs =>
    cases h
    obtain ⟨a, vs, rfl, ha, hd, e⟩ := t.rel
    obtain ⟨st, sr⟩ := core a _ e ha
    have gn : G a = none := t.gn a (by rw [e]; exact List.mem_singleton.mpr rfl)
    exact ⟨_, st, sr, .lst (.inl (.inl upd_same)) (hd.mono (Same.upd_new gn)), new a _ e⟩
  | dct kvs =>
    cases h
    obtain ⟨a, rfl, e, kv, ha, hd⟩ := t.rel
    obtain ⟨st, sr⟩ := core a _ e ha
    have gn : G a = none := t.gn a (by rw [e]; exact List.mem_singleton.mpr rfl)
    exact ⟨_, st, sr, .dctK upd_same (hd.mono (Same.upd_new gn)), new a _ e⟩
  | dtt kvs => cases h
  | box b fs => cases h
  | dead => cases h
/-- all operands are kept as data -/
theorem Ops.freeze {as : List A} {ts : List (Option S)} {vs : List V} {fs : List Addr} (o : Ops K G H σ as ts vs fs) : ∀ {ds : List PyData}, SR K G H ρ σ φ → (∀ a ∈ fs, G a = none ∧ ¬ own φ a) → resV as ts ρ = some ds →
    ∃ G', Stp G H (fun a => own φ a ∨ a ∈ fs) G' H (own φ) ∧ SR K G' H ρ σ φ ∧ DPs K G' vs ds ∧ ∀ a, G' a ≠ none → G a ≠ none ∨ a ∈ fs := by
  induction o with
  | nil =>
    intro ds r _ h
    cases h
    exact ⟨G, Stp.refl.weak fun _ q => .inl q, r, .nil, fun _ h => .inl h⟩
  | @cons a as t ts v vs f g o1 o2 dis ih =>
    intro ds r hf h
    have hg : ∀ a ∈ g, G a = none ∧ ¬ own φ a := fun a ha => hf a (List.mem_append_right _ ha)
    cases a with
    | pl i =>
      obtain ⟨rfl, hv⟩ := o1
      simp only [resV] at h
      cases e1 : slot ρ i with
      | val d =>
        rw [e1] at h
        cases e2 : resV as ts ρ with
        | none => rw [e2] at h; cases h
        | some ds' =>
          rw [e2] at h
          cases h
          obtain ⟨G', st, sr, hd, hn⟩ := ih r hg e2
          obtain ⟨w, hw, q⟩ := r.at (i := i) (by rw [e1]; exact fun z => nomatch z)
          rw [hv] at hw
          cases hw
          rw [e1] at q
          exact ⟨G', st, sr, .cons (q.1.mono st.gg) hd, hn⟩
      | lst d => rw [e1] at h; cases h
      | dct d => rw [e1] at h; cases h
      | dtt d => rw [e1] at h; cases h
      | box b fs => rw [e1] at h; cases h
      | dead => rw [e1] at h; cases h
    | e x =>
      obtain ⟨s, rfl, q⟩ := o1
      simp only [resV] at h
      cases e1 : view s with
      | none => rw [e1] at h; cases h
      | some d =>
        rw [e1] at h
        cases e2 : resV as ts ρ with
        | none => rw [e2] at h; cases h
        | some ds' =>
          rw [e2] at h
          cases h
          obtain ⟨G1, st1, sr1, hd1, hn1⟩ := ih r hg e2
          have off : ∀ b ∈ f, ¬ (own φ b ∨ b ∈ g) := fun b hb z => z.elim (hf b (List.mem_append_left _ hb)).2 (dis b hb)
          have t0 : Tmp K G H s v f φ := ⟨q, fun b hb => (hf b (List.mem_append_left _ hb)).1, fun b hb => (hf b (List.mem_append_left _ hb)).2⟩
          obtain ⟨q1, q2, q3⟩ := t0.frame st1 off
          obtain ⟨G2, st2, sr2, hd2, hn2⟩ := Tmp.freeze (φ := φ) ⟨q1, q2, q3⟩ sr1 e1
          refine ⟨G2, ?_, sr2, .cons hd2 (hd1.mono st2.gg), fun b hb => ?_⟩
          · have st1' := st1.frame (T := fun b => b ∈ f) fun b hb => ⟨off b hb, by
              obtain ⟨o, e⟩ := q.here b hb
              rw [e]; exact fun z => nomatch z⟩
            have stt := st1'.trans st2
            refine ⟨stt.gg, fun b u hu hn => stt.keep b u hu fun z => hn ?_, fun b hb => (stt.sub b hb).imp (fun z => ?_) id, fun b e e' => (stt.gnew b e e').imp (fun z => ?_) id, stt.there⟩
            · rcases z with (z | z) | z
              · exact .inl z
              · exact .inr (List.mem_append_right _ z)
              · exact .inr (List.mem_append_left _ z)
            · rcases z with (z | z) | z
              · exact .inl z
              · exact .inr (List.mem_append_right _ z)
              · exact .inr (List.mem_append_left _ z)
            · rcases z with (z | z) | z
              · exact .inl z
              · exact .inr (List.mem_append_right _ z)
              · exact .inr (List.mem_append_left _ z)
          · rcases hn2 b hb with z | z
            · exact (hn1 b z).imp id fun z => List.mem_append_right _ z
            · exact .inr (List.mem_append_left _ z)
end
end VE

/-! VS4: defs where no repr is running (FnG); their calls; a def by its body. -/
namespace VE
open PySem L2 PySem.Spec PyProof.Rows

/-- a def keeps its promise wherever there is room and no repr runs around it -/
structure FnG (P : Program) (w : World) (K : PySem.W.Frag) (mg : Str → Option Value) (base : Heap) (CX : CXT) (k : Nat) (f : Addr) (fd : FuncData) (ps : List Str) (sp : Sp) : Prop where
  len : ∀ vs H Q E, sp vs H Q E → vs.length = ps.length
  go : ∀ (A : Around) (outer : List Env) (s : Shared) (H : Hp) (args : Args) (us : List Value) (vs : List V) (Q : VK) (E : XK),
    Room k A → A.guards = some [] → Env0 P w K mg base A outer s H → BindsTo s fd args (ps.zip us) → Vals vs us → sp vs H Q E → codeAny (model P w) A (.call (.ref f) args) (CR CX outer P w H s Q E) s
section
variable {X : Cx} {CX : CXT} {k : Nat} {f : Addr} {fd : FuncData} {ps : List Str} {sp : Sp} {E : L2.St → XK} {x : Str} {p pos : Pos} {e : Expr} {es : List Expr} {t : TA}
theorem FnG.at {pins : List (Addr × Obj)} {σ : L2.St} {H : Hp} {s : Shared} {Q : VK} {us : List Value} {vs : List V} (F : FnG X.prog X.w X.K X.mg X.base CX k f fd ps sp) (hr : Room k X.A) (hg : X.A.guards = some [])
    (hb : Binds X.K fd ps []) (hx : PassesAt CX X σ (E σ)) (I : L2.Inv X pins σ H s) (r : Vals vs us) (h : sp vs H Q (E σ)) :
    wpAny (model X.prog X.w) X.A (call (.ref f) us) (EP X pins σ Q) X.xe s := by
  have n : us.length = ps.length := r.length.symm.trans (F.len vs H Q (E σ) h)
  have bt := hb s us I.kIn (by simpa using n)
  simp only [List.append_nil] at bt
  have c := F.go X.A X.stack s H ⟨us, []⟩ us vs Q (E σ) hr hg I.env0 bt r h
  refine wpAny_call (codeAny_mono c ?_)
  intro res s' q
  match res, q with
  | .ok (.ret u), q => exact I.after q
  | .error z, q => exact hx pins H s z s' I q
/-- f(e, ..) -/
theorem pe_callG (F : FnG X.prog X.w X.K X.mg X.base CX k f fd ps sp) (hr : Room k X.A) (hgd : X.A.guards = some []) (hg : Gl X x) (hm : X.mg x = some (.ref f)) (hk : PySem.W.keepIn X.K (.ref f) = true)
    (hb : Binds X.K fd ps []) (hx : ∀ σ, PassesAt CX X σ (E σ)) (ha : PA X (e :: es) t) (hdb : (x == ("__debug__" : Str)) = false)
    (he : starEach (e :: es) X.env = (false, eval e X.env) :: starEach es X.env) (hpl : (backTo pos (starEach es X.env)).any (·.1) = false) :
    PE X (.Call (.Name x p) (e :: es) [] pos) (tCallS sp E t) := by
  constructor
  intro pins s σ H Q I h
  have args := ha.run pos pins s σ H _ I h
  refine wpAny_Call_Name_kw (ld_glob I hg hm ?_ hdb)
  exact PySem.W.callWith_K (h₀ := X.base) I.ok.mod.kin hk (wpAny_mono args (fun us s1 ⟨vs, H1, I1, r, q⟩ => ⟨I1.kIn, F.at hr hgd hb (hx σ) I1 r q⟩) fun _ _ z => z) he hpl
end
section
variable {P : Program} {w : World} {K : PySem.W.Frag} {mg : Str → Option Value} {base : Heap}
/-- a def of the text keeps its promise by its body -/
theorem Fun.okG {CX : CXT} {x qual : Str} {st : Stmt} {f : Addr} {fd : FuncData} {N ps : List Str} {k : Nat} {sp : Sp} (F : L2.Fun K x qual st f fd) (Sc : FnScope N ps (defScope st)) (len : ∀ vs H Q E, sp vs H Q E → vs.length = ps.length)
    (hbody : ∀ (cdv : Value) (A : Around) (outer : List Env) (s : Shared) (H : Hp) (vs : List V) (Q : VK) (E : XK), Room k (A.deeper (envOfC qual (defScope st) s.heap.objs.size f cdv)) → A.guards = some [] → sp vs H Q E →
      ∃ t, PSs (cxOf CX P w K mg base N qual (defScope st) f cdv A outer s H E) (defBody st) t ∧ t { nx := fun _ H' => Q .non H', rt := Q } (start N vs) H) : FnG P w K mg base CX (k + 1) f fd ps sp := by
  obtain ⟨oc, od, kV, doc, pm, an, cdv, ct, osl, rfl, lk, hcd⟩ := F.ex
  refine ⟨len, ?_⟩
  intro A outer s H args us vs Q E hr hg e0 hb r hsp
  have KX : K.In s.heap := e0.mod.kin.keeps fun b o e => (e0.bs b o e).1
  have lim : s.heap.NoLimit := e0.mod.nolimit.keeps fun b o e => (e0.bs b o e).1
  have kinds : ∀ y ∈ ps.zip us, (defScope st).names.lookup y.1 = some .local ∨ ((defScope st).names.lookup y.1 = some .cell ∧ ((cellsFrom (s.heap.objs.size + 1) (defScope st).names []).lookup y.1).isSome = true) := by
    intro y hy
    have hp := (List.of_mem_zip (show (y.1, y.2) ∈ ps.zip us from hy)).1
    exact (Sc.par y.1 hp).imp id fun q => ⟨q, PySem.W.cellsFrom_some _ _ _ (.inl q)⟩
  refine codeAny_call_function hr.depth (KX _ _ lk) rfl Sc.co Sc.gen rfl (PySem.W.codeRec_of KX hcd) (hb _ _ _ _ (wpAny_newFunctionEnv_cells Sc.kind kinds ?_))
  intro env he s1 y
  subst he
  refine ⟨lim.keeps y.toInCall.keep, codeAny_func ?_⟩
  obtain ⟨t, ht, hq⟩ := hbody cdv A outer s H vs Q E (hr.deeper _) hg hsp
  have I := inv_start (CX := CX) (mg := mg) (E := E) Sc hr.hd e0 (len vs H Q E hsp) r y
  refine wpAny_mono (ht.run [] s1 (start N vs) H _ I hq) ?_ fun _ _ z => z
  intro fl s' hs
  match fl, hs with
  | .ret u, ⟨v, σ', H', J, rv, q⟩ => exact ⟨v, H', J.os, J.bare, J.base, J.hok, rv, q⟩
  | .next, ⟨σ', H', J, q⟩ => exact ⟨.non, H', J.os, J.bare, J.base, J.hok, rfl, q⟩
  | .brk, ⟨_, _, _, q⟩ => exact q.elim
  | .cont, ⟨_, _, _, q⟩ => exact q.elim
end
/-- the promise of a def by its evaluation -/
def spOf (K : PySem.W.Frag) (xr : XR) (n : Nat) (sem : List S → R S) : Sp := fun vs H Q E =>
  vs.length = n ∧ ∃ ss G φ, ss.length = n ∧ SR K G H ss (vs.map some) φ ∧ PoE K xr (fun cls dd _ H' => E cls dd H') (vs.map some) G H φ (sem ss) Q
end VE

/-! VZ: enumerate over a tuple, zip of a tuple and a list. -/
namespace VE
open PySem L2 PySem.Spec PyProof.Rows
def enumO (it : Addr) : Obj := { cls := .type "enumerate", data := .fields #[.none, .bool false, .ref it, rawInt 0, .none, .none] }
theorem meets_enumB {v : Value} {o : Obj} {Hq : Heap → Prop} (B : Begins v o Hq) :
    Meets (Builtin.«enumerate.__new__» ⟨[.type "enumerate", v], []⟩) (fun _ R s => Hq s.heap ∧
      R (.ok (.ret (.ref (s.heap.push o).objs.size))) { s with heap := (s.heap.push o).push (enumO s.heap.objs.size) }) :=
  .of_wp fun prog w A R s h => by
    obtain ⟨hp, g, d, tk, os⟩ := s
    obtain ⟨h1, h⟩ := h
    have hsub := sub_enumerate
    have go : ∀ {A' : Around} {E : Value → Shared → Prop} {Q : Value → Shared → Prop}, Q (.ref hp.objs.size) ⟨(hp.push o), g, d, tk, os⟩ → wpAny (model prog w) A' (pyIter v) Q E ⟨hp, g, d, tk, os⟩ :=
      fun q => B.iter prog w _ _ ⟨hp, g, d, tk, os⟩ _ h1 q
    wp_walk
    refine wpAny_stack_any fun st => wpAny_pure ?_
    split
    · rename_i c _ _ _ _ _
      cases (c == Value.type "enumerate")
      · wp_walk using go
        exact ⟨_, rfl, h⟩
      · wp_walk using go
        exact ⟨_, rfl, h⟩
    · wp_walk using go
      exact ⟨_, rfl, h⟩
section
variable {prog : Program} {w : World} {A : Around} {E : Value → Shared → Prop} {s : Shared}
theorem call_enumB {v : Value} {o : Obj} {Hq : Heap → Prop} {Q : Value → Shared → Prop} (B : Begins v o Hq) (h1 : Hq s.heap)
    (h : ∀ h' : Heap, IsEnum h' (s.heap.objs.size + 1) s.heap.objs.size 0 .none → h'.get? s.heap.objs.size = some o → (∀ b u, s.heap.get? b = some u → h'.get? b = some u) → Q (.ref (s.heap.objs.size + 1)) { s with heap := h' }) :
    wpAny (model prog w) A (call (.type "enumerate") [v]) Q E s := by
  refine callType_new F.called_enumerate (by decide) (F.typeCall_enumerate_1 _) (F.newCall_enumerate_1 _) (fun obj => F.args_object_init_2 obj _) F.entry_enumerate_new (meets_enumB B) ⟨h1, ?_⟩
  have sz : (s.heap.push o).objs.size = s.heap.objs.size + 1 := Heap.size_push ..
  have en := Heap.get?_push_size (s.heap.push o) (o := enumO s.heap.objs.size) rfl
  show _ ∧ _
  rw [sz] at en ⊢
  exact ⟨⟨_, en, rfl⟩, h _ en (Heap.get?_push_of_some _ (Heap.get?_push_size _ B.free)) fun b u q => Heap.get?_push_of_some _ (Heap.get?_push_of_some _ q)⟩
end
/-- a tuple at a, each item in a new pair with its place -/
def IteT (K : PySem.W.Frag) (a : Addr) : L2.It :=
  ⟨fun i H => ∃ (xs : List V) (x : V), SqT K H a xs ∧ xs[i]? = some x,
   fun i H v H' => ∃ T x, v = .ref T ∧ H T = none ∧ H' = upd H T (.tup [.int (i : Nat), x]) ∧ ∀ xs, SqT K H a xs → xs[i]? = some x,
   fun i H => ∃ xs : List V, SqT K H a xs ∧ xs.length ≤ i⟩
theorem enum_apart {h : Heap} {e it a : Addr} {i : Int} {old : Value} {items : Array Value} (he : IsEnum h e it i old) (hx : IsTup h a items) : e ≠ a := fun z => by
  obtain ⟨o, ho, hc, _⟩ := hx
  subst z
  have he' : h.get? e = _ := he
  rw [he'] at ho
  cases ho
  exact absurd hc (by simp)
theorem iter_apart {h : Heap} {it a : Addr} {i : Nat} {items : Array Value} (hi : h.IsTupleIter it a i) (hx : IsTup h a items) : a ≠ it := fun z => by
  obtain ⟨o, ho, hc, _⟩ := hx
  obtain ⟨o2, ho2, hc2, _⟩ := hi
  subst z
  rw [ho] at ho2
  cases ho2
  rw [hc] at hc2
  exact absurd hc2 (by simp)
theorem turn_enumT {P : Program} {w : World} {K : PySem.W.Frag} {elts : List Expr} {kk : Nat} {tpos : Pos} (a e it : Addr) :
    Turn P w K (.Tuple elts kk tpos) (IteT K a) [e, it] e (fun i h => (∃ old, IsEnum h e it ((i : Nat) : Int) old) ∧ h.IsTupleIter it a i ∧ e ≠ it) where
  mem := by simp
  obj := fun i h st b hb => by
    obtain ⟨⟨old, h1⟩, ⟨o, h2, h3, h4⟩, _⟩ := st
    rcases (by simpa using hb : b = e ∨ b = it) with rfl | rfl
    · exact ⟨_, h1, fun v q => nomatch q⟩
    · exact ⟨o, h2, fun v q => by rw [h4] at q; cases q⟩
  keep := fun i h h' st k => by
    obtain ⟨⟨old, h1⟩, h2, h3⟩ := st
    exact ⟨⟨old, k e (by simp) _ h1⟩, h2.at fun o q => k it (by simp) o q, h3⟩
  item := by
    intro X hP hw hK hc i pins s σ H E I hf st hg
    subst hP hw hK
    obtain ⟨⟨old, he⟩, hit, hne⟩ := st
    obtain ⟨xs, x, hq, hx⟩ := hg
    obtain ⟨its, rv, p, _⟩ := I.tuple hq
    obtain ⟨u, hu, ru⟩ := rv.get hx
    have el : e < s.heap.objs.size := Heap.lt_size he
    have il : it < s.heap.objs.size := by
      obtain ⟨_, q, _⟩ := hit
      exact Heap.lt_size q
    have D := Draws.tuple (prog := X.prog) (w := X.w) (A := X.A.in1) (I.ok.hd hc) it a (iter_apart hit p) its.toArray
    have hlt : i < its.toArray.size := by
      obtain ⟨q, _⟩ := List.getElem?_eq_some_iff.mp hu
      simpa using q
    have hef : e ∉ [it, a] := fun z => by
      rcases (by simpa using z : e = it ∨ e = a) with z | z
      · exact hne z
      · exact enum_apart he p z
    refine wpAny_pyNext_enum_itemD D he ⟨hit, p⟩ hlt hne hef fun y h' tk hy ho hst' hT _ hk => ?_
    obtain rfl : y = u := by
      have z : its[i]? = some y := by simpa using hy
      rw [hu] at z
      exact (Option.some.inj z).symm
    refine ⟨_, rfl, wpAny_letOwnedTupleGo_enum (s := { s with heap := h', toks := tk + 1 }) ho fun h'' he' sb => ?_⟩
    have hT2 : h''.get? s.heap.objs.size = some { cls := .type "tuple", data := .seq #[.int i tk, y] } := (sb.2 _ (Nat.ne_of_gt el)).trans hT
    have new : ObjOk X.prog X.w (upd H s.heap.objs.size (.tup [.int (i : Nat), x])) h'' s.heap.objs.size (.tup [.int (i : Nat), x]) :=
      ⟨by show 2 ≤ sizeLine; decide, [.int i tk, y], .cons ⟨_, rfl⟩ (.cons ru .nil), ⟨_, hT2, rfl, _, rfl⟩⟩
    have I1 : Inv X pins σ (upd H s.heap.objs.size (.tup [.int (i : Nat), x])) { s with heap := h'', toks := tk + 1 } :=
      I.turnedNew (ch := [e, it]) (fun b ob hb q => (sb.2 b (fun z => hb (by simp [z]))).trans (hk b ob (fun z => hb (by simp [z])) (fun z => hb (by simp [z])) q)) hf (Nat.le_refl _) new
    refine ⟨.ref s.heap.objs.size, _, I1, rfl, ⟨_, x, rfl, I.hok.fresh (Nat.le_refl _), rfl, fun ys hy => by rw [I.tuple_inj hy hq]; exact hx⟩, ⟨⟨y, ?_⟩, hst'.1.at fun o q => (sb.2 it (Ne.symm hne)).trans q, hne⟩, fun b hb => ?_⟩
    · rw [show ((i + 1 : Nat) : Int) = (i : Int) + 1 by omega]
      exact he'
    · have bl : b < s.heap.objs.size := by
        rcases (by simpa using hb : b = e ∨ b = it) with z | z
        · rw [z]; exact el
        · rw [z]; exact il
      rw [upd_ne (Nat.ne_of_lt bl)]
      exact (hf b hb).1
  done := by
    intro X hP hw hK hc i pins s σ H E I hf st hg
    subst hP hw hK
    obtain ⟨⟨old, he⟩, hit, hne⟩ := st
    obtain ⟨xs, hq, hx⟩ := hg
    obtain ⟨its, rv, p, _⟩ := I.tuple hq
    obtain ⟨f0, f1, f2, f3, f4, f5⟩ := hf it (by simp)
    have hl := rv.length
    have gone : its.toArray[i]? = none := by simp; omega
    have nx : ∀ (s : Shared) (Q : Value → Shared → Prop) (E' : Value → Shared → Prop), s.heap.IsTupleIter it a i → s.heap.IsTuple a its.toArray → (∀ h' e, Heap.ExtBut it s.heap h' → (∃ o, h'.get? e = some o ∧ o.cls = .type "StopIteration") → E' (.ref e) { s with heap := h' }) → wpAny (model X.prog X.w) X.A.in1 (Builtin.SmallTypes.nextOf (.ref it)) Q E' s :=
      fun s Q E' a1 a2 a3 => wpAny_nextOf_tuple_end (I.ok.hd hc) a1 a2 gone a3
    have D : Draws X.prog X.w X.A.in1 it [it, a] i (fun _ _ => False) (fun j h => j = i ∧ h.IsTupleIter it a i ∧ h.IsTuple a its.toArray) := {
      live := fun _ _ st => let ⟨o, ho, _⟩ := st.2.1; ⟨o, ho⟩
      frame := fun _ _ _ st hk => ⟨st.1, st.2.1.at fun o q => hk it (by simp) o q, st.2.2.at fun o q => hk a (by simp) o q⟩
      item := fun j s Q E hj st => absurd st.1 (by omega)
      done := fun s Q E st hE => nx s Q E st.2.1 st.2.2 hE }
    exact wpAny_pyNext_enum_endD D he ⟨rfl, hit, p⟩ fun h' eb => ⟨rfl, I.turned (t' := s.toks) (fun b o hb q => eb b o hb q) f0 f1 f3 f4 f5⟩
  self := fun A i s Q E st h => by
    obtain ⟨⟨_, he⟩, _⟩ := st
    exact wpAny_pyIter_enum he h
def iEnumT (K : PySem.W.Frag) (ta : TA) : TI := fun σ H R => ta σ H fun vs H1 => ∃ a xs, vs = [.ref a] ∧ ((SqL K H1 a xs ∧ R (Ite K a) H1) ∨ (SqT K H1 a xs ∧ R (IteT K a) H1))
theorem pi_enumT {X : Cx} {e : Expr} {ta : TA} {p pos tpos : Pos} {elts : List Expr} {kk : Nat} (hg : Gl X "enumerate") (hm : X.mg "enumerate" = none) (ha : PA X [e] ta) (hs : starEach [e] X.env = [(false, eval e X.env)] := by rfl) :
    PI X (.Tuple elts kk tpos) (.Call (.Name "enumerate" p) [e] [] pos) (iEnumT X.K ta) := by
  refine ⟨fun pins s σ H R I h => ?_⟩
  refine Call_ (ld_blt I hg hm boot_enumerate (PyProof.Rows.callWith_type1 (thn (ha.run pos pins s σ H _ I h) fun us s1 ⟨vs, H1, I1, r1, q1⟩ => ?_) hs rfl))
  obtain ⟨a, xs, ex, q1⟩ := q1
  subst ex
  cases r1 with
  | cons r rr =>
    cases rr
    cases r
    have own2 : ∀ b ∈ [s1.heap.objs.size + 1, s1.heap.objs.size], FpOk X pins H1 b := fun b hb => by
      have hle : s1.heap.objs.size ≤ b := by
        rcases (by simpa using hb : b = s1.heap.objs.size + 1 ∨ b = s1.heap.objs.size) with z | z
        · rw [z]; exact Nat.le_succ _
        · rw [z]; exact Nat.le_refl _
      exact I1.fpOk hle (I1.hok.fresh hle)
    rcases q1 with ⟨hq, q⟩ | ⟨hq, q⟩
    · obtain ⟨its, rv, p', _⟩ := I1.list hq
      refine call_enumB (begins_list a its.toArray) p'.isList fun h' he hit hk => wpAny_pyIter_enum he ?_
      have I2 : Inv X pins σ H1 { s1 with heap := h' } := I1.kept (t' := s1.toks) hk
      exact ⟨s1.heap.objs.size + 1, _, _, _, H1, rfl, I2, turn_enum a (s1.heap.objs.size + 1) s1.heap.objs.size, ⟨⟨.none, he⟩, ⟨_, hit, rfl, rfl⟩, Nat.succ_ne_self _⟩, own2, q⟩
    · obtain ⟨its, rv, p', _⟩ := I1.tuple hq
      refine call_enumB (begins_tuple a its.toArray) (show s1.heap.IsTuple a its.toArray from p') fun h' he hit hk => wpAny_pyIter_enum he ?_
      have I2 : Inv X pins σ H1 { s1 with heap := h' } := I1.kept (t' := s1.toks) hk
      exact ⟨s1.heap.objs.size + 1, _, _, _, H1, rfl, I2, turn_enumT a (s1.heap.objs.size + 1) s1.heap.objs.size, ⟨⟨.none, he⟩, ⟨_, hit, rfl, rfl⟩, Nat.succ_ne_self _⟩, own2, q⟩
/-! ### zip of lists and tuples, mixed -/
def SqK (K : PySem.W.Frag) : Bool → Hp → Addr → List V → Prop
  | true, H, a, xs => SqT K H a xs
  | false, H, a, xs => SqL K H a xs
def IterK : Bool → Heap → Addr → Addr → Nat → Prop
  | true, h, it, a, i => h.IsTupleIter it a i
  | false, h, it, a, i => h.IsListIter it a i
def IsK : Bool → Heap → Addr → Array Value → Prop
  | true, h, a, its => h.IsTuple a its
  | false, h, a, its => h.IsList a its
def begO : Bool → Addr → Obj
  | true, a => { cls := .type "tuple_iterator", data := .fields #[.ref a, .int 0 0] }
  | false, a => { cls := .type "list_iterator", data := .fields #[.ref a, .int 0 0] }
theorem beginsK (t : Bool) (a : Addr) (its : Array Value) : Begins (.ref a) (begO t a) (fun h => IsK t h a its) := by
  cases t with
  | true => exact begins_tuple a its
  | false => exact begins_list a its
theorem iterK_at {t : Bool} {h h' : Heap} {it a : Addr} {i : Nat} (x : IterK t h it a i) (k : ∀ o, h.get? it = some o → h'.get? it = some o) : IterK t h' it a i := by
  cases t with
  | true => exact Heap.IsTupleIter.at x k
  | false => exact Heap.IsListIter.at x k
theorem isK_at {t : Bool} {h h' : Heap} {a : Addr} {its : Array Value} (x : IsK t h a its) (k : ∀ o, h.get? a = some o → h'.get? a = some o) : IsK t h' a its := by
  cases t with
  | true => exact Heap.IsTuple.at x k
  | false => exact Heap.IsList.at x k
theorem isK_lt {t : Bool} {h : Heap} {a : Addr} {its : Array Value} (x : IsK t h a its) : a < h.objs.size := by
  cases t with
  | true => obtain ⟨o, e, _⟩ := x; exact Heap.lt_size e
  | false => obtain ⟨o, e, _⟩ := x; exact Heap.lt_size e
theorem iterK_obj {t : Bool} {h : Heap} {it a : Addr} {i : Nat} (x : IterK t h it a i) : ∃ o, h.get? it = some o ∧ ∀ v, o.data ≠ .cell v := by
  cases t with
  | true => obtain ⟨o, e, _, d⟩ := x; exact ⟨o, e, fun v q => by rw [d] at q; cases q⟩
  | false => obtain ⟨o, e, _, d⟩ := x; exact ⟨o, e, fun v q => by rw [d] at q; cases q⟩
theorem sqK_get {t : Bool} {X : Cx} {pins : List (Addr × Obj)} {σ : L2.St} {H : Hp} {s : Shared} (I : Inv X pins σ H s) {a : Addr} {xs : List V} (h : SqK X.K t H a xs) : ∃ its : List Value, Vals xs its ∧ IsK t s.heap a its.toArray := by
  cases t with
  | true => obtain ⟨its, rv, p, _⟩ := I.tuple h; exact ⟨its, rv, p⟩
  | false => obtain ⟨its, rv, p, _⟩ := I.list h; exact ⟨its, rv, p.isList⟩
theorem sqK_inj {t : Bool} {X : Cx} {pins : List (Addr × Obj)} {σ : L2.St} {H : Hp} {s : Shared} (I : Inv X pins σ H s) {a : Addr} {xs ys : List V} (h : SqK X.K t H a xs) (h' : SqK X.K t H a ys) : xs = ys := by
  cases t with
  | true => exact I.tuple_inj h h'
  | false => exact I.list_inj h h'
theorem drawsK {prog : Program} {w : World} {A : Around} (hh : A.handled = none) (t : Bool) (it a : Addr) (hne : a ≠ it) (its : Array Value) :
    Draws prog w A it [it, a] its.size (fun i v => its[i]? = some v) (fun i h => IterK t h it a i ∧ IsK t h a its) := by
  cases t with
  | true => exact Draws.tuple hh it a hne its
  | false => exact Draws.list hh it a hne its
/-- .. that ends at i -/
theorem drawsEnd {prog : Program} {w : World} {A : Around} (hh : A.handled = none) (t : Bool) (it a : Addr) (its : Array Value) (i : Nat) (gone : its[i]? = none) :
    Draws prog w A it [it, a] i (fun _ _ => False) (fun j h => j = i ∧ IterK t h it a i ∧ IsK t h a its) where
  live := fun _ _ st => let ⟨o, ho, _⟩ := iterK_obj st.2.1; ⟨o, ho⟩
  frame := fun _ _ _ st hk => ⟨st.1, iterK_at st.2.1 fun o q => hk it (by simp) o q, isK_at st.2.2 fun o q => hk a (by simp) o q⟩
  item := fun j s Q E hj st => absurd st.1 (by omega)
  done := fun s Q E st hE => by
    cases t with
    | true => exact wpAny_nextOf_tuple_end hh st.2.1 st.2.2 gone hE
    | false => exact wpAny_nextOf_list_end hh st.2.1 st.2.2 gone hE
def ItzK (K : PySem.W.Frag) (t u : Bool) (a b : Addr) : L2.It :=
  ⟨fun i H => ∃ (xs ys : List V) (x y : V), SqK K t H a xs ∧ SqK K u H b ys ∧ xs[i]? = some x ∧ ys[i]? = some y,
   fun i H v H' => ∃ T x y, v = .ref T ∧ H T = none ∧ H' = upd H T (.tup [x, y]) ∧ (∀ xs, SqK K t H a xs → xs[i]? = some x) ∧ ∀ ys, SqK K u H b ys → ys[i]? = some y,
   fun i H => ∃ xs ys : List V, SqK K t H a xs ∧ SqK K u H b ys ∧ (xs.length ≤ i ∨ ys.length ≤ i)⟩
theorem sep_of {z TI TO i1 i2 a b : Addr} (D : ZipApart z TI TO i1 i2 a b) : ZipSep2 z TI TO i1 i2 [i1, a] [i2, b] where
  TIz := D.TIz
  TOz := D.TOz
  TITO := D.TITO
  TIi1 := D.TIi1
  mem1 := by simp
  zf1 := fun q => by
    rcases (by simpa using q : z = i1 ∨ z = a) with e | e
    · exact D.i1z e.symm
    · exact D.l1z e.symm
  Tf1 := fun q => by
    rcases (by simpa using q : TO = i1 ∨ TO = a) with e | e
    · exact D.TOi1 e
    · exact D.l1TO e.symm
  TIi2 := D.TIi2
  mem2 := by simp
  zf2 := fun q => by
    rcases (by simpa using q : z = i2 ∨ z = b) with e | e
    · exact D.i2z e.symm
    · exact D.l2z e.symm
  Tf2 := fun q => by
    rcases (by simpa using q : TO = i2 ∨ TO = b) with e | e
    · exact D.TOi2 e
    · exact D.l2TO e.symm
  sep1_2 := fun q => by
    rcases (by simpa using q : i1 = i2 ∨ i1 = b) with e | e
    · exact D.i12 e
    · exact D.l2i1 e.symm
  sep2_1 := fun q => by
    rcases (by simpa using q : i2 = i1 ∨ i2 = a) with e | e
    · exact D.i12 e.symm
    · exact D.l1i2 e.symm
theorem turn_zipK {P : Program} {w : World} {K : PySem.W.Frag} {elts : List Expr} {kk : Nat} {tpos : Pos} (t u : Bool) {a b z TI TO i1 i2 : Addr} (D : ZipApart z TI TO i1 i2 a b) :
    Turn P w K (.Tuple elts kk tpos) (ItzK K t u a b) [z, TI, TO, i1, i2] z (fun i h => IsZip h z TI TO .none ∧ IsPair h TI (.ref i1) (.ref i2) ∧ (∃ x y, IsPair h TO x y) ∧ IterK t h i1 a i ∧ IterK u h i2 b i) where
  mem := by simp
  obj := fun i h st c hc => by
    obtain ⟨g1, g2, ⟨x, y, g3⟩, g4, g5⟩ := st
    rcases (by simpa using hc : c = z ∨ c = TI ∨ c = TO ∨ c = i1 ∨ c = i2) with rfl | rfl | rfl | rfl | rfl
    · exact ⟨_, g1, fun v q => nomatch q⟩
    · exact ⟨_, g2, fun v q => nomatch q⟩
    · exact ⟨_, g3, fun v q => nomatch q⟩
    · exact iterK_obj g4
    · exact iterK_obj g5
  keep := fun i h h' st k => by
    obtain ⟨g1, g2, ⟨x, y, g3⟩, g4, g5⟩ := st
    exact ⟨k z (by simp) _ g1, k TI (by simp) _ g2, ⟨x, y, k TO (by simp) _ g3⟩, iterK_at g4 fun o q => k i1 (by simp) o q, iterK_at g5 fun o q => k i2 (by simp) o q⟩
  item := by
    intro X hP hw hK hc i pins s σ H E I hf st hg
    subst hP hw hK
    obtain ⟨g1, g2, ⟨x0, y0, g3⟩, g4, g5⟩ := st
    obtain ⟨xs, ys, x, y, hqx, hqy, hx, hy⟩ := hg
    obtain ⟨its, rv, p⟩ := sqK_get I hqx
    obtain ⟨its2, rv2, p2⟩ := sqK_get I hqy
    obtain ⟨c1, hc1, rc1⟩ := rv.get hx
    obtain ⟨c2, hc2, rc2⟩ := rv2.get hy
    have D1 := drawsK (prog := X.prog) (w := X.w) (A := X.A.in1) (I.ok.hd hc) t i1 a D.l1i1 its.toArray
    have D2 := drawsK (prog := X.prog) (w := X.w) (A := X.A.in1) (I.ok.hd hc) u i2 b D.l2i2 its2.toArray
    have lt1 : i < its.toArray.size := by
      have q := (List.getElem?_eq_some_iff.mp hc1).1
      simpa using q
    have lt2 : i < its2.toArray.size := by
      have q := (List.getElem?_eq_some_iff.mp hc2).1
      simpa using q
    have zl : z < s.heap.objs.size := Heap.lt_size g1
    refine wpAny_pyNext_zipD2_item (sep_of D) D1 D2 g1 g2 g3 ⟨g4, p⟩ ⟨g5, p2⟩ lt1 lt2 fun y1 y2 h' tk e1 e2 z' TO' s1' s2' hT hsz hk => ?_
    obtain rfl : y1 = c1 := by
      have q : its[i]? = some y1 := by simpa using e1
      rw [hc1] at q
      exact (Option.some.inj q).symm
    obtain rfl : y2 = c2 := by
      have q : its2[i]? = some y2 := by simpa using e2
      rw [hc2] at q
      exact (Option.some.inj q).symm
    refine ⟨_, rfl, wpAny_letOwnedTupleGo_zip (s := { s with heap := h', toks := tk }) z' fun h'' z'' sb => ?_⟩
    have hT2 : h''.get? s.heap.objs.size = some { cls := .type "tuple", data := .seq #[y1, y2] } := (sb.2 _ (Nat.ne_of_gt zl)).trans hT
    have new : ObjOk X.prog X.w (upd H s.heap.objs.size (.tup [x, y])) h'' s.heap.objs.size (.tup [x, y]) :=
      ⟨by show 2 ≤ sizeLine; decide, [y1, y2], .cons rc1 (.cons rc2 .nil), ⟨_, hT2, rfl, _, rfl⟩⟩
    have I1 : Inv X pins σ (upd H s.heap.objs.size (.tup [x, y])) { s with heap := h'', toks := tk } :=
      I.turnedNew (t' := tk) (ch := [z, TI, TO, i1, i2]) (fun c o hb q => (sb.2 c (fun q' => hb (by simp [q']))).trans (hk c o (fun q' => hb (by simp [q'])) (fun q' => hb (by simp [q'])) (fun q' => hb (by simp [q'])) (fun q' => hb (by simp [q'])) q)) hf (Nat.le_refl _) new
    have l4 : i1 < s.heap.objs.size := by obtain ⟨_, e, _⟩ := iterK_obj g4; exact Heap.lt_size e
    have l5 : i2 < s.heap.objs.size := by obtain ⟨_, e, _⟩ := iterK_obj g5; exact Heap.lt_size e
    refine ⟨.ref s.heap.objs.size, _, I1, rfl, ⟨_, x, y, rfl, I.hok.fresh (Nat.le_refl _), rfl, fun l hl => by rw [sqK_inj I hl hqx]; exact hx, fun l hl => by rw [sqK_inj I hl hqy]; exact hy⟩, ⟨z'', ?_, ⟨y1, y2, ?_⟩, ?_, ?_⟩, fun c hcm => ?_⟩
    · exact (sb.2 _ D.TIz).trans (hk _ _ D.TIz D.TITO D.TIi1 D.TIi2 g2)
    · exact (sb.2 _ D.TOz).trans TO'
    · exact iterK_at s1'.1 fun o q => (sb.2 _ D.i1z).trans q
    · exact iterK_at s2'.1 fun o q => (sb.2 _ D.i2z).trans q
    · have lc : c < s.heap.objs.size := by
        rcases (by simpa using hcm : c = z ∨ c = TI ∨ c = TO ∨ c = i1 ∨ c = i2) with rfl | rfl | rfl | rfl | rfl
        · exact zl
        · exact Heap.lt_size g2
        · exact Heap.lt_size g3
        · exact l4
        · exact l5
      rw [upd_ne (Nat.ne_of_lt lc)]
      exact (hf c hcm).1
  done := by
    intro X hP hw hK hc i pins s σ H E I hf st hg
    subst hP hw hK
    obtain ⟨g1, g2, ⟨x0, y0, g3⟩, g4, g5⟩ := st
    obtain ⟨xs, ys, hqx, hqy, hend⟩ := hg
    obtain ⟨its, rv, p⟩ := sqK_get I hqx
    obtain ⟨its2, rv2, p2⟩ := sqK_get I hqy
    have e1 := rv.length
    have e2 := rv2.length
    have fin : ∀ (h' : Heap) (tk : Nat), (∀ c o, c ≠ z → c ≠ TO → c ≠ i1 → c ≠ i2 → s.heap.get? c = some o → h'.get? c = some o) → Inv X pins σ H { s with heap := h', toks := tk } := fun h' tk hk =>
      I.turnedL (t' := tk) (ch := [z, TI, TO, i1, i2]) (fun c o hb q => hk c o (fun q' => hb (by simp [q'])) (fun q' => hb (by simp [q'])) (fun q' => hb (by simp [q'])) (fun q' => hb (by simp [q'])) q) hf
    by_cases q1 : xs.length ≤ i
    · have n1 : its.toArray[i]? = none := by simp; omega
      have D1 := drawsEnd (prog := X.prog) (w := X.w) (A := X.A.in1) (I.ok.hd hc) t i1 a its.toArray i n1
      by_cases q2 : ys.length ≤ i
      · have n2 : its2.toArray[i]? = none := by simp; omega
        have D2 := drawsEnd (prog := X.prog) (w := X.w) (A := X.A.in1) (I.ok.hd hc) u i2 b its2.toArray i n2
        exact wpAny_pyNext_zipD2_end (sep_of D) D1 D2 g1 g2 g3 ⟨rfl, g4, p⟩ ⟨rfl, g5, p2⟩ (Nat.le_refl _) (Nat.le_refl _) (.inl rfl) fun h' tk hk => ⟨rfl, fin h' tk hk⟩
      · have D2 := drawsK (prog := X.prog) (w := X.w) (A := X.A.in1) (I.ok.hd hc) u i2 b D.l2i2 its2.toArray
        exact wpAny_pyNext_zipD2_end (sep_of D) D1 D2 g1 g2 g3 ⟨rfl, g4, p⟩ ⟨g5, p2⟩ (Nat.le_refl _) (by simp; omega) (.inl rfl) fun h' tk hk => ⟨rfl, fin h' tk hk⟩
    · have q2 : ys.length ≤ i := hend.resolve_left q1
      have n2 : its2.toArray[i]? = none := by simp; omega
      have D1 := drawsK (prog := X.prog) (w := X.w) (A := X.A.in1) (I.ok.hd hc) t i1 a D.l1i1 its.toArray
      have D2 := drawsEnd (prog := X.prog) (w := X.w) (A := X.A.in1) (I.ok.hd hc) u i2 b its2.toArray i n2
      exact wpAny_pyNext_zipD2_end (sep_of D) D1 D2 g1 g2 g3 ⟨g4, p⟩ ⟨rfl, g5, p2⟩ (by simp; omega) (Nat.le_refl _) (.inr rfl) fun h' tk hk => ⟨rfl, fin h' tk hk⟩
  self := fun A i s Q E st h => wpAny_pyIter_zip st.1 h
def iZipK (K : PySem.W.Frag) (ta : TA) : TI := fun σ H R => ta σ H fun vs H1 => ∃ a b xs ys t u, vs = [.ref a, .ref b] ∧ SqK K t H1 a xs ∧ SqK K u H1 b ys ∧ R (ItzK K t u a b) H1
theorem pi_zipK {X : Cx} {e e2 : Expr} {ta : TA} {p pos tpos : Pos} {elts : List Expr} {kk : Nat} (hg : Gl X "zip") (hm : X.mg "zip" = none) (ha : PA X [e, e2] ta)
    (hs : starEach [e, e2] X.env = (false, eval e X.env) :: starEach [e2] X.env := by rfl) (hpl : (backTo pos (starEach [e2] X.env)).any (·.1) = false := by rfl) :
    PI X (.Tuple elts kk tpos) (.Call (.Name "zip" p) [e, e2] [] pos) (iZipK X.K ta) := by
  refine ⟨fun pins s σ H R I h => ?_⟩
  refine Call_ (ld_blt I hg hm PyProof.Rows.boot_zip (PyProof.Rows.callWith_type1 (thn (ha.run pos pins s σ H _ I h) fun us s1 ⟨vs, H1, I1, r1, q1⟩ => ?_) hs hpl))
  obtain ⟨a, b, xs, ys, t, u, ex, hqx, hqy, q⟩ := q1
  subst ex
  cases r1 with
  | cons r rr =>
    cases rr with
    | cons r' rr =>
      cases rr
      cases r
      cases r'
      obtain ⟨its, rv, p1⟩ := sqK_get I1 hqx
      obtain ⟨its2, rv2, p2⟩ := sqK_get I1 hqy
      refine zip_begins2 (beginsK t a its.toArray) (beginsK u b its2.toArray) p1 p2 fun h' hz hTI hTO h1 h2 hsz hk => wpAny_pyIter_zip hz ?_
      have I2 : Inv X pins σ H1 { s1 with heap := h' } := I1.kept (t' := s1.toks) hk
      have k1 : IterK t h' s1.heap.objs.size a 0 := by
        cases t with
        | true => exact ⟨_, h1, rfl, rfl⟩
        | false => exact ⟨_, h1, rfl, rfl⟩
      have k2 : IterK u h' (s1.heap.objs.size + 1) b 0 := by
        cases u with
        | true => exact ⟨_, h2, rfl, rfl⟩
        | false => exact ⟨_, h2, rfl, rfl⟩
      have own5 : ∀ c ∈ [s1.heap.objs.size + 4, s1.heap.objs.size + 2, s1.heap.objs.size + 3, s1.heap.objs.size, s1.heap.objs.size + 1], FpOk X pins H1 c := fun c hcm => by
        have hle : s1.heap.objs.size ≤ c := by
          rcases (by simpa using hcm : c = s1.heap.objs.size + 4 ∨ c = s1.heap.objs.size + 2 ∨ c = s1.heap.objs.size + 3 ∨ c = s1.heap.objs.size ∨ c = s1.heap.objs.size + 1) with rfl | rfl | rfl | rfl | rfl
          · exact Nat.le_add_right _ _
          · exact Nat.le_add_right _ _
          · exact Nat.le_add_right _ _
          · exact Nat.le_refl _
          · exact Nat.le_add_right _ _
        exact I1.fpOk hle (I1.hok.fresh hle)
      exact ⟨s1.heap.objs.size + 4, _, _, _, H1, rfl, I2, turn_zipK t u (PySem.W.ktu_apart s1.heap.objs.size a b (isK_lt p1) (isK_lt p2)), ⟨hz, hTI, ⟨_, _, hTO⟩, k1, k2⟩, own5, q⟩
end VE

/-! VS5: what a loop or a comprehension walks; targets. -/
namespace VE
open PySem L2 PySem.Spec PyProof.Rows

/-- a walk over data; s at v is held aside -/
inductive Shape (K : PySem.W.Frag) (G0 H0 : Hp) (f : List Addr) : L2.It → List PyData → S → V → Prop
  | rng (lo : Int) (n : Nat) : Shape K G0 H0 f (Itr lo n) ((List.range n).map fun (i : Nat) => .int (lo + (i : Int))) (.val .none) .non
  | rngC (lo c : Int) (n : Nat) : Shape K G0 H0 f (Itc lo c n) (rngC lo c n) (.val .none) .non
  | chr (z : Str) : Shape K G0 H0 f (Its z) (chars z) (.val .none) .non
  | lst {a : Addr} {s : S} {ds : List PyData} : view s = some (.list ds) → Shape K G0 H0 f (Itl K a) ds s (.ref a)
  | tup {a : Addr} {s : S} {ds : List PyData} : view s = some (.tuple ds) → Shape K G0 H0 f (Itt K a) ds s (.ref a)
  | enum {a : Addr} {s : S} {ds : List PyData} : view s = some (.list ds) → Shape K G0 H0 f (Ite K a) (enumFrom ds) s (.ref a)
  | enumT {a : Addr} {s : S} {ds : List PyData} : view s = some (.tuple ds) → Shape K G0 H0 f (IteT K a) (enumFrom ds) s (.ref a)
  | zip {t u : Bool} {a b : Addr} {vs ws : List V} {xs ys : List PyData} : SqK K t G0 a vs → DPs K G0 vs xs → SqK K u G0 b ws → DPs K G0 ws ys → Shape K G0 H0 f (ItzK K t u a b) (zipD xs ys) (.val .none) .non
  | keysT {d : Addr} {od : Obj} {kv : List (List Key × V)} {kvs : List (PyData × PyData)} : G0 d = some (.frz od (.dT kv)) → DTs K G0 kv kvs → Shape K G0 H0 f (Itkt d od kv) (kvs.map (·.1)) (.val .none) .non
  /-- lists at places of what is held aside -/
  | lstP {a : Addr} {vs : List V} {ds : List PyData} {s : S} {v : V} : view s = none → a ∈ f → H0 a = some (.lst vs) → DPs K G0 vs ds → Shape K G0 H0 f (Itl K a) ds s v
  | zipP {a b : Addr} {vs ws : List V} {xs ys : List PyData} {s : S} {v : V} : view s = none → a ∈ f → b ∈ f → H0 a = some (.lst vs) → H0 b = some (.lst ws) → DPs K G0 vs xs → DPs K G0 ws ys → Shape K G0 H0 f (ItzK K false false a b) (zipD xs ys) s v
section
variable {K : PySem.W.Frag} {xr : XR} {W : WX} {Φ : Fns} {σ : L2.St} {G H G' H' : Hp} {φ φ' : Nat → List Addr} {ρ : List S} {Q : VK}
theorem getElem?_enum {ds : List PyData} {i : Nat} : (enumFrom ds)[i]? = (ds[i]?).map fun d => .tuple [.int i, d] := by
  unfold enumFrom
  rw [List.getElem?_map, List.getElem?_zipIdx]
  cases ds[i]? <;> simp
theorem enum_len {ds : List PyData} : (enumFrom ds).length = ds.length := by
  unfold enumFrom
  rw [List.length_map, List.length_zipIdx]
theorem SqK.mono {t : Bool} {a : Addr} {xs : List V} (e : Same G G') (h : SqK K t G a xs) : SqK K t G' a xs := by
  cases t with
  | true => exact Same.seqT e h
  | false => exact e.seq h
theorem dps_key : ∀ k : List Key, DPs K G (k.map kV) (k.map kD)
  | [] => .nil
  | .inl i :: r => .cons (.int i) (dps_key r)
  | .inr z :: r => .cons (.str z) (dps_key r)
theorem DTs.keys : ∀ {kv : List (List Key × V)} {ds : List (PyData × PyData)}, DTs K G kv ds → ds.map (·.1) = kv.map fun p => PyData.tuple (p.1.map kD)
  | _, _, .nil => rfl
  | _, _, .cons _ r => by rw [List.map_cons, List.map_cons, DTs.keys r]
theorem zip_get : ∀ {xs ys : List PyData} {i : Nat} {d : PyData}, (zipD xs ys)[i]? = some d → ∃ x y, xs[i]? = some x ∧ ys[i]? = some y ∧ d = .tuple [x, y] := by
  intro xs ys i d h
  unfold zipD at h
  rw [List.getElem?_map] at h
  cases e : (xs.zip ys)[i]? with
  | none => rw [e] at h; cases h
  | some p =>
    rw [e] at h
    cases h
    obtain ⟨h1, h2⟩ := List.getElem?_zip_eq_some.mp e
    exact ⟨p.1, p.2, h1, h2, rfl⟩
theorem zip_len {xs ys : List PyData} : (zipD xs ys).length = min xs.length ys.length := by
  unfold zipD
  rw [List.length_map, List.length_zip]
/-- a tuple that stands becomes data -/
theorem tupG {q : Addr} {ws : List V} (r : SR K G H ρ σ φ) (hq : H q = some (.tup ws)) : ∃ G', Stp G H (own φ) G' H (own φ) ∧ SR K G' H ρ σ φ ∧ G' q = some (.tup ws) := by
  cases e : G q with
  | some o =>
    have z := r.gh _ _ e
    rw [hq] at z
    cases z
    exact ⟨G, Stp.refl, r, e⟩
  | none =>
    have st : ∀ F : Addr → Prop, Stp G H F (upd G q (.tup ws)) H F := fun F =>
      ⟨Same.upd_new e, fun _ _ h _ => h, fun _ h => .inl h, fun a z z' => by
        by_cases y : a = q
        · rw [y]; exact .inr (.inr ⟨ws, hq⟩)
        · rw [upd_ne y] at z'; exact absurd z z', fun _ h => h⟩
    refine ⟨upd G q (.tup ws), st _, r.step (st fun _ => False) ?_ (fun _ _ z => z), upd_same⟩
    intro a o z
    by_cases y : a = q
    · rw [y, upd_same] at z
      cases z
      rw [y]; exact hq
    · rw [upd_ne y] at z
      exact r.gh _ _ z
theorem Shape.turn {G0 H0 : Hp} {J : L2.It} {xs : List PyData} {s : S} {v : V} {f f0 : List Addr} (sh : Shape K G0 H0 f0 J xs s v) (e0 : Same G0 G) (kp : ∀ a ∈ f0, ∀ o, H0 a = some o → H a = some o) (t : Tmp K G H s v f φ) (r : SR K G H ρ σ φ) (i : Nat) :
    (∀ d, xs[i]? = some d → J.go i H ∧ ∀ x H', J.yld i H x H' → ∃ G', Stp G H (own φ) G' H' (own φ) ∧ SR K G' H' ρ σ φ ∧ Tmp K G' H' s v f φ ∧ DP K G' x d) ∧ (xs.length ≤ i → J.stop i H) := by
  cases sh with
  | rng lo n =>
    refine ⟨fun d hd => ?_, fun h => ?_⟩
    · have hi : i < n := by
        have q := (List.getElem?_eq_some_iff.mp hd).1
        simpa using q
      have e : d = .int (lo + (i : Int)) := by
        rw [List.getElem?_map, List.getElem?_range hi] at hd
        exact (Option.some.inj hd).symm
      subst e
      exact ⟨hi, fun x H' ⟨e1, e2⟩ => by subst e1 e2; exact ⟨G, Stp.refl, r, t, .int _⟩⟩
    · have h' : n ≤ i := by simpa using h
      exact h'
  | rngC lo c n =>
    refine ⟨fun d hd => ?_, fun h => ?_⟩
    · unfold VE.rngC at hd
      have hi : i < n := by
        have q := (List.getElem?_eq_some_iff.mp hd).1
        simpa using q
      have e : d = .int (lo + (i : Int) * c) := by
        rw [List.getElem?_map, List.getElem?_range hi] at hd
        exact (Option.some.inj hd).symm
      subst e
      exact ⟨hi, fun x H' ⟨e1, e2⟩ => by subst e1 e2; exact ⟨G, Stp.refl, r, t, .int _⟩⟩
    · unfold VE.rngC at h
      have h' : n ≤ i := by simpa using h
      exact h'
  | chr z =>
    refine ⟨fun d hd => ?_, fun h => ?_⟩
    · unfold chars at hd
      rw [List.getElem?_map] at hd
      cases ec : z.cps.toList[i]? with
      | none => rw [ec] at hd; cases hd
      | some c =>
        rw [ec] at hd
        cases hd
        have ec' : z.cps[i]? = some c := by rw [← ec, Array.getElem?_toList]
        have hi : i < z.cps.size := by
          obtain ⟨q, _⟩ := Array.getElem?_eq_some_iff.mp ec'
          exact q
        refine ⟨hi, fun x H' y => ?_⟩
        obtain ⟨rfl, c', e1, rfl⟩ := y
        rw [ec'] at e1
        cases e1
        exact ⟨G, Stp.refl, r, t, .str _⟩
    · have h' : z.cps.size ≤ i := by
        unfold chars at h
        simpa using h
      exact h'
  | lst hv =>
    obtain ⟨a, vs, e, h1, h2⟩ := (VW.of t.rel hv).list r.gh
    cases e
    refine ⟨fun d hd => ?_, fun h => ⟨vs, h1, by rw [h2.length]; exact h⟩⟩
    obtain ⟨y, hy, hyd⟩ := h2.get hd
    refine ⟨⟨vs, y, h1, hy⟩, fun x H' ⟨e1, e2⟩ => ?_⟩
    subst e1
    have q := e2 vs h1
    rw [hy] at q
    cases q
    exact ⟨G, Stp.refl, r, t, hyd⟩
  | tup hv =>
    obtain ⟨a, vs, e, h1, h2⟩ := (VW.of t.rel hv).tuple
    cases e
    have h1' := Same.seqT r.gh h1
    refine ⟨fun d hd => ?_, fun h => ⟨vs, h1', by rw [h2.length]; exact h⟩⟩
    obtain ⟨y, hy, hyd⟩ := h2.get hd
    refine ⟨⟨vs, y, h1', hy⟩, fun x H' ⟨e1, e2⟩ => ?_⟩
    subst e1
    have q := e2 vs h1'
    rw [hy] at q
    cases q
    exact ⟨G, Stp.refl, r, t, hyd⟩
  | enum hv =>
    obtain ⟨a, vs, e, h1, h2⟩ := (VW.of t.rel hv).list r.gh
    cases e
    refine ⟨fun d hd => ?_, fun h => ⟨vs, h1, by rw [h2.length, ← enum_len]; exact h⟩⟩
    rw [getElem?_enum] at hd
    rename_i ds
    cases q : ds[i]? with
    | none => rw [q] at hd; cases hd
    | some d' =>
      rw [q] at hd
      cases hd
      obtain ⟨y, hy, hyd⟩ := h2.get q
      refine ⟨⟨vs, y, h1, hy⟩, fun x H' ⟨T, x', e1, hT, e2, e3⟩ => ?_⟩
      subst e1 e2
      have q2 := e3 vs h1
      rw [hy] at q2
      cases q2
      have st : Stp G H (own φ) (upd G T (.tup [.int (i : Nat), y])) (upd H T (.tup [.int (i : Nat), y])) (own φ) := Stp.newG r.gh hT
      obtain ⟨t1, t2, t3⟩ := t.frame st t.off
      exact ⟨_, st, r.newG hT, ⟨t1, t2, t3⟩, .tup upd_same (.cons (.int _) (.cons (hyd.mono st.gg) .nil))⟩
  | enumT hv =>
    obtain ⟨a, vs, e, h1, h2⟩ := (VW.of t.rel hv).tuple
    cases e
    have h1' := Same.seqT r.gh h1
    refine ⟨fun d hd => ?_, fun h => ⟨vs, h1', by rw [h2.length, ← enum_len]; exact h⟩⟩
    rw [getElem?_enum] at hd
    rename_i ds
    cases q : ds[i]? with
    | none => rw [q] at hd; cases hd
    | some d' =>
      rw [q] at hd
      cases hd
      obtain ⟨y, hy, hyd⟩ := h2.get q
      refine ⟨⟨vs, y, h1', hy⟩, fun x H' ⟨T, x', e1, hT, e2, e3⟩ => ?_⟩
      subst e1 e2
      have q2 := e3 vs h1'
      rw [hy] at q2
      cases q2
      have st : Stp G H (own φ) (upd G T (.tup [.int (i : Nat), y])) (upd H T (.tup [.int (i : Nat), y])) (own φ) := Stp.newG r.gh hT
      obtain ⟨t1, t2, t3⟩ := t.frame st t.off
      exact ⟨_, st, r.newG hT, ⟨t1, t2, t3⟩, .tup upd_same (.cons (.int _) (.cons (hyd.mono st.gg) .nil))⟩
  | zip ha hx hb hy =>
    rename_i t1 u1 a b vs ws xs ys
    have ha' := (ha.mono e0).mono r.gh
    have hb' := (hb.mono e0).mono r.gh
    refine ⟨fun d hd => ?_, fun h => ⟨vs, ws, ha', hb', by rw [zip_len] at h; rw [hx.length, hy.length]; omega⟩⟩
    obtain ⟨x, y, g1, g2, rfl⟩ := zip_get hd
    obtain ⟨v1, k1, p1⟩ := hx.get g1
    obtain ⟨v2, k2, p2⟩ := hy.get g2
    refine ⟨⟨vs, ws, v1, v2, ha', hb', k1, k2⟩, fun x' H' ⟨T, y1, y2, e1, hT, e2, e3, e4⟩ => ?_⟩
    subst e1 e2
    have q1 := e3 vs ha'
    have q2 := e4 ws hb'
    rw [k1] at q1
    rw [k2] at q2
    cases q1
    cases q2
    have st : Stp G H (own φ) (upd G T (.tup [v1, v2])) (upd H T (.tup [v1, v2])) (own φ) := Stp.newG r.gh hT
    obtain ⟨t1, t2, t3⟩ := t.frame st t.off
    exact ⟨_, st, r.newG hT, ⟨t1, t2, t3⟩, .tup upd_same (.cons ((p1.mono e0).mono st.gg) (.cons ((p2.mono e0).mono st.gg) .nil))⟩
  | keysT hg hd0 =>
    rename_i d0 od kv kvs
    have hH := r.gh _ _ (e0 _ _ hg)
    have hk := hd0.keys
    refine ⟨fun d hd => ?_, fun h => ⟨hH, by rw [hk, List.length_map] at h; exact h⟩⟩
    rw [hk, List.getElem?_map] at hd
    cases q : kv[i]? with
    | none => rw [q] at hd; cases hd
    | some p =>
      rw [q] at hd
      cases hd
      have hi : i < kv.length := (List.getElem?_eq_some_iff.mp q).1
      refine ⟨⟨hH, hi⟩, fun x H' ⟨e1, k, v, qa, e2, e3, e4⟩ => ?_⟩
      subst e1 e3
      rw [q] at e2
      cases e2
      obtain ⟨G', st, sr, hq⟩ := tupG r e4
      obtain ⟨t1, t2, t3⟩ := t.frame st t.off
      exact ⟨G', st, sr, ⟨t1, t2, t3⟩, .tup hq (dps_key _)⟩
  | lstP hv ha h0 hd0 =>
    rename_i a vs
    have h1 : SqL K H a vs := .inl (.inl (kp _ ha _ h0))
    have h2 := hd0.mono e0
    refine ⟨fun d hd => ?_, fun h => ⟨vs, h1, by rw [h2.length]; exact h⟩⟩
    obtain ⟨y, hy, hyd⟩ := h2.get hd
    refine ⟨⟨vs, y, h1, hy⟩, fun x H' ⟨e1, e2⟩ => ?_⟩
    subst e1
    have q := e2 vs h1
    rw [hy] at q
    cases q
    exact ⟨G, Stp.refl, r, t, hyd⟩
  | zipP hv ha hb h1 h2 hx hy =>
    rename_i a b vs ws xs ys
    have ha' : SqK K false H a vs := .inl (.inl (kp _ ha _ h1))
    have hb' : SqK K false H b ws := .inl (.inl (kp _ hb _ h2))
    refine ⟨fun d hd => ?_, fun h => ⟨vs, ws, ha', hb', by rw [zip_len] at h; rw [hx.length, hy.length]; omega⟩⟩
    obtain ⟨x, y, g1, g2, rfl⟩ := zip_get hd
    obtain ⟨v1, k1, p1⟩ := hx.get g1
    obtain ⟨v2, k2, p2⟩ := hy.get g2
    refine ⟨⟨vs, ws, v1, v2, ha', hb', k1, k2⟩, fun x' H' ⟨T, y1, y2, e1, hT, e2, e3, e4⟩ => ?_⟩
    subst e1 e2
    have q1 := e3 vs ha'
    have q2 := e4 ws hb'
    rw [k1] at q1
    rw [k2] at q2
    cases q1
    cases q2
    have st : Stp G H (own φ) (upd G T (.tup [v1, v2])) (upd H T (.tup [v1, v2])) (own φ) := Stp.newG r.gh hT
    obtain ⟨t1, t2, t3⟩ := t.frame st t.off
    exact ⟨_, st, r.newG hT, ⟨t1, t2, t3⟩, .tup upd_same (.cons ((p1.mono e0).mono st.gg) (.cons ((p2.mono e0).mono st.gg) .nil))⟩

/-! ### the readings of iterables -/
def iSeq (K : PySem.W.Frag) (te : TE) : TI := fun σ H R => te σ H fun x H1 => (∃ a, x = .ref a ∧ (∃ xs, SqL K H1 a xs) ∧ R (Itl K a) H1) ∨ ∃ a, x = .ref a ∧ (∃ xs, SqT K H1 a xs) ∧ R (Itt K a) H1
theorem pi_seq {X : Cx} {tg l : Expr} {tl : TE} (hl : PE X l tl) : PI X tg l (iSeq X.K tl) := by
  constructor
  intro pins s σ H R I h
  refine wpAny_mono (hl.run pins s σ H _ I h) ?_ fun _ _ z => z
  intro v s1 ⟨x, H1, I1, r1, q1⟩
  have own1 : ∀ b ∈ [s1.heap.objs.size], FpOk X pins H1 b := fun b hb => by
    obtain rfl := List.mem_singleton.mp hb
    exact I1.fpOk (Nat.le_refl _) (I1.hok.fresh (Nat.le_refl _))
  rcases q1 with ⟨a, rfl, ⟨xs, hq⟩, q⟩ | ⟨a, rfl, ⟨xs, hq⟩, q⟩
  · cases r1
    obtain ⟨its, rv, p, hz⟩ := I1.list hq
    exact wpAny_pyIter_list p.isList ⟨s1.heap.objs.size, [s1.heap.objs.size], _, _, H1, rfl, I1.kept (t' := s1.toks) (fun b o e => Heap.get?_push_of_some _ e), turn_list a _, ⟨_, Heap.get?_push_size _ rfl, rfl, rfl⟩, own1, q⟩
  · cases r1
    obtain ⟨its, rv, p, hz⟩ := I1.tuple hq
    exact wpAny_pyIter_tuple (show s1.heap.IsTuple a its.toArray from p) ⟨s1.heap.objs.size, [s1.heap.objs.size], _, _, H1, rfl, I1.kept (t' := s1.toks) (fun b o e => Heap.get?_push_of_some _ e), turn_tuple a _, ⟨_, Heap.get?_push_size _ rfl, rfl, rfl⟩, own1, q⟩
def tIt (K : PySem.W.Frag) (xr : XR) (W : WX) (Φ : Fns) : It → TI
  | .rng1 a => iRng1 (tAs K xr W Φ [a])
  | .rng2 a b => iRng2 (tAs K xr W Φ [a, b])
  | .rng3 as => iRng3 (tAs K xr W Φ as)
  | .seq a => iSeq K (tA K xr W Φ a)
  | .enum a => iEnumT K (tAs K xr W Φ [a])
  | .zip a b => iZipK K (tAs K xr W Φ [a, b])
  | .keys a => iKeys (tA K xr W Φ a)
  | .chars a => iStr (tA K xr W Φ a)
  | .seqP i π => iSeq K (tPt K i π)
  | .zipP i π π' => iZipK K (fun σ H Q => tPt K i π σ H fun x H1 => tPt K i π' σ H1 fun y H2 => Q [x, y] H2)
def Hold (σ : L2.St) (h : Option (Nat × S)) (s : S) (v : V) : Prop := match h with
  | none => (view s).isSome = true
  | some (i, s') => s' = s ∧ σ[i]? = some (some v)
def PoI (K : PySem.W.Frag) (xr : XR) (W : WX) (σ : L2.St) (G H : Hp) (φ : Nat → List Addr) (r : R (List PyData × Option (Nat × S))) (Rr : L2.It → Hp → Prop) : Prop := match r with
  | .stk => False
  | .ok p ρ' => ∀ J G' H' φ' s v f, Stp G H (own φ) G' H' (fun a => own φ' a ∨ a ∈ f) → SR K G' H' ρ' σ φ' → Tmp K G' H' s v f φ' → Shape K G' H' f J p.1 s v → Hold σ p.2 s v → Rr J H'
  | .exc c d ρ' => PoX K xr W σ G H φ c d ρ'
/-- one operand that is walked: as it is looked at, what is held aside -/
theorem opsI {a : A} {k : Option S → List S → R (List PyData × Option (Nat × S))} {Rr : L2.It → Hp → Prop} {Qr : List V → Hp → Prop} (r : SR K G H ρ σ φ) (h : PoI K xr W σ G H φ ((evA Φ a ρ).bnd k) Rr)
    (hop : ∀ t ρ' x G' H' φ' f, SR K G' H' ρ' σ φ' → OpR1 K G' H' σ a t x f → (∀ b ∈ f, G' b = none ∧ ¬ own φ' b) → Stp G H (own φ) G' H' (fun b => own φ' b ∨ b ∈ f) → PoI K xr W σ G H φ (k t ρ') Rr → Qr [x] H') : tAs K xr W Φ [a] σ H Qr := by
  refine ops [a] ρ G H φ Qr r ?_
  simp only [evAs]
  cases e : evA Φ a ρ with
  | stk => rw [e] at h; exact h
  | exc c d ρ' => rw [e] at h; exact h
  | ok t ρ' =>
    rw [e] at h
    simp only [R.bnd] at h ⊢
    intro vs G' H' φ' fs st r' o hf
    obtain ⟨t', x, f, e1, rfl, o1, rfl⟩ := o.one
    cases e1
    rw [List.append_nil] at st hf
    exact hop t ρ' x G' H' φ' f r' o1 hf st h
theorem opsI2 {a b : A} {k : Option S → Option S → List S → R (List PyData × Option (Nat × S))} {Rr : L2.It → Hp → Prop} {Qr : List V → Hp → Prop} (r : SR K G H ρ σ φ) (h : PoI K xr W σ G H φ ((evA Φ a ρ).bnd fun t ρ' => (evA Φ b ρ').bnd fun u ρ'' => k t u ρ'') Rr)
    (hop : ∀ t u ρ' x y G' H' φ' f g, SR K G' H' ρ' σ φ' → OpR1 K G' H' σ a t x f → OpR1 K G' H' σ b u y g → Stp G H (own φ) G' H' (own φ') → PoI K xr W σ G H φ (k t u ρ') Rr → Qr [x, y] H') : tAs K xr W Φ [a, b] σ H Qr := by
  refine ops [a, b] ρ G H φ Qr r ?_
  simp only [evAs]
  cases e : evA Φ a ρ with
  | stk => rw [e] at h; exact h
  | exc c d ρ' => rw [e] at h; exact h
  | ok t ρ1 =>
    rw [e] at h
    simp only [R.bnd] at h ⊢
    cases e2 : evA Φ b ρ1 with
    | stk => rw [e2] at h; exact h
    | exc c d ρ' => rw [e2] at h; exact h
    | ok u ρ2 =>
      rw [e2] at h
      simp only [R.bnd] at h ⊢
      intro vs G' H' φ' fs st r' o hf
      obtain ⟨t', u', x, y, f, g, e1, rfl, o1, o2, rfl⟩ := o.two
      cases e1
      exact hop t u ρ2 x y G' H' φ' f g r' o1 o2 (st.weak fun _ q => .inl q) h
theorem opsIs {as : List A} {k : List (Option S) → List S → R (List PyData × Option (Nat × S))} {Rr : L2.It → Hp → Prop} {Qr : List V → Hp → Prop} (r : SR K G H ρ σ φ) (h : PoI K xr W σ G H φ ((evAs Φ as ρ).bnd k) Rr)
    (hop : ∀ ts ρ' vs G' H' φ' fs, SR K G' H' ρ' σ φ' → Ops K G' H' σ as ts vs fs → Stp G H (own φ) G' H' (own φ') → PoI K xr W σ G H φ (k ts ρ') Rr → Qr vs H') : tAs K xr W Φ as σ H Qr := by
  refine ops as ρ G H φ Qr r ?_
  cases e : evAs Φ as ρ with
  | stk => rw [e] at h; exact h
  | exc c d ρ' => rw [e] at h; exact h
  | ok ts ρ' =>
    rw [e] at h
    exact fun vs G' H' φ' fs st r' o hf => hop ts ρ' vs G' H' φ' fs r' o (st.weak fun _ q => .inl q) h
/-- two operands, kept as data -/
theorem opsIz {a b : A} {k : Option S → Option S → List S → R (List PyData × Option (Nat × S))} {Rr : L2.It → Hp → Prop} {Qr : List V → Hp → Prop} (r : SR K G H ρ σ φ) (h : PoI K xr W σ G H φ ((evA Φ a ρ).bnd fun t ρ' => (evA Φ b ρ').bnd fun u ρ'' => k t u ρ'') Rr)
    (hop : ∀ t u ρ' vs G' H' φ' fs, SR K G' H' ρ' σ φ' → Ops K G' H' σ [a, b] [t, u] vs fs → (∀ b ∈ fs, G' b = none ∧ ¬ own φ' b) → Stp G H (own φ) G' H' (fun b => own φ' b ∨ b ∈ fs) → PoI K xr W σ G H φ (k t u ρ') Rr → Qr vs H') : tAs K xr W Φ [a, b] σ H Qr := by
  refine ops [a, b] ρ G H φ Qr r ?_
  simp only [evAs]
  cases e : evA Φ a ρ with
  | stk => rw [e] at h; exact h
  | exc c d ρ' => rw [e] at h; exact h
  | ok t ρ1 =>
    rw [e] at h
    simp only [R.bnd] at h ⊢
    cases e2 : evA Φ b ρ1 with
    | stk => rw [e2] at h; exact h
    | exc c d ρ' => rw [e2] at h; exact h
    | ok u ρ2 =>
      rw [e2] at h
      simp only [R.bnd] at h ⊢
      exact fun vs G' H' φ' fs st r' o hf => hop t u ρ2 vs G' H' φ' fs r' o hf st h
theorem DP.itemsK {v : V} {d : PyData} {xs : List PyData} (h : DP K G v d) (e : items d = some xs) : ∃ a t vs, v = .ref a ∧ SqK K t G a vs ∧ DPs K G vs xs := by
  cases d with
  | list ds =>
    cases e
    cases h with
    | lst h1 h2 => exact ⟨_, false, _, rfl, h1, h2⟩
  | tuple ds =>
    cases e
    cases h with
    | tup h1 h2 => exact ⟨_, true, _, rfl, .inl (.inl h1), h2⟩
  | _ => cases e
theorem VW.dctT {v : V} {kvs : List (PyData × PyData)} (h : VW K G H v (.dict kvs)) (tk : tkey kvs = true) : ∃ d od kv, v = .ref d ∧ G d = some (.frz od (.dT kv)) ∧ DTs K G kv kvs := by
  have nk : ∀ {kv : List (Key × V)} {G : Hp}, DKs K G kv kvs → False := fun {kv G} q => by
    cases q with
    | nil => cases tk
    | cons _ _ =>
      rename_i k _ _ _ _ _ _
      cases k <;> cases tk
  rcases h with h | ⟨a, vs, ds', rfl, e, h1, h2⟩ | ⟨a, ds', rfl, e, kv, h1, h2⟩
  · cases h with
    | dctK h1 h2 => exact (nk h2).elim
    | dctT h1 h2 _ => exact ⟨_, _, _, rfl, h1, h2⟩
    | err => cases tk
  · cases e
  · cases e
    exact (nk h2).elim
theorem rg3_of {i j c : Int} (hi : i.natAbs < 2 ^ 60) (hj : j.natAbs < 2 ^ 60) (h : 0 < c ∧ c < 1000000000 ∨ c = -1) (hp : 0 < c → c < 1000000000 → RgC i j c (cntC i j c)) : RgC i j c (cnt3 i j c) := by
  unfold cnt3
  rcases h with ⟨h1, h2⟩ | rfl
  · rw [if_neg (by omega)]
    exact hp h1 h2
  · rw [if_pos rfl]
    exact RgC.neg (by omega) (by omega) (by omega) (by omega)
theorem rgC_of {i j c : Int} (hi : i.natAbs < 2 ^ 60) (hj : j.natAbs < 2 ^ 60) (h0 : 0 < c) (hc : c < 1000000000) : RgC i j c (cntC i j c) := by
  have e : Builtin.Range.rangeSize i j c = ((cntC i j c : Nat) : Int) := by
    unfold Builtin.Range.rangeSize cntC
    rw [if_pos h0]
    split
    · rename_i hl
      have e1 : j - i + c - 1 = (j - i - 1) + 1 * c := by omega
      rw [e1, Int.add_mul_ediv_right _ _ (by omega)]
      have p : 0 ≤ (j - i - 1) / c := Int.ediv_nonneg (by omega) (by omega)
      omega
    · rename_i hl
      have p : (j - i + c - 1) / c ≤ 0 := by
        have z : (j - i + c - 1) / c < 1 := Int.ediv_lt_of_lt_mul h0 (by omega)
        omega
      omega
  refine ⟨by omega, by omega, ?_, e⟩
  have hn : (cntC i j c : Int) ≤ 2 ^ 61 + 1 := by
    rw [← e]
    unfold Builtin.Range.rangeSize
    rw [if_pos h0]
    split
    · have z : (j - i - 1) / c ≤ j - i - 1 := Int.ediv_le_self _ (by omega)
      omega
    · omega
  unfold Builtin.Range.small
  rw [e, if_pos h0]
  simp only [Builtin.Range.rangeFitsLong, Bool.and_eq_true, Bool.or_eq_true, decide_eq_true_eq, beq_iff_eq]
  omega
theorem Tmp.non : Tmp K G H (.val .none) .non [] φ := ⟨⟨.non, rfl⟩, (fun _ z => nomatch z), fun _ z => nomatch z⟩
/-- what is walked is held aside: the operand's own value, or the name's -/
theorem hold_of {a : A} {t : Option S} {x : V} {f : List Addr} {d : PyData} (r : SR K G' H' ρ σ φ') (o : OpR1 K G' H' σ a t x f) (hf : ∀ b ∈ f, G' b = none ∧ ¬ own φ' b) (hd : res a (t.bind view) ρ = some d) (st : Stp G H (own φ) G' H' (fun b => own φ' b ∨ b ∈ f))
    {Rr : L2.It → Hp → Prop} {xs : List PyData} (h : PoI K xr W σ G H φ (holdO a xs ρ) Rr) :
    ∃ s, view s = some d ∧ ∀ J, (∀ f, Shape K G' H' f J xs s x) → Rr J H' := by
  cases a with
  | e y =>
    obtain ⟨s, rfl, q⟩ := o
    exact ⟨s, hd, fun J sh => h J G' H' φ' s x f st r ⟨q, fun b hb => (hf b hb).1, fun b hb => (hf b hb).2⟩ (sh _) (by show (view s).isSome = true; rw [show view s = some d from hd]; rfl)⟩
  | pl i =>
    obtain ⟨rfl, hv⟩ := o
    have hd : view (slot ρ i) = some d := hd
    have nd : slot ρ i ≠ .dead := fun e => by rw [e] at hd; cases hd
    obtain ⟨w, hw, q⟩ := r.at nd
    rw [hv] at hw
    cases hw
    unfold holdO at h
    simp only at h
    split at h
    · rename_i hval
      refine ⟨slot ρ i, hd, fun J sh => h J G' H' φ' (slot ρ i) x [] (st.weak fun b z => z.elim .inl fun y => nomatch y) r ?_ (sh _) (by show (view (slot ρ i)).isSome = true; rw [hd]; rfl)⟩
      cases e : slot ρ i with
      | val d' => rw [e] at q; exact ⟨⟨q.1, rfl⟩, (fun _ z => nomatch z), fun _ z => nomatch z⟩
      | lst _ => rw [e] at hval; cases hval
      | dct _ => rw [e] at hval; cases hval
      | dtt _ => rw [e] at hval; cases hval
      | box _ _ => rw [e] at hval; cases hval
      | dead => exact absurd e nd
    · refine ⟨slot ρ i, hd, fun J sh => h J G' H' (upf φ' i []) (slot ρ i) x (φ' i) (st.weak fun b z => ?_) r.drop (r.tmp q) (sh _) ⟨rfl, hv⟩⟩
      rcases z with z | z
      · rcases own_upf z with z | z
        · cases z
        · exact .inl z
      · exact .inl ⟨i, z⟩
theorem it_ok {Rr : L2.It → Hp → Prop} : ∀ (it : It), SR K G H ρ σ φ → PoI K xr W σ G H φ (evIt Φ it ρ) Rr → tIt K xr W Φ it σ H Rr
  | .rng1 a, r, h => by
    rw [evIt] at h
    unfold tIt iRng1
    refine opsI r h fun t ρ' x G' H' φ' f r' o hf st q => ?_
    split at q
    · rename_i n hn
      obtain rfl := (o.vw r' hn).int
      split at q
      · rename_i hb
        have hb := of_decide_eq_true hb
        refine ⟨n, rfl, by omega, by omega, q _ G' H' φ' (.val .none) .non [] (st.weak fun b z => z.elim .inl fun y => nomatch y) r' Tmp.non ?_ rfl⟩
        have sh := Shape.rng (K := K) (G0 := G') (H0 := H') (f := []) 0 n.toNat
        have e : rng 0 n = (List.range n.toNat).map fun (i : Nat) => .int (0 + (i : Int)) := by unfold rng; rw [Int.sub_zero]
        simp only [e]
        exact sh
      · exact q.elim
    · exact q.elim
  | .rng2 a b, r, h => by
    rw [evIt] at h
    unfold tIt iRng2
    refine opsI2 r h fun t u ρ' x y G' H' φ' f g r' o1 o2 st q => ?_
    split at q
    · rename_i m n hm hn
      obtain rfl := (o1.vw r' hm).int
      obtain rfl := (o2.vw r' hn).int
      split at q
      · rename_i hb
        have hb := of_decide_eq_true hb
        exact ⟨m, n, rfl, ⟨by omega, by omega, by omega, by omega⟩, q _ G' H' φ' (.val .none) .non [] (st.weak fun b z => z.elim id fun y => nomatch y) r' Tmp.non (Shape.rng m (n - m).toNat) rfl⟩
      · exact q.elim
    · exact q.elim
  | .rng3 as, r, h => by
    rw [evIt] at h
    unfold tIt iRng3
    refine opsIs r h fun ts ρ' vs G' H' φ' fs r' o st q => ?_
    split at q
    · rename_i i j k hds
      have vw := o.vws r' hds
      split at q
      · rename_i hb
        obtain ⟨b1, b2, b3⟩ := of_decide_eq_true hb
        cases vw with
        | cons v1 v2 =>
          cases v2 with
          | cons v2 v3 =>
            cases v3 with
            | cons v3 v4 =>
              cases v4
              obtain rfl := v1.int
              obtain rfl := v2.int
              obtain rfl := v3.int
              exact ⟨i, j, k, _, rfl, rg3_of b1 b2 b3 fun h1 h2 => rgC_of b1 b2 h1 h2, q _ G' H' φ' (.val .none) .non [] (st.weak fun b z => z.elim id fun y => nomatch y) r' Tmp.non (Shape.rngC i k _) rfl⟩
      · exact q.elim
    · exact q.elim
  | .seq a, r, h => by
    rw [evIt] at h
    have key : tAs K xr W Φ [a] σ H (fun vs H1 => match vs with
        | [x] => (∃ a, x = V.ref a ∧ (∃ xs, SqL K H1 a xs) ∧ Rr (Itl K a) H1) ∨ ∃ a, x = V.ref a ∧ (∃ xs, SqT K H1 a xs) ∧ Rr (Itt K a) H1
        | _ => False) := by
      refine opsI r h fun t ρ' x G' H' φ' f r' o hf st q => ?_
      split at q
      · rename_i d hd
        split at q
        · rename_i xs hxs
          obtain ⟨s, hs, hR⟩ := hold_of r' o hf hd st q
          have vw := o.vw r' hd
          cases d with
          | list ds =>
            cases hxs
            obtain ⟨b, vs, rfl, h1, _⟩ := vw.list r'.gh
            exact .inl ⟨b, rfl, ⟨vs, h1⟩, hR _ fun _ => .lst hs⟩
          | tuple ds =>
            cases hxs
            obtain ⟨b, vs, rfl, h1, _⟩ := vw.tuple
            exact .inr ⟨b, rfl, ⟨vs, Same.seqT r'.gh h1⟩, hR _ fun _ => .tup hs⟩
          | none => cases hxs
          | bool _ => cases hxs
          | int _ => cases hxs
          | str _ => cases hxs
          | dict _ => cases hxs
        · exact q.elim
      · exact q.elim
    exact key
  | .chars a, r, h => by
    rw [evIt] at h
    have key : tAs K xr W Φ [a] σ H (fun vs H1 => match vs with
        | [x] => ∃ z, x = V.str z ∧ Rr (Its z) H1
        | _ => False) := by
      refine opsI r h fun t ρ' x G' H' φ' f r' o hf st q => ?_
      split at q
      · rename_i z hz
        obtain rfl := (o.vw r' hz).str
        exact ⟨z, rfl, q _ G' H' φ' (.val .none) .non [] (st.weak fun b z => z.elim .inl fun y => nomatch y) r' Tmp.non (.chr z) rfl⟩
      · exact q.elim
    exact key
  | .enum a, r, h => by
    rw [evIt] at h
    unfold tIt iEnumT
    refine opsI r h fun t ρ' x G' H' φ' f r' o hf st q => ?_
    split at q
    · rename_i ds hd
      obtain ⟨s, hs, hR⟩ := hold_of r' o hf hd st q
      obtain ⟨b, vs, rfl, h1, _⟩ := (o.vw r' hd).list r'.gh
      exact ⟨b, vs, rfl, .inl ⟨h1, hR _ fun _ => .enum hs⟩⟩
    · rename_i ds hd
      obtain ⟨s, hs, hR⟩ := hold_of r' o hf hd st q
      obtain ⟨b, vs, rfl, h1, _⟩ := (o.vw r' hd).tuple
      exact ⟨b, vs, rfl, .inr ⟨Same.seqT r'.gh h1, hR _ fun _ => .enumT hs⟩⟩
    · exact q.elim
  | .zip a b, r, h => by
    rw [evIt] at h
    unfold tIt iZipK
    refine opsIz r h fun t u ρ' vs G' H' φ' fs r' o hf st q => ?_
    split at q
    · rename_i d d' hres
      split at q
      · rename_i xs ys e1 e2
        obtain ⟨G2, st2, sr2, hd, _⟩ := o.freeze r' hf hres
        cases hd with
        | cons p1 hd =>
          cases hd with
          | cons p2 hd =>
            cases hd
            obtain ⟨a1, t1, vs1, rfl, g1, g2⟩ := p1.itemsK e1
            obtain ⟨a2, t2, vs2, rfl, g3, g4⟩ := p2.itemsK e2
            exact ⟨a1, a2, vs1, vs2, t1, t2, rfl, g1.mono sr2.gh, g3.mono sr2.gh, q _ G2 H' φ' (.val .none) .non [] ((st.trans st2).weak fun b z => z.elim id fun y => nomatch y) sr2 Tmp.non (.zip g1 g2 g3 g4) rfl⟩
      · exact q.elim
    · exact q.elim
  | .keys a, r, h => by
    rw [evIt] at h
    have key : tAs K xr W Φ [a] σ H (fun vs H1 => match vs with
        | [x] => ∃ d o, x = V.ref d ∧ ((∃ kvs, H1 d = some (.frz o (.dK kvs)) ∧ Rr (Itk d o kvs) H1) ∨ ∃ kvs, H1 d = some (.frz o (.dT kvs)) ∧ Rr (Itkt d o kvs) H1)
        | _ => False) := by
      refine opsI r h fun t ρ' x G' H' φ' f r' o hf st q => ?_
      split at q
      · rename_i kvs hd
        split at q
        · rename_i tk
          obtain ⟨d, od, kv, rfl, g1, g2⟩ := (o.vw r' hd).dctT tk
          exact ⟨d, od, rfl, .inr ⟨kv, r'.gh _ _ g1, q _ G' H' φ' (.val .none) .non [] (st.weak fun b z => z.elim .inl fun y => nomatch y) r' Tmp.non (.keysT g1 g2) rfl⟩⟩
        · exact q.elim
      · exact q.elim
    exact key
  | .seqP i π, r, h => by
    rw [evIt] at h
    unfold tIt iSeq
    cases e1 : atP' ρ i π with
    | lst xs =>
      rw [e1] at h
      cases e2 : slot ρ i with
      | box b fs =>
        rw [e2] at h
        obtain ⟨π', v0, u, g, p1, p2, p3, p4, _, p6⟩ := r.place (i := i) (rπ := π) (by rw [e1]; exact fun z => nomatch z)
        rw [e1] at p4
        obtain ⟨a, vs, rfl, hH, hd, rfl⟩ := p4
        obtain ⟨v, hv, q⟩ := r.at (i := i) (by rw [e2]; exact fun z => nomatch z)
        rw [p2] at hv
        cases hv
        have t := r.tmp q
        rw [e2] at t
        refine ⟨ρ, G, φ, π', v0, .ref a, r, p1, p2, p3, .inl ⟨a, rfl, ⟨vs, .inl (.inl hH)⟩, ?_⟩⟩
        refine h _ G H (upf φ i []) (.box b fs) v0 (φ i) (Stp.refl.weak fun b z => ?_) r.drop t (.lstP rfl (p6 a (List.mem_singleton.mpr rfl)) hH hd) ⟨rfl, p2⟩
        rcases z with z | z
        · rcases own_upf z with z | z
          · cases z
          · exact z
        · exact ⟨i, z⟩
      | _ => rw [e2] at h; exact h.elim
    | _ => rw [e1] at h; exact h.elim
  | .zipP i π ϖ, r, h => by
    rw [evIt] at h
    unfold tIt iZipK
    cases e1 : atP' ρ i π with
    | lst xs =>
      rw [e1] at h
      cases e3 : atP' ρ i ϖ with
      | lst ys =>
        rw [e3] at h
        cases e2 : slot ρ i with
        | box b fs =>
          rw [e2] at h
          obtain ⟨π', v0, u, g, p1, p2, p3, p4, _, p6⟩ := r.place (i := i) (rπ := π) (by rw [e1]; exact fun z => nomatch z)
          obtain ⟨ϖ', v1, u1, g1, q1, q2, q3, q4, _, q6⟩ := r.place (i := i) (rπ := ϖ) (by rw [e3]; exact fun z => nomatch z)
          rw [e1] at p4
          rw [e3] at q4
          obtain ⟨a, vs, rfl, hH, hd, rfl⟩ := p4
          obtain ⟨a1, vs1, rfl, hH1, hd1, rfl⟩ := q4
          obtain ⟨v, hv, q⟩ := r.at (i := i) (by rw [e2]; exact fun z => nomatch z)
          rw [p2] at hv q2
          cases hv
          cases q2
          have t := r.tmp q
          rw [e2] at t
          refine ⟨ρ, G, φ, π', v0, .ref a, r, p1, p2, p3, ρ, G, φ, ϖ', v0, .ref a1, r, q1, p2, q3, a, a1, vs, vs1, false, false, rfl, .inl (.inl hH), .inl (.inl hH1), ?_⟩
          refine h _ G H (upf φ i []) (.box b fs) v0 (φ i) (Stp.refl.weak fun b z => ?_) r.drop t (.zipP rfl (p6 a (List.mem_singleton.mpr rfl)) (q6 a1 (List.mem_singleton.mpr rfl)) hH hH1 hd hd1) ⟨rfl, p2⟩
          rcases z with z | z
          · rcases own_upf z with z | z
            · cases z
            · exact z
          · exact ⟨i, z⟩
        | _ => rw [e2] at h; exact h.elim
      | _ => rw [e3] at h; exact h.elim
    | _ => rw [e1] at h; exact h.elim

/-! ### targets -/
def tSets (K : PySem.W.Frag) : List Nat → TGs
  | [] => gNil
  | i :: is => gCons (gName i) (tSets K is)
def tTg (K : PySem.W.Frag) : Tg → TG
  | .nm i => gName i
  | .tp is => gTup K is.length (tSets K is)
/-- the footprints behind stores of data -/
def dropF (φ : Nat → List Addr) : List Nat → Nat → List Addr
  | [] => φ
  | i :: is => dropF (upf φ i []) is
theorem own_dropF : ∀ {is : List Nat} {φ : Nat → List Addr} {a : Addr}, own (dropF φ is) a → own φ a
  | [], _, _, h => h
  | i :: is, φ, a, h => by
    rcases own_upf (own_dropF (is := is) h) with z | z
    · cases z
    · exact z
theorem upf_nil_if {φ : Nat → List Addr} {i : Nat} {c : Prop} [Decidable c] : upf φ i (if c then ([] : List Addr) else []) = upf φ i [] := by split <;> rfl
theorem sets_ok : ∀ {is : List Nat} {vs : List V} {ds : List PyData} {ρ : List S} {σ : L2.St} {φ : Nat → List Addr} {Q : L2.St → Hp → Prop}, is.length = vs.length → DPs K G vs ds → SR K G H ρ σ φ →
    (∀ σ', σ'.length = σ.length → (∀ j, j ∉ is → σ'[j]? = σ[j]?) → (∀ vs', (∀ i ∈ is, i ∈ vs') → wipe σ' vs' = wipe σ vs') → SR K G H (sets is (ds.map S.val) ρ) σ' (dropF φ is) → Q σ' H) → tSets K is vs σ H Q
  | [], vs, ds, ρ, σ, φ, Q, hl, hd, r, q => by
    cases hd with
    | nil => exact ⟨rfl, q σ rfl (fun _ _ => rfl) (fun _ _ => rfl) r⟩
    | cons _ _ => simp at hl
  | i :: is, vs, ds, ρ, σ, φ, Q, hl, hd, r, q => by
    cases hd with
    | nil => simp at hl
    | cons h1 h2 =>
      rename_i v vs d ds
      refine ⟨v, vs, rfl, ?_⟩
      have r' := r.store (i := i) (f := []) (s := .val d) ⟨⟨h1, rfl⟩, (fun _ z => nomatch z), fun _ z => nomatch z⟩
      rw [upf_nil_if] at r'
      refine sets_ok (is := is) (by simpa using hl) h2 r' fun σ' e1 e2 e3 r2 => q σ' (by rw [e1, List.length_set]) (fun j hj => ?_) (fun vs' hv => ?_) r2
      · rw [e2 j fun z => hj (List.mem_cons_of_mem _ z), List.getElem?_set_ne fun z => hj (by rw [z]; exact List.mem_cons_self)]
      · rw [e3 vs' fun k hk => hv k (List.mem_cons_of_mem _ hk)]
        have hm := hv i List.mem_cons_self
        have key : ∀ (l : List Nat) (τ : L2.St), i ∈ l → wipe (τ.set i (some v)) l = wipe τ l := by
          intro l
          induction l with
          | nil => intro τ h; cases h
          | cons k l ih =>
            intro τ h
            unfold wipe
            by_cases hk : i ∈ l
            · rw [ih τ hk]
            · have e : i = k := (List.mem_cons.mp h).resolve_right hk
              subst e
              have gen : ∀ (l : List Nat) (τ : L2.St) (o : Option V), i ∉ l → wipe (τ.set i o) l = (wipe τ l).set i o := by
                intro l
                induction l with
                | nil => intro τ o _; rfl
                | cons m l ih2 =>
                  intro τ o hn
                  unfold wipe
                  rw [ih2 τ o fun z => hn (List.mem_cons_of_mem _ z), List.set_comm _ _ fun z => hn (by rw [z]; exact List.mem_cons_self)]
              rw [gen l τ _ hk, List.set_set]
        exact key vs' σ hm
/-- a datum is stored by a target -/
theorem tg_ok {t : Tg} {x : V} {d : PyData} {ρ ρ' : List S} {Q : L2.St → Hp → Prop} (hb : bindT t d ρ = some ρ') (hd : DP K G x d) (r : SR K G H ρ σ φ)
    (q : ∀ σ', σ'.length = σ.length → (∀ j, j ∉ tgs t → σ'[j]? = σ[j]?) → (∀ vs', (∀ i ∈ tgs t, i ∈ vs') → wipe σ' vs' = wipe σ vs') → SR K G H ρ' σ' (dropF φ (tgs t)) → Q σ' H) : tTg K t x σ H Q := by
  cases t with
  | nm i =>
    cases hb
    have s := sets_ok (K := K) (G := G) (H := H) (is := [i]) (vs := [x]) (ds := [d]) (Q := Q) rfl (.cons hd .nil) r q
    obtain ⟨v, rr, e, s⟩ := s
    cases e
    exact s.2
  | tp is =>
    cases d with
    | tuple ds =>
      simp only [bindT] at hb
      split at hb
      · rename_i hl
        cases hb
        cases hd with
        | tup h1 h2 => exact ⟨_, _, rfl, .inl (.inl (r.gh _ _ h1)), by rw [h2.length]; exact hl, sets_ok (by rw [h2.length]; exact hl.symm) h2 r q⟩
      · cases hb
    | _ => cases hb
end
end VE

/-! VU: sorted(set(list of ints)). -/
namespace VE
open PySem L2 PySem.Spec PyProof.Rows
section
variable {P : Program} {w : World} {A : Around} {E : Value → Shared → Prop} {s : Shared}
/-- an empty set as it is made -/
abbrev mtO (w : World) : Obj := { cls := .type "set", dict := none, data := .set #[] 0 (.fresh 0 0 (!w.params.followText "set-order")) }
set_option maxRecDepth 100000 in
theorem set_ofL {l : Addr} {its : Array Value} (ns : List Int) {Q : Value → Shared → Prop} (hh : A.handled = none) (hl : s.heap.IsList l its) (hi : IntsAre its.toList ns) (hb : ns.length + 1 < scanBound)
    (h : ∀ (h' : Heap) (tk c : Nat), SetR w h' s.heap.objs.size (fun j => decide (j ∈ ns)) c → c ≤ ns.length → (∀ b o, s.heap.get? b = some o → h'.get? b = some o) → Q (.ref s.heap.objs.size) { s with heap := h', toks := tk }) :
    wpAny (model P w) A (call (.type "set") [.ref l]) Q E s := by
  have size0 : its.size = ns.length := by
    rw [← IntsAre.length hi, Array.length_toList]
  obtain ⟨c0, tl0, m0⟩ := F.called_set.mro
  have y1 := F.called_set.made
  have y2 := F.called_set.sub
  refine wpAny_call (codeAny_of_tree (wpAny_pure ⟨Code.quiet_builtin _ (by decide +kernel), codeAny_builtin F.entry_type_call ?_⟩))
  rw [Around.under_plain (weight_type_call_type "set" [.ref l] []) rfl]
  have y3 := F.called_set.notType
  have y4 := F.called_set.canCreate
  have y5 := F.typeCall_set_1 (.ref l)
  repeat (any_goals (first | assumption | wp_step))
  refine codeAny_mono (code_set_led1 (.ref l) (E := E) (Q₁ := fun ob t => ob = .ref s.heap.objs.size ∧ t = { s with heap := s.heap.push (mtO w) }) ⟨rfl, rfl⟩) fun r t hr => ?_
  match r, hr with
  | .ok (.ret ob), hr =>
    obtain ⟨rfl, rfl⟩ := hr
    have new : (s.heap.push (mtO w)).get? s.heap.objs.size = some (mtO w) := Heap.get?_push_size _ rfl
    have tyS : Shared.TypeIs { s with heap := s.heap.push (mtO w) } (.ref s.heap.objs.size) "set" := ⟨_, new, rfl⟩
    have y6 := F.called_set.init.lookup
    have y7 := F.called_set.init.bind (.ref s.heap.objs.size)
    repeat (any_goals (first | assumption | wp_step))
    refine codeAny_mono (codeAny_call_builtin (R := wants (fun r t => r = .none ∧ ∃ h' tk c, t = { s with heap := h', toks := tk } ∧ SetR w h' s.heap.objs.size (fun j => decide (j ∈ ns)) c ∧ c ≤ ns.length ∧ (∀ b o, s.heap.get? b = some o → h'.get? b = some o)) E) F.called_set.init.plain F.entry_set_init (check_set_init_1 tyS ?_)) fun r2 t2 hr2 => ?_
    · obtain ⟨lo, el, cl, nl, dl⟩ := hl
      obtain ⟨lc, ld, lt, ls⟩ := lo
      simp only at cl dl
      subst cl; subst dl
      have el' : (s.heap.push (mtO w)).get? l = some { cls := .type "list", dict := ld, data := .seq its nl, slots := ls } := Heap.get?_push_of_some _ el
      have z1 := F.sub_list_set
      have z2 := F.sub_list_frozenset
      have z3 : (Value.type "list" == Value.type "dict") = false := by decide
      have isl : (s.heap.push (mtO w)).IsList l its := ⟨_, el', rfl, nl, rfl⟩
      unfold Builtin.«set.__init__» noKeywords Builtin.Frozenset.updateFrom
      generalize hPI : pyIter = PI
      wp_walk
      subst hPI
      refine wpAny_pyIter_list isl (wpAny_bind (wpAny_runValue ?_))
      have lS : l < s.heap.objs.size := Heap.lt_size el
      have sz : (s.heap.push (mtO w)).objs.size = s.heap.objs.size + 1 := Heap.size_push ..
      have neI : l ≠ (s.heap.push (mtO w)).objs.size := by
        rw [sz]
        exact Nat.ne_of_lt (Nat.lt_succ_of_lt lS)
      have off : s.heap.objs.size ∉ [(s.heap.push (mtO w)).objs.size, l] := by
        rw [sz]
        simp only [List.mem_cons, List.mem_singleton, List.not_mem_nil, or_false, not_or]
        exact ⟨Nat.ne_of_lt (Nat.lt_succ_self _), Nat.ne_of_gt lS⟩
      have val : ∀ (i : Nat) (v : Value), its[i]? = some v → ∃ k t, ns[i]? = some k ∧ v = .int k t := fun i v hv => by
        have hi' : i < ns.length := by
          rw [← size0]
          exact (Array.getElem?_eq_some_iff.mp hv).1
        obtain ⟨t, e⟩ := IntsAre.int_at hi i v (by rw [Array.getElem?_toList]; exact hv)
        refine ⟨ns[i], t, List.getElem?_eq_getElem hi', ?_⟩
        rw [e, List.getD_eq_getElem?_getD, List.getElem?_eq_getElem hi']
        rfl
      refine set_update_ints ((Walks.list (by simp [hh]) _ l neI its).toS) s.heap.objs.size off ns size0 hb val (its.size - 0) 0 _ (by omega) (Nat.zero_le _) ⟨⟨_, Heap.get?_push_size _ rfl, rfl, rfl⟩, (isl.push _)⟩ ⟨0, Nat.le_refl 0, setR_new_at (Heap.get?_push_of_some _ new)⟩ fun t3 c3 mv hc3 hS3 => ?_
      obtain ⟨h', g2, d2, k2, o2⟩ := t3
      obtain rfl : g2 = s.gens := mv.gens
      obtain rfl : d2 = s.drawn := mv.drawn
      obtain rfl : o2 = s.os := mv.os
      show wpAny _ _ _ _ _ _
      refine wpAny_pure ?_
      show wpAny _ _ (ret Value.none) _ _ _
      refine wpAny_pure ⟨rfl, h', k2, c3, rfl, hS3, by rw [← size0]; exact hc3, fun b o e => ?_⟩
      have b0 : b < s.heap.objs.size := Heap.lt_size e
      refine mv.heap b o ?_ (Heap.get?_push_of_some _ (Heap.get?_push_of_some _ e))
      rw [sz]
      simp only [List.mem_cons, List.mem_singleton, List.not_mem_nil, or_false, not_or]
      exact ⟨Nat.ne_of_lt b0, Nat.ne_of_lt (Nat.lt_succ_of_lt b0)⟩
    · match r2, hr2 with
      | .ok (.ret r), hr2 =>
        obtain ⟨rfl, h', tk, c', rfl, hS', hc', hk'⟩ := hr2
        repeat (any_goals (first | assumption | wp_step))
        exact h _ _ _ hS' hc' hk'
      | .error e, hr2 => exact hr2
      | .ok .next, hr2 => exact hr2.elim
      | .ok .brk, hr2 => exact hr2.elim
      | .ok .cont, hr2 => exact hr2.elim
  | .error e, hr => exact hr
  | .ok .next, hr => exact hr.elim
  | .ok .brk, hr => exact hr.elim
  | .ok .cont, hr => exact hr.elim
end
section
variable {X : Cx}
/-- sorted(set(e)), e a list of ints -/
def tSset (K : PySem.W.Frag) (te : TE) : TE := fun σ H Q => te σ H fun x H1 => ∃ (a : Addr) (ns : List Int), x = .ref a ∧ SqL K H1 a (ns.map V.int) ∧ ns.length ≤ 60 ∧ ∀ (ms : List Int) (p : Addr), ms.Pairwise (· < ·) → (∀ k : Int, k ∈ ms ↔ k ∈ ns) → H1 p = none → Q (.ref p) (upd H1 p (.lst (ms.map V.int)))
theorem pe_sset {e : Expr} {te : TE} {p p2 q pos : Pos} (hc : X.calm = true) (hg : Gl X "sorted") (hm : X.mg "sorted" = none) (hg2 : Gl X "set") (hm2 : X.mg "set" = none) (he : PE X e te)
    (na : starEach [e] X.env = (false, eval e X.env) :: starEach [] X.env) : PE X (.Call (.Name "sorted" p) [.Call (.Name "set" p2) [e] [] q] [] pos) (tSset X.K te) := by
  constructor
  intro pins s σ H Q I h
  refine Call_ (ld_blt I hg hm boot_sorted (PyProof.Rows.callWith_builtin1 (PyProof.Rows.args_cons (Call_ (ld_blt I hg2 hm2 boot_set (PyProof.Rows.callWith_type1 (PyProof.Rows.args_cons (thn (he.run pins s σ H _ I h) ?_) na) na rfl))) rfl) rfl rfl))
  rintro v s1 ⟨x, H1, I1, r1, l, ns, rfl, hq, hl, q1⟩
  cases r1
  obtain ⟨its, r, pl, hz⟩ := I1.list hq
  have sb : ns.length + 1 < scanBound := by unfold scanBound; omega
  refine PyProof.Rows.args_nil (set_ofL ns (I1.ok.hd hc) pl.isList (by simpa using r.ints) sb fun h' tk c R hc' hk => PyProof.Rows.args_nil ?_)
  have I2 : L2.Inv X pins σ H1 { s1 with heap := h', toks := tk } := I1.kept hk
  refine sorted_set R (I1.ok.hd hc) (by omega) fun s' p out c2 ms k g o hp hgt hi hs hm hlen => ?_
  have hz2 : (ms.map V.int).length ≤ sizeLine := by rw [List.length_map, hlen, sizeLine_eq]; omega
  have hn : H1 p = none := I2.hok.fresh hp
  have J : L2.Inv X pins σ (upd H1 p (.lst (ms.map V.int))) { { s1 with heap := h', toks := tk } with heap := s'.heap, gens := s'.gens, drawn := s'.drawn, toks := s'.toks } :=
    I2.call (ch := []) (Un.laid k hp hn) (I2.hok.laid k hp ⟨hz2, out.toList, c2, vals_of_ints hi, hgt⟩) (by rw [g]; exact I2.bare) (fun _ z => nomatch z)
  obtain ⟨sh, sg, sd, st, so⟩ := s'
  simp only at o
  subst o
  exact ⟨.ref p, _, J, rfl, q1 ms p hs (fun k => (hm k).trans (by simp)) hn⟩
end
end VE

/-! VS6: names read, displays, methods, calls by the evaluator. -/
namespace VE
open PySem L2 PySem.Spec PyProof.Rows
section
variable {K : PySem.W.Frag} {xr : XR} {W : WX} {Φ : Fns} {σ : L2.St} {G H G' H' : Hp} {φ φ' : Nat → List Addr} {ρ : List S} {Q : VK}
theorem rd_ok {i : Nat} {mv : Bool} (r : SR K G H ρ σ φ) (h : PoE K xr W σ G H φ (evE Φ (.rd i mv) ρ) Q) : tVar i σ H Q := by
  rw [evE] at h
  have go : ∀ s, slot ρ i = s → (match s with | .lst _ => True | .dct _ => True | .dtt _ => True | .box _ _ => True | _ => False) → PoE K xr W σ G H φ (if mv then .ok s (ρ.set i .dead) else match view s with
      | some d => .ok (.val d) (ρ.set i (.val d))
      | none => .stk) Q → tVar i σ H Q := by
    intro s e hs h
    have nd : slot ρ i ≠ .dead := fun z => by rw [e] at z; subst z; exact hs
    obtain ⟨v, hv, q⟩ := r.at nd
    have t := r.tmp q
    rw [e] at t
    refine ⟨v, hv, ?_⟩
    by_cases hm : mv = true
    · rw [if_pos hm] at h
      refine h v G H (upf φ i []) (φ i) (Stp.refl.weak fun a z => ?_) r.drop t
      rcases z with z | z
      · rcases own_upf z with z | z
        · cases z
        · exact z
      · exact ⟨i, z⟩
    · rw [if_neg hm] at h
      cases e2 : view s with
      | none => rw [e2] at h; exact h.elim
      | some d =>
        rw [e2] at h
        obtain ⟨G', st, sr, hd, _⟩ := t.freeze r.drop e2
        have sr2 := sr.back (s := .val d) (f := []) ⟨⟨hd, rfl⟩, (fun _ z => nomatch z), fun _ z => nomatch z⟩ hv
        rw [upf_nil_if, List.set_set] at sr2
        have ow : ∀ a, own (upf (upf φ i []) i []) a → own (upf φ i []) a := fun a z => (own_upf z).elim (fun y => nomatch y) id
        refine h v G' H _ [] ⟨st.gg, fun a o hh hn => hh, fun a z => ?_, fun a z z' => ?_, fun _ z => z⟩ sr2 ⟨⟨hd, rfl⟩, (fun _ z => nomatch z), fun _ z => nomatch z⟩
        · rcases z with z | z
          · rcases own_upf (ow a z) with z | z
            · cases z
            · exact .inl z
          · cases z
        · rcases st.gnew a z z' with (y | y) | y
          · rcases own_upf y with y | y
            · cases y
            · exact .inl y
          · exact .inl ⟨i, y⟩
          · exact .inr y
  cases e : slot ρ i with
  | dead => rw [e] at h; exact h.elim
  | val d =>
    rw [e] at h
    obtain ⟨v, hv, q⟩ := r.at (i := i) (by rw [e]; exact fun z => nomatch z)
    rw [e] at q
    exact ⟨v, hv, fin_val r q.1 h⟩
  | lst xs => rw [e] at h; exact go _ e trivial h
  | dct xs => rw [e] at h; exact go _ e trivial h
  | dtt xs => rw [e] at h; exact go _ e trivial h
  | box b xs => rw [e] at h; exact go _ e trivial h

/-! ### displays -/
/-- operands, then a step; what is wanted still from the beginning -/
theorem opsE0 {as : List A} {k : List (Option S) → List S → R S} {Qr : List V → Hp → Prop} (r : SR K G H ρ σ φ) (h : PoE K xr W σ G H φ ((evAs Φ as ρ).bnd k) Q)
    (hop : ∀ ts ρ' vs G' H' φ' fs, SR K G' H' ρ' σ φ' → Ops K G' H' σ as ts vs fs → (∀ a ∈ fs, G' a = none ∧ ¬ own φ' a) → PoE K xr W σ G H φ (k ts ρ') Q → Stp G H (own φ) G' H' (fun a => own φ' a ∨ a ∈ fs) → Qr vs H') : tAs K xr W Φ as σ H Qr := by
  refine ops as ρ G H φ Qr r ?_
  cases e : evAs Φ as ρ with
  | stk => rw [e] at h; exact h
  | exc c d ρ' => rw [e] at h; exact h
  | ok ts ρ' =>
    rw [e] at h
    exact fun vs G' H' φ' fs st r' o t => hop ts ρ' vs G' H' φ' fs r' o t h st
/-- data kept, then a step -/
theorem keepD {as : List A} {k : List PyData → List S → R S} {Qr : List V → Hp → Prop} (r : SR K G H ρ σ φ) (h : PoE K xr W σ G H φ ((evAs Φ as ρ).bnd fun ts ρ' => match resV as ts ρ' with
      | some ds => k ds ρ'
      | none => .stk) Q)
    (hop : ∀ ρ' vs ds G' H' φ', SR K G' H' ρ' σ φ' → DPs K G' vs ds → PoE K xr W σ G' H' φ' (k ds ρ') Q → Qr vs H') : tAs K xr W Φ as σ H Qr := by
  refine opsE0 r h fun ts ρ' vs G' H' φ' fs r' o hf q st => ?_
  cases e : resV as ts ρ' with
  | none => rw [e] at q; exact q.elim
  | some ds =>
    rw [e] at q
    obtain ⟨G2, st2, sr2, hd, _⟩ := o.freeze r' hf e
    exact hop ρ' vs ds G2 H' φ' sr2 hd (PoE.from q (st.trans st2))
theorem tup_ok {as : List A} (r : SR K G H ρ σ φ) (h : PoE K xr W σ G H φ (evE Φ (.tup as) ρ) Q) : tTup (tAs K xr W Φ as) σ H Q := by
  rw [evE] at h
  refine keepD r h fun ρ' vs ds G' H' φ' r' hd q => ?_
  split at q
  · rename_i hz
    exact ⟨by rw [hd.length]; exact of_decide_eq_true hz, fun p hp => fin_tup r' hp hd q⟩
  · exact q.elim
theorem lst_ok {as : List A} (r : SR K G H ρ σ φ) (h : PoE K xr W σ G H φ (evE Φ (.lst as) ρ) Q) : tLst (tAs K xr W Φ as) σ H Q := by
  rw [evE] at h
  refine keepD r h fun ρ' vs ds G' H' φ' r' hd q => ?_
  split at q
  · rename_i hz
    exact ⟨by rw [hd.length]; exact of_decide_eq_true hz, fun p hp => fin_lst r' hp hd q⟩
  · exact q.elim

/-! ### methods that change a name's list -/
theorem set_self {i : Nat} {o : Option V} (h : σ[i]? = some o) : σ.set i o = σ := by
  refine List.ext_getElem? fun j => ?_
  by_cases e : i = j
  · subst e; rw [List.getElem?_set_self (List.getElem?_eq_some_iff.mp h).1, h]
  · rw [List.getElem?_set_ne e]
/-- a name's list is written -/
theorem write_lst {i : Nat} {a : Addr} {vs : List V} {xs : List PyData} (r : SR K G H ρ σ φ) (hv : σ[i]? = some (some (.ref a))) (hi : i < ρ.length) (hf : φ i = [a]) (hd : DPs K G vs xs) :
    Stp G H (own φ) G (upd H a (.lst vs)) (own φ) ∧ SR K G (upd H a (.lst vs)) (ρ.set i (.lst xs)) σ φ := by
  have ha : own φ a := ⟨i, by rw [hf]; exact List.mem_singleton.mpr rfl⟩
  have ga : G a = none := r.gno ha
  obtain ⟨o, ho⟩ := r.here ha
  refine ⟨⟨Same.refl G, fun b u hu hn => ?_, fun b z => .inl z, fun b z z' => absurd z z', fun b z => ?_⟩, ⟨by rw [List.length_set]; exact r.len, fun b u e => ?_, fun j => ?_, r.dj, r.gn⟩⟩
  · rw [upd_ne fun z => hn (by rw [z]; exact ha)]; exact hu
  · by_cases e : b = a
    · subst e; rw [upd_same]; exact fun z => nomatch z
    · rw [upd_ne e]; exact z
  · rw [upd_ne fun z => by rw [z, ga] at e; cases e]; exact r.gh b u e
  · by_cases e : i = j
    · subst e
      refine .inr ⟨_, hv, ?_⟩
      rw [slot_set, if_pos ⟨rfl, hi⟩]
      exact ⟨a, vs, rfl, upd_same, hd, hf⟩
    · rw [slot_set_ne e]
      rcases r.rel j with q | ⟨v, e1, q⟩
      · exact .inl q
      · refine .inr ⟨v, e1, q.mono (Same.refl G) fun b hb o' ho' => ?_⟩
        rw [upd_ne fun z => ?_]
        · exact ho'
        · subst z
          exact e (r.dj i j b (by rw [hf]; exact List.mem_singleton.mpr rfl) hb)
theorem slot_lt {i : Nat} (h : slot ρ i ≠ .dead) : i < ρ.length := by
  unfold slot at h
  rw [List.getD_eq_getElem?_getD] at h
  by_cases hl : i < ρ.length
  · exact hl
  · rw [List.getElem?_eq_none (Nat.le_of_not_lt hl)] at h
    exact absurd rfl h
/-- the promise of a method by data -/
def rM (K : PySem.W.Frag) (xr : XR) (W : WX) (m : Mut) : V → List V → Hp → VK → Prop := fun x ys H Q =>
  ∃ σ G φ ρ i a vs xs ds, x = .ref a ∧ SR K G H ρ σ φ ∧ σ[i]? = some (some (.ref a)) ∧ slot ρ i = .lst xs ∧ H a = some (.lst vs) ∧ φ i = [a] ∧ DPs K G vs xs ∧ DPs K G ys ds ∧
    PoE K xr W σ G H φ (match opMut m xs ds with
      | some (d, zs) => .ok (.val d) (ρ.set i (.lst zs))
      | none => .stk) Q
theorem fin_mut {i : Nat} {a : Addr} {ws : List V} {xs zs : List PyData} {v : V} {d : PyData} (r : SR K G H ρ σ φ) (hv : σ[i]? = some (some (.ref a))) (hs : slot ρ i = .lst xs) (hf : φ i = [a]) (hd : DPs K G ws zs) (hvd : DP K G v d)
    (h : PoE K xr W σ G H φ (.ok (.val d) (ρ.set i (.lst zs))) Q) : Q v (upd H a (.lst ws)) := by
  obtain ⟨st, sr⟩ := write_lst r hv (slot_lt (by rw [hs]; exact fun z => nomatch z)) hf hd
  exact h v G _ φ [] (st.weak fun b z => z.elim id fun y => nomatch y) sr ⟨⟨hvd, rfl⟩, (fun _ z => nomatch z), fun _ z => nomatch z⟩
def mutN : Mut → String
  | .append => "list.append"
  | .remove => "list.remove"
  | .pop => "list.pop"
  | .reverse => "list.reverse"
theorem mut_ok {X : Cx} (m : Mut) : MtR X (mutN m) (rM X.K xr W m) := by
  intro pins s σ' H x ys v us Q I rx rs h
  obtain ⟨σ, G, φ, ρ, i, a, vs, xs, ds, rfl, r, hv, hs, hH, hf, hd, hy, h⟩ := h
  cases e : opMut m xs ds with
  | none => rw [e] at h; exact h.elim
  | some p =>
    obtain ⟨d, zs⟩ := p
    rw [e] at h
    simp only at h
    unfold opMut at e
    split at e
    · split at e
      · rename_i hlt
        cases e
        cases hy with
        | cons h1 h2 =>
          cases h2
          exact mt_append pins s σ' H _ _ v us Q I rx rs ⟨a, vs, _, rfl, rfl, hH, by rw [hd.length]; exact of_decide_eq_true hlt, fin_mut r hv hs hf (hd.app (.cons h1 .nil)) .non h⟩
      · cases e
    · rename_i j
      split at e
      · rename_i d k e1 e2
        cases e
        cases hy with
        | cons h1 h2 =>
          cases h2
          cases h1
          obtain ⟨q1, q2, q3, q4⟩ := ixN_seq e2
          have hz := (I.lstM hH).1
          have hsl := line63
          have hxl := hd.length
          unfold L2.atI at e1
          rw [e2] at e1
          obtain ⟨w, hw, hwd⟩ := hd.get (show xs[k]? = some d from e1)
          exact mt_popAt pins s σ' H _ _ v us Q I rx rs ⟨a, vs, j, k, w, rfl, rfl, hH, by omega, by omega, by rw [hxl]; exact q1, hw, fin_mut r hv hs hf (hd.erase k) hwd h⟩
      · cases e
    · split at e
      · rename_i d e1
        cases e
        cases hy
        have ne : xs ≠ [] := fun z => by rw [z] at e1; cases e1
        have e3 : xs[xs.length - 1]? = some d := by rw [← List.getLast?_eq_getElem?]; exact e1
        obtain ⟨w, hw, hwd⟩ := hd.get e3
        have hdl : DPs X.K G vs.dropLast xs.dropLast := by
          rw [List.dropLast_eq_take, List.dropLast_eq_take, hd.length]
          exact hd.take _
        exact mt_pop pins s σ' H _ _ v us Q I rx rs ⟨a, vs, w, rfl, rfl, hH, by rw [hd.length]; exact hw, fin_mut r hv hs hf hdl hwd h⟩
      · cases e
    · cases e
      cases hy
      exact mt_reverse pins s σ' H _ _ v us Q I rx rs ⟨a, vs, rfl, rfl, hH, fin_mut r hv hs hf hd.rev .non h⟩
    · rename_i k
      split at e
      · rename_i ns hn
        split at e
        · rename_i hlt
          have hlt := of_decide_eq_true hlt
          cases e
          cases hy with
          | cons h1 h2 =>
            cases h2
            cases h1
            rw [allInts_map hn] at hd
            obtain rfl := hd.ints
            refine mt_remove pins s σ' H _ _ v us Q I rx rs ⟨a, ns, k, ns.idxOf k, rfl, rfl, hH, ?_, fun m hm z => ?_, fin_mut (v := .non) (d := .none) r hv hs hf (DPs.ofInts _) .non h⟩
            · rw [List.getElem?_eq_getElem hlt, List.getElem_idxOf hlt]
            · obtain ⟨hml, z'⟩ := List.getElem?_eq_some_iff.mp z
              have y := List.not_of_lt_findIdx (p := fun x => x == k) (xs := ns) (i := m) hm
              rw [z'] at y
              simp at y
        · cases e
      · cases e
    · cases e
theorem mutE_ok {m : Mut} {i : Nat} {as : List A} (r : SR K G H ρ σ φ) (h : PoE K xr W σ G H φ (evE Φ (.mut m i as) ρ) Q) : tBM K "list" (rM K xr W m) (tVar i) (tAs K xr W Φ as) σ H Q := by
  rw [evE] at h
  cases e : slot ρ i with
  | lst xs0 =>
    rw [e] at h
    simp only at h
    obtain ⟨v, hv, q⟩ := r.at (i := i) (by rw [e]; exact fun z => nomatch z)
    rw [e] at q
    obtain ⟨a, vs0, rfl, hH0, _, hf0⟩ := q
    refine ⟨_, hv, .inl ⟨rfl, vs0, .inl (.inl hH0)⟩, ?_⟩
    have h' : PoE K xr W σ G H φ ((evAs Φ as ρ).bnd fun ts ρ' => match resV as ts ρ' with
        | some ds => (match slot ρ' i with
          | .lst xs => (match opMut m xs ds with
            | some (d, zs) => .ok (.val d) (ρ'.set i (.lst zs))
            | none => .stk)
          | _ => .stk)
        | none => .stk) Q := by
      cases e2 : evAs Φ as ρ with
      | stk => rw [e2] at h; exact h
      | exc c d ρ' => rw [e2] at h; exact h
      | ok ts ρ' =>
        rw [e2] at h
        simp only [R.bnd] at h ⊢
        cases e3 : resV as ts ρ' with
        | none =>
          rw [e3] at h
          cases e4 : slot ρ' i <;> rw [e4] at h <;> exact h
        | some ds =>
          rw [e3] at h
          cases e4 : slot ρ' i <;> rw [e4] at h <;> exact h
    refine keepD r h' fun ρ' ys ds G' H' φ' r' hd q => ?_
    cases e4 : slot ρ' i with
    | lst xs =>
      rw [e4] at q
      obtain ⟨w, hw, q2⟩ := r'.at (i := i) (by rw [e4]; exact fun z => nomatch z)
      rw [hv] at hw
      cases hw
      rw [e4] at q2
      obtain ⟨b, vs, eb, hH, hdv, hf⟩ := q2
      cases eb
      exact ⟨σ, G', φ', ρ', i, a, vs, xs, ds, rfl, r', hv, e4, hH, hf, hdv, hd, q⟩
    | val _ => rw [e4] at q; exact q.elim
    | dct _ => rw [e4] at q; exact q.elim
    | dtt _ => rw [e4] at q; exact q.elim
    | box _ _ => rw [e4] at q; exact q.elim
    | dead => rw [e4] at q; exact q.elim
  | val _ => rw [e] at h; exact h.elim
  | dct _ => rw [e] at h; exact h.elim
  | dtt _ => rw [e] at h; exact h.elim
  | box _ _ => rw [e] at h; exact h.elim
  | dead => rw [e] at h; exact h.elim
/-- x.extend(e), e a new list -/
theorem ext_ok {i : Nat} {x : E} (r : SR K G H ρ σ φ) (h : PoE K xr W σ G H φ (evE Φ (.ext i x) ρ) Q) : tBM K "list" rExtend (tVar i) (tAs K xr W Φ [.e x]) σ H Q := by
  rw [evE] at h
  cases e : slot ρ i with
  | lst xs0 =>
    rw [e] at h
    simp only at h
    obtain ⟨v, hv, q⟩ := r.at (i := i) (by rw [e]; exact fun z => nomatch z)
    rw [e] at q
    obtain ⟨a, vs0, rfl, hH0, _, hf0⟩ := q
    refine ⟨_, hv, .inl ⟨rfl, vs0, .inl (.inl hH0)⟩, ?_⟩
    have h' : PoE K xr W σ G H φ ((evAs Φ [.e x] ρ).bnd fun ts ρ' => match ts with
        | [some s] => (match slot ρ' i, s with
          | .lst xs, .lst ys => if decide (xs.length + ys.length ≤ sizeLine) then .ok (.val .none) (ρ'.set i (.lst (xs ++ ys))) else .stk
          | _, _ => .stk)
        | _ => .stk) Q := by
      simp only [evAs, evA]
      cases e2 : evE Φ x ρ with
      | stk => rw [e2] at h; exact h
      | exc c d ρ' => rw [e2] at h; exact h
      | ok s ρ' => rw [e2] at h; exact h
    refine opsE0 r h' fun ts ρ' vs G' H' φ' fs r' o hfs q st => ?_
    obtain ⟨t, y, f, rfl, rfl, ⟨s, rfl, hs⟩, rfl⟩ := o.one
    rw [List.append_nil] at hfs st
    simp only at q
    split at q
    · rename_i xs ys e4
      split at q
      · rename_i hlt
        obtain ⟨b, ws, rfl, hb, hd2, rfl⟩ := hs
        obtain ⟨w, hw, q2⟩ := r'.at (i := i) (by rw [e4]; exact fun z => nomatch z)
        rw [hv] at hw
        cases hw
        rw [e4] at q2
        obtain ⟨c, us, ec, hH, hdv, hf⟩ := q2
        cases ec
        refine ⟨a, b, us, ws, rfl, rfl, hH, hb, by rw [hdv.length, hd2.length]; exact of_decide_eq_true hlt, ?_⟩
        exact fin_mut (v := .non) (d := .none) r' hv e4 hf (hdv.app hd2) .non (PoE.from q (st.weak fun _ z => .inl z))
      · exact q.elim
    · exact q.elim
  | val _ => rw [e] at h; exact h.elim
  | dct _ => rw [e] at h; exact h.elim
  | dtt _ => rw [e] at h; exact h.elim
  | box _ _ => rw [e] at h; exact h.elim
  | dead => rw [e] at h; exact h.elim
/-- a[::-1], of a list or a text -/
def tRevA (K : PySem.W.Frag) (te : TE) : TE := fun σ H Q => te σ H fun x H1 => (∃ a xs, x = .ref a ∧ SqL K H1 a xs ∧ ∀ p, H1 p = none → Q (.ref p) (upd H1 p (.lst xs.reverse))) ∨ ∃ z, x = .str z ∧ z.length ≤ sizeLine ∧ Q (.str (revS z)) H1
theorem picked_rev (z : Str) : (Builtin.Str.strSliceIndices none none (-1) z.length).filterMap (z.cps[·]?) = z.cps.toList.reverse := by
  show (sliceRange ((z.cps.size : Int) - 1) (-1) (-1)).filterMap (z.cps[·]?) = _
  rw [PySem.W.krv_sliceRange, PySem.W.krv_range, List.filterMap_reverse, PySem.W.krv_all]
theorem pe_revA {X : Cx} {e : Expr} {te : TE} {k : Nat} {p1 p2 p3 pos : Pos} (he : PE X e te) : PE X (.Subscript e (.Slice none none (some (.UnaryOp .USub (.Constant (.int 1) k p1) p2)) p3) pos) (tRevA X.K te) := by
  refine ⟨fun pins s σ H Q I h => ?_⟩
  refine Subscript_ (thn (he.run pins s σ H _ I h) fun v s1 ⟨x, H1, I1, r1, q1⟩ => ?_)
  have hst : PO X (some (.UnaryOp .USub (.Constant (.int 1) k p1) p2)) (tPart (tUn (rU fun i => .int (-i)) (tC (.int 1)))) := po_some (pe_un un_neg pe_int)
  refine wpAny_Slice (thn (po_none.run pins s1 σ H1 (fun o H2 => o = none ∧ H2 = H1) I1 ⟨rfl, rfl⟩) fun vl s2 ⟨l, H2, I2, pl, el, e2⟩ => ?_)
  subst el e2
  refine thn (po_none.run pins s2 σ H2 (fun o H3 => o = none ∧ H3 = H2) I2 ⟨rfl, rfl⟩) fun vu s3 ⟨u, H3, I3, pu, eu, e3⟩ => ?_
  subst eu e3
  refine thn (hst.run pins s3 σ H3 (fun o H4 => o = some (-1) ∧ H4 = H3) I3 ⟨1, rfl, -1, rfl, rfl, rfl⟩) fun vs s4 ⟨o, H4, I4, ps, eo, e4⟩ => ?_
  subst eo e4
  have I5 : Inv X pins σ H4 { s4 with heap := s4.heap.push { cls := .type "slice", data := .fields #[vl, vu, vs] } } := I4.kept (t' := s4.toks) fun b ob q => Heap.get?_push_of_some _ q
  rcases q1 with ⟨a, xs, ex, hx, q⟩ | ⟨z, ex, hz, q⟩
  · subst ex
    cases r1
    obtain ⟨its, r, ht, hz⟩ := I5.list hx
    have hlen := r.length
    show wpAny (model X.prog X.w) X.A (subscriptTail e (.Slice none none (some (.UnaryOp .USub (.Constant (.int 1) k p1) p2)) p3) (.ref a) (.ref s4.heap.objs.size)) (EP X pins σ Q) X.xe { s4 with heap := s4.heap.push { cls := .type "slice", data := .fields #[vl, vu, vs] } }
    refine tail_any (ops := [.ref a, .ref s4.heap.objs.size]) ht.isList.typeIs (PySem.slot_list_getitem.lookup) ?_ (by with_unfolding_all rfl)
    refine wpAny_getItem_list_slice ht.isList (Heap.IsSliceOf.new _ vl vu vs) pl pu ps (by decide) ?_ (by rw [List.size_toArray]; omega)
    rw [PySem.W.krv_pick]
    refine ⟨.ref _, _, I5.laid (t' := s4.toks) (o := .lst xs.reverse) (fun b ob q => Heap.get?_push_of_some _ q) (Nat.le_refl _) ?_, rfl, q _ (I5.hok.fresh (Nat.le_refl _))⟩
    exact ⟨by rw [List.length_reverse]; exact hz, _, 0, r.reverse, Heap.get?_push_size _ rfl⟩
  · subst ex
    obtain ⟨t, rfl⟩ := r1
    obtain ⟨l, rfl, hl⟩ := IsPart.raw pl
    obtain ⟨u, rfl, hu⟩ := IsPart.raw pu
    obtain ⟨st, rfl, hs⟩ := IsPart.raw ps
    show wpAny (model X.prog X.w) X.A (subscriptTail e (.Slice none none (some (.UnaryOp .USub (.Constant (.int 1) k p1) p2)) p3) (.str z t) (.ref s4.heap.objs.size)) (EP X pins σ Q) X.xe { s4 with heap := s4.heap.push { cls := .type "slice", data := .fields #[partValue l, partValue u, partValue st] } }
    refine tail_any (ops := [.ref s4.heap.objs.size, .str z t]) (typeIs_str _ _ _) F.slot_str_getitem.lookup ?_ (by with_unfolding_all rfl)
    refine wpAny_getItem_str_slice (l := l) (u := u) (st := st) ⟨_, Heap.get?_push_size _ rfl, rfl, rfl⟩ (by rw [hs]; rfl) ?_
    have e1 : sliceMade z t l u st = Made.str (revS z) := by
      unfold sliceMade slicePicked
      rw [hs, hl, hu]
      show (if ((-1 : Int) == 1 && _) = true then _ else Made.str ⟨((Builtin.Str.strSliceIndices none none (-1) z.length).filterMap (z.cps[·]?)).toArray⟩) = _
      rw [if_neg (by simp), picked_rev]
      rfl
    rw [e1]
    refine ⟨?_, ⟨.str (revS z), H4, I5.tok _, ⟨_, rfl⟩, q⟩⟩
    show (z.cps.toList.reverse.toArray).size ≤ sizeLine
    rw [List.size_toArray, List.length_reverse, Array.length_toList]
    exact hz
theorem rev_ok {a : A} (r : SR K G H ρ σ φ) (h : PoE K xr W σ G H φ (evE Φ (.rev a) ρ) Q) : tRevA K (tA K xr W Φ a) σ H Q := by
  rw [evE] at h
  refine op1 (g := opRev) (r := fun x H1 Q => (∃ a xs, x = .ref a ∧ SqL K H1 a xs ∧ ∀ p, H1 p = none → Q (.ref p) (upd H1 p (.lst xs.reverse))) ∨ ∃ z, x = .str z ∧ z.length ≤ sizeLine ∧ Q (.str (revS z)) H1) (fun x H Q q => ?_) r h
  obtain ⟨σ0, G0, φ0, ρ0, d, sr, vx, q⟩ := q
  unfold opRev at q
  split at q
  · obtain ⟨a, ws, rfl, h1, h2⟩ := vx.list sr.gh
    exact .inl ⟨a, ws, rfl, h1, fun p hp => fin_lst sr hp h2.rev q⟩
  · rename_i z
    by_cases hz : z.length ≤ sizeLine
    · rw [if_pos (decide_eq_true hz)] at q
      obtain rfl := vx.str
      exact .inr ⟨z, rfl, hz, fin_str sr q⟩
    · rw [if_neg (by simp [hz])] at q
      exact q.elim
  · exact q.elim
/-- a name's list, a method of one operand -/
theorem lm_ok {k : LM} {i : Nat} {x : A} (r : SR K G H ρ σ φ) (h : PoE K xr W σ G H φ (evE Φ (.lm k i x) ρ) Q) : tBM K "list" (rLm K xr W k) (tVar i) (tAs K xr W Φ [x]) σ H Q := by
  rw [evE] at h
  cases e : view (slot ρ i) with
  | none => rw [e] at h; exact h.elim
  | some d0 =>
    rw [e] at h
    cases d0 with
    | list ds0 =>
      simp only at h
      have nd : slot ρ i ≠ .dead := fun z => by rw [z] at e; cases e
      obtain ⟨v, hv, q⟩ := r.at nd
      obtain ⟨a, vs0, rfl, hs0, _⟩ := (VW.of q e).list r.gh
      refine ⟨_, hv, .inl ⟨rfl, vs0, hs0⟩, ?_⟩
      have h' : PoE K xr W σ G H φ ((evAs Φ [x] ρ).bnd fun ts ρ' => match ts with
          | [u] => fin2 (.pl i) x none u ρ' (opLm k)
          | _ => .stk) Q := by
        simp only [evAs]
        cases e1 : evA Φ x ρ with
        | stk => rw [e1] at h; exact h
        | exc _ _ _ => rw [e1] at h; exact h
        | ok t ρ1 => rw [e1] at h; exact h
      refine opsE r h' fun ts ρ' vs G' H' φ' fs r' o hf q st => ?_
      obtain ⟨t, y, f, rfl, rfl, o1, rfl⟩ := o.one
      refine ⟨y, rfl, ?_⟩
      simp only [fin2] at q
      split at q
      · rename_i d d' h1 h2
        exact ⟨σ, G', φ', ρ', d, d', r', (show OpR1 K G' H' σ (.pl i) none (.ref a) [] from ⟨rfl, hv⟩).vw r' h1, o1.vw r' h2, q⟩
      · exact q.elim
    | _ => exact h.elim
/-- {}, {k: c} -/
def cstV : PyData → V
  | .bool b => .bl b
  | .int i => .int i
  | .str x => .str x
  | _ => .non
def isCst : PyData → Bool
  | .none => true
  | .bool _ => true
  | .int _ => true
  | .str _ => true
  | _ => false
theorem cstV_dp {d : PyData} (h : isCst d = true) : DP K G (cstV d) d := by
  cases d with
  | none => exact .non
  | bool b => exact .bl b
  | int i => exact .int i
  | str x => exact .str x
  | _ => cases h
theorem kD_kDat (k : Key) : kD k = kDat k := by cases k <;> rfl
theorem fin_dct {p : Addr} {kv : List (Key × V)} {ds : List (PyData × PyData)} (r : SR K G H ρ σ φ) (hp : H p = none) (hd : DKs K G kv ds) (h : PoE K xr W σ G H φ (.ok (.dct ds) ρ) Q) : Q (.ref p) (upd H p (.dK kv)) :=
  h _ G _ φ [p] ((Stp.newH hp).weak fun a q => q.imp id fun z => List.mem_singleton.mp z) (r.newH hp) ⟨⟨p, rfl, rfl, kv, upd_same, hd⟩, (fun a ha => by
    obtain rfl := List.mem_singleton.mp ha
    exact r.gh.free hp), fun a ha q => by
    obtain rfl := List.mem_singleton.mp ha
    obtain ⟨o, e⟩ := r.here q
    rw [hp] at e; cases e⟩
theorem dct0_ok (r : SR K G H ρ σ φ) (h : PoE K xr W σ G H φ (evE Φ (.dcst none) ρ) Q) : tDNewK σ H Q := by
  rw [evE] at h
  exact fun p hp => fin_dct r hp .nil h
theorem dct1_ok {k : Key} {d : PyData} (hc : isCst d = true) (r : SR K G H ρ σ φ) (h : PoE K xr W σ G H φ (evE Φ (.dcst (some (k, d))) ρ) Q) : tDisp [(tC (kV k), tC (cstV d))] σ H Q := by
  rw [evE] at h
  intro p hp
  refine ⟨upd_same, [(k, cstV d)], rfl, Nat.le_of_ble_eq_true rfl, ?_⟩
  have e : upd (upd H p (.dK [])) p (.dK (mergeK [] [(k, cstV d)])) = upd H p (.dK [(k, cstV d)]) := by
    funext b
    by_cases z : b = p
    · subst z; rw [upd_same, upd_same]; rfl
    · rw [upd_ne z, upd_ne z, upd_ne z]
  rw [e]
  refine fin_dct r hp ?_ h
  show DKs K G [(k, cstV d)] [(kDat k, d)]
  rw [← kD_kDat]
  exact .cons (cstV_dp hc) .nil
theorem lset_ok {a : A} (r : SR K G H ρ σ φ) (h : PoE K xr W σ G H φ (evE Φ (.lset a) ρ) Q) : tLset K (tA K xr W Φ a) σ H Q := by
  rw [evE] at h
  refine op1 (g := opSetLen) (r := fun x H1 Q => ∃ (l : Addr) (ns : List Int), x = .ref l ∧ SqL K H1 l (ns.map V.int) ∧ ns.length ≤ 4000 ∧ Q (.int (dedup ns).length) H1) (fun x H Q q => ?_) r h
  obtain ⟨σ0, G0, φ0, ρ0, d, sr, vx, q⟩ := q
  unfold opSetLen at q
  split at q
  · split at q
    · rename_i ns hn
      split at q
      · rename_i hz
        obtain ⟨a, ws, rfl, h1, h2⟩ := vx.list sr.gh
        rw [allInts_map hn] at h2
        obtain rfl := h2.ints
        exact ⟨a, ns, rfl, h1, of_decide_eq_true hz, fin_int sr q⟩
      · exact q.elim
    · exact q.elim
  · exact q.elim
theorem mem_dd (ns : List Int) : ∀ (acc : List Int), acc.Nodup → (ns.foldl PyProof.Rows.step_dedup acc).Nodup ∧ ∀ k, k ∈ ns.foldl PyProof.Rows.step_dedup acc ↔ k ∈ acc ∨ k ∈ ns := by
  induction ns with
  | nil => intro acc h; exact ⟨h, by simp⟩
  | cons x ns ih =>
    intro acc h
    rw [List.foldl_cons]
    by_cases hx : x ∈ acc
    · have e : PyProof.Rows.step_dedup acc x = acc := by
        have : acc.any (· == x) = true := by rw [List.any_eq_true]; exact ⟨x, hx, beq_self_eq_true x⟩
        unfold PyProof.Rows.step_dedup
        rw [this]
        rfl
      rw [e]
      refine ⟨(ih acc h).1, fun k => ?_⟩
      rw [(ih acc h).2 k, List.mem_cons]
      constructor
      · rintro (q | q)
        · exact .inl q
        · exact .inr (.inr q)
      · rintro (q | rfl | q)
        · exact .inl q
        · exact .inl hx
        · exact .inr q
    · have e : PyProof.Rows.step_dedup acc x = acc ++ [x] := by
        have : acc.any (· == x) = false := by
          rw [List.any_eq_false]
          intro y hy z
          exact hx (by rw [← eq_of_beq z]; exact hy)
        unfold PyProof.Rows.step_dedup
        rw [this]
        rfl
      have nd : (acc ++ [x]).Nodup := by
        rw [List.nodup_append]
        refine ⟨h, by simp, ?_⟩
        intro a ha b hb z
        rw [List.mem_singleton] at hb
        subst hb
        subst z
        exact hx ha
      rw [e]
      refine ⟨(ih _ nd).1, fun k => ?_⟩
      rw [(ih _ nd).2 k, List.mem_append, List.mem_singleton, List.mem_cons, or_assoc]
theorem sset_only {ns ms : List Int} (h : ms.Pairwise (· < ·)) (hm : ∀ k : Int, k ∈ ms ↔ k ∈ ns) : ms = isort (dedup ns) := by
  obtain ⟨nd, mem⟩ := mem_dd ns [] List.nodup_nil
  refine isort_only ?_ (h.imp fun {a b} q => by omega)
  show ms.Perm (ns.foldl PyProof.Rows.step_dedup [])
  rw [List.perm_ext_iff_of_nodup (h.imp fun {a b} q => by omega) nd]
  intro k
  rw [hm, mem]
  simp
theorem sset_ok {a : A} (r : SR K G H ρ σ φ) (h : PoE K xr W σ G H φ (evE Φ (.sset a) ρ) Q) : tSset K (tA K xr W Φ a) σ H Q := by
  rw [evE] at h
  refine op1 (g := opSset) (r := fun x H1 Q => ∃ (l : Addr) (ns : List Int), x = .ref l ∧ SqL K H1 l (ns.map V.int) ∧ ns.length ≤ 60 ∧ ∀ (ms : List Int) (p : Addr), ms.Pairwise (· < ·) → (∀ k : Int, k ∈ ms ↔ k ∈ ns) → H1 p = none → Q (.ref p) (upd H1 p (.lst (ms.map V.int)))) (fun x H Q q => ?_) r h
  obtain ⟨σ0, G0, φ0, ρ0, d, sr, vx, q⟩ := q
  unfold opSset at q
  split at q
  · split at q
    · rename_i ns hn
      split at q
      · rename_i hz
        obtain ⟨a, ws, rfl, h1, h2⟩ := vx.list sr.gh
        rw [allInts_map hn] at h2
        obtain rfl := h2.ints
        refine ⟨a, ns, rfl, h1, of_decide_eq_true hz, fun ms p hs hm hp => ?_⟩
        rw [← sset_only hs hm] at q
        refine fin_lst sr hp ?_ q
        clear q hs hm
        induction ms with
        | nil => exact .nil
        | cons i ms ih => exact .cons (.int i) ih
      · exact q.elim
    · exact q.elim
  · exact q.elim
theorem opsLen {as : List A} {ts : List (Option S)} {vs : List V} {fs : List Addr} (o : Ops K G H σ as ts vs fs) : vs.length = as.length := by
  induction o with
  | nil => rfl
  | cons _ _ _ ih => rw [List.length_cons, List.length_cons, ih]
theorem dps_rng {G : Hp} (a b : Int) : DPs K G (rgV a b) (rng a b) := by
  unfold rgV rng
  generalize List.range (b - a).toNat = l
  induction l with
  | nil => exact .nil
  | cons i l ih => exact .cons (.int _) ih
theorem rgOk_of {a b : Int} (h : rgOk a b = true) : RgOk a b := by
  simp only [rgOk, Bool.and_eq_true, decide_eq_true_eq] at h
  exact ⟨by omega, by omega, by omega, by omega, h.2⟩
theorem lrg_ok {as : List A} {Qr : List V → Hp → Prop} (r : SR K G H ρ σ φ) (h : PoE K xr W σ G H φ (evE Φ (.lrg as) ρ) Q)
    (hq : ∀ vs H' a b, RgOk a b → (∀ q, H' q = none → Q (.ref q) (upd H' q (.lst (rgV a b)))) → vs.length = as.length → ((vs = [.int b] ∧ a = 0) ∨ vs = [.int a, .int b]) → Qr vs H') : tAs K xr W Φ as σ H Qr := by
  rw [evE] at h
  refine opsE r h fun ts ρ' vs G' H' φ' fs r' o _ q _ => ?_
  split at q
  · rename_i n hds
    have vw := o.vws r' hds
    split at q
    · rename_i hz
      cases vw with
      | cons v1 v2 =>
        cases v2
        obtain rfl := v1.int
        exact hq _ _ 0 n (rgOk_of hz) (fun p hp => fin_lst r' hp (dps_rng 0 n) q) (opsLen o) (.inl ⟨rfl, rfl⟩)
    · exact q.elim
  · rename_i m n hds
    have vw := o.vws r' hds
    split at q
    · rename_i hz
      cases vw with
      | cons v1 v2 =>
        cases v2 with
        | cons v2 v3 =>
          cases v3
          obtain rfl := v1.int
          obtain rfl := v2.int
          exact hq _ _ m n (rgOk_of hz) (fun p hp => fin_lst r' hp (dps_rng m n) q) (opsLen o) (.inr rfl)
    · exact q.elim
  · exact q.elim
/-! ### methods of texts -/
def rSm (K : PySem.W.Frag) : SM → V → List V → Hp → VK → Prop
  | .join => fun x xs H Q => ∃ a p, ∃ ys : List Str, x = .str a ∧ xs = [.ref p] ∧ (SqL K H p (ys.map V.str) ∨ SqT K H p (ys.map V.str)) ∧ (ys.map (·.length)).sum + ys.length * a.length ≤ 16777216 ∧ Q (.str (Txt.join a ys)) H
  | .split => fun x xs H Q => ∃ a b, x = .str a ∧ xs = [.str b] ∧ (b.length == 0) = false ∧ a.length + 2 ≤ sizeLine ∧ rNewStrs (Txt.split a b) H Q
theorem sm_ok {k : SM} {o x : A} (r : SR K G H ρ σ φ) (h : PoE K xr W σ G H φ (evE Φ (.sm k o x) ρ) Q) : tM1 (rSm K k) (tA K xr W Φ o) (tA K xr W Φ x) σ H Q := by
  rw [evE] at h
  have h' : PoE K xr W σ G H φ ((evAs Φ [o] ρ).bnd fun ts ρ' => match ts with
      | [t] => (match res o (t.bind view) ρ' with
        | some (.str a) => (evA Φ x ρ').bnd fun u ρ'' => fin1 x u ρ'' (opSm k a)
        | _ => .stk)
      | _ => .stk) Q := by
    simp only [evAs]
    cases e1 : evA Φ o ρ with
    | stk => rw [e1] at h; exact h
    | exc _ _ _ => rw [e1] at h; exact h
    | ok t ρ1 => rw [e1] at h; exact h
  have key : tAs K xr W Φ [o] σ H (fun vs H1 => match vs with
      | [y] => (∃ a, y = .str a) ∧ tA K xr W Φ x σ H1 fun z H2 => rSm K k y [z] H2 Q
      | _ => False) := by
    refine opsE r h' fun ts ρ' vs G' H' φ' fs r' op hf q st => ?_
    obtain ⟨t, y, g, rfl, rfl, oy, rfl⟩ := op.one
    simp only at q
    split at q
    · rename_i a ha
      obtain rfl := (oy.vw r' ha).str
      refine ⟨⟨a, rfl⟩, ?_⟩
      refine op1 (g := opSm k a) (r := fun z H2 Q => rSm K k (.str a) [z] H2 Q) (fun z H Q q => ?_) r' q
      obtain ⟨σ0, G0, φ0, ρ0, d, sr, vx, q⟩ := q
      unfold opSm at q
      split at q
      · split at q
        · rename_i ss hn
          split at q
          · rename_i hz
            obtain ⟨p, ws, rfl, h1, h2⟩ := vx.list sr.gh
            rw [allStrs_map hn] at h2
            obtain rfl := h2.strs
            exact ⟨a, p, ss, rfl, rfl, .inl h1, of_decide_eq_true hz, fin_str sr q⟩
          · exact q.elim
        · exact q.elim
      · split at q
        · rename_i hz
          simp only [Bool.and_eq_true, Bool.not_eq_true', decide_eq_true_eq] at hz
          obtain rfl := vx.str
          exact ⟨a, _, rfl, rfl, hz.1, hz.2, fun p hp => fin_lst sr hp (DPs.ofStrs _) q⟩
        · exact q.elim
      · exact q.elim
    · exact q.elim
  exact key
end
end VE

/-! VS7: calls of defs: what is lent and given back. -/
namespace VE
open PySem L2 PySem.Spec PyProof.Rows
section
variable {K : PySem.W.Frag} {xr : XR} {W : WX} {Φ : Fns} {σ : L2.St} {G H G' H' : Hp} {φ φ' : Nat → List Addr} {ρ : List S} {Q : VK}
/-- one more name ahead -/
def consF (f : List Addr) (φ : Nat → List Addr) : Nat → List Addr
  | 0 => f
  | i + 1 => φ i
theorem own_consF {f : List Addr} {a : Addr} : own (consF f φ) a ↔ a ∈ f ∨ own φ a := by
  constructor
  · rintro ⟨i, hi⟩
    cases i with
    | zero => exact .inl hi
    | succ i => exact .inr ⟨i, hi⟩
  · rintro (h | ⟨i, hi⟩)
    · exact ⟨0, h⟩
    · exact ⟨i + 1, hi⟩
theorem slot_cons_zero {s : S} {ss : List S} : slot (s :: ss) 0 = s := rfl
theorem slot_cons_succ {s : S} {ss : List S} {i : Nat} : slot (s :: ss) (i + 1) = slot ss i := rfl
theorem SR.cons {s : S} {v : V} {f : List Addr} {ss : List S} {vs : List V} (r : SR K G H ss (vs.map some) φ) (t : Tmp K G H s v f φ) : SR K G H (s :: ss) ((v :: vs).map some) (consF f φ) where
  len := by simpa using r.len
  gh := r.gh
  rel := fun i => by
    cases i with
    | zero => exact .inr ⟨v, rfl, t.rel⟩
    | succ i => exact r.rel i
  dj := fun i j a hi hj => by
    cases i with
    | zero =>
      cases j with
      | zero => rfl
      | succ j => exact absurd ⟨j, hj⟩ (t.off a hi)
    | succ i =>
      cases j with
      | zero => exact absurd ⟨i, hi⟩ (t.off a hj)
      | succ j => rw [r.dj i j a hi hj]
  gn := fun i a hi => by
    cases i with
    | zero => exact t.gn a hi
    | succ i => exact r.gn i a hi
theorem SR.tail {s : S} {o : Option V} {ss : List S} {τ : L2.St} (r : SR K G H (s :: ss) (o :: τ) φ) : SR K G H ss τ (fun i => φ (i + 1)) where
  len := by simpa using r.len
  gh := r.gh
  rel := fun i => r.rel (i + 1)
  dj := fun i j a hi hj => Nat.succ.inj (r.dj (i + 1) (j + 1) a hi hj)
  gn := fun i a hi => r.gn (i + 1) a hi
theorem SR.nil (gh : Same G H) : SR K G H [] [] (fun _ => []) := ⟨rfl, gh, fun _ => .inl ⟨rfl, rfl⟩, (fun _ _ _ h => nomatch h), fun _ _ h => nomatch h⟩
/-- the arguments' own names -/
def PlAt (σ : L2.St) : List A → List V → Prop
  | [], [] => True
  | .pl i :: as, v :: vs => σ[i]? = some (some v) ∧ PlAt σ as vs
  | .e _ :: as, _ :: vs => PlAt σ as vs
  | _, _ => False
theorem Ops.plAt {as : List A} {ts : List (Option S)} {vs : List V} {fs : List Addr} (o : Ops K G H σ as ts vs fs) : PlAt σ as vs := by
  induction o with
  | nil => trivial
  | @cons a as t ts v vs f g o1 _ _ ih =>
    cases a with
    | pl i => exact ⟨o1.2, ih⟩
    | e x => exact ih
theorem Ops.len {as : List A} {ts : List (Option S)} {vs : List V} {fs : List Addr} (o : Ops K G H σ as ts vs fs) : vs.length = as.length := by
  induction o with
  | nil => rfl
  | cons _ _ _ ih => rw [List.length_cons, List.length_cons, ih]
theorem lend_ok {as : List A} {ts : List (Option S)} {vs : List V} {fs : List Addr} (o : Ops K G H σ as ts vs fs) : ∀ {ρ ρ' : List S} {φ : Nat → List Addr} {ss : List S}, SR K G H ρ σ φ → (∀ a ∈ fs, G a = none ∧ ¬ own φ a) → lend as ts ρ = some (ss, ρ') →
    ∃ φ1 φs, ss.length = as.length ∧ SR K G H ρ' σ φ1 ∧ SR K G H ss (vs.map some) φs ∧ (∀ a, own φs a → (own φ a ∨ a ∈ fs) ∧ ¬ own φ1 a) ∧ ∀ a, own φ1 a → own φ a := by
  induction o with
  | nil =>
    intro ρ ρ' φ ss r _ h
    cases h
    exact ⟨φ, fun _ => [], rfl, r, SR.nil r.gh, (fun a ⟨_, h⟩ => nomatch h), fun _ h => h⟩
  | @cons a as t ts v vs f g o1 o2 dis ih =>
    intro ρ ρ' φ ss r hf h
    have hg : ∀ b ∈ g, G b = none ∧ ¬ own φ b := fun b hb => hf b (List.mem_append_right _ hb)
    cases a with
    | e x =>
      obtain ⟨s, rfl, q⟩ := o1
      simp only [lend] at h
      cases e2 : lend as ts ρ with
      | none => rw [e2] at h; cases h
      | some p =>
        obtain ⟨ss', ρ2⟩ := p
        rw [e2] at h
        cases h
        obtain ⟨φ1, φs, l, r1, rs, h1, h2⟩ := ih r hg e2
        have t0 : Tmp K G H s v f φs := ⟨q, fun b hb => (hf b (List.mem_append_left _ hb)).1, fun b hb z => ((h1 b z).1).elim (hf b (List.mem_append_left _ hb)).2 (dis b hb)⟩
        refine ⟨φ1, consF f φs, by rw [List.length_cons, List.length_cons, l], r1, rs.cons t0, fun b hb => ?_, h2⟩
        rcases own_consF.mp hb with z | z
        · exact ⟨.inr (List.mem_append_left _ z), fun y => (hf b (List.mem_append_left _ z)).2 (h2 b y)⟩
        · exact ⟨(h1 b z).1.imp id fun y => List.mem_append_right _ y, (h1 b z).2⟩
    | pl i =>
      obtain ⟨rfl, hv⟩ := o1
      have owned : ∀ s, slot ρ i = s → s ≠ .dead → (lend as ts (ρ.set i .dead)).map (fun (r, ρ') => (s :: r, ρ')) = some (ss, ρ') →
          ∃ φ1 φs, ss.length = as.length + 1 ∧ SR K G H ρ' σ φ1 ∧ SR K G H ss ((v :: vs).map some) φs ∧ (∀ a, own φs a → (own φ a ∨ a ∈ ([] : List Addr) ++ g) ∧ ¬ own φ1 a) ∧ ∀ a, own φ1 a → own φ a := by
        intro s e ne h
        obtain ⟨w, hw, q⟩ := r.at (i := i) (by rw [e]; exact ne)
        rw [hv] at hw
        cases hw
        have t0 := r.tmp q
        have sub : ∀ b, own (upf φ i []) b → own φ b := fun b z => (own_upf z).elim (fun y => nomatch y) id
        cases e2 : lend as ts (ρ.set i .dead) with
        | none => rw [e2] at h; cases h
        | some p =>
          obtain ⟨ss', ρ2⟩ := p
          rw [e2] at h
          cases h
          obtain ⟨φ1, φs, l, r1, rs, h1, h2⟩ := ih r.drop (fun b hb => ⟨(hg b hb).1, fun z => (hg b hb).2 (sub b z)⟩) e2
          rw [e] at t0
          have t1 : Tmp K G H s v (φ i) φs := ⟨t0.rel, t0.gn, fun b hb z => ((h1 b z).1).elim (t0.off b hb) fun y => (hg b y).2 ⟨i, hb⟩⟩
          refine ⟨φ1, consF (φ i) φs, by rw [List.length_cons, l], r1, rs.cons t1, fun b hb => ?_, fun b z => sub b (h2 b z)⟩
          rcases own_consF.mp hb with z | z
          · exact ⟨.inl ⟨i, z⟩, fun y => t0.off b z (h2 b y)⟩
          · exact ⟨(h1 b z).1.imp (sub b) id, (h1 b z).2⟩
      cases e : slot ρ i with
      | dead => simp only [lend, e] at h; cases h
      | val d =>
        simp only [lend, e] at h
        obtain ⟨w, hw, q⟩ := r.at (i := i) (by rw [e]; exact fun z => nomatch z)
        rw [hv] at hw
        cases hw
        rw [e] at q
        cases e2 : lend as ts ρ with
        | none => rw [e2] at h; cases h
        | some p =>
          obtain ⟨ss', ρ2⟩ := p
          rw [e2] at h
          cases h
          obtain ⟨φ1, φs, l, r1, rs, h1, h2⟩ := ih r hg e2
          refine ⟨φ1, consF [] φs, by rw [List.length_cons, List.length_cons, l], r1, rs.cons ⟨⟨q.1, rfl⟩, (fun _ z => nomatch z), fun _ z => nomatch z⟩, fun b hb => ?_, h2⟩
          rcases own_consF.mp hb with z | z
          · cases z
          · exact h1 b z
      | lst d =>
        simp only [lend, e] at h
        exact owned _ e (fun z => nomatch z) h
      | dct d =>
        simp only [lend, e] at h
        exact owned _ e (fun z => nomatch z) h
      | dtt d =>
        simp only [lend, e] at h
        exact owned _ e (fun z => nomatch z) h
      | box b d =>
        simp only [lend, e] at h
        exact owned _ e (fun z => nomatch z) h
theorem back_ok : ∀ (as : List A) (vs : List V) (ss fs : List S) (ρ : List S) (φ φs : Nat → List Addr), PlAt σ as vs → SR K G H ρ σ φ → SR K G H fs (vs.map some) φs → (∀ a, own φs a → ¬ own φ a) →
    ∃ φ3, SR K G H (giveBack as ss fs ρ) σ φ3 ∧ ∀ a, own φ3 a → own φ a ∨ own φs a
  | [], vs, ss, fs, ρ, φ, φs, _, r, _, _ => by
    rw [giveBack]
    · exact ⟨φ, r, fun _ h => .inl h⟩
    all_goals (intros; contradiction)
  | a :: as, [], ss, fs, ρ, φ, φs, hp, r, _, _ => by cases a <;> exact hp.elim
  | a :: as, v :: vs, [], fs, ρ, φ, φs, _, r, _, _ => by
    cases a <;> exact ⟨φ, r, fun _ h => .inl h⟩
  | a :: as, v :: vs, s :: ss, [], ρ, φ, φs, _, r, _, _ => by
    cases a <;> exact ⟨φ, r, fun _ h => .inl h⟩
  | .e x :: as, v :: vs, s :: ss, f :: fs, ρ, φ, φs, hp, r, rs, dis => by
    rw [giveBack]
    obtain ⟨φ3, r3, h3⟩ := back_ok as vs ss fs ρ φ (fun i => φs (i + 1)) hp r (SR.tail rs) fun a ⟨i, h⟩ => dis a ⟨i + 1, h⟩
    exact ⟨φ3, r3, fun a h => (h3 a h).imp id fun ⟨i, h⟩ => ⟨i + 1, h⟩⟩
  | .pl i :: as, v :: vs, s :: ss, f :: fs, ρ, φ, φs, hp, r, rs, dis => by
    rw [giveBack]
    have tl := SR.tail rs
    by_cases hs : isVal s = true
    · rw [if_pos hs]
      obtain ⟨φ3, r3, h3⟩ := back_ok as vs ss fs ρ φ (fun i => φs (i + 1)) hp.2 r tl fun a ⟨i, h⟩ => dis a ⟨i + 1, h⟩
      exact ⟨φ3, r3, fun a h => (h3 a h).imp id fun ⟨i, h⟩ => ⟨i + 1, h⟩⟩
    · rw [if_neg hs]
      have step : ∃ φ2, SR K G H (ρ.set i f) σ φ2 ∧ ∀ a, own φ2 a → own φ a ∨ a ∈ φs 0 := by
        rcases rs.rel 0 with ⟨e, _⟩ | ⟨w, hw, q⟩
        · have e' : f = .dead := e
          subst e'
          exact ⟨_, r.drop, fun a h => (own_upf h).elim (fun y => nomatch y) .inl⟩
        · have hw' : some v = some w := Option.some.inj hw
          cases hw'
          have q' : RelS K G H f v (φs 0) := q
          refine ⟨_, r.back ⟨q', rs.gn 0, fun a ha => dis a ⟨0, ha⟩⟩ hp.1, fun a h => ?_⟩
          rcases own_upf h with z | z
          · split at z
            · exact .inr z
            · cases z
          · exact .inl z
      obtain ⟨φ2, r2, h2⟩ := step
      obtain ⟨φ3, r3, h3⟩ := back_ok as vs ss fs (ρ.set i f) φ2 (fun i => φs (i + 1)) hp.2 r2 tl fun a ⟨j, h⟩ z => by
        rcases h2 a z with y | y
        · exact dis a ⟨j + 1, h⟩ y
        · exact absurd (rs.dj (j + 1) 0 a h y) (Nat.succ_ne_zero j)
      refine ⟨φ3, r3, fun a h => ?_⟩
      rcases h3 a h with z | ⟨j, z⟩
      · rcases h2 a z with y | y
        · exact .inl y
        · exact .inr ⟨0, y⟩
      · exact .inr ⟨j + 1, z⟩
/-- the wish of an exception as the caller's -/
abbrev WEx (W : WX) (σ : L2.St) : XK := fun cls dd H => W cls dd σ H
theorem callE_ok {f : Nat} {as : List A} (r : SR K G H ρ σ φ) (h : PoE K xr W σ G H φ (evE Φ (.call f as) ρ) Q) : tCallS (spOf K xr as.length (Φ.fn f)) (fun σ => WEx W σ) (tAs K xr W Φ as) σ H Q := by
  rw [evE] at h
  refine opsE0 r h fun ts ρ' vs G' H' φ' fs r' o hf q st => ?_
  cases e : lend as ts ρ' with
  | none => rw [e] at q; exact q.elim
  | some p =>
    obtain ⟨ss, ρ2⟩ := p
    rw [e] at q
    simp only at q
    obtain ⟨φ1, φs, l, r1, rs, h1, h2⟩ := lend_ok o r' hf e
    refine ⟨o.len, ss, G', φs, l, rs, ?_⟩
    -- the callee's step, as a step of the caller's
    have lift : ∀ {G2 H2 : Hp} {φ2 : Nat → List Addr} {g : List Addr} {gs : List S}, Stp G' H' (own φs) G2 H2 (fun a => own φ2 a ∨ a ∈ g) → SR K G2 H2 gs (vs.map some) φ2 → (∀ a ∈ g, ¬ own φ2 a) →
        ∃ φ3, Stp G H (own φ) G2 H2 (fun a => own φ3 a ∨ a ∈ g) ∧ SR K G2 H2 (giveBack as ss gs ρ2) σ φ3 ∧ ∀ a ∈ g, ¬ own φ3 a := by
      intro G2 H2 φ2 g gs s2 r2 hg
      have off : ∀ a, own φ1 a → ¬ own φs a := fun a z y => (h1 a y).2 z
      have r1' := r1.step s2 r2.gh off
      have dis : ∀ a, (own φ2 a ∨ a ∈ g) → ¬ own φ1 a := fun a z y => by
        rcases s2.sub a z with q | q
        · exact off a y q
        · obtain ⟨o', e'⟩ := r1.here y
          rw [e'] at q; cases q
      obtain ⟨φ3, r3, h3⟩ := back_ok as vs ss gs ρ2 φ1 φ2 o.plAt r1' r2 fun a z => dis a (.inl z)
      refine ⟨φ3, ?_, r3, fun a ha z => (h3 a z).elim (dis a (.inr ha)) (hg a ha)⟩
      have fr := s2.frame (T := fun a => own φ1 a) fun a z => ⟨off a z, by
        obtain ⟨o', e'⟩ := r1.here z
        rw [e']; exact fun y => nomatch y⟩
      have big : Stp G H (own φ) G' H' (fun a => own φs a ∨ own φ1 a) := st.weak fun a z => z.elim (fun y => (h1 a y).1) fun y => .inl (h2 a y)
      refine (big.trans fr).weak fun a z => ?_
      rcases z with z | z
      · rcases h3 a z with y | y
        · exact .inr y
        · exact .inl (.inl y)
      · exact .inl (.inr z)
    cases e2 : Φ.fn f ss with
    | stk => rw [e2] at q; exact q.elim
    | ok s gs =>
      rw [e2] at q
      intro v G2 H2 φ2 g s2 r2 t2
      obtain ⟨φ3, s3, r3, h3⟩ := lift s2 r2 t2.off
      exact q v G2 H2 φ3 g s3 r3 ⟨t2.rel, t2.gn, h3⟩
    | exc c d gs =>
      rw [e2] at q
      intro G2 H2 φ2 cls dd s2 r2 x
      obtain ⟨φ3, s3, r3, h3⟩ := lift (g := []) (s2.weak fun a z => z.elim id fun y => nomatch y) r2 fun _ z => nomatch z
      exact q G2 H2 φ3 cls dd (s3.weak fun _ z => .inl z) r3 x
end
end VE

/-! VS8: list comprehensions by the evaluator. -/
namespace VE
open PySem L2 PySem.Spec PyProof.Rows
section
variable {K : PySem.W.Frag} {xr : XR} {W : WX} {Φ : Fns} {σ σ' : L2.St} {G H G' H' : Hp} {φ φ' : Nat → List Addr} {ρ ρ' : List S} {Q : VK}
theorem wipe_get : ∀ {is : List Nat} {j : Nat}, j ∉ is → (wipe σ is)[j]? = σ[j]?
  | [], _, _ => rfl
  | i :: is, j, h => by
    unfold wipe
    rw [List.getElem?_set_ne fun z => h (by rw [z]; exact List.mem_cons_self), wipe_get fun z => h (List.mem_cons_of_mem _ z)]
theorem wipe_in : ∀ {is : List Nat} {j : Nat}, j ∈ is → j < σ.length → (wipe σ is)[j]? = some none
  | i :: is, j, h, hl => by
    unfold wipe
    by_cases e : i = j
    · subst e
      rw [List.getElem?_set_self (by rw [wipe_length]; exact hl)]
    · rw [List.getElem?_set_ne e, wipe_in ((List.mem_cons.mp h).resolve_left fun z => e z.symm) hl]
theorem wipe_ext {τ : L2.St} {is : List Nat} (hl : τ.length = σ.length) (h : ∀ j, j ∉ is → τ[j]? = σ[j]?) : wipe τ is = wipe σ is := by
  refine List.ext_getElem? fun j => ?_
  by_cases hj : j ∈ is
  · by_cases hlt : j < σ.length
    · rw [wipe_in hj hlt, wipe_in hj (by rw [hl]; exact hlt)]
    · rw [List.getElem?_eq_none (by rw [wipe_length, hl]; exact Nat.le_of_not_lt hlt), List.getElem?_eq_none (by rw [wipe_length]; exact Nat.le_of_not_lt hlt)]
  · rw [wipe_get hj, wipe_get hj, h j hj]
theorem wipe_wipe {is : List Nat} : wipe (wipe σ is) is = wipe σ is := wipe_ext (wipe_length _ _) fun _ h => wipe_get h
theorem slot_kill : ∀ {is : List Nat} {ρ : List S} {j : Nat}, slot (kill is ρ) j = if j ∈ is then .dead else slot ρ j
  | [], ρ, j => by simp [kill]
  | i :: is, ρ, j => by
    rw [kill, slot_kill, slot_set]
    by_cases h : j ∈ is
    · rw [if_pos h, if_pos (List.mem_cons_of_mem _ h)]
    · rw [if_neg h]
      by_cases e : i = j
      · subst e
        rw [if_pos (List.mem_cons_self (a := i) (l := is))]
        split
        · rfl
        · rename_i hn
          unfold slot
          rw [List.getD_eq_getElem?_getD, List.getElem?_eq_none (Nat.le_of_not_lt fun z => hn ⟨rfl, z⟩)]
          rfl
      · rw [if_neg fun z => e z.1, if_neg fun z => h ((List.mem_cons.mp z).resolve_left fun y => e y.symm)]
theorem kill_length : ∀ {is : List Nat} {ρ : List S}, (kill is ρ).length = ρ.length
  | [], _ => rfl
  | i :: is, ρ => by rw [kill, kill_length, List.length_set]
theorem SR.kill : ∀ {is : List Nat} {ρ : List S} {φ : Nat → List Addr}, SR K G H ρ σ φ → SR K G H (VE.kill is ρ) σ (dropF φ is)
  | [], _, _, r => r
  | i :: is, _, _, r => SR.kill (is := is) r.drop
/-- the slots whose values aren't known may change -/
theorem SR.chg (r : SR K G H ρ σ φ) (hl : σ'.length = σ.length) (h : ∀ j, slot ρ j ≠ .dead → σ'[j]? = σ[j]?) : SR K G H ρ σ' φ where
  len := r.len.trans hl.symm
  gh := r.gh
  rel := fun i => by
    by_cases e : slot ρ i = .dead
    · rcases r.rel i with q | ⟨v, _, q⟩
      · exact .inl q
      · rw [e] at q
        exact .inl ⟨e, q⟩
    · rcases r.rel i with q | ⟨v, hv, q⟩
      · exact .inl q
      · exact .inr ⟨v, by rw [h i e]; exact hv, q⟩
  dj := r.dj
  gn := r.gn
theorem SR.other {D : Addr} {o : HO} (r : SR K G H ρ σ φ) (hD : ¬ own φ D) (gD : G D = none) : SR K G (upd H D o) ρ σ φ where
  len := r.len
  gh := fun a u e => by
    rw [upd_ne fun z => by rw [z, gD] at e; cases e]
    exact r.gh a u e
  rel := fun i => by
    rcases r.rel i with q | ⟨v, e, q⟩
    · exact .inl q
    · exact .inr ⟨v, e, q.mono (Same.refl G) fun a ha u hu => by rw [upd_ne fun z => hD (by rw [← z]; exact ⟨i, ha⟩)]; exact hu⟩
  dj := r.dj
  gn := r.gn
/-- the state of a comprehension between two turns: s at v held aside, the new list at D; from (G0, H0, φ0) on -/
structure CS (K : PySem.W.Frag) (G0 H0 : Hp) (φ0 : Nat → List Addr) (G1 H1 : Hp) (s : S) (v : V) (f : List Addr) (D : Addr) (ρ : List S) (σ : L2.St) (acc : List PyData) (G H : Hp) (φ : Nat → List Addr) : Prop where
  sr : SR K G H ρ σ φ
  hs : Tmp K G H s v f φ
  hd : ∃ vs, H D = some (.lst vs) ∧ DPs K G vs acc
  gD : G D = none
  oD : ¬ own φ D
  fD : D ∉ f
  st : Stp G0 H0 (own φ0) G H (fun a => own φ a ∨ a ∈ f ∨ a = D)
  g1 : Same G1 G
  kp : ∀ a ∈ f, ∀ o, H1 a = some o → H a = some o
variable {G0 H0 G1 H1 : Hp} {φ0 : Nat → List Addr} {s : S} {v : V} {f : List Addr} {D : Addr} {acc : List PyData}
theorem CS.step (c : CS K G0 H0 φ0 G1 H1 s v f D ρ σ acc G H φ) (st : Stp G H (own φ) G' H' (own φ')) (r : SR K G' H' ρ' σ' φ') : CS K G0 H0 φ0 G1 H1 s v f D ρ' σ' acc G' H' φ' := by
  obtain ⟨vs, hD, hd⟩ := c.hd
  obtain ⟨t1, t2, t3⟩ := c.hs.frame st c.hs.off
  have tD : Tmp K G H (.lst acc) (.ref D) [D] φ := ⟨⟨D, vs, rfl, hD, hd, rfl⟩, (fun a ha => by obtain rfl := List.mem_singleton.mp ha; exact c.gD), fun a ha => by obtain rfl := List.mem_singleton.mp ha; exact c.oD⟩
  obtain ⟨⟨D', vs', e, h1, h2, _⟩, d2, d3⟩ := tD.frame st tD.off
  cases e
  refine ⟨r, ⟨t1, t2, t3⟩, ⟨vs', h1, h2⟩, d2 D (List.mem_singleton.mpr rfl), d3 D (List.mem_singleton.mpr rfl), c.fD, ?_, c.g1.trans st.gg, fun a ha o ho => st.keep a o (c.kp a ha o ho) (c.hs.off a ha)⟩
  have fr := st.frame (T := fun a => a ∈ f ∨ a = D) fun a ha => by
    rcases ha with ha | rfl
    · obtain ⟨o, e⟩ := c.hs.rel.here a ha
      exact ⟨c.hs.off a ha, by rw [e]; exact fun z => nomatch z⟩
    · exact ⟨c.oD, by rw [hD]; exact fun z => nomatch z⟩
  exact c.st.trans fr
/-- a datum is appended to the new list -/
theorem CS.app {y : V} {d : PyData} (c : CS K G0 H0 φ0 G1 H1 s v f D ρ σ acc G H φ) (hy : DP K G y d) : ∃ vs, H D = some (.lst vs) ∧ vs.length = acc.length ∧ CS K G0 H0 φ0 G1 H1 s v f D ρ σ (acc ++ [d]) G (upd H D (.lst (vs ++ [y]))) φ := by
  obtain ⟨vs, hD, hd⟩ := c.hd
  refine ⟨vs, hD, hd.length, c.sr.other c.oD c.gD, ⟨c.hs.rel.mono (Same.refl G) fun a ha u hu => ?_, c.hs.gn, c.hs.off⟩, ⟨_, upd_same, hd.app (.cons hy .nil)⟩, c.gD, c.oD, c.fD, ?_, c.g1, fun a ha o ho => by rw [upd_ne fun z => c.fD (by rw [← z]; exact ha)]; exact c.kp a ha o ho⟩
  · rw [upd_ne fun z => c.fD (by rw [← z]; exact ha)]; exact hu
  · have st : Stp G H (fun a => own φ a ∨ a ∈ f ∨ a = D) G (upd H D (.lst (vs ++ [y]))) (fun a => own φ a ∨ a ∈ f ∨ a = D) :=
      ⟨Same.refl G, fun a u hu hn => by rw [upd_ne fun z => hn (.inr (.inr z))]; exact hu, fun a z => .inl z, fun a z z' => absurd z z', fun a z => by
        by_cases e : a = D
        · rw [e, upd_same]; exact fun y => nomatch y
        · rw [upd_ne e]; exact z⟩
    exact c.st.trans st
/-- a test in a comprehension -/
def condT (K : PySem.W.Frag) (xr : XR) (Φ : Fns) : Option E → TT
  | none => tYes
  | some c => tTest (tE K xr (fun _ _ _ _ => False) (evE Φ c))
theorem cond_ok {c : Option E} {Qb : Bool → Hp → Prop} (r : SR K G H ρ σ φ) (h : match evC Φ c ρ with
    | .stk => False
    | .exc _ _ _ => False
    | .ok k ρ' => ∀ G' H' φ', Stp G H (own φ) G' H' (own φ') → SR K G' H' ρ' σ φ' → Qb k H') : condT K xr Φ c σ H Qb := by
  cases c with
  | none =>
    rw [evC] at h
    exact h G H φ Stp.refl r
  | some c =>
    rw [evC] at h
    refine ⟨ρ, G, φ, r, ?_⟩
    cases e : evE Φ c ρ with
    | stk => rw [e] at h; exact h
    | exc _ _ _ => rw [e] at h; exact h.elim
    | ok s ρ1 =>
      rw [e] at h
      simp only [R.bnd] at h
      intro v G1 H1 φ1 f st r1 t1
      cases e2 : toBool s with
      | none => rw [e2] at h; exact h.elim
      | some b =>
        rw [e2] at h
        have es : s = .val (.bool b) := by
          unfold toBool at e2
          split at e2
          · cases e2; rfl
          · cases e2
        subst es
        have q := t1.rel.1
        cases q
        exact ⟨b, rfl, h G1 H1 φ1 (st.weak fun _ z => .inl z) r1⟩
/-- one turn's evaluation -/
def turnF (Φ : Fns) (t : Tg) (c : Option E) (x : E) : PyData → List S → R (Option PyData) := fun d ρ2 => match bindT t d ρ2 with
  | some ρ3 => (evC Φ c ρ3).bnd fun k ρ4 => if k = true then (evE Φ x ρ4).bnd fun s ρ5 => match view s with
      | some v => .ok (some v) (kill (tgs t) ρ5)
      | none => .stk
    else .ok none (kill (tgs t) ρ4)
  | none => .stk
def restore (p : Option (Nat × S)) (t : Tg) (ρ1 ρ6 : List S) : List S := match p with
  | some (i, s) => (putBack ρ1 (tgs t) ρ6).set i s
  | none => putBack ρ1 (tgs t) ρ6
theorem evE_comp {t : Tg} {it : It} {c : Option E} {x : E} : evE Φ (.comp t it c x) ρ = noExc ((evIt Φ it ρ).bnd fun p ρ1 => if (tgs t).all (fun i => bare (slot ρ1 i)) = true then (turns (turnF Φ t c x) p.1 [] (kill (tgs t) ρ1)).bnd fun ds ρ6 => .ok (.lst ds) (restore p.2 t ρ1 ρ6) else .stk) := by
  rw [evE]
  rfl
theorem SR.put : ∀ {is : List Nat} {ρ ρ1 : List S} {φ : Nat → List Addr}, SR K G H ρ σ φ → (∀ i ∈ is, slot ρ1 i = .dead ∨ ∃ v d, σ[i]? = some (some v) ∧ slot ρ1 i = .val d ∧ DP K G v d) → SR K G H (putBack ρ1 is ρ) σ (dropF φ is)
  | [], _, _, _, r, _ => r
  | i :: is, ρ, ρ1, φ, r, h => by
    rw [putBack]
    have r' : SR K G H (ρ.set i (slot ρ1 i)) σ (upf φ i []) := by
      rcases h i List.mem_cons_self with e | ⟨v, d, hv, e, hd⟩
      · rw [e]; exact r.drop
      · rw [e]
        have q := r.back (s := .val d) (f := []) ⟨⟨hd, rfl⟩, (fun _ z => nomatch z), fun _ z => nomatch z⟩ hv
        rw [upf_nil_if] at q
        exact q
    exact SR.put (is := is) r' fun j hj => h j (List.mem_cons_of_mem _ hj)
theorem noExc_ok {α : Type} {r : R α} {P : R α → Prop} (h : P (noExc r)) (hs : ¬ P .stk) : ∃ a ρ, r = .ok a ρ := by
  cases r with
  | stk => exact absurd h hs
  | exc c d ρ => exact absurd h hs
  | ok a ρ => exact ⟨a, ρ, rfl⟩
theorem comp_ok {t : Tg} {it : It} {c : Option E} {x : E} (r : SR K G H ρ σ φ) (h : PoE K xr W σ G H φ (evE Φ (.comp t it c x) ρ) Q) :
    tLc (tIt K xr W Φ it) (tTg K t) (condT K xr Φ c) (tE K xr (fun _ _ _ _ => False) (evE Φ x)) (tgs t) σ H Q := by
  rw [evE_comp] at h
  refine it_ok it r ?_
  cases e : evIt Φ it ρ with
  | stk => rw [e] at h; exact h
  | exc _ _ _ => rw [e] at h; exact h.elim
  | ok p ρ1 =>
    rw [e] at h
    simp only [R.bnd_ok] at h
    intro J G1 H1 φ1 s v f st1 r1 t1 sh hold D hD
    by_cases hb : (tgs t).all (fun i => bare (slot ρ1 i)) = true
    case neg => rw [if_neg hb] at h; exact h.elim
    rw [if_pos hb] at h
    -- the word between two turns
    refine ⟨fun i m H2 => m = p.1.length - i ∧ i ≤ p.1.length ∧ ∃ G2 φ2 ρ2 acc, CS K G H φ G1 H1 s v f D ρ2 (wipe σ (tgs t)) acc G2 H2 φ2 ∧ (∀ j ∈ tgs t, slot ρ2 j = .dead) ∧
      PoE K xr W σ G H φ (noExc ((turns (turnF Φ t c x) (p.1.drop i) acc ρ2).bnd fun ds ρ6 => .ok (.lst ds) (restore p.2 t ρ1 ρ6))) Q, ?_, ?_⟩
    · -- at the start
      refine ⟨_, rfl, Nat.zero_le _, G1, dropF φ1 (tgs t), kill (tgs t) ρ1, [], ?_, fun j hj => by rw [slot_kill, if_pos hj], by rw [List.drop_zero]; exact h⟩
      have rk : SR K G1 H1 (kill (tgs t) ρ1) (wipe σ (tgs t)) (dropF φ1 (tgs t)) := (r1.kill (is := tgs t)).chg (wipe_length _ _) fun j hj => wipe_get fun z => hj (by rw [slot_kill, if_pos z])
      have fr : ∀ a, H1 a ≠ none → a ≠ D := fun a z y => z (by rw [y]; exact hD)
      refine ⟨rk.newH hD, ⟨t1.rel.mono (Same.refl G1) fun a ha u hu => Same.upd_new hD a u hu, t1.gn, fun a ha z => t1.off a ha (own_dropF z)⟩, ⟨[], upd_same, .nil⟩, r1.gh.free hD, fun z => ?_, fun z => ?_, ?_, Same.refl G1, fun a _ o ho => Same.upd_new hD a o ho⟩
      · obtain ⟨o, q⟩ := r1.here (own_dropF z)
        rw [hD] at q; cases q
      · obtain ⟨o, q⟩ := t1.rel.here D z
        rw [hD] at q; cases q
      · refine (st1.trans (Stp.newH hD)).weak fun a z => ?_
        rcases z with z | z | z
        · exact .inl (.inl (own_dropF z))
        · exact .inl (.inr z)
        · exact .inr z
    · -- a turn
      rintro i m H2 ⟨rfl, hi, G2, φ2, ρ2, acc, cs, hdead, h2⟩
      obtain ⟨hgo, hstop⟩ := sh.turn cs.g1 cs.kp cs.hs cs.sr i
      by_cases hlt : i < p.1.length
      · right
        obtain ⟨jgo, jy⟩ := hgo p.1[i] (List.getElem?_eq_getElem hlt)
        rw [List.drop_eq_getElem_cons hlt] at h2
        rw [turns] at h2
        refine ⟨jgo, fun H' => i + 1 ≤ p.1.length ∧ ∃ G2 φ2 ρ2 acc, CS K G H φ G1 H1 s v f D ρ2 (wipe σ (tgs t)) acc G2 H' φ2 ∧ (∀ j ∈ tgs t, slot ρ2 j = .dead) ∧
          PoE K xr W σ G H φ (noExc ((turns (turnF Φ t c x) (p.1.drop (i + 1)) acc ρ2).bnd fun ds ρ6 => .ok (.lst ds) (restore p.2 t ρ1 ρ6))) Q, fun H' ⟨q1, q2⟩ => ⟨_, by omega, rfl, q1, q2⟩, fun y H3 hy => ?_⟩
        obtain ⟨G3, st3, sr3, t3, hd3⟩ := jy y H3 hy
        have cs3 := cs.step st3 sr3
        cases eb : bindT t p.1[i] ρ2 with
        | none => rw [turnF, eb] at h2; exact h2.elim
        | some ρ3 =>
          rw [turnF, eb] at h2
          simp only at h2
          refine tg_ok eb hd3 sr3 fun σ4 l4 k4 w4 r4 => ⟨by rw [w4 _ fun _ z => z, wipe_wipe], ?_⟩
          have own4 : ∀ a, own (dropF φ2 (tgs t)) a → own φ2 a := fun a z => own_dropF z
          have cs4 := cs3.step (σ' := σ4) (Stp.refl.weak own4) r4
          -- back to the word's slots
          have fin : ∀ {G7 H7 : Hp} {φ7 : Nat → List Addr} {ρ7 : List S} {acc7 : List PyData}, CS K G H φ G1 H1 s v f D ρ7 σ4 acc7 G7 H7 φ7 → CS K G H φ G1 H1 s v f D (kill (tgs t) ρ7) (wipe σ (tgs t)) acc7 G7 H7 (dropF φ7 (tgs t)) := fun {G7 H7 φ7 ρ7 acc7} c7 => by
            have rk : SR K G7 H7 (kill (tgs t) ρ7) (wipe σ (tgs t)) (dropF φ7 (tgs t)) := (c7.sr.kill (is := tgs t)).chg (by rw [l4]) fun j hj => by
              have hn : j ∉ tgs t := fun z => hj (by rw [slot_kill, if_pos z])
              exact (k4 j hn).symm
            exact c7.step (Stp.refl.weak fun a z => own_dropF z) rk
          refine cond_ok r4 ?_
          cases ec : evC Φ c ρ3 with
          | stk => rw [ec] at h2; exact h2.elim
          | exc _ _ _ => rw [ec] at h2; exact h2.elim
          | ok k ρ4 =>
            rw [ec] at h2
            simp only [R.bnd_ok] at h2
            intro G5 H5 φ5 st5 r5
            have cs5 := cs4.step st5 r5
            cases k with
            | false =>
              rw [if_neg Bool.false_ne_true] at h2 ⊢
              simp only [R.bnd_ok] at h2
              exact ⟨hlt, _, _, _, _, fin cs5, fun j hj => by rw [slot_kill, if_pos hj], h2⟩
            | true =>
              rw [if_pos rfl] at h2 ⊢
              refine ⟨ρ4, G5, φ5, r5, ?_⟩
              cases ex : evE Φ x ρ4 with
              | stk => rw [ex] at h2; exact h2.elim
              | exc _ _ _ => rw [ex] at h2; exact h2.elim
              | ok s6 ρ5 =>
                rw [ex] at h2
                simp only [R.bnd_ok] at h2
                intro y6 G6 H6 φ6 f6 st6 r6 t6
                cases ev : view s6 with
                | none => rw [ev] at h2; exact h2.elim
                | some d6 =>
                  rw [ev] at h2
                  simp only [R.bnd_ok] at h2
                  obtain ⟨G7, st7, r7, hd7, _⟩ := t6.freeze r6 ev
                  have cs7 := cs5.step (st6.trans st7) r7
                  obtain ⟨ws, hD7, l7, cs8⟩ := cs7.app hd7
                  by_cases hz : acc.length < sizeLine
                  · rw [if_pos hz] at h2
                    exact ⟨ws, hD7, by rw [l7]; exact hz, hlt, _, _, _, _, fin cs8, fun j hj => by rw [slot_kill, if_pos hj], h2⟩
                  · rw [if_neg hz] at h2; exact h2.elim
      · left
        have e0 : p.1.drop i = [] := List.drop_eq_nil_of_le (Nat.le_of_not_lt hlt)
        refine ⟨hstop (Nat.le_of_not_lt hlt), ?_⟩
        rw [e0, turns] at h2
        simp only [R.bnd_ok, noExc] at h2
        obtain ⟨vs, hDl, hdl⟩ := cs.hd
        -- the names as they were
        have rσ : SR K G2 H2 ρ2 σ φ2 := cs.sr.chg (wipe_length _ _).symm fun j hj => by
          have hn : j ∉ tgs t := fun z => hj (hdead j z)
          exact (wipe_get hn).symm
        have rp : SR K G2 H2 (putBack ρ1 (tgs t) ρ2) σ (dropF φ2 (tgs t)) := rσ.put fun j hj => by
          have q := List.all_eq_true.mp hb j hj
          cases es : slot ρ1 j with
          | dead => exact .inl rfl
          | val d =>
            obtain ⟨w, hw, q2⟩ := r1.at (i := j) (by rw [es]; exact fun z => nomatch z)
            rw [es] at q2
            exact .inr ⟨w, d, hw, rfl, q2.1.mono cs.g1⟩
          | lst _ => rw [es] at q; cases q
          | dct _ => rw [es] at q; cases q
          | dtt _ => rw [es] at q; cases q
          | box _ _ => rw [es] at q; cases q
        have tD : ∀ {φ9 : Nat → List Addr}, ¬ own φ9 D → Tmp K G2 H2 (.lst acc) (.ref D) [D] φ9 := fun {φ9} hn => ⟨⟨D, vs, rfl, hDl, hdl, rfl⟩, (fun a ha => by obtain rfl := List.mem_singleton.mp ha; exact cs.gD), fun a ha => by obtain rfl := List.mem_singleton.mp ha; exact hn⟩
        cases hp : p.2 with
        | none =>
          rw [hp] at h2
          refine h2 _ G2 H2 _ [D] (cs.st.weak fun a z => ?_) rp (tD fun z => cs.oD (own_dropF z))
          rcases z with z | z
          · exact .inl (own_dropF z)
          · exact .inr (.inr (List.mem_singleton.mp z))
        | some q =>
          obtain ⟨j, s'⟩ := q
          rw [hp] at h2 hold
          obtain ⟨rfl, hvj⟩ := hold
          have rb := rp.back (i := j) ⟨cs.hs.rel, cs.hs.gn, fun a ha z => cs.hs.off a ha (own_dropF z)⟩ hvj
          have sub : ∀ a, own (upf (dropF φ2 (tgs t)) j (if j < (putBack ρ1 (tgs t) ρ2).length then f else [])) a → own φ2 a ∨ a ∈ f := fun a z => by
            rcases own_upf z with y | y
            · split at y
              · exact .inr y
              · cases y
            · exact .inl (own_dropF y)
          refine h2 _ G2 H2 _ [D] (cs.st.weak fun a z => ?_) rb (tD fun z => (sub D z).elim cs.oD cs.fD)
          rcases z with z | z
          · exact (sub a z).imp id .inl
          · exact .inr (.inr (List.mem_singleton.mp z))
/-! ### two clauses -/
theorem Shape.view {H0 : Hp} {f : List Addr} {J : L2.It} {xs : List PyData} {s : S} {v : V} (sh : Shape K G0 H0 f J xs s v) (hv : (VE.view s).isSome = true) : ∃ d, VE.view s = some d ∧ Shape K G0 H0 [] J xs (.val d) v := by
  cases sh with
  | rng lo n => exact ⟨_, rfl, .rng lo n⟩
  | rngC lo c n => exact ⟨_, rfl, .rngC lo c n⟩
  | chr z => exact ⟨_, rfl, .chr z⟩
  | lst h => exact ⟨_, h, .lst rfl⟩
  | tup h => exact ⟨_, h, .tup rfl⟩
  | enum h => exact ⟨_, h, .enum rfl⟩
  | enumT h => exact ⟨_, h, .enumT rfl⟩
  | zip a b c d => exact ⟨_, rfl, .zip a b c d⟩
  | keysT a b => exact ⟨_, rfl, .keysT a b⟩
  | lstP h => rw [h] at hv; cases hv
  | zipP h => rw [h] at hv; cases hv
/-- the inner clause's turns, behind one outer item -/
def innF (Φ : Fns) (t : Tg) (c : Option E) (t1 : Tg) (it1 : It) (c1 : Option E) (x : E) : PyData → List PyData → List S → R (List PyData) := fun d acc ρ2 => match bindT t d ρ2 with
  | some ρ3 => (evC Φ c ρ3).bnd fun k ρ4 => if k = true then (evIt Φ it1 ρ4).bnd fun p1 ρ5 => if p1.2.isNone = true then (turns (turnF Φ t1 c1 x) p1.1 acc (kill (tgs t1) ρ5)).bnd fun acc' ρ7 => .ok acc' (kill (tgs t ++ tgs t1) ρ7) else .stk
    else .ok acc (kill (tgs t ++ tgs t1) ρ4)
  | none => .stk
def restore2 (p : Option (Nat × S)) (vs : List Nat) (ρ1 ρ6 : List S) : List S := match p with
  | some (i, s) => (putBack ρ1 vs ρ6).set i s
  | none => putBack ρ1 vs ρ6
theorem evE_comp2 {t : Tg} {it : It} {c : Option E} {t1 : Tg} {it1 : It} {c1 : Option E} {x : E} : evE Φ (.comp2 t it c t1 it1 c1 x) ρ = noExc ((evIt Φ it ρ).bnd fun p ρ1 => if (tgs t ++ tgs t1).all (fun i => bare (slot ρ1 i)) = true then (turns2 (innF Φ t c t1 it1 c1 x) p.1 [] (kill (tgs t ++ tgs t1) ρ1)).bnd fun ds ρ6 => .ok (.lst ds) (restore2 p.2 (tgs t ++ tgs t1) ρ1 ρ6) else .stk) := by
  rw [evE]
  rfl
theorem comp2_ok {t : Tg} {it : It} {c : Option E} {t1 : Tg} {it1 : It} {c1 : Option E} {x : E} (r : SR K G H ρ σ φ) (h : PoE K xr W σ G H φ (evE Φ (.comp2 t it c t1 it1 c1 x) ρ) Q) :
    tLc2 (tIt K xr W Φ it) (tTg K t) (condT K xr Φ c) (tIt K xr (fun _ _ _ _ => False) Φ it1) (tTg K t1) (condT K xr Φ c1) (tE K xr (fun _ _ _ _ => False) (evE Φ x)) (tgs t ++ tgs t1) (tgs t1) σ H Q := by
  rw [evE_comp2] at h
  refine it_ok it r ?_
  cases e : evIt Φ it ρ with
  | stk => rw [e] at h; exact h
  | exc _ _ _ => rw [e] at h; exact h.elim
  | ok p ρ1 =>
    rw [e] at h
    simp only [R.bnd_ok] at h
    intro J G1 H1 φ1 s v f st1 r1 tm1 sh hold D hD
    by_cases hb : (tgs t ++ tgs t1).all (fun i => bare (slot ρ1 i)) = true
    case neg => rw [if_neg hb] at h; exact h.elim
    rw [if_pos hb] at h
    generalize hvs : tgs t ++ tgs t1 = vs at h hb ⊢
    have mt : ∀ i ∈ tgs t, i ∈ vs := fun i hi => by rw [← hvs]; exact List.mem_append_left _ hi
    have mt1 : ∀ i ∈ tgs t1, i ∈ vs := fun i hi => by rw [← hvs]; exact List.mem_append_right _ hi
    have mvs : ∀ i ∈ vs, i ∈ tgs t ∨ i ∈ tgs t1 := fun i hi => by rw [← hvs] at hi; exact List.mem_append.mp hi
    let fin : List PyData → List S → R S := fun ds ρ6 => .ok (.lst ds) (restore2 p.2 vs ρ1 ρ6)
    let F := innF Φ t c t1 it1 c1 x
    let Nx : Nat → Hp → Prop := fun i H' => i ≤ p.1.length ∧ ∃ G2 φ2 ρ2 acc, CS K G H φ G1 H1 s v f D ρ2 (wipe σ vs) acc G2 H' φ2 ∧ (∀ j ∈ vs, slot ρ2 j = .dead) ∧
      PoE K xr W σ G H φ (noExc ((turns2 F (p.1.drop i) acc ρ2).bnd fin)) Q
    refine ⟨fun i m H2 => m = p.1.length - i ∧ Nx i H2, ?_, ?_⟩
    · refine ⟨_, rfl, Nat.zero_le _, G1, dropF φ1 vs, kill vs ρ1, [], ?_, fun j hj => by rw [slot_kill, if_pos hj], by rw [List.drop_zero]; exact h⟩
      have rk : SR K G1 H1 (kill vs ρ1) (wipe σ vs) (dropF φ1 vs) := (r1.kill (is := vs)).chg (wipe_length _ _) fun j hj => wipe_get fun z => hj (by rw [slot_kill, if_pos z])
      refine ⟨rk.newH hD, ⟨tm1.rel.mono (Same.refl G1) fun a ha u hu => Same.upd_new hD a u hu, tm1.gn, fun a ha z => tm1.off a ha (own_dropF z)⟩, ⟨[], upd_same, .nil⟩, r1.gh.free hD, fun z => ?_, fun z => ?_, ?_, Same.refl G1, fun a _ o ho => Same.upd_new hD a o ho⟩
      · obtain ⟨o, q⟩ := r1.here (own_dropF z)
        rw [hD] at q; cases q
      · obtain ⟨o, q⟩ := tm1.rel.here D z
        rw [hD] at q; cases q
      · refine (st1.trans (Stp.newH hD)).weak fun a z => ?_
        rcases z with z | z | z
        · exact .inl (.inl (own_dropF z))
        · exact .inl (.inr z)
        · exact .inr z
    · rintro i m H2 ⟨rfl, hi, G2, φ2, ρ2, acc, cs, hdead, h2⟩
      obtain ⟨hgo, hstop⟩ := sh.turn cs.g1 cs.kp cs.hs cs.sr i
      by_cases hlt : i < p.1.length
      · right
        obtain ⟨jgo, jy⟩ := hgo p.1[i] (List.getElem?_eq_getElem hlt)
        rw [List.drop_eq_getElem_cons hlt, turns2] at h2
        refine ⟨jgo, Nx (i + 1), fun H' q1 => ⟨_, by have := q1.1; omega, rfl, q1⟩, fun y H3 hy => ?_⟩
        obtain ⟨G3, st3, sr3, t3, hd3⟩ := jy y H3 hy
        have cs3 := cs.step st3 sr3
        cases eb : bindT t p.1[i] ρ2 with
        | none =>
          have z : F p.1[i] acc ρ2 = .stk := by simp only [F, innF, eb]
          rw [z] at h2; exact h2.elim
        | some ρ3 =>
          have z : F p.1[i] acc ρ2 = (evC Φ c ρ3).bnd fun k ρ4 => if k = true then (evIt Φ it1 ρ4).bnd fun p1 ρ5 => if p1.2.isNone = true then (turns (turnF Φ t1 c1 x) p1.1 acc (kill (tgs t1) ρ5)).bnd fun acc' ρ7 => .ok acc' (kill vs ρ7) else .stk
            else .ok acc (kill vs ρ4) := by simp only [F, innF, eb, hvs]
          rw [z] at h2
          refine tg_ok eb hd3 sr3 fun σ4 l4 k4 w4 r4 => ⟨by rw [w4 vs mt, wipe_wipe], ?_⟩
          have own4 : ∀ a, own (dropF φ2 (tgs t)) a → own φ2 a := fun a z => own_dropF z
          have cs4 := cs3.step (σ' := σ4) (Stp.refl.weak own4) r4
          have back : ∀ {G7 H7 : Hp} {φ7 : Nat → List Addr} {ρ7 : List S} {acc7 : List PyData}, CS K G H φ G1 H1 s v f D ρ7 σ4 acc7 G7 H7 φ7 → CS K G H φ G1 H1 s v f D (kill vs ρ7) (wipe σ vs) acc7 G7 H7 (dropF φ7 vs) := fun {G7 H7 φ7 ρ7 acc7} c7 => by
            have rk : SR K G7 H7 (kill vs ρ7) (wipe σ vs) (dropF φ7 vs) := (c7.sr.kill (is := vs)).chg (by rw [l4]) fun j hj => by
              have hn : j ∉ vs := fun z => hj (by rw [slot_kill, if_pos z])
              exact (k4 j fun z => hn (mt j z)).symm
            exact c7.step (Stp.refl.weak fun a z => own_dropF z) rk
          refine cond_ok r4 ?_
          cases ec : evC Φ c ρ3 with
          | stk => rw [ec] at h2; exact h2.elim
          | exc _ _ _ => rw [ec] at h2; exact h2.elim
          | ok k ρ4 =>
            rw [ec] at h2
            simp only [R.bnd_ok] at h2
            intro G5 H5 φ5 st5 r5
            have cs5 := cs4.step st5 r5
            cases k with
            | false =>
              rw [if_neg Bool.false_ne_true] at h2 ⊢
              simp only [R.bnd_ok] at h2
              exact ⟨hlt, _, _, _, _, back cs5, fun j hj => by rw [slot_kill, if_pos hj], h2⟩
            | true =>
              rw [if_pos rfl] at h2 ⊢
              refine it_ok it1 (W := fun _ _ _ _ => False) r5 ?_
              cases ei : evIt Φ it1 ρ4 with
              | stk => rw [ei] at h2; exact h2.elim
              | exc _ _ _ => rw [ei] at h2; exact h2.elim
              | ok p1 ρ5 =>
                rw [ei] at h2
                simp only [R.bnd_ok] at h2
                intro J1 G6 H6 φ6 s1 v1 f1 st6 r6 t6 sh1 hold1
                by_cases hp1 : p1.2.isNone = true
                case neg => rw [if_neg hp1] at h2; exact h2.elim
                rw [if_pos hp1] at h2
                obtain ⟨d1, hv1, sh1'⟩ := sh1.view (by rw [Option.isNone_iff_eq_none.mp hp1] at hold1; exact hold1)
                obtain ⟨G7, st7, r7, hd7, _⟩ := t6.freeze r6 hv1
                have cs7 := cs5.step (st6.trans st7) r7
                -- the inner word
                let fin1 : List PyData → List S → R (List PyData) := fun acc' ρ7 => .ok acc' (kill vs ρ7)
                let Nx1 : Nat → Hp → Prop := fun j H' => j ≤ p1.1.length ∧ ∃ G2 φ2 ρ2 acc, CS K G H φ G1 H1 s v f D ρ2 (wipe σ4 (tgs t1)) acc G2 H' φ2 ∧ (∀ j ∈ tgs t1, slot ρ2 j = .dead) ∧ Same G6 G2 ∧ DP K G2 v1 d1 ∧
                  PoE K xr W σ G H φ (noExc ((((turns (turnF Φ t1 c1 x) (p1.1.drop j) acc ρ2).bnd fin1).bnd fun acc' ρ' => turns2 F (p.1.drop (i + 1)) acc' ρ').bnd fin)) Q
                refine ⟨fun j m H2' => m = p1.1.length - j ∧ Nx1 j H2', ⟨_, rfl, Nat.zero_le _, G7, dropF φ6 (tgs t1), kill (tgs t1) ρ5, acc, ?_, fun j hj => by rw [slot_kill, if_pos hj], st7.gg, hd7, by rw [List.drop_zero]; exact h2⟩, ?_⟩
                · have rk : SR K G7 H6 (kill (tgs t1) ρ5) (wipe σ4 (tgs t1)) (dropF φ6 (tgs t1)) := (r7.kill (is := tgs t1)).chg (wipe_length _ _) fun j hj => wipe_get fun z => hj (by rw [slot_kill, if_pos z])
                  exact cs7.step (Stp.refl.weak fun a z => own_dropF z) rk
                · rintro j m H2' ⟨rfl, hj, G8, φ8, ρ8, acc8, cs8, dead8, e8, hd8, h8⟩
                  obtain ⟨hgo1, hstop1⟩ := sh1'.turn (φ := φ8) e8 (fun _ z => nomatch z) ⟨⟨hd8, rfl⟩, (fun _ z => nomatch z), fun _ z => nomatch z⟩ cs8.sr j
                  by_cases hlt1 : j < p1.1.length
                  · right
                    obtain ⟨jgo1, jy1⟩ := hgo1 p1.1[j] (List.getElem?_eq_getElem hlt1)
                    rw [List.drop_eq_getElem_cons hlt1, turns] at h8
                    refine ⟨jgo1, Nx1 (j + 1), fun H' q1 => ⟨_, by have := q1.1; omega, rfl, q1⟩, fun y H9 hy => ?_⟩
                    obtain ⟨G9, st9, sr9, t9, hd9⟩ := jy1 y H9 hy
                    have cs9 := cs8.step st9 sr9
                    have hdv9 := t9.rel.1
                    cases eb1 : bindT t1 p1.1[j] ρ8 with
                    | none => rw [turnF, eb1] at h8; exact h8.elim
                    | some ρ9 =>
                      rw [turnF, eb1] at h8
                      simp only at h8
                      refine tg_ok eb1 hd9 sr9 fun σ5 l5 k5 w5 r10 => ⟨by rw [w5 _ fun _ z => z, wipe_wipe], ?_⟩
                      have own5 : ∀ a, own (dropF φ8 (tgs t1)) a → own φ8 a := fun a z => own_dropF z
                      have cs10 := cs9.step (σ' := σ5) (Stp.refl.weak own5) r10
                      have bk : ∀ {G7 H7 : Hp} {φ7 : Nat → List Addr} {ρ7 : List S} {acc7 : List PyData}, CS K G H φ G1 H1 s v f D ρ7 σ5 acc7 G7 H7 φ7 → CS K G H φ G1 H1 s v f D (kill (tgs t1) ρ7) (wipe σ4 (tgs t1)) acc7 G7 H7 (dropF φ7 (tgs t1)) := fun {G7 H7 φ7 ρ7 acc7} c7 => by
                        have rk : SR K G7 H7 (kill (tgs t1) ρ7) (wipe σ4 (tgs t1)) (dropF φ7 (tgs t1)) := (c7.sr.kill (is := tgs t1)).chg (by rw [l5]) fun j hj => by
                          have hn : j ∉ tgs t1 := fun z => hj (by rw [slot_kill, if_pos z])
                          exact (k5 j hn).symm
                        exact c7.step (Stp.refl.weak fun a z => own_dropF z) rk
                      refine cond_ok r10 ?_
                      cases ec1 : evC Φ c1 ρ9 with
                      | stk => rw [ec1] at h8; exact h8.elim
                      | exc _ _ _ => rw [ec1] at h8; exact h8.elim
                      | ok k1 ρ11 =>
                        rw [ec1] at h8
                        simp only [R.bnd_ok] at h8
                        intro G11 H11 φ11 st11 r11
                        have cs11 := cs10.step st11 r11
                        cases k1 with
                        | false =>
                          rw [if_neg Bool.false_ne_true] at h8 ⊢
                          simp only [R.bnd_ok] at h8
                          exact ⟨hlt1, _, _, _, _, bk cs11, (fun j hj => by rw [slot_kill, if_pos hj]), (e8.trans st9.gg).trans st11.gg, hdv9.mono st11.gg, h8⟩
                        | true =>
                          rw [if_pos rfl] at h8 ⊢
                          refine ⟨ρ11, G11, φ11, r11, ?_⟩
                          cases ex : evE Φ x ρ11 with
                          | stk => rw [ex] at h8; exact h8.elim
                          | exc _ _ _ => rw [ex] at h8; exact h8.elim
                          | ok s12 ρ12 =>
                            rw [ex] at h8
                            simp only [R.bnd_ok] at h8
                            intro y12 G12 H12 φ12 f12 st12 r12 t12
                            cases ev : VE.view s12 with
                            | none => rw [ev] at h8; exact h8.elim
                            | some d12 =>
                              rw [ev] at h8
                              simp only [R.bnd_ok] at h8
                              obtain ⟨G13, st13, r13, hd13, _⟩ := t12.freeze r12 ev
                              have cs13 := cs11.step (st12.trans st13) r13
                              obtain ⟨ws, hD13, l13, cs14⟩ := cs13.app hd13
                              by_cases hz : acc8.length < sizeLine
                              · rw [if_pos hz] at h8
                                exact ⟨ws, hD13, by rw [l13]; exact hz, hlt1, _, _, _, _, bk cs14, (fun j hj => by rw [slot_kill, if_pos hj]), (e8.trans st9.gg).trans (st11.gg.trans (st12.trans st13).gg), hdv9.mono (st11.gg.trans (st12.trans st13).gg), h8⟩
                              · rw [if_neg hz] at h8; exact h8.elim
                  · left
                    have e0 : p1.1.drop j = [] := List.drop_eq_nil_of_le (Nat.le_of_not_lt hlt1)
                    refine ⟨hstop1 (Nat.le_of_not_lt hlt1), ?_⟩
                    rw [e0, turns] at h8
                    simp only [R.bnd_ok, fin1] at h8
                    refine ⟨hlt, G8, dropF φ8 vs, kill vs ρ8, acc8, ?_, fun j hj => by rw [slot_kill, if_pos hj], h8⟩
                    have rk : SR K G8 H2' (kill vs ρ8) (wipe σ vs) (dropF φ8 vs) := (cs8.sr.kill (is := vs)).chg (by rw [wipe_length, wipe_length, l4, wipe_length]) fun j hj => by
                      have hn : j ∉ vs := fun z => hj (by rw [slot_kill, if_pos z])
                      rw [wipe_get (fun z => hn (mt1 j z))]
                      exact (k4 j fun z => hn (mt j z)).symm
                    exact cs8.step (Stp.refl.weak fun a z => own_dropF z) rk
      · left
        have e0 : p.1.drop i = [] := List.drop_eq_nil_of_le (Nat.le_of_not_lt hlt)
        refine ⟨hstop (Nat.le_of_not_lt hlt), ?_⟩
        rw [e0, turns2] at h2
        simp only [R.bnd_ok, noExc, fin] at h2
        obtain ⟨ws, hDl, hdl⟩ := cs.hd
        have rσ : SR K G2 H2 ρ2 σ φ2 := cs.sr.chg (wipe_length _ _).symm fun j hj => by
          have hn : j ∉ vs := fun z => hj (hdead j z)
          exact (wipe_get hn).symm
        have rp : SR K G2 H2 (putBack ρ1 vs ρ2) σ (dropF φ2 vs) := rσ.put fun j hj => by
          have q := List.all_eq_true.mp hb j hj
          cases es : slot ρ1 j with
          | dead => exact .inl rfl
          | val d =>
            obtain ⟨w, hw, q2⟩ := r1.at (i := j) (by rw [es]; exact fun z => nomatch z)
            rw [es] at q2
            exact .inr ⟨w, d, hw, rfl, q2.1.mono cs.g1⟩
          | lst _ => rw [es] at q; cases q
          | dct _ => rw [es] at q; cases q
          | dtt _ => rw [es] at q; cases q
          | box _ _ => rw [es] at q; cases q
        have tD : ∀ {φ9 : Nat → List Addr}, ¬ own φ9 D → Tmp K G2 H2 (.lst acc) (.ref D) [D] φ9 := fun {φ9} hn => ⟨⟨D, ws, rfl, hDl, hdl, rfl⟩, (fun a ha => by obtain rfl := List.mem_singleton.mp ha; exact cs.gD), fun a ha => by obtain rfl := List.mem_singleton.mp ha; exact hn⟩
        cases hp : p.2 with
        | none =>
          rw [hp] at h2
          refine h2 _ G2 H2 _ [D] (cs.st.weak fun a z => ?_) rp (tD fun z => cs.oD (own_dropF z))
          rcases z with z | z
          · exact .inl (own_dropF z)
          · exact .inr (.inr (List.mem_singleton.mp z))
        | some q =>
          obtain ⟨j, s'⟩ := q
          rw [hp] at h2 hold
          obtain ⟨rfl, hvj⟩ := hold
          have rb := rp.back (i := j) ⟨cs.hs.rel, cs.hs.gn, fun a ha z => cs.hs.off a ha (own_dropF z)⟩ hvj
          have sub : ∀ a, own (upf (dropF φ2 vs) j (if j < (putBack ρ1 vs ρ2).length then f else [])) a → own φ2 a ∨ a ∈ f := fun a z => by
            rcases own_upf z with y | y
            · split at y
              · exact .inr y
              · cases y
            · exact .inl (own_dropF y)
          refine h2 _ G2 H2 _ [D] (cs.st.weak fun a z => ?_) rb (tD fun z => (sub D z).elim cs.oD cs.fD)
          rcases z with z | z
          · exact (sub a z).imp id .inl
          · exact .inr (.inr (List.mem_singleton.mp z))
end
end VE

/-! VY: dicts with tuple keys by the evaluator; slices of lists and tuples. -/
namespace VE
open PySem L2 PySem.Spec PyProof.Rows
section
variable {K : PySem.W.Frag} {xr : XR} {W : WX} {Φ : Fns} {σ : L2.St} {G H G' H' G0 H0 : Hp} {φ φ' φ0 : Nat → List Addr} {ρ : List S} {Q : VK}
theorem fin_dtt {p : Addr} {kv : List (List Key × V)} {ds : List (PyData × PyData)} (r : SR K G H ρ σ φ) (hp : H p = none) (hd : DTs K G kv ds) (h : PoE K xr W σ G H φ (.ok (.dtt ds) ρ) Q) : Q (.ref p) (upd H p (.dT kv)) :=
  h _ G _ φ [p] ((Stp.newH hp).weak fun a q => q.imp id fun z => List.mem_singleton.mp z) (r.newH hp) ⟨⟨p, rfl, rfl, kv, upd_same, hd⟩, (fun a ha => by
    obtain rfl := List.mem_singleton.mp ha
    exact r.gh.free hp), fun a ha q => by
    obtain rfl := List.mem_singleton.mp ha
    obtain ⟨o, e⟩ := r.here q
    rw [hp] at e; cases e⟩
theorem dnewT_ok (r : SR K G H ρ σ φ) (h : PoE K xr W σ G H φ (evE Φ .dnewT ρ) Q) : tDNewT σ H Q := by
  rw [evE] at h
  exact fun p hp => fin_dtt r hp .nil h
theorem kDat_kD (k : Key) : kDat' k = kD k := by cases k <;> rfl
theorem keyD_val {v : V} {d : PyData} {k : Key} (h : keyD d = some k) (x : DP K G v d) : v = kV k ∧ d = kD k := by
  cases d with
  | int i => cases h; cases x; exact ⟨rfl, rfl⟩
  | str i => cases h; cases x; exact ⟨rfl, rfl⟩
  | _ => cases h
theorem keysL_dps : ∀ {ds : List PyData} {vs : List V} {ks : List Key}, DPs K G vs ds → keysL ds = some ks → vs = ks.map kV ∧ ds = ks.map kD
  | [], _, ks, .nil, h => by cases h; exact ⟨rfl, rfl⟩
  | d :: ds, _, ks, .cons x r, h => by
    rw [keysL] at h
    split at h
    · rename_i k kk e1 e2
      cases h
      obtain ⟨rfl, rfl⟩ := keyD_val e1 x
      obtain ⟨rfl, rfl⟩ := keysL_dps r e2
      exact ⟨rfl, rfl⟩
    · cases h
/-- operands kept as data, something held aside -/
theorem keepT {as : List A} {k : List PyData → List S → R S} {Qr : List V → Hp → Prop} {s : S} {v : V} {f : List Addr} (r : SR K G H ρ σ φ) (t : Tmp K G H s v f φ) (st0 : Stp G0 H0 (own φ0) G H (fun a => own φ a ∨ a ∈ f))
    (h : PoE K xr W σ G0 H0 φ0 ((evAs Φ as ρ).bnd fun ts ρ' => match resV as ts ρ' with
      | some ds => k ds ρ'
      | none => .stk) Q)
    (hop : ∀ ρ' vs ds G' H' φ', SR K G' H' ρ' σ φ' → DPs K G' vs ds → Tmp K G' H' s v f φ' → Stp G0 H0 (own φ0) G' H' (fun a => own φ' a ∨ a ∈ f) → PoE K xr W σ G0 H0 φ0 (k ds ρ') Q → Qr vs H') : tAs K xr W Φ as σ H Qr := by
  refine ops as ρ G H φ Qr r ?_
  cases e : evAs Φ as ρ with
  | stk => rw [e] at h; exact h
  | exc c d ρ' => rw [e] at h; exact PoX.from h (st0.weak fun _ z => .inl z)
  | ok ts ρ' =>
    rw [e] at h
    simp only [R.bnd_ok] at h
    intro vs G' H' φ' fs st r' o hf
    cases e2 : resV as ts ρ' with
    | none => rw [e2] at h; exact h.elim
    | some ds =>
      rw [e2] at h
      obtain ⟨G2, st2, sr2, hd, _⟩ := o.freeze r' hf e2
      have stt := st.trans st2
      obtain ⟨q1, q2, q3⟩ := t.frame stt t.off
      exact hop ρ' vs ds G2 H' φ' sr2 hd ⟨q1, q2, q3⟩ (st0.trans (stt.frame (T := fun a => a ∈ f) fun a ha => ⟨t.off a ha, by
        obtain ⟨o', e'⟩ := t.rel.here a ha
        rw [e']; exact fun z => nomatch z⟩)) h
theorem Stp.wr {T : Addr → Prop} {p : Addr} {o : HO} (hT : T p) : Stp G H T G (upd H p o) T where
  gg := Same.refl G
  keep := fun a u hu hn => by rw [upd_ne fun z => hn (by rw [z]; exact hT)]; exact hu
  sub := fun _ z => .inl z
  gnew := fun _ z z' => absurd z z'
  there := fun a z => by
    by_cases e : a = p
    · rw [e, upd_same]; exact fun y => nomatch y
    · rw [upd_ne e]; exact z
theorem evAs_two {α : Type} {a b : A} {k : Option S → Option S → List S → R α} : ((evA Φ a ρ).bnd fun t ρ' => (evA Φ b ρ').bnd fun u ρ'' => k t u ρ'') = (evAs Φ [a, b] ρ).bnd fun ts ρ'' => match ts with
      | [t, u] => k t u ρ''
      | _ => .stk := by
  simp only [evAs]
  cases evA Φ a ρ with
  | stk => rfl
  | exc _ _ _ => rfl
  | ok t ρ1 =>
    simp only [R.bnd_ok]
    cases evA Φ b ρ1 with
    | stk => rfl
    | exc _ _ _ => rfl
    | ok u ρ2 => rfl
theorem dispT_ok {k x : A} (r : SR K G H ρ σ φ) (h : PoE K xr W σ G H φ (evE Φ (.dispT k x) ρ) Q) : tDispT (tA K xr W Φ k) (tA K xr W Φ x) σ H Q := by
  rw [evE] at h
  intro p hp
  have np : ¬ own φ p := fun z => by
    obtain ⟨o, e⟩ := r.here z
    rw [hp] at e; cases e
  have r0 : SR K G (upd H p (.dT [])) ρ σ φ := r.newH hp
  have t0 : Tmp K G (upd H p (.dT [])) (.dtt []) (.ref p) [p] φ := ⟨⟨p, rfl, rfl, [], upd_same, .nil⟩, (fun a ha => by
    obtain rfl := List.mem_singleton.mp ha
    exact r.gh.free hp), fun a ha => by
    obtain rfl := List.mem_singleton.mp ha
    exact np⟩
  have st0 : Stp G H (own φ) G (upd H p (.dT [])) (fun a => own φ a ∨ a ∈ [p]) := (Stp.newH hp).weak fun a q => q.imp id fun z => List.mem_singleton.mp z
  have h' : PoE K xr W σ G H φ ((evAs Φ [k, x] ρ).bnd fun ts ρ' => match resV [k, x] ts ρ' with
      | some ds => (match ds with
        | [.tuple ks, d] => if (keysL ks).isSome then .ok (.dtt [(.tuple ks, d)]) ρ' else .stk
        | _ => .stk)
      | none => .stk) Q := by
    rw [evAs_two] at h
    cases e : evAs Φ [k, x] ρ with
    | stk => rw [e] at h; exact h
    | exc _ _ _ => rw [e] at h; exact h
    | ok ts ρ' =>
      rw [e] at h
      simp only [R.bnd_ok] at h ⊢
      split at h
      · split at h
        · rename_i hds
          rw [hds]; exact h
        · exact h.elim
      · exact h.elim
  have key : tAs K xr W Φ [k, x] σ (upd H p (.dT [])) (fun vs H2 => match vs with
      | [u, y] => H2 p = some (.dT []) ∧ ∃ b ks, u = .ref b ∧ H2 b = some (.tup (ks.map kV)) ∧ Q (.ref p) (upd H2 p (.dT [(ks, y)]))
      | _ => False) := by
    refine keepT r0 t0 st0 h' fun ρ' vs ds G' H' φ' r' hd t' st' q => ?_
    split at q
    · rename_i ks d
      split at q
      · rename_i hk
        obtain ⟨kk, hkk⟩ := Option.isSome_iff_exists.mp hk
        cases hd with
        | cons p1 hd =>
          cases hd with
          | cons p2 hd =>
            cases hd
            cases p1 with
            | tup g1 g2 =>
              obtain ⟨rfl, rfl⟩ := keysL_dps g2 hkk
              obtain ⟨c, ec, _, kv, hc, hkv⟩ := t'.rel
              cases ec
              cases hkv
              have gp : G' p = none := t'.gn p (List.mem_singleton.mpr rfl)
              have op : ¬ own φ' p := t'.off p (List.mem_singleton.mpr rfl)
              refine ⟨hc, _, kk, rfl, r'.gh _ _ g1, ?_⟩
              refine q (.ref p) G' _ φ' [p] (st'.trans (Stp.wr (.inr (List.mem_singleton.mpr rfl)))) (r'.other op gp) ⟨⟨p, rfl, rfl, _, upd_same, .cons p2 .nil⟩, (fun a ha => by
                obtain rfl := List.mem_singleton.mp ha
                exact gp), fun a ha => by
                obtain rfl := List.mem_singleton.mp ha
                exact op⟩
      · exact q.elim
    · exact q.elim
  exact key
/-- what is held aside becomes data, its object another one -/
theorem Tmp.lockO {s : S} {v : V} {a : Addr} {o : HO} (t : Tmp K G H s v [a] φ) (r : SR K G H ρ σ φ) :
    Stp G H (fun b => own φ b ∨ b ∈ [a]) (upd G a o) (upd H a o) (own φ) ∧ SR K (upd G a o) (upd H a o) ρ σ φ := by
  have gn : G a = none := t.gn a (List.mem_singleton.mpr rfl)
  have off : ¬ own φ a := t.off a (List.mem_singleton.mpr rfl)
  have st : ∀ T : Addr → Prop, T a → Stp G H T (upd G a o) (upd H a o) T := fun T hT =>
    ⟨Same.upd_new gn, fun b u hu hn => by rw [upd_ne fun z => hn (by rw [z]; exact hT)]; exact hu, fun _ z => .inl z, fun b z z' => by
      by_cases e : b = a
      · rw [e]; exact .inl hT
      · rw [upd_ne e] at z'; exact absurd z z', fun b z => by
      by_cases e : b = a
      · rw [e, upd_same]; exact fun y => nomatch y
      · rw [upd_ne e]; exact z⟩
  refine ⟨(st _ (.inr (List.mem_singleton.mpr rfl))).weak fun _ z => .inl z, r.step (st (fun b => b = a) rfl) (fun b u e => ?_) fun b hb e => off (by rw [← e]; exact hb)⟩
  by_cases y : b = a
  · subst y
    rw [upd_same] at e ⊢
    exact e
  · rw [upd_ne y] at e ⊢
    exact r.gh b u e
theorem keep_ok {x : E} (r : SR K G H ρ σ φ) (h : PoE K xr W σ G H φ (evE Φ (.keep x) ρ) Q) : tKeepD (tE K xr W (evE Φ x)) σ H Q := by
  rw [evE] at h
  refine ⟨ρ, G, φ, r, ?_⟩
  cases e : evE Φ x ρ with
  | stk => rw [e] at h; exact h
  | exc _ _ _ => rw [e] at h; exact h
  | ok s ρ1 =>
    rw [e] at h
    simp only [R.bnd_ok] at h
    intro v G1 H1 φ1 f st r1 t1
    cases s with
    | dtt kvs =>
      simp only at h
      obtain ⟨a, ev, ef, kv, ha, hd⟩ := t1.rel
      subst ev ef
      have gn : G1 a = none := t1.gn a (List.mem_singleton.mpr rfl)
      have fin : ∀ o, DP K (upd G1 a o) (.ref a) (.dict kvs) → Q (.ref a) (upd H1 a o) := fun o hdp => by
        obtain ⟨st2, r2⟩ := t1.lockO (o := o) r1
        exact h (.ref a) _ _ φ1 [] ((st.trans st2).weak fun b z => z.elim id fun y => nomatch y) r2 ⟨⟨hdp, rfl⟩, (fun _ z => nomatch z), fun _ z => nomatch z⟩
      refine ⟨a, kv, rfl, ha, fun hk => ?_, fun hk od => ?_⟩
      · subst hk
        cases hd
        exact fin _ (.dctK upd_same .nil)
      · refine fin _ (.dctT upd_same (hd.mono (Same.upd_new gn)) fun z => hk ?_)
        subst z
        cases hd
        rfl
    | _ => exact h.elim
theorem deq0_ok {i : Nat} (r : SR K G H ρ σ φ) (h : PoE K xr W σ G H φ (evE Φ (.deq0 i) ρ) Q) : tVar i σ H fun x H1 => tDNewK σ H1 fun y H2 => rEqNil x y H2 Q := by
  rw [evE] at h
  cases e : slot ρ i with
  | dtt kvs =>
    rw [e] at h
    obtain ⟨v, hv, q⟩ := r.at (i := i) (by rw [e]; exact fun z => nomatch z)
    rw [e] at q
    obtain ⟨a, rfl, hf, kv, ha, hd⟩ := q
    refine ⟨_, hv, fun p hp => ?_⟩
    have hne : a ≠ p := fun z => by rw [z, hp] at ha; cases ha
    refine ⟨a, p, kv.length, rfl, rfl, .inr ⟨kv, .inl (by rw [upd_ne hne]; exact ha), rfl⟩, .inl ⟨[], .inl upd_same, rfl⟩, ?_⟩
    have eb : (kv.length == 0) = kvs.isEmpty := by
      rw [hd.length]
      cases kvs <;> rfl
    rw [eb]
    exact h _ G _ φ [] ((Stp.newH hp).weak fun b z => .inl (z.elim id fun y => nomatch y)) (r.newH hp) ⟨⟨.bl _, rfl⟩, (fun _ z => nomatch z), fun _ z => nomatch z⟩
  | dct kvs =>
    rw [e] at h
    obtain ⟨v, hv, q⟩ := r.at (i := i) (by rw [e]; exact fun z => nomatch z)
    rw [e] at q
    obtain ⟨a, rfl, hf, kv, ha, hd⟩ := q
    refine ⟨_, hv, fun p hp => ?_⟩
    have hne : a ≠ p := fun z => by rw [z, hp] at ha; cases ha
    refine ⟨a, p, kv.length, rfl, rfl, .inl ⟨kv, .inl (by rw [upd_ne hne]; exact ha), rfl⟩, .inl ⟨[], .inl upd_same, rfl⟩, ?_⟩
    have eb : (kv.length == 0) = kvs.isEmpty := by
      rw [hd.length]
      cases kvs <;> rfl
    rw [eb]
    exact h _ G _ φ [] ((Stp.newH hp).weak fun b z => .inl (z.elim id fun y => nomatch y)) (r.newH hp) ⟨⟨.bl _, rfl⟩, (fun _ z => nomatch z), fun _ z => nomatch z⟩
  | _ => rw [e] at h; exact h.elim
theorem tupsG : ∀ {bs : List Addr} {kv : List (List Key × V)} {G : Hp}, SR K G H ρ σ φ → IsKeys H kv bs → ∃ G', Stp G H (own φ) G' H (own φ) ∧ SR K G' H ρ σ φ ∧ DPs K G' (bs.map V.ref) (kv.map fun p => .tuple (p.1.map kD))
  | _, _, G, r, .nil => ⟨G, Stp.refl, r, .nil⟩
  | b :: bs, p :: kv, G, r, .cons h t => by
    obtain ⟨G1, st1, r1, h1⟩ := tupG r h
    obtain ⟨G2, st2, r2, h2⟩ := tupsG (kv := kv) r1 t
    exact ⟨G2, st1.trans st2, r2, .cons (.tup (st2.gg _ _ h1) (dps_key _)) h2⟩
theorem dkeys_ok {i : Nat} (r : SR K G H ρ σ φ) (h : PoE K xr W σ G H φ (evE Φ (.dkeys i) ρ) Q) : tVar i σ H fun x H1 => ∃ d kvs, [x] = [V.ref d] ∧ Rd H1 d (.dT kvs) ∧ ∀ p bs, H1 p = none → IsKeys H1 kvs bs → Q (.ref p) (upd H1 p (.lst (bs.map V.ref))) := by
  rw [evE] at h
  cases e : slot ρ i with
  | dtt kvs =>
    rw [e] at h
    obtain ⟨v, hv, q⟩ := r.at (i := i) (by rw [e]; exact fun z => nomatch z)
    rw [e] at q
    obtain ⟨a, rfl, hf, kv, ha, hd⟩ := q
    refine ⟨_, hv, a, kv, rfl, .inl ha, fun p bs hp hb => ?_⟩
    obtain ⟨G2, st2, r2, h2⟩ := tupsG r hb
    rw [← hd.keys] at h2
    exact fin_lst r2 hp h2 (PoE.from h st2)
  | _ => rw [e] at h; exact h.elim
/-! ### d[k] = x -/
theorem kD_inj {a b : Key} (h : kD a = kD b) : a = b := by
  have q := congrArg keyD h
  rw [keyD_kD, keyD_kD] at q
  exact Option.some.inj q
theorem keysL_kD : ∀ ks : List Key, keysL (ks.map kD) = some ks
  | [] => rfl
  | k :: ks => by rw [List.map_cons, keysL, keyD_kD, keysL_kD ks]
theorem kDats (ks : List Key) : ks.map kDat' = ks.map kD := List.map_congr_left fun k _ => kDat_kD k
theorem DTs.any {kv : List (List Key × V)} {ds : List (PyData × PyData)} {k : List Key} (h : DTs K G kv ds) : (ds.any fun p => decide (keyT p.1 = some k)) = kv.any fun p => decide (p.1 = k) := by
  induction kv generalizing ds with
  | nil => cases h; rfl
  | cons p kv ih =>
    cases h with
    | cons hx hr =>
      rw [List.any_cons, List.any_cons, ih hr]
      congr 1
      simp only [keyT, keysL_kD, Option.some.injEq]
theorem DTs.put {kv : List (List Key × V)} {ds : List (PyData × PyData)} {k : List Key} {v : V} {d : PyData} (h : DTs K G kv ds) (hv : DP K G v d) : DTs K G (putK kv k v) (putT ds k d) := by
  unfold putK putT
  rw [h.any]
  split
  · rename_i hc
    clear hc
    induction kv generalizing ds with
    | nil => cases h; exact .nil
    | cons p kv ih =>
      cases h with
      | @cons k1 v1 _ d1 ds1 hx hr =>
        rw [List.map_cons, List.map_cons]
        by_cases e : k1 = k
        · rw [if_pos e, if_pos (by simp only [keyT, keysL_kD, e])]
          exact .cons hv (ih hr)
        · rw [if_neg e, if_neg (by simp only [keyT, keysL_kD, Option.some.injEq]; exact e)]
          exact .cons hx (ih hr)
  · rename_i hc
    clear hc
    induction kv generalizing ds with
    | nil => cases h; rw [kDats]; exact .cons hv .nil
    | cons p kv ih =>
      cases h with
      | cons hx hr => exact .cons hx (ih hr)
/-- a name's dict is written -/
theorem write_dtt {i : Nat} {a : Addr} {kv : List (List Key × V)} {ds : List (PyData × PyData)} (r : SR K G H ρ σ φ) (hv : σ[i]? = some (some (.ref a))) (hi : i < ρ.length) (hf : φ i = [a]) (hd : DTs K G kv ds) :
    Stp G H (own φ) G (upd H a (.dT kv)) (own φ) ∧ SR K G (upd H a (.dT kv)) (ρ.set i (.dtt ds)) σ φ := by
  have ha : own φ a := ⟨i, by rw [hf]; exact List.mem_singleton.mpr rfl⟩
  have ga : G a = none := r.gno ha
  refine ⟨Stp.wr ha, ⟨by rw [List.length_set]; exact r.len, fun b u e => ?_, fun j => ?_, r.dj, r.gn⟩⟩
  · rw [upd_ne fun z => by rw [z, ga] at e; cases e]; exact r.gh b u e
  · by_cases e : i = j
    · subst e
      refine .inr ⟨_, hv, ?_⟩
      rw [slot_set, if_pos ⟨rfl, hi⟩]
      exact ⟨a, rfl, hf, kv, upd_same, hd⟩
    · rw [slot_set_ne e]
      rcases r.rel j with q | ⟨v, e1, q⟩
      · exact .inl q
      · refine .inr ⟨v, e1, q.mono (Same.refl G) fun b hb o' ho' => ?_⟩
        rw [upd_ne fun z => ?_]
        · exact ho'
        · subst z
          exact e (r.dj i j b (by rw [hf]; exact List.mem_singleton.mpr rfl) hb)
/-! ### slices of tuples -/
theorem DPs.cut {K : PySem.W.Frag} {G : Hp} {vs : List V} {ds : List PyData} {lo hi : Option Int} (h : DPs K G vs ds) : DPs K G (cutV vs lo hi) (cutD ds lo hi) := by
  unfold cutV cutD
  rw [h.length]
  exact (h.drop _).take _
theorem slA_D {x : V} {ds : List PyData} {lo hi : Option Int} (r : SR K G H ρ σ φ) (vx : VW K G H x (.tuple ds)) (q : PoE K xr W σ G H φ (.ok (.val (.tuple (cutD ds lo hi))) ρ) Q) : rSlA K x lo hi H Q := by
  obtain ⟨a, ws, rfl, h1, h2⟩ := vx.tupX
  refine ⟨a, ws, rfl, .inl (.inl (r.gh _ _ h1)), fun hw => ?_, fun _ p hp => fin_tup r hp h2.cut q⟩
  have e : cutV ws lo hi = ws := by
    unfold cutV
    rw [hw.1, hw.2]
    simp
  refine fin_val r (.tup h1 ?_) q
  have z := h2.cut (lo := lo) (hi := hi)
  rw [e] at z
  exact z
theorem slS_D {x : V} {z : Str} {lo hi : Option Int} (r : SR K G H ρ σ φ) (vx : VW K G H x (.str z)) (q : PoE K xr W σ G H φ (if decide (z.length ≤ sizeLine) = true then .ok (.val (.str (cutS z lo hi))) ρ else .stk) Q) : rSlS x lo hi H Q := by
  by_cases hz : z.length ≤ sizeLine
  · rw [if_pos (decide_eq_true hz)] at q
    obtain rfl := vx.str
    exact ⟨z, rfl, hz, fin_str r q⟩
  · rw [if_neg (by simp [hz])] at q
    exact q.elim
theorem slL_D {x : V} {ds : List PyData} {lo hi : Option Int} (r : SR K G H ρ σ φ) (vx : VW K G H x (.list ds)) (q : PoE K xr W σ G H φ (.ok (.lst (cutD ds lo hi)) ρ) Q) : rSlL K x lo hi H Q := by
  obtain ⟨a, ws, rfl, h1, h2⟩ := vx.list r.gh
  exact ⟨a, ws, rfl, h1, fun p hp => fin_lst r hp h2.cut q⟩
end
end VE

/-! VQ: places read. -/
namespace VE
open PySem L2 PySem.Spec PyProof.Rows
section
variable {K : PySem.W.Frag} {xr : XR} {W : WX} {Φ : Fns} {σ : L2.St} {G H G' H' : Hp} {φ φ' : Nat → List Addr} {ρ : List S} {Q : VK}
theorem ixo_val {κ : Type} [DecidableEq κ] {k : κ} {u : V} : ∀ {ks : List κ} {vs : List V} {j : Nat}, ixo k ks = some j → vs[j]? = some u → ks.length = vs.length → valV (ks.zip vs) k = some u
  | [], _, _, h, _, _ => by cases h
  | y :: r, [], _, _, _, l => by cases l
  | y :: r, v :: vs, j, h, e, l => by
    unfold ixo at h
    unfold valV
    rw [List.zip_cons_cons, List.find?_cons]
    by_cases z : y = k
    · rw [if_pos z] at h
      cases h
      cases e
      simp [z]
    · rw [if_neg z] at h
      cases q : ixo k r with
      | none => rw [q] at h; cases h
      | some i =>
        rw [q] at h
        cases h
        have := ixo_val q (vs := vs) (by simpa using e) (Nat.succ.inj l)
        unfold valV at this
        simp [z, this]
theorem ixo_lookup {k : Str} {u : V} : ∀ {ks : List Str} {vs : List V} {j : Nat}, ixo k ks = some j → vs[j]? = some u → ks.length = vs.length → (ks.zip vs).lookup k = some u
  | [], _, _, h, _, _ => by cases h
  | y :: r, [], _, _, _, l => by cases l
  | y :: r, v :: vs, j, h, e, l => by
    unfold ixo at h
    rw [List.zip_cons_cons, List.lookup_cons]
    by_cases z : y = k
    · rw [if_pos z] at h
      cases h
      cases e
      simp [z]
    · rw [if_neg z] at h
      cases q : ixo k r with
      | none => rw [q] at h; cases h
      | some i =>
        rw [q] at h
        cases h
        have zb : (k == y) = false := beq_false_of_ne (Ne.symm z)
        rw [zb]
        exact ixo_lookup q (vs := vs) (by simpa using e) (Nat.succ.inj l)
/-- one step along a path: a field -/
theorem step_fld {b : Bx} {a : Addr} {vs : List V} {ex : List Addr} {f : Str} {j : Nat} {u : V} (hb : BoxAt K H b a vs ex) (hc : child b vs.length (.fld f) = some j) (hu : vs[j]? = some u) : ∃ C dx fs, H a = some (.ins C dx fs) ∧ Cls K C ∧ NoAttr K C f ∧ fs.lookup f = some u := by
  cases b with
  | obj c ns =>
    obtain ⟨C, dx, ⟨_, o1, o2⟩, h1, _, _, hl, _⟩ := hb
    simp only [child] at hc
    split at hc
    · rename_i hf
      exact ⟨C, dx, _, h1, o1, o2 f hf, ixo_lookup hc hu hl⟩
    · cases hc
  | dK ks => cases hc
  | dT ks => cases hc
  | lst => cases hc
/-- .. a key of a list, of a dict -/
theorem step_lst {a : Addr} {vs : List V} {ex : List Addr} {d : PyData} {y : V} {j : Nat} {u : V} (hb : BoxAt K H .lst a vs ex) (hy : DP K G y d) (hc : child .lst vs.length (.key d) = some j) (hu : vs[j]? = some u) :
    ∃ i, y = .int i ∧ SqL K H a vs ∧ atI vs i = some u := by
  obtain ⟨h1, _⟩ := hb
  cases d with
  | int i =>
    cases hy
    refine ⟨i, rfl, .inl (.inl h1), ?_⟩
    unfold atI
    rw [show ixN vs.length i = some j from hc]
    exact hu
  | _ => cases hc
theorem step_dct {b : Bx} {a : Addr} {vs : List V} {ex : List Addr} {d : PyData} {y : V} {j : Nat} {u : V} (hb : BoxAt K H b a vs ex) (hl : b ≠ .lst) (hy : DP K G y d) (gh : Same G H) (hc : child b vs.length (.key d) = some j) (hu : vs[j]? = some u) :
    DGet H a y (some u) := by
  cases b with
  | obj c ns => cases hc
  | dK ks =>
    obtain ⟨h1, _, hl⟩ := hb
    simp only [child] at hc
    split at hc
    · rename_i k hk
      obtain ⟨rfl, _⟩ := keyD_val hk hy
      rw [← ixo_val hc hu hl]
      exact .k h1
    · cases hc
  | dT ks =>
    obtain ⟨h1, _, hl⟩ := hb
    simp only [child] at hc
    split at hc
    · rename_i k hk
      cases d with
      | tuple ds =>
        cases hy with
        | tup g1 g2 =>
          obtain ⟨rfl, _⟩ := keysL_dps g2 hk
          rw [← ixo_val hc hu hl]
          exact .t h1 (gh _ _ g1)
      | _ => cases hk
    · cases hc
  | lst => exact absurd rfl hl
theorem Ptr.app : ∀ {π π' : List Pk} {v u : V}, Ptr K H v (π ++ π') u → ∃ w, Ptr K H v π w ∧ Ptr K H w π' u
  | [], _, v, u, p => ⟨v, .nil, p⟩
  | k :: π, π', v, u, p => by
    cases p with
    | cons h1 h2 h3 h4 =>
      obtain ⟨w, a, b⟩ := Ptr.app h4
      exact ⟨w, .cons h1 h2 h3 a, b⟩
theorem Ptr.snoc {v w u : V} : ∀ {π : List Pk} {v : V} {b : Bx} {a : Addr} {vs : List V} {ex : List Addr} {k : Pk} {j : Nat}, Ptr K H v π (.ref a) → BoxAt K H b a vs ex → child b vs.length k = some j → vs[j]? = some u → Ptr K H v (π ++ [k]) u
  | [], _, _, _, _, _, _, _, p, h1, h2, h3 => by
    cases p
    exact .cons h1 h2 h3 .nil
  | _ :: π, _, _, _, _, _, _, _, p, h1, h2, h3 => by
    cases p with
    | cons g1 g2 g3 g4 => exact .cons g1 g2 g3 (Ptr.snoc g4 h1 h2 h3 (v := v) (w := w))
theorem pe_alt {X : Cx} {e : Expr} {t t' : TE} (h : PE X e t) (h' : PE X e t') : PE X e (fun σ H Q => t σ H Q ∨ t' σ H Q) := ⟨fun pins s σ H Q I q => q.elim (h.run pins s σ H Q I) (h'.run pins s σ H Q I)⟩
theorem pe_imp {X : Cx} {e : Expr} {t t' : TE} (h : PE X e t) (i : ∀ σ H Q, t' σ H Q → t σ H Q) : PE X e t' := ⟨fun pins s σ H Q I q => h.run pins s σ H Q I (i σ H Q q)⟩
theorem pthR_cons {p : Px} {r : List Px} {π : List Pk} (h : pthR ρ (p :: r) = some π) : ∃ π' k, pthR ρ r = some π' ∧ pkOf ρ p = some k ∧ π = π' ++ [k] := by
  simp only [pthR] at h
  split at h
  · rename_i π' k e1 e2
    cases h
    exact ⟨π', k, e1, e2, rfl⟩
  · cases h
section
variable {X : Cx}
theorem pt_nil {i : Nat} {e : Expr} (h : PE X e (tVar i)) : PE X e (tPt X.K i []) := pe_imp h fun σ H Q ⟨ρ, G, φ, π, v0, u, r, e, hv, p, q⟩ => by
  cases e
  cases p
  exact ⟨_, hv, q⟩
theorem Ptr.last {π : List Pk} {k : Pk} {v u : V} (p : Ptr K H v (π ++ [k]) u) : ∃ a b vs ex j, Ptr K H v π (.ref a) ∧ BoxAt K H b a vs ex ∧ child b vs.length k = some j ∧ vs[j]? = some u := by
  obtain ⟨w, p1, p2⟩ := p.app
  cases p2 with
  | cons h1 h2 h3 h4 =>
    cases h4
    exact ⟨_, _, _, _, _, p1, h1, h2, h3⟩
theorem pt_fld {i : Nat} {r : List Px} {f : Str} {o : Expr} {pos : Pos} (h : PE X o (tPt X.K i r)) (hb : attributeBase o f X.env (eval o X.env) = eval o X.env) : PE X (.Attribute o f pos) (tPt X.K i (.fld f :: r)) :=
  pe_imp (pe_fld h hb) fun σ H Q ⟨ρ, G, φ, π, v0, u, sr, e, hv, p, q⟩ => by
    obtain ⟨π', k, e1, e2, rfl⟩ := pthR_cons e
    cases e2
    obtain ⟨a, b, vs, ex, j, p1, h1, h2, h3⟩ := p.last
    obtain ⟨C, dx, fs, g1, g2, g3, g4⟩ := step_fld h1 h2 h3
    exact ⟨ρ, G, φ, π', v0, .ref a, sr, e1, hv, p1, a, C, dx, fs, u, rfl, g1, g2, g3, g4, q⟩
/-- p[k]: k's value y is at hand -/
theorem pt_key {i : Nat} {r : List Px} {p : Px} {o k : Expr} {pos : Pos} {tk : TE} (hu : X.A.units + 70 < cLine) (h : PE X o (tPt X.K i r)) (hk : PE X k tk) (hs : PlainIx k)
    (hy : ∀ σ H (Q : VK) ρ G φ d, SR X.K G H ρ σ φ → pkOf ρ p = some (.key d) → (∀ y, DP X.K G y d → Q y H) → tk σ H Q) (hp : ∀ ρ q, pkOf ρ p = some q → ∃ d, q = .key d) : PE X (.Subscript o k pos) (tPt X.K i (p :: r)) :=
  pe_imp (pe_alt (pe_ix ix_list h hk hs) (pe_dget (by omega) h hk hs)) (fun σ H Q ⟨ρ, G, φ, π, v0, u, sr, e, hv, p, q⟩ => by
    obtain ⟨π', kk, e1, e2, rfl⟩ := pthR_cons e
    obtain ⟨d, rfl⟩ := hp _ _ e2
    obtain ⟨a, b, vs, ex, j, p1, h1, h2, h3⟩ := p.last
    by_cases hl : b = .lst
    · subst hl
      refine .inl ⟨ρ, G, φ, π', v0, .ref a, sr, e1, hv, p1, ?_⟩
      refine hy σ H _ ρ G φ d sr e2 fun y yd => ?_
      obtain ⟨i, rfl, g1, g2⟩ := step_lst h1 yd h2 h3
      exact ⟨a, vs, i, u, rfl, rfl, g1, g2, q⟩
    · refine .inr ⟨ρ, G, φ, π', v0, .ref a, sr, e1, hv, p1, ?_⟩
      refine hy σ H _ ρ G φ d sr e2 fun y yd => ?_
      exact ⟨a, u, rfl, step_dct h1 hl yd sr.gh h2 h3, q⟩)
/-! ### expressions that only look -/
def tPx (K : PySem.W.Frag) (p : Px) : TE := fun σ H Q => ∃ ρ G φ d, SR K G H ρ σ φ ∧ pkOf ρ p = some (.key d) ∧ ∀ y, DP K G y d → Q y H
def tU (K : PySem.W.Frag) (x : U) : TE := fun σ H Q => ∃ ρ G φ d, SR K G H ρ σ φ ∧ evU ρ x = some d ∧ ∀ v, DP K G v d → Q v H
theorem px_cst {c : PyData} {e : Expr} {v : V} (h : PE X e (tC v)) (hv : ∀ G, DP X.K G v c) : PE X e (tPx X.K (.key c)) := pe_imp h fun σ H Q ⟨ρ, G, φ, d, r, e1, q⟩ => by
  cases e1
  exact q _ (hv G)
theorem px_nm {i : Nat} {e : Expr} (h : PE X e (tVar i)) : PE X e (tPx X.K (.nm i)) := pe_imp h fun σ H Q ⟨ρ, G, φ, d, r, e1, q⟩ => by
  simp only [pkOf] at e1
  cases e2 : slot ρ i with
  | val d' =>
    rw [e2] at e1
    cases e1
    obtain ⟨v, hv, z⟩ := r.at (i := i) (by rw [e2]; exact fun z => nomatch z)
    rw [e2] at z
    exact ⟨v, hv, q v z.1⟩
  | _ => rw [e2] at e1; cases e1
def isKey : Px → Bool
  | .fld _ => false
  | _ => true
theorem isKey_of {p : Px} (h : isKey p = true) (ρ : List S) (q : Pk) (e : pkOf ρ p = some q) : ∃ d, q = .key d := by
  cases p with
  | fld f => cases h
  | key c => cases e; exact ⟨_, rfl⟩
  | nm i =>
    simp only [pkOf] at e
    split at e
    · cases e; exact ⟨_, rfl⟩
    · cases e
theorem pt_px {i : Nat} {r : List Px} {p : Px} {o k : Expr} {pos : Pos} (hu : X.A.units + 70 < cLine) (h : PE X o (tPt X.K i r)) (hk : PE X k (tPx X.K p)) (hs : PlainIx k) (hp : isKey p = true) : PE X (.Subscript o k pos) (tPt X.K i (p :: r)) :=
  pt_key hu h hk hs (fun σ H Q ρ G φ d sr e q => ⟨ρ, G, φ, d, sr, e, q⟩) (isKey_of hp)
theorem keyOf_some {p : Px} {k : PyData} (h : keyOf ρ p = some k) : pkOf ρ p = some (.key k) := by
  unfold keyOf at h
  split at h
  · rename_i d e
    cases h
    exact e
  · cases h
theorem opIx_ok {x y : V} {d k d' : PyData} (gh : Same G H) (hx : DP K G x d) (hy : DP K G y k) (h : opIx d k = some d') (q : ∀ v, DP K G v d' → Q v H) : rIx K x y H Q := by
  unfold opIx at h
  split at h
  · cases hx with
    | lst h1 h2 =>
      cases hy
      obtain ⟨w, h3, h4⟩ := h2.atI h
      exact .inl ⟨_, _, _, w, rfl, rfl, gh.seq h1, h3, q w h4⟩
  · cases hx with
    | tup h1 h2 =>
      cases hy
      obtain ⟨w, h3, h4⟩ := h2.atI h
      exact .inr (.inl ⟨_, _, _, w, rfl, rfl, .inl (.inl (gh _ _ h1)), h3, q w h4⟩)
  · cases hx
    cases hy
    split at h
    · rename_i hz
      cases e : L2.atI (Str.cps _).toList _ with
      | none => rw [e] at h; cases h
      | some c =>
        rw [e] at h
        cases h
        exact .inr (.inr ⟨_, _, c, rfl, rfl, of_decide_eq_true hz, e, q _ (.str _)⟩)
    · cases h
  · cases h
theorem keyT_eq {p : PyData} {ks k : List Key} (h : keyT (.tuple (ks.map kD)) = some k) : ks = k := by
  simp only [keyT, keysL_kD, Option.some.injEq] at h
  exact h
theorem DTs.look {kv : List (List Key × V)} {ds : List (PyData × PyData)} {k : List Key} (h : DTs K G kv ds) : (∃ v d, lookT ds k = some d ∧ valV kv k = some v ∧ DP K G v d) ∨ (lookT ds k = none ∧ valV kv k = none) := by
  unfold lookT valV
  induction kv generalizing ds with
  | nil => cases h; exact .inr ⟨rfl, rfl⟩
  | cons p kv ih =>
    cases h with
    | @cons k1 v1 _ d1 ds1 hx hr =>
      rw [List.find?_cons, List.find?_cons]
      have e : decide (keyT (PyData.tuple (k1.map kD)) = some k) = decide (k1 = k) := by simp only [keyT, keysL_kD, Option.some.injEq]
      simp only [e]
      by_cases z : k1 = k
      · simp only [decide_eq_true z]
        exact .inl ⟨v1, d1, rfl, rfl, hx⟩
      · simp only [decide_eq_false z]
        exact ih hr
theorem DKs.look {kv : List (Key × V)} {ds : List (PyData × PyData)} {k : Key} (h : DKs K G kv ds) : (∃ v d, lookK ds k = some d ∧ valV kv k = some v ∧ DP K G v d) ∨ (lookK ds k = none ∧ valV kv k = none) := by
  unfold lookK valV
  induction kv generalizing ds with
  | nil => cases h; exact .inr ⟨rfl, rfl⟩
  | cons p kv ih =>
    cases h with
    | @cons k1 v1 _ d1 ds1 hx hr =>
      rw [List.find?_cons, List.find?_cons]
      have e : decide (keyD (kD k1) = some k) = decide (k1 = k) := by simp only [keyD_kD, Option.some.injEq]
      simp only [e]
      by_cases z : k1 = k
      · simp only [decide_eq_true z]
        exact .inl ⟨v1, d1, rfl, rfl, hx⟩
      · simp only [decide_eq_false z]
        exact ih hr
/-- an item of what stands somewhere -/
def isSq : S → Bool
  | .val _ => true
  | .lst _ => true
  | _ => false
theorem itemS_sq {s : S} {u y : V} {g : List Addr} {k d : PyData} (gh : Same G H) (hq : isSq s = true) (hs : RelS K G H s u g) (hy : DP K G y k) (h : itemS s k = some d) (q : ∀ v, DP K G v d → Q v H) : rIx K u y H Q := by
  cases s with
  | val e => exact opIx_ok gh hs.1 hy h q
  | lst xs =>
    obtain ⟨a, vs, rfl, hH, hd, _⟩ := hs
    cases k with
    | int i =>
      cases hy
      obtain ⟨w, h3, h4⟩ := hd.atI h
      exact .inl ⟨_, _, _, w, rfl, rfl, .inl (.inl hH), h3, q w h4⟩
    | _ => simp [itemS] at h
  | _ => cases hq
theorem itemS_d {s : S} {u y : V} {g : List Addr} {k d : PyData} (gh : Same G H) (hq : isSq s = false) (hs : RelS K G H s u g) (hy : DP K G y k) (h : itemS s k = some d) (q : ∀ v, DP K G v d → Q v H) : ∃ a v, u = .ref a ∧ DGet H a y (some v) ∧ Q v H := by
  cases s with
  | dct kvs =>
    obtain ⟨a, rfl, _, kv, hH, hd⟩ := hs
    simp only [itemS] at h
    split at h
    · rename_i kk _ e1 _
      obtain ⟨rfl, _⟩ := keyD_val e1 hy
      rcases hd.look (k := kk) with ⟨v, d', g1, g2, g3⟩ | ⟨g1, _⟩
      · rw [g1] at h
        cases h
        refine ⟨a, v, rfl, ?_, q v g3⟩
        rw [← g2]
        exact .k hH
      · rw [g1] at h; cases h
    · cases h
  | dtt kvs =>
    obtain ⟨a, rfl, _, kv, hH, hd⟩ := hs
    simp only [itemS] at h
    split at h
    · rename_i kk e1
      cases k with
      | tuple ds =>
        cases hy with
        | tup g1 g2 =>
          obtain ⟨rfl, _⟩ := keysL_dps g2 e1
          rcases hd.look (k := kk) with ⟨v, d', z1, z2, z3⟩ | ⟨z1, _⟩
          · rw [z1] at h
            cases h
            refine ⟨a, v, rfl, ?_, q v z3⟩
            rw [← z2]
            exact .t hH (gh _ _ g1)
          · rw [z1] at h; cases h
      | _ => cases e1
    · cases h
  | box b fs => simp [itemS] at h
  | dead => simp [itemS] at h
  | val _ => cases hq
  | lst _ => cases hq
theorem u_get0 {i : Nat} {π : List Px} {e : Expr} (h : PE X e (tPt X.K i π)) : PE X e (tU X.K (.get i π [])) := pe_imp h fun σ H Q ⟨ρ, G, φ, d, r, e1, q⟩ => by
  simp only [evU, below] at e1
  cases e2 : atP' ρ i π with
  | val d' =>
    rw [e2] at e1
    cases e1
    obtain ⟨π', v0, u, g, p1, p2, p3, p4, _, _⟩ := r.place (i := i) (rπ := π) (by rw [e2]; exact fun z => nomatch z)
    rw [e2] at p4
    exact ⟨ρ, G, φ, π', v0, u, r, p1, p2, p3, q u p4.1⟩
  | _ => rw [e2] at e1; cases e1
theorem u_get1 {i : Nat} {π : List Px} {p : Px} {o k : Expr} {pos : Pos} (hu : X.A.units + 70 < cLine) (h : PE X o (tPt X.K i π)) (hk : PE X k (tPx X.K p)) (hs : PlainIx k) : PE X (.Subscript o k pos) (tU X.K (.get i π [p])) :=
  pe_imp (pe_alt (pe_ix ix_seq h hk hs) (pe_dget (by omega) h hk hs)) (fun σ H Q ⟨ρ, G, φ, d, r, e1, q⟩ => by
    simp only [evU, below] at e1
    cases e2 : keyOf ρ p with
    | none => rw [e2] at e1; cases e1
    | some kd =>
      rw [e2] at e1
      simp only at e1
      have nd : atP' ρ i π ≠ .dead := fun z => by rw [z] at e1; simp [itemS] at e1
      obtain ⟨π', v0, u, g, p1, p2, p3, p4, _, _⟩ := r.place nd
      cases sq : isSq (atP' ρ i π) with
      | true => exact .inl ⟨ρ, G, φ, π', v0, u, r, p1, p2, p3, ρ, G, φ, kd, r, keyOf_some e2, fun y hy => itemS_sq r.gh sq p4 hy e1 q⟩
      | false => exact .inr ⟨ρ, G, φ, π', v0, u, r, p1, p2, p3, ρ, G, φ, kd, r, keyOf_some e2, fun y hy => itemS_d r.gh sq p4 hy e1 q⟩)
theorem u_get2 {i : Nat} {π : List Px} {p p' : Px} {ks : List Px} {o k : Expr} {pos : Pos} (h : PE X o (tU X.K (.get i π (p' :: ks)))) (hk : PE X k (tPx X.K p)) (hs : PlainIx k) : PE X (.Subscript o k pos) (tU X.K (.get i π (p :: p' :: ks))) :=
  pe_imp (pe_ix ix_seq h hk hs) (fun σ H Q ⟨ρ, G, φ, d, r, e1, q⟩ => by
    simp only [evU, below] at e1
    cases e2 : below ρ (atP' ρ i π) (p' :: ks) with
    | none => rw [e2] at e1; cases e1
    | some d0 =>
      cases e3 : keyOf ρ p with
      | none => rw [e3] at e1; simp at e1
      | some kd =>
        have e4 : opIx d0 kd = some d := by
          rw [e2, e3] at e1
          exact e1
        exact ⟨ρ, G, φ, d0, r, by simp only [evU]; exact e2, fun x hx => ⟨ρ, G, φ, kd, r, keyOf_some e3, fun y hy => opIx_ok r.gh hx hy e4 q⟩⟩)
theorem u_nm {i : Nat} {e : Expr} (h : PE X e (tVar i)) : PE X e (tU X.K (.nm i)) := pe_imp h fun σ H Q ⟨ρ, G, φ, d, r, e1, q⟩ => by
  simp only [evU] at e1
  cases e2 : slot ρ i with
  | val d' =>
    rw [e2] at e1
    cases e1
    obtain ⟨v, hv, z⟩ := r.at (i := i) (by rw [e2]; exact fun z => nomatch z)
    rw [e2] at z
    exact ⟨v, hv, q v z.1⟩
  | _ => rw [e2] at e1; cases e1
theorem u_cst {d : PyData} {e : Expr} {v : V} (h : PE X e (tC v)) (hv : ∀ G, DP X.K G v d) : PE X e (tU X.K (.cst d)) := pe_imp h fun σ H Q ⟨ρ, G, φ, d', r, e1, q⟩ => by
  simp only [evU] at e1
  split at e1
  · cases e1
    exact q _ (hv G)
  · cases e1
theorem u_op {f : Int → Int → Int} {op : Operator} {x : U} {a b : U} {l r : Expr} {pos : Pos} (hop : OpR X (binaryOp op) (rI0 fun i j => .int (f i j))) (ha : PE X l (tU X.K a)) (hb : PE X r (tU X.K b))
    (hx : ∀ ρ d, evU ρ x = some d → ∃ i j, evU ρ a = some (.int i) ∧ evU ρ b = some (.int j) ∧ d = .int (f i j)) : PE X (.BinOp l op r pos) (tU X.K x) :=
  pe_imp (pe_op hop ha hb) (fun σ H Q ⟨ρ, G, φ, d, r, e1, q⟩ => by
    obtain ⟨i, j, h1, h2, rfl⟩ := hx ρ d e1
    refine ⟨ρ, G, φ, _, r, h1, fun x hx => ⟨ρ, G, φ, _, r, h2, fun y hy => ?_⟩⟩
    cases hx
    cases hy
    exact ⟨i, j, rfl, rfl, q _ (.int _)⟩)
theorem u_add {a b : U} {l r : Expr} {pos : Pos} (ha : PE X l (tU X.K a)) (hb : PE X r (tU X.K b)) : PE X (.BinOp l .Add r pos) (tU X.K (.add a b)) := u_op (f := fun i j => i + j) op_add ha hb fun ρ d h => by
  simp only [evU] at h
  split at h
  · cases h
    exact ⟨_, _, by assumption, by assumption, rfl⟩
  · cases h
theorem u_sub {a b : U} {l r : Expr} {pos : Pos} (ha : PE X l (tU X.K a)) (hb : PE X r (tU X.K b)) : PE X (.BinOp l .Sub r pos) (tU X.K (.sub a b)) := u_op (f := fun i j => i - j) op_sub ha hb fun ρ d h => by
  simp only [evU] at h
  split at h
  · cases h
    exact ⟨_, _, by assumption, by assumption, rfl⟩
  · cases h
/-- the operand of len -/
theorem u_len {i : Nat} {π : List Px} {o : Expr} {p pos : Pos} {x : Str} (h : PE X o (tPt X.K i π)) (hl : ∀ (t : TA), PA X [o] t → PE X (.Call (.Name x p) [o] [] pos) (tCB (fun xs H Q => ∃ a ws, xs = [.ref a] ∧ (SqL X.K H a ws ∨ SqT X.K H a ws) ∧ Q (.int ws.length) H) t)) (hs : starEach [o] X.env = [(false, eval o X.env)]) :
    PE X (.Call (.Name x p) [o] [] pos) (tU X.K (.len i π)) :=
  pe_imp (hl _ (pa_cons h pa_nil hs)) (fun σ H Q ⟨ρ, G, φ, d, r, e1, q⟩ => by
    simp only [evU] at e1
    cases e2 : atP' ρ i π with
    | lst xs =>
      rw [e2] at e1
      simp only at e1
      split at e1
      · cases e1
        obtain ⟨π', v0, u, g, p1, p2, p3, p4, _, _⟩ := r.place (i := i) (rπ := π) (by rw [e2]; exact fun z => nomatch z)
        rw [e2] at p4
        obtain ⟨a, vs, rfl, hH, hd, _⟩ := p4
        refine ⟨ρ, G, φ, π', v0, _, r, p1, p2, p3, a, vs, rfl, .inl (.inl (.inl hH)), ?_⟩
        rw [hd.length]
        exact q _ (.int _)
      · cases e1
    | _ => rw [e2] at e1; cases e1)
theorem u_inDt {i : Nat} {π : List Px} {k : U} {σ : L2.St} {H : Hp} {Q : VK}   : tU K (.inD k i π) σ H Q → tDIn (tU K k) (tPt K i π) σ H Q := (fun ⟨ρ, G, φ, d, r, e1, q⟩ => by
    simp only [evU] at e1
    cases ek : evU ρ k with
    | none => rw [ek] at e1; simp at e1
    | some kd =>
      rw [ek] at e1
      cases e2 : atP' ρ i π with
      | dtt kvs =>
        rw [e2] at e1
        simp only at e1
        split at e1
        · rename_i kk hkk
          cases e1
          obtain ⟨π', v0, u, g, p1, p2, p3, p4, _, _⟩ := r.place (i := i) (rπ := π) (by rw [e2]; exact fun z => nomatch z)
          rw [e2] at p4
          obtain ⟨a, rfl, _, kv, hH, hd⟩ := p4
          refine ⟨ρ, G, φ, kd, r, ek, fun y hy => ⟨ρ, G, φ, π', v0, _, r, p1, p2, p3, a, valV kv kk, rfl, ?_, ?_⟩⟩
          · cases kd with
            | tuple ds =>
              cases hy with
              | tup g1 g2 =>
                obtain ⟨rfl, _⟩ := keysL_dps g2 hkk
                exact .t hH (r.gh _ _ g1)
            | _ => cases hkk
          · have eb : (valV kv kk).isSome = (lookT kvs kk).isSome := by
              rcases hd.look (k := kk) with ⟨v, d', z1, z2, _⟩ | ⟨z1, z2⟩ <;> rw [z1, z2] <;> rfl
            rw [eb]
            exact q _ (.bl _)
        · cases e1
      | dct kvs =>
        rw [e2] at e1
        simp only at e1
        split at e1
        · rename_i kk hkk
          cases e1
          obtain ⟨π', v0, u, g, p1, p2, p3, p4, _, _⟩ := r.place (i := i) (rπ := π) (by rw [e2]; exact fun z => nomatch z)
          rw [e2] at p4
          obtain ⟨a, rfl, _, kv, hH, hd⟩ := p4
          refine ⟨ρ, G, φ, kd, r, ek, fun y hy => ⟨ρ, G, φ, π', v0, _, r, p1, p2, p3, a, valV kv kk, rfl, ?_, ?_⟩⟩
          · obtain ⟨rfl, _⟩ := keyD_val hkk hy
            exact .k hH
          · have eb : (valV kv kk).isSome = (lookK kvs kk).isSome := by
              rcases hd.look (k := kk) with ⟨v, d', z1, z2, _⟩ | ⟨z1, z2⟩ <;> rw [z1, z2] <;> rfl
            rw [eb]
            exact q _ (.bl _)
        · cases e1
      | _ => rw [e2] at e1; simp at e1)
theorem u_inD {i : Nat} {π : List Px} {k : U} {e o : Expr} {pos : Pos} (hu : X.A.units + 70 < cLine) (hk : PE X e (tU X.K k)) (h : PE X o (tPt X.K i π)) (hb : behindInMarks .In o = false) : PE X (.Compare e [.In] [o] pos) (tU X.K (.inD k i π)) :=
  pe_imp (pe_cmp (pc_din (by omega) hk h) hb) fun σ H Q q => u_inDt q
theorem ut_inD {i : Nat} {π : List Px} {k : U} {e o : Expr} {pos : Pos} (hu : X.A.units + 70 < cLine) (hk : PE X e (tU X.K k)) (h : PE X o (tPt X.K i π)) (hb : behindInMarks .In o = false) : PT X (.Compare e [.In] [o] pos) (tB (tU X.K (.inD k i π))) := by
  have q := pt_cmp (pos := pos) (pc_din (by omega) hk h) hb
  exact ⟨fun pins s σ H Q I z => q.run pins s σ H Q I (u_inDt z)⟩
theorem u_dget {i : Nat} {π : List Px} {k z : U} {e f o : Expr} {apos cpos : Pos} (hu : X.A.units + 70 < cLine) (hk : PE X e (tU X.K k)) (hz : PE X f (tU X.K z)) (h : PE X o (tPt X.K i π)) (m : M2 X o "get" apos e f cpos) : PE X (.Call (.Attribute o "get" apos) [e, f] [] cpos) (tU X.K (.dget i π k z)) :=
  pe_imp (pe_dget2 (by omega) h hk hz m) (fun σ H Q ⟨ρ, G, φ, d, r, e1, q⟩ => by
    simp only [evU] at e1
    cases ek : evU ρ k with
    | none => rw [ek] at e1; simp at e1
    | some kd =>
      cases ez : evU ρ z with
      | none => rw [ek, ez] at e1; simp at e1
      | some zd =>
        rw [ek, ez] at e1
        cases e2 : atP' ρ i π with
        | dtt kvs =>
          rw [e2] at e1
          simp only at e1
          split at e1
          · rename_i kk hkk
            cases e1
            obtain ⟨π', v0, u, g, p1, p2, p3, p4, _, _⟩ := r.place (i := i) (rπ := π) (by rw [e2]; exact fun z => nomatch z)
            rw [e2] at p4
            obtain ⟨a, rfl, _, kv, hH, hd⟩ := p4
            refine ⟨ρ, G, φ, π', v0, _, r, p1, p2, p3, a, rfl, .inr ⟨kv, .inl hH⟩, ρ, G, φ, kd, r, ek, fun y hy => ⟨ρ, G, φ, zd, r, ez, fun w hw => ⟨valV kv kk, ?_, ?_⟩⟩⟩
            · cases kd with
              | tuple ds =>
                cases hy with
                | tup g1 g2 =>
                  obtain ⟨rfl, _⟩ := keysL_dps g2 hkk
                  exact .t hH (r.gh _ _ g1)
              | _ => cases hkk
            · rcases hd.look (k := kk) with ⟨v, d', z1, z2, z3⟩ | ⟨z1, z2⟩
              · rw [z2]
                refine q v ?_
                rw [z1]
                exact z3
              · rw [z2]
                refine q w ?_
                rw [z1]
                exact hw
          · cases e1
        | dct kvs =>
          rw [e2] at e1
          simp only at e1
          split at e1
          · rename_i kk hkk
            cases e1
            obtain ⟨π', v0, u, g, p1, p2, p3, p4, _, _⟩ := r.place (i := i) (rπ := π) (by rw [e2]; exact fun z => nomatch z)
            rw [e2] at p4
            obtain ⟨a, rfl, _, kv, hH, hd⟩ := p4
            refine ⟨ρ, G, φ, π', v0, _, r, p1, p2, p3, a, rfl, .inl ⟨kv, .inl hH⟩, ρ, G, φ, kd, r, ek, fun y hy => ⟨ρ, G, φ, zd, r, ez, fun w hw => ⟨valV kv kk, ?_, ?_⟩⟩⟩
            · obtain ⟨rfl, _⟩ := keyD_val hkk hy
              exact .k hH
            · rcases hd.look (k := kk) with ⟨v, d', z1, z2, z3⟩ | ⟨z1, z2⟩
              · rw [z2]
                refine q v ?_
                rw [z1]
                exact z3
              · rw [z2]
                refine q w ?_
                rw [z1]
                exact hw
          · cases e1
        | _ => rw [e2] at e1; simp at e1)
end
end
end VE

/-! VR: places written; methods of lists at places. -/
namespace VE
open PySem L2 PySem.Spec PyProof.Rows
section
variable {K : PySem.W.Frag} {xr : XR} {W : WX} {Φ : Fns} {σ : L2.St} {G H G' H' : Hp} {φ φ' : Nat → List Addr} {ρ : List S} {Q : VK}
/-- what stands at a place is replaced by a step on it alone; T: what is handed over -/
theorem SR.modZ {i : Nat} {rπ : List Px} (r : SR K G H ρ σ φ) (h : atP' ρ i rπ ≠ .dead) :
    ∃ π v0 u g, pthR ρ rπ = some π ∧ σ[i]? = some (some v0) ∧ Ptr K H v0 π u ∧ RelS K G H (atP' ρ i rπ) u g ∧ (∀ a ∈ g, a ∈ φ i) ∧
      ∀ {G' H' : Hp} {T Z : Addr → Prop} {t : S} {g' : List Addr}, Stp G H (fun a => a ∈ g ∨ T a) G' H' (fun a => a ∈ g' ∨ Z a) → Same G' H' → (∀ a, T a → ¬ own φ a ∧ H a ≠ none) → RelS K G' H' t u g' → (∀ a ∈ g', G' a = none) →
        ∃ φ', SR K G' H' (putP ρ i rπ t) σ φ' ∧ Stp G H (fun a => own φ a ∨ T a) G' H' (fun a => own φ' a ∨ Z a) ∧ ∀ a, own φ' a → (own φ a ∧ a ∉ g) ∨ a ∈ g' := by
  have h0 := h
  unfold atP' at h
  unfold atP' putP
  cases e : pthR ρ rπ with
  | none => rw [e] at h; exact absurd rfl h
  | some π =>
    rw [e] at h
    simp only at h ⊢
    have nd : slot ρ i ≠ .dead := fun z => by
      rw [z] at h
      cases π with
      | nil => exact h rfl
      | cons k π => exact h rfl
    obtain ⟨v, hv, q⟩ := r.at nd
    obtain ⟨u, g, p1, p2, p3, p4⟩ := q.focus π h
    refine ⟨π, v, u, g, rfl, hv, p1, p2, p3, fun {G' H' T Z t g'} st gh hT rt gn => ?_⟩
    have og : ∀ a, a ∈ g → own φ a := fun a z => ⟨i, p3 a z⟩
    have hF : ∀ j a, a ∈ φ j → a ∉ g → ¬ (a ∈ g ∨ T a) := fun j a ha hn z => z.elim hn fun y => (hT a y).1 ⟨j, ha⟩
    have sub : ∀ a, a ∈ g' → own φ a → a ∈ g := fun a ha ho => by
      rcases st.sub a (.inl ha) with (y | y) | y
      · exact y
      · exact absurd ho (hT a y).1
      · obtain ⟨o, z⟩ := r.here ho
        rw [y] at z; cases z
    obtain ⟨f', m1, m2, m3⟩ := p4 st.gg (fun a ha hn o ho => st.keep a o ho (hF i a ha hn)) rt fun a ha hi => sub a ha ⟨i, hi⟩
    refine ⟨upf φ i f', ⟨by rw [List.length_set]; exact r.len, gh, fun j => ?_, fun j k a hj hk => ?_, fun j a hj => ?_⟩, ⟨st.gg, fun a o ho hn => st.keep a o ho fun z => hn (z.imp (og a) id), fun a z => ?_, fun a z z' => ?_, st.there⟩, fun a z => ?_⟩
    · by_cases ej : j = i
      · subst ej
        rw [upf_same]
        refine .inr ⟨v, hv, ?_⟩
        have hl : j < ρ.length := slot_lt nd
        rw [slot_set, if_pos ⟨rfl, hl⟩]
        exact m1
      · rw [upf_ne ej, slot_set_ne (Ne.symm ej)]
        rcases r.rel j with z | ⟨w, e1, z⟩
        · exact .inl z
        · refine .inr ⟨w, e1, z.mono st.gg fun a ha o ho => st.keep a o ho (hF j a ha fun y => ?_)⟩
          exact ej (r.dj j i a ha (p3 a y))
    · have out : ∀ {j a}, j ≠ i → a ∈ φ j → a ∉ f' := fun {j a} hji ha z => by
        rcases (m3 a).mp z with ⟨y, _⟩ | y
        · exact hji (r.dj j i a ha y)
        · exact hji (r.dj j i a ha (p3 a (sub a y ⟨j, ha⟩)))
      by_cases ej : j = i
      · by_cases ek : k = i
        · rw [ej, ek]
        · rw [ej, upf_same] at hj
          rw [upf_ne ek] at hk
          exact absurd hj (out ek hk)
      · by_cases ek : k = i
        · rw [ek, upf_same] at hk
          rw [upf_ne ej] at hj
          exact absurd hk (out ej hj)
        · rw [upf_ne ej] at hj
          rw [upf_ne ek] at hk
          exact r.dj j k a hj hk
    · have keepn : ∀ {j a}, a ∈ φ j → a ∉ g → G' a = none := fun {j a} ha hn => by
        cases e2 : G' a with
        | none => rfl
        | some o =>
          rcases st.gnew a (r.gn j a ha) (by rw [e2]; exact fun z => nomatch z) with y | y
          · exact absurd y (hF j a ha hn)
          · rcases r.rel j with ⟨_, z⟩ | ⟨w, _, z⟩
            · rw [z] at ha; cases ha
            · exact (z.notNw a ha y).elim
      by_cases ej : j = i
      · rw [ej, upf_same] at hj
        rcases (m3 a).mp hj with ⟨y, hn⟩ | y
        · exact keepn y hn
        · exact gn a y
      · rw [upf_ne ej] at hj
        exact keepn hj fun y => ej (r.dj j i a hj (p3 a y))
    · rcases z with z | z
      · rcases own_upf z with y | y
        · rcases (m3 a).mp y with ⟨y, _⟩ | y
          · exact .inl (.inl ⟨i, y⟩)
          · exact (st.sub a (.inl y)).imp (fun y => y.imp (og a) id) id
        · exact .inl (.inl y)
      · exact (st.sub a (.inr z)).imp (fun y => y.imp (og a) id) id
    · exact (st.gnew a z z').imp (fun y => y.imp (og a) id) id
    · obtain ⟨j, hj⟩ := z
      by_cases ej : j = i
      · rw [ej, upf_same] at hj
        exact ((m3 a).mp hj).imp (fun y => ⟨⟨i, y.1⟩, y.2⟩) id
      · rw [upf_ne ej] at hj
        exact .inl ⟨⟨j, hj⟩, fun y => ej (r.dj j i a hj (p3 a y))⟩
theorem SR.modP {i : Nat} {rπ : List Px} (r : SR K G H ρ σ φ) (h : atP' ρ i rπ ≠ .dead) :
    ∃ π v0 u g, pthR ρ rπ = some π ∧ σ[i]? = some (some v0) ∧ Ptr K H v0 π u ∧ RelS K G H (atP' ρ i rπ) u g ∧ (∀ a ∈ g, a ∈ φ i) ∧
      ∀ {G' H' : Hp} {T : Addr → Prop} {t : S} {g' : List Addr}, Stp G H (fun a => a ∈ g ∨ T a) G' H' (fun a => a ∈ g') → Same G' H' → (∀ a, T a → ¬ own φ a ∧ H a ≠ none) → RelS K G' H' t u g' → (∀ a ∈ g', G' a = none) →
        ∃ φ', SR K G' H' (putP ρ i rπ t) σ φ' ∧ Stp G H (fun a => own φ a ∨ T a) G' H' (own φ') := by
  obtain ⟨π, v0, u, g, p1, p2, p3, p4, p5, pm⟩ := r.modZ h
  refine ⟨π, v0, u, g, p1, p2, p3, p4, p5, fun {G' H' T t g'} st gh hT rt gn => ?_⟩
  obtain ⟨φ', q1, q2, _⟩ := pm (T := T) (Z := fun _ => False) (st.weak fun a z => z.elim id fun y => y.elim) gh hT rt gn
  exact ⟨φ', q1, q2.weak fun a z => .inl z⟩
/-- .. by a write to the place's own object -/
theorem Stp.at {a : Addr} {o : HO} {T : Addr → Prop} : Stp G H (fun b => b ∈ [a] ∨ T b) G (upd H a o) (fun b => b ∈ [a]) :=
  (Stp.wr (T := fun b => b ∈ [a] ∨ T b) (.inl (List.mem_singleton.mpr rfl))).weak fun b z => .inl z
theorem same_at {a : Addr} {o : HO} (gh : Same G H) (gn : G a = none) : Same G (upd H a o) := fun b u e => by
  rw [upd_ne fun z => by rw [z, gn] at e; cases e]
  exact gh b u e
/-! ### methods of a list at a place -/
def rMg (K : PySem.W.Frag) (m : Mut) : V → List V → Hp → VK → Prop := fun x ys H Q =>
  ∃ G a vs xs ds d zs, x = .ref a ∧ H a = some (.lst vs) ∧ DPs K G vs xs ∧ DPs K G ys ds ∧ opMut m xs ds = some (d, zs) ∧ ∀ v ws, DP K G v d → DPs K G ws zs → Q v (upd H a (.lst ws))
theorem mutG_ok {X : Cx} (m : Mut) : MtR X (mutN m) (rMg X.K m) := by
  intro pins s σ' H x ys v us Q I rx rs h
  obtain ⟨G, a, vs, xs, ds, d, zs, rfl, hH, hd, hy, e, h⟩ := h
  unfold opMut at e
  split at e
  · split at e
    · rename_i hlt
      cases e
      cases hy with
      | cons h1 h2 =>
        cases h2
        exact mt_append pins s σ' H _ _ v us Q I rx rs ⟨a, vs, _, rfl, rfl, hH, by rw [hd.length]; exact of_decide_eq_true hlt, h _ _ .non (hd.app (.cons h1 .nil))⟩
    · cases e
  · rename_i j
    split at e
    · rename_i d k e1 e2
      cases e
      cases hy with
      | cons h1 h2 =>
        cases h2
        cases h1
        obtain ⟨q1, q2, q3, q4⟩ := ixN_seq e2
        have hz := (I.lstM hH).1
        have hsl := line63
        have hxl := hd.length
        unfold L2.atI at e1
        rw [e2] at e1
        obtain ⟨w, hw, hwd⟩ := hd.get (show xs[k]? = some d from e1)
        exact mt_popAt pins s σ' H _ _ v us Q I rx rs ⟨a, vs, j, k, w, rfl, rfl, hH, by omega, by omega, by rw [hxl]; exact q1, hw, h _ _ hwd (hd.erase k)⟩
    · cases e
  · split at e
    · rename_i d e1
      cases e
      cases hy
      have ne : xs ≠ [] := fun z => by rw [z] at e1; cases e1
      have e3 : xs[xs.length - 1]? = some d := by rw [← List.getLast?_eq_getElem?]; exact e1
      obtain ⟨w, hw, hwd⟩ := hd.get e3
      have hdl : DPs X.K G vs.dropLast xs.dropLast := by
        rw [List.dropLast_eq_take, List.dropLast_eq_take, hd.length]
        exact hd.take _
      exact mt_pop pins s σ' H _ _ v us Q I rx rs ⟨a, vs, w, rfl, rfl, hH, by rw [hd.length]; exact hw, h _ _ hwd hdl⟩
    · cases e
  · cases e
    cases hy
    exact mt_reverse pins s σ' H _ _ v us Q I rx rs ⟨a, vs, rfl, rfl, hH, h _ _ .non hd.rev⟩
  · rename_i k
    split at e
    · rename_i ns hn
      split at e
      · rename_i hlt
        have hlt := of_decide_eq_true hlt
        cases e
        cases hy with
        | cons h1 h2 =>
          cases h2
          cases h1
          rw [allInts_map hn] at hd
          obtain rfl := hd.ints
          refine mt_remove pins s σ' H _ _ v us Q I rx rs ⟨a, ns, k, ns.idxOf k, rfl, rfl, hH, ?_, fun m hm z => ?_, h .non _ .non (DPs.ofInts _)⟩
          · rw [List.getElem?_eq_getElem hlt, List.getElem_idxOf hlt]
          · obtain ⟨hml, z'⟩ := List.getElem?_eq_some_iff.mp z
            have y := List.not_of_lt_findIdx (p := fun x => x == k) (xs := ns) (i := m) hm
            rw [z'] at y
            simp at y
      · cases e
    · cases e
  · cases e
/-- operands that only look -/
def tUs (K : PySem.W.Frag) (xs : List U) : TA := fun σ H Q => ∃ ρ G φ ds, SR K G H ρ σ φ ∧ evUs ρ xs = some ds ∧ ∀ vs, DPs K G vs ds → Q vs H
theorem pa_imp {X : Cx} {es : List Expr} {t t' : TA} (h : PA X es t) (i : ∀ σ H Q, t' σ H Q → t σ H Q) : PA X es t' := ⟨fun pos pins s σ H Q I q => h.run pos pins s σ H Q I (i σ H Q q)⟩
theorem us_nil {X : Cx} : PA X [] (tUs X.K []) := pa_imp pa_nil fun σ H Q ⟨ρ, G, φ, ds, r, e, q⟩ => by
  cases e
  exact q [] .nil
theorem us_cons {X : Cx} {x : U} {xs : List U} {e : Expr} {es : List Expr} (h : PE X e (tU X.K x)) (hs : PA X es (tUs X.K xs)) (st : starEach (e :: es) X.env = (false, eval e X.env) :: starEach es X.env) : PA X (e :: es) (tUs X.K (x :: xs)) :=
  pa_imp (pa_cons h hs st) fun σ H Q ⟨ρ, G, φ, ds, r, e1, q⟩ => by
    simp only [evUs] at e1
    split at e1
    · rename_i d dr h1 h2
      cases e1
      exact ⟨ρ, G, φ, d, r, h1, fun v hv => ⟨ρ, G, φ, dr, r, h2, fun vs hvs => q _ (.cons hv hvs)⟩⟩
    · cases e1
theorem mutP_ok {m : Mut} {i : Nat} {π : List Px} {xs : List U} (r : SR K G H ρ σ φ) (h : PoE K xr W σ G H φ (evE Φ (.mutP m i π xs) ρ) Q) : tBM K "list" (rMg K m) (tPt K i π) (tUs K xs) σ H Q := by
  rw [evE] at h
  cases e1 : atP' ρ i π with
  | lst ys =>
    rw [e1] at h
    cases e2 : evUs ρ xs with
    | none => rw [e2] at h; exact h.elim
    | some ds =>
      rw [e2] at h
      cases e3 : opMut m ys ds with
      | none => simp only [e3] at h; exact h.elim
      | some p =>
        obtain ⟨d, zs⟩ := p
        simp only [e3] at h
        obtain ⟨π', v0, u, g, p1, p2, p3, p4, p5, pm⟩ := r.modP (i := i) (rπ := π) (by rw [e1]; exact fun z => nomatch z)
        rw [e1] at p4
        obtain ⟨a, vs, rfl, hH, hd, rfl⟩ := p4
        have oa : own φ a := ⟨i, p5 a (List.mem_singleton.mpr rfl)⟩
        refine ⟨ρ, G, φ, π', v0, .ref a, r, p1, p2, p3, .inl ⟨rfl, vs, .inl (.inl hH)⟩, ρ, G, φ, ds, r, e2, fun ws hw => ⟨G, a, vs, ys, ds, d, zs, rfl, hH, hd, hw, e3, fun v us hv hu => ?_⟩⟩
        obtain ⟨φ', r', st'⟩ := pm (T := fun _ => False) (t := .lst zs) (g' := [a]) (Stp.at (o := .lst us)) (same_at r.gh (r.gno oa)) (fun _ z => z.elim) ⟨a, us, rfl, upd_same, hu, rfl⟩ fun b hb => by
          obtain rfl := List.mem_singleton.mp hb
          exact r.gno oa
        refine h v G _ φ' [] ?_ r' ⟨⟨hv, rfl⟩, (fun _ z => nomatch z), fun _ z => nomatch z⟩
        exact ⟨st'.gg, fun b o ho hn => st'.keep b o ho fun z => z.elim hn id, fun b z => (st'.sub b (z.elim id fun y => nomatch y)).imp (fun y => y.elim id fun y => y.elim) id, fun b z z' => (st'.gnew b z z').imp (fun y => y.elim id fun y => y.elim) id, st'.there⟩
  | _ => rw [e1] at h; exact h.elim
end
end VE

/-! VC: methods and instances. -/
namespace VE
open PySem L2 PySem.Spec PyProof.Rows
section
variable {K : PySem.W.Frag} {xr : XR} {W : WX} {Φ : Fns} {σ : L2.St} {G H G' H' : Hp} {φ φ' : Nat → List Addr} {ρ : List S} {Q : VK}
theorem SR.vals (gh : Same G H) : ∀ {ds : List PyData} {vs : List V}, DPs K G vs ds → SR K G H (ds.map S.val) (vs.map some) (fun _ => [])
  | _, _, .nil => ⟨rfl, gh, fun _ => .inl ⟨rfl, rfl⟩, (fun _ _ _ h => nomatch h), fun _ _ h => nomatch h⟩
  | _, _, .cons (ds := ds) h r => by
    have q := (SR.vals gh r).cons (s := .val _) (f := []) ⟨⟨h, rfl⟩, (fun _ z => nomatch z), fun _ z => nomatch z⟩
    have e : consF ([] : List Addr) (fun _ => []) = fun _ => [] := by
      funext i
      cases i <;> rfl
    rw [e] at q
    exact q
theorem own_nil {a : Addr} : ¬ own (fun _ => []) a := fun ⟨_, h⟩ => nomatch h
theorem own_consN {f : List Addr} {a : Addr} : own (consF f (fun _ => [])) a ↔ a ∈ f := own_consF.trans ⟨fun h => h.elim id fun z => (own_nil z).elim, .inl⟩
theorem DPs.len {vs : List V} {ds : List PyData} (h : DPs K G vs ds) : vs.length = ds.length := h.length
theorem evUs_len : ∀ {xs : List U} {ds : List PyData}, evUs ρ xs = some ds → ds.length = xs.length
  | [], _, h => by cases h; rfl
  | x :: r, ds, h => by
    simp only [evUs] at h
    split at h
    · rename_i e1 e2
      cases h
      rw [List.length_cons, List.length_cons, evUs_len e2]
    · cases h
theorem look_none {m : Str} : ∀ {ns : List Str} {vs : List V}, m ∉ ns → (ns.zip vs).lookup m = none
  | [], _, _ => rfl
  | n :: ns, [], _ => rfl
  | n :: ns, v :: vs, h => by
    rw [List.zip_cons_cons, List.lookup_cons]
    have z : (m == n) = false := beq_false_of_ne fun e => h (by rw [e]; exact List.mem_cons_self)
    rw [z]
    exact look_none fun y => h (List.mem_cons_of_mem _ y)
theorem ins_of {c m : Str} {s : S} {v : V} {g : List Addr} {C : Addr} (h : isObj c m s = true) (r : RelS K G H s v g) (hC : PySem.W.nsIn K mainGlobals c = some (some (.ref C))) : ∃ a dx fs, v = .ref a ∧ H a = some (.ins C dx fs) ∧ Cls K C ∧ fs.lookup m = none := by
  cases s with
  | box b fs =>
    cases b with
    | obj c' ns =>
      simp only [isObj, Bool.and_eq_true, decide_eq_true_eq, Bool.not_eq_true'] at h
      obtain ⟨rfl, hm⟩ := h
      obtain ⟨a, vs, gs, ex, rfl, ⟨C', dx, ⟨o1, o2, _⟩, h1, _, _, hl, _⟩, _⟩ := r
      rw [hC] at o1
      cases o1
      refine ⟨a, dx, _, rfl, h1, o2, ?_⟩
      have hn : m ∉ ns := fun z => by
        rw [List.contains_iff_mem.mpr z] at hm
        cases hm
      exact look_none hn
    | _ => cases h
  | _ => cases h
/-- the reading of a method's call -/
def tMethG (C : Addr) (m : Str) (sp : Sp) (E : L2.St → XK) (ta : TE) (t : TA) : TE := fun σ H Q => ta σ H fun x H1 => ∃ a dx fs, x = .ref a ∧ H1 a = some (.ins C dx fs) ∧ fs.lookup m = none ∧ t σ H1 fun vs H2 => sp (x :: vs) H2 Q (E σ)
def tMakeG (C : Addr) (sp : Sp) (E : L2.St → XK) (t : TA) : TE := fun σ H Q => t σ H fun vs H1 => ∀ x dx, H1 x = none → H1 dx = none → dx ≠ x →
  sp (.ref x :: vs) (upd (upd H1 dx (.own x)) x (.ins C dx [])) (fun v H2 => v = .non ∧ Q (.ref x) H2) (E σ)
/-- a method of the object at a place -/
theorem callP_ok {c m : Str} {f i : Nat} {π : List Px} {xs : List U} {C : Addr} (hC : PySem.W.nsIn K mainGlobals c = some (some (.ref C))) (r : SR K G H ρ σ φ) (h : PoE K xr W σ G H φ (evE Φ (.callP c m f i π xs) ρ) Q) :
    tMethG C m (spOf K xr (xs.length + 1) (Φ.fn f)) (fun σ => WEx W σ) (tPt K i π) (tUs K xs) σ H Q := by
  rw [evE] at h
  cases e1 : evUs ρ xs with
  | none => rw [e1] at h; exact h.elim
  | some ds =>
    rw [e1] at h
    cases e2 : isObj c m (atP' ρ i π) with
    | false => rw [e2] at h; exact h.elim
    | true =>
      rw [e2] at h
      simp only at h
      have nd : atP' ρ i π ≠ .dead := fun z => by rw [z] at e2; cases e2
      obtain ⟨π', v0, u, g, p1, p2, p3, p4, p5, pm⟩ := r.modZ nd
      obtain ⟨a, dx, fs, rfl, k1, k2, k3⟩ := ins_of e2 p4 hC
      have hl := evUs_len e1
      refine ⟨ρ, G, φ, π', v0, .ref a, r, p1, p2, p3, a, dx, fs, rfl, k1, k3, ρ, G, φ, ds, r, e1, fun vs hv => ?_⟩
      have rs : SR K G H (atP' ρ i π :: ds.map S.val) ((V.ref a :: vs).map some) (consF g (fun _ => [])) := (SR.vals r.gh hv).cons ⟨p4, fun b hb => r.gno ⟨i, p5 b hb⟩, fun _ _ => own_nil⟩
      refine ⟨by rw [List.length_cons, hv.length, hl], _, G, _, by rw [List.length_cons, List.length_map, hl], rs, ?_⟩
      -- behind the call
      have lift : ∀ {G2 H2 : Hp} {φ2 : Nat → List Addr} {f2 : List Addr} {gs : List S}, Stp G H (own (consF g (fun _ => []))) G2 H2 (fun b => own φ2 b ∨ b ∈ f2) → SR K G2 H2 gs ((V.ref a :: vs).map some) φ2 → (∀ b ∈ f2, ¬ own φ2 b) →
          ∃ φ3, Stp G H (own φ) G2 H2 (fun b => own φ3 b ∨ b ∈ f2) ∧ SR K G2 H2 (putP ρ i π (slot gs 0)) σ φ3 ∧ ∀ b ∈ f2, ¬ own φ3 b := by
        intro G2 H2 φ2 f2 gs s2 r2 hf
        have st : Stp G H (fun b => b ∈ g ∨ False) G2 H2 (fun b => b ∈ φ2 0 ∨ b ∈ f2) := ⟨s2.gg, fun b o ho hn => s2.keep b o ho fun z => hn (.inl (own_consN.mp z)), fun b z => (s2.sub b (z.imp (fun y => ⟨0, y⟩) id)).imp (fun y => .inl (own_consN.mp y)) id, fun b z z' => (s2.gnew b z z').imp (fun y => .inl (own_consN.mp y)) id, s2.there⟩
        have ro : RelS K G2 H2 (slot gs 0) (.ref a) (φ2 0) := by
          rcases r2.rel 0 with ⟨y, z⟩ | ⟨w, hw, y⟩
          · rw [y, z]; rfl
          · cases hw; exact y
        obtain ⟨φ3, q1, q2, q3⟩ := pm (T := fun _ => False) (Z := fun b => b ∈ f2) st r2.gh (fun _ z => z.elim) ro fun b hb => r2.gn 0 b hb
        refine ⟨φ3, ⟨q2.gg, fun b o ho hn => q2.keep b o ho fun z => z.elim hn id, fun b z => (q2.sub b z).imp (fun y => y.elim id fun y => y.elim) id, fun b z z' => (q2.gnew b z z').imp (fun y => y.elim id fun y => y.elim) id, q2.there⟩, q1, fun b hb z => ?_⟩
        rcases q3 b z with ⟨y1, y2⟩ | y
        · rcases s2.sub b (.inr hb) with w | w
          · exact y2 (own_consN.mp w)
          · obtain ⟨o, ho⟩ := r.here y1
            rw [w] at ho; cases ho
        · exact hf b hb ⟨0, y⟩
      cases e3 : Φ.fn f (atP' ρ i π :: ds.map S.val) with
      | stk => rw [e3] at h; exact h.elim
      | ok s gs =>
        rw [e3] at h
        intro v G2 H2 φ2 f2 s2 r2 t2
        obtain ⟨φ3, s3, r3, h3⟩ := lift s2 r2 t2.off
        exact h v G2 H2 φ3 f2 s3 r3 ⟨t2.rel, t2.gn, h3⟩
      | exc k d gs =>
        rw [e3] at h
        intro G2 H2 φ2 cls dd s2 r2 x
        obtain ⟨φ3, s3, r3, _⟩ := lift (f2 := []) (s2.weak fun b z => z.elim id fun y => nomatch y) r2 fun _ z => nomatch z
        exact h G2 H2 φ3 cls dd (s3.weak fun _ z => .inl z) r3 x
/-- what a call of data and one thing handed over leaves -/
theorem lift1 {G2 H2 : Hp} {φs φ2 : Nat → List Addr} {g f2 : List Addr} {gs : List S} {τ : L2.St} (r : SR K G H ρ σ φ) (og : ∀ b, own φs b → b ∈ g) (off : ∀ b ∈ g, ¬ own φ b) (s2 : Stp G H (own φs) G2 H2 (fun b => own φ2 b ∨ b ∈ f2)) (r2 : SR K G2 H2 gs τ φ2) :
    Stp G H (fun b => own φ b ∨ b ∈ g) G2 H2 (fun b => own φ b ∨ (own φ2 b ∨ b ∈ f2)) ∧ SR K G2 H2 ρ σ φ ∧ ∀ b, (own φ2 b ∨ b ∈ f2) → ¬ own φ b := by
  have offs : ∀ b, own φ b → ¬ own φs b := fun b z y => off b (og b y) z
  have r' := r.step s2 r2.gh offs
  have fr := s2.frame (T := own φ) fun b z => ⟨offs b z, by
    obtain ⟨o, e⟩ := r.here z
    rw [e]; exact fun y => nomatch y⟩
  refine ⟨⟨fr.gg, fun b o ho hn => fr.keep b o ho fun z => hn (z.elim (fun y => .inr (og b y)) .inl), fun b z => (fr.sub b (z.elim .inr .inl)).imp (fun y => y.elim (fun y => .inr (og b y)) .inl) id, fun b z z' => (fr.gnew b z z').imp (fun y => y.elim (fun y => .inr (og b y)) .inl) id, fr.there⟩, r', fun b z y => ?_⟩
  rcases s2.sub b z with w | w
  · exact offs b y w
  · obtain ⟨o, e⟩ := r.here y
    rw [w] at e; cases e
theorem meth_ok {c m : Str} {f : Nat} {x : E} {xs : List U} {C : Addr} (hC : PySem.W.nsIn K mainGlobals c = some (some (.ref C))) (r : SR K G H ρ σ φ) (h : PoE K xr W σ G H φ (evE Φ (.meth c m f x xs) ρ) Q) :
    tMethG C m (spOf K xr (xs.length + 1) (Φ.fn f)) (fun σ => WEx W σ) (tE K xr W (evE Φ x)) (tUs K xs) σ H Q := by
  rw [evE] at h
  refine ⟨ρ, G, φ, r, ?_⟩
  cases e0 : evE Φ x ρ with
  | stk => rw [e0] at h; exact h
  | exc _ _ _ => rw [e0] at h; exact h
  | ok s ρ1 =>
    rw [e0] at h
    simp only [R.bnd_ok] at h
    intro v G1 H1 φ1 g st1 r1 t1
    cases e1 : evUs ρ1 xs with
    | none => rw [e1] at h; exact h.elim
    | some ds =>
      rw [e1] at h
      cases e2 : isObj c m s with
      | false => rw [e2] at h; exact h.elim
      | true =>
        rw [e2] at h
        simp only at h
        obtain ⟨a, dx, fs, rfl, k1, k2, k3⟩ := ins_of e2 t1.rel hC
        have hl := evUs_len e1
        refine ⟨a, dx, fs, rfl, k1, k3, ρ1, G1, φ1, ds, r1, e1, fun vs hv => ?_⟩
        have rs : SR K G1 H1 (s :: ds.map S.val) ((V.ref a :: vs).map some) (consF g (fun _ => [])) := (SR.vals r1.gh hv).cons ⟨t1.rel, t1.gn, fun _ _ => own_nil⟩
        refine ⟨by rw [List.length_cons, hv.length, hl], _, G1, _, by rw [List.length_cons, List.length_map, hl], rs, ?_⟩
        cases e3 : Φ.fn f (s :: ds.map S.val) with
        | stk => rw [e3] at h; exact h.elim
        | ok s gs =>
          rw [e3] at h
          intro v G2 H2 φ2 f2 s2 r2 t2
          obtain ⟨s3, r3, h3⟩ := lift1 r1 (fun b z => own_consN.mp z) t1.off s2 r2
          exact h v G2 H2 φ1 f2 ((st1.trans s3).weak fun b z => z.imp id .inr) r3 ⟨t2.rel, t2.gn, fun b hb => h3 b (.inr hb)⟩
        | exc k d gs =>
          rw [e3] at h
          intro G2 H2 φ2 cls dd s2 r2 x
          obtain ⟨s3, r3, h3⟩ := lift1 (f2 := []) r1 (fun b z => own_consN.mp z) t1.off (s2.weak fun b z => z.elim id fun y => nomatch y) r2
          exact h G2 H2 φ1 cls dd ((st1.trans s3).weak fun b z => .inl z) r3 x
theorem make_ok {c : Str} {f : Nat} {xs : List U} {C : Addr} (hC : ObjC K c C) (r : SR K G H ρ σ φ) (h : PoE K xr W σ G H φ (evE Φ (.make c f xs) ρ) Q) :
    tMakeG C (spOf K xr (xs.length + 1) (Φ.fn f)) (fun σ => WEx W σ) (tUs K xs) σ H Q := by
  rw [evE] at h
  cases e1 : evUs ρ xs with
  | none => rw [e1] at h; exact h.elim
  | some ds =>
    rw [e1] at h
    simp only at h
    have hl := evUs_len e1
    refine ⟨ρ, G, φ, ds, r, e1, fun vs hv x dx hx hdx hne => ?_⟩
    have hx2 : (upd H dx (.own x)) x = none := by rw [upd_ne (Ne.symm hne)]; exact hx
    have r1 : SR K G (upd (upd H dx (.own x)) x (.ins C dx [])) ρ σ φ := (r.newH hdx).newH hx2
    have st1 : Stp G H (own φ) G (upd (upd H dx (.own x)) x (.ins C dx [])) (fun b => own φ b ∨ b ∈ [x, dx]) := ((Stp.newH (o := .own x) hdx).trans (Stp.newH (o := .ins C dx []) hx2)).weak fun b z => by
      rcases z with z | z
      · exact .inl (.inl z)
      · rcases List.mem_cons.mp z with z | z
        · exact .inr z
        · exact .inl (.inr (List.mem_singleton.mp z))
    have off : ∀ b ∈ [x, dx], ¬ own φ b := fun b hb z => by
      obtain ⟨o, e⟩ := r.here z
      rcases List.mem_cons.mp hb with rfl | hb
      · rw [hx] at e; cases e
      · obtain rfl := List.mem_singleton.mp hb
        rw [hdx] at e; cases e
    have gnew : ∀ b ∈ [x, dx], G b = none := fun b hb => by
      rcases List.mem_cons.mp hb with rfl | hb
      · exact r.gh.free hx
      · obtain rfl := List.mem_singleton.mp hb
        exact r.gh.free hdx
    have ro : RelS K G (upd (upd H dx (.own x)) x (.ins C dx [])) (.box (.obj c []) []) (.ref x) [x, dx] := by
      refine ⟨x, [], [], [dx], rfl, ⟨C, dx, hC, upd_same, by rw [upd_ne hne]; exact upd_same, rfl, rfl, by decide⟩, ⟨rfl, rfl⟩, rfl, ?_⟩
      simp [Ne.symm hne]
    have rs : SR K G (upd (upd H dx (.own x)) x (.ins C dx [])) (.box (.obj c []) [] :: ds.map S.val) ((V.ref x :: vs).map some) (consF [x, dx] (fun _ => [])) := (SR.vals r1.gh hv).cons ⟨ro, gnew, fun _ _ => own_nil⟩
    refine ⟨by rw [List.length_cons, hv.length, hl], _, G, _, by rw [List.length_cons, List.length_map, hl], rs, ?_⟩
    cases e3 : Φ.fn f (.box (.obj c []) [] :: ds.map S.val) with
    | stk => rw [e3] at h; exact h.elim
    | ok s gs =>
      rw [e3] at h
      intro v G2 H2 φ2 f2 s2 r2 t2
      split at h
      · rename_i e
        cases e
        have hv0 := t2.rel.1
        cases hv0
        refine ⟨rfl, ?_⟩
        obtain ⟨s3, r3, h3⟩ := lift1 r1 (fun b z => own_consN.mp z) off s2 r2
        have rr : RelS K G2 H2 (slot gs 0) (.ref x) (φ2 0) := by
          rcases r2.rel 0 with ⟨y, z⟩ | ⟨w, hw, y⟩
          · rw [y, z]; rfl
          · cases hw; exact y
        exact h (.ref x) G2 H2 φ (φ2 0) ((st1.trans s3).weak fun b z => z.imp id fun y => .inl ⟨0, y⟩) r3 ⟨rr, fun b hb => r2.gn 0 b hb, fun b hb => h3 b (.inl ⟨0, hb⟩)⟩
      · rename_i e; cases e
      · exact h.elim
    | exc k d gs =>
      rw [e3] at h
      intro G2 H2 φ2 cls dd s2 r2 x
      obtain ⟨s3, r3, h3⟩ := lift1 (f2 := []) r1 (fun b z => own_consN.mp z) off (s2.weak fun b z => z.elim id fun y => nomatch y) r2
      exact h G2 H2 φ cls dd ((st1.trans s3).weak fun b z => .inl z) r3 x
end
section
variable {X : Cx} {CX : CXT} {k : Nat} {f C : Addr} {fd : FuncData} {ps : List Str} {sp : Sp} {E : L2.St → XK} {x m : Str} {p pos apos : Pos} {o e : Expr} {es : List Expr} {ta : TE} {t : TA}
/-- o.m(..) of an instance -/
theorem pe_methG {pl : Sem Bool} (he : PE X o ta) (c : Cls X.K C) (hm : Meth X.K C m f) (F : FnG X.prog X.w X.K X.mg X.base CX k f fd ps sp) (hr : Room k X.A) (hgd : X.A.guards = some []) (hb : Binds X.K fd ps []) (hx : ∀ σ, PassesAt CX X σ (E σ)) (ha : PA X (e :: es) t)
    (hst : starEach (e :: es) X.env = (false, eval e X.env) :: starEach es X.env) (hpl : (backTo pos (starEach es X.env)).any (·.1) = false)
    (ht : eval (.Call (.Attribute o m apos) (e :: es) [] pos) X.env = (do
      let ov ← eval o X.env
      standAt apos.atName
      let (f, first) ← holding [ov] (getMethod ov m pl)
      callWith pos f first (backTo pos (starEach (e :: es) X.env)) (backToKw pos (keywordEach [] X.env)))) :
    PE X (.Call (.Attribute o m apos) (e :: es) [] pos) (tMethG C m sp E ta t) := by
  refine ⟨fun pins s σ H Q I h => ?_⟩
  refine PySem.W.methodCall_KW (pl := pl) (wpAny_mono (he.run pins s σ H _ I h) (fun u s1 ⟨x, H1, I1, rx, a, dx, fs, ex, ea, l, q⟩ => ?_) fun _ _ z => z) ht
  subst ex
  obtain rfl : u = Value.ref a := rx
  refine getmeth_ok I1 ea c hm l ?_
  refine PySem.W.callWith_K (first := [.ref a]) (h₀ := X.base) I.ok.mod.kin hm.kp (wpAny_mono (ha.run pos pins s1 σ H1 _ I1 q) (fun us s2 ⟨vs, H2, I2, r, q2⟩ => ⟨I2.kIn, ?_⟩) fun _ _ z => z) hst hpl
  exact F.at (us := .ref a :: us) (vs := .ref a :: vs) hr hgd hb (hx σ) I2 (.cons rfl r) q2
theorem pe_methG0 {pl : Sem Bool} (he : PE X o ta) (c : Cls X.K C) (hm : Meth X.K C m f) (F : FnG X.prog X.w X.K X.mg X.base CX k f fd ps sp) (hr : Room k X.A) (hgd : X.A.guards = some []) (hb : Binds X.K fd ps []) (hx : ∀ σ, PassesAt CX X σ (E σ)) (ha : PA X [] t)
    (ht : eval (.Call (.Attribute o m apos) [] [] pos) X.env = (do
      let ov ← eval o X.env
      standAt apos.atName
      let (f, first) ← holding [ov] (getMethod ov m pl)
      callWith pos f first (backTo pos (starEach [] X.env)) (backToKw pos (keywordEach [] X.env)))) (hn : ∀ σ H (Q : List V → Hp → Prop), t σ H Q → Q [] H) :
    PE X (.Call (.Attribute o m apos) [] [] pos) (tMethG C m sp E ta t) := by
  refine ⟨fun pins s σ H Q I h => ?_⟩
  refine PySem.W.methodCall_KW (pl := pl) (wpAny_mono (he.run pins s σ H _ I h) (fun u s1 ⟨x, H1, I1, rx, a, dx, fs, ex, ea, l, q⟩ => ?_) fun _ _ z => z) ht
  subst ex
  obtain rfl : u = Value.ref a := rx
  refine getmeth_ok I1 ea c hm l ?_
  exact PySem.W.callWith_K0 (first := [.ref a]) I1.kIn hm.kp (F.at (us := [.ref a]) (vs := [.ref a]) hr hgd hb (hx σ) I1 (.cons rfl .nil) (hn _ _ _ q))
theorem FnG.make {pins : List (Addr × Obj)} {σ : L2.St} {H : Hp} {s : Shared} {Q : VK} {us : List Value} {vs : List V} (M : Mk X.K C f) (F : FnG X.prog X.w X.K X.mg X.base CX k f fd ps sp) (hr : Room (k + 1) X.A) (hgd : X.A.guards = some []) (hb : Binds X.K fd ps []) (hx : PassesAt CX X σ (E σ))
    (I : L2.Inv X pins σ H s) (r : Vals vs us)
    (h : ∀ x dx, H x = none → H dx = none → dx ≠ x → sp (.ref x :: vs) (upd (upd H dx (.own x)) x (.ins C dx [])) (fun v H2 => v = .non ∧ Q (.ref x) H2) (E σ)) :
    wpAny (model X.prog X.w) X.A (call (.ref C) us) (EP X pins σ Q) X.xe s := by
  have hq := h (s.heap.objs.size + 1) s.heap.objs.size (I.hok.fresh (Nat.le_succ _)) (I.hok.fresh (Nat.le_refl _)) (Nat.ne_of_lt (Nat.lt_succ_self _))
  have I2 := Inv.made (C := C) I
  have r2 : Vals (V.ref (s.heap.objs.size + 1) :: vs) (Value.ref (s.heap.objs.size + 1) :: us) := .cons rfl r
  have hl : (Value.ref (s.heap.objs.size + 1) :: us).length = ps.length := by
    have e := r2.length
    rw [F.len _ _ _ _ hq] at e
    exact e.symm
  have bt := hb _ (Value.ref (s.heap.objs.size + 1) :: us) I2.kIn (by simpa using hl)
  simp only [List.append_nil] at bt
  refine wpAny_call (make_map (f := f) I.kIn M.makes M.init (beq_iff_eq.mp M.fn) (codeAny_mono (F.go _ X.stack _ _ ⟨Value.ref (s.heap.objs.size + 1) :: us, []⟩ (Value.ref (s.heap.objs.size + 1) :: us) _ _ (E σ) (hr.make C us [])
    (by show (X.A.under (.builtin "type.__call__" ⟨.ref C :: us, []⟩)).guards = some []; rw [← hgd]; first | rfl | simp [Around.under, Code.isGuard, Code.isCreation, guardIds]) (I2.env0.make C us []) bt r2 hq) fun r s' hq' => ?_))
  cases r with
  | error e => exact hx pins _ _ e s' I2 hq'
  | ok fl =>
    cases fl with
    | ret u =>
      obtain ⟨v, H', I3, rv, ev, q3⟩ := I2.after hq'
      subst ev
      exact ⟨rv, ⟨V.ref (s.heap.objs.size + 1), H', I3, rfl, q3⟩⟩
    | next => exact False.elim hq'
    | brk => exact False.elim hq'
    | cont => exact False.elim hq'
theorem pe_makeG (M : Mk X.K C f) (F : FnG X.prog X.w X.K X.mg X.base CX k f fd ps sp) (hr : Room (k + 1) X.A) (hgd : X.A.guards = some []) (hg : Gl X x) (hm : X.mg x = some (.ref C)) (hb : Binds X.K fd ps []) (hx : ∀ σ, PassesAt CX X σ (E σ))
    (ha : PA X (e :: es) t) (hdb : (x == ("__debug__" : Str)) = false) (he : starEach (e :: es) X.env = (false, eval e X.env) :: starEach es X.env) (hpl : (backTo pos (starEach es X.env)).any (·.1) = false) :
    PE X (.Call (.Name x p) (e :: es) [] pos) (tMakeG C sp E t) := by
  refine ⟨fun pins s σ H Q I h => ?_⟩
  refine wpAny_Call_Name_kw (ld_glob I hg hm ?_ hdb)
  refine PySem.W.callWith_K (h₀ := X.base) I.ok.mod.kin M.kp (wpAny_mono (ha.run pos pins s σ H _ I h) (fun us s1 ⟨vs, H1, I1, r, q⟩ => ⟨I1.kIn, ?_⟩) fun _ _ z => z) he hpl
  exact FnG.make (E := E) M F hr hgd hb (hx σ) I1 r q
end
end VE

/-! VB: a dict of constant keys that owns its values. -/
namespace VE
open PySem L2 PySem.Spec PyProof.Rows
section
variable {K : PySem.W.Frag} {xr : XR} {W : WX} {Φ : Fns} {σ : L2.St} {G H G' H' G0 H0 : Hp} {φ φ' φ0 : Nat → List Addr} {ρ : List S} {Q : VK}
/-- an empty dict and values on the way -/
structure HD (K : PySem.W.Frag) (G H : Hp) (φ : Nat → List Addr) (p : Addr) (ss : List S) (vs : List V) (gs : List (List Addr)) : Prop where
  hp : H p = some (.dK [])
  rel : RelSs K G H ss vs gs
  nd : (p :: gs.flatten).Nodup
  gn : ∀ a ∈ p :: gs.flatten, G a = none
  off : ∀ a ∈ p :: gs.flatten, ¬ own φ a
variable {p : Addr} {ss : List S} {vs : List V} {gs : List (List Addr)}
theorem HD.here (h : HD K G H φ p ss vs gs) : ∀ a ∈ p :: gs.flatten, ∃ o, H a = some o ∧ ∀ xs, o ≠ .tup xs := fun a ha => by
  rcases List.mem_cons.mp ha with rfl | ha
  · exact ⟨_, h.hp, fun _ z => nomatch z⟩
  · obtain ⟨g, hg, ha⟩ := List.mem_flatten.mp ha
    exact h.rel.hereT g hg a ha
theorem HD.step {F' : Addr → Prop} (h : HD K G H φ p ss vs gs) (st : Stp G H (own φ) G' H' F') (hF : ∀ a, own φ' a → F' a) : HD K G' H' φ' p ss vs gs ∧ ∀ a ∈ p :: gs.flatten, ¬ F' a := by
  have nF : ∀ a ∈ p :: gs.flatten, ¬ F' a := fun a ha z => by
    rcases st.sub a z with y | y
    · exact h.off a ha y
    · obtain ⟨o, e, _⟩ := h.here a ha
      rw [y] at e; cases e
  refine ⟨⟨st.keep p _ h.hp (h.off p List.mem_cons_self), h.rel.mono st.gg fun g hg a ha o ho => st.keep a o ho (h.off a (List.mem_cons_of_mem _ (List.mem_flatten.mpr ⟨g, hg, ha⟩))), h.nd, fun a ha => ?_, fun a ha z => nF a ha (hF a z)⟩, nF⟩
  cases e : G' a with
  | none => rfl
  | some o =>
    rcases st.gnew a (h.gn a ha) (by rw [e]; exact fun z => nomatch z) with y | y
    · exact absurd y (h.off a ha)
    · obtain ⟨o, e, n⟩ := h.here a ha
      rcases y with y | ⟨xs, y⟩
      · rw [y] at e; cases e
      · rw [y] at e; cases e; exact absurd rfl (n xs)
/-- one more value -/
theorem HD.snoc {s : S} {v : V} {f : List Addr} (h : HD K G H φ p ss vs gs) (t : Tmp K G H s v f φ) (off : ∀ a ∈ f, a ∉ p :: gs.flatten) : HD K G H φ p (ss ++ [s]) (vs ++ [v]) (gs ++ [f]) := by
  have e : ∀ a, a ∈ p :: (gs ++ [f]).flatten ↔ a ∈ p :: gs.flatten ∨ a ∈ f := fun a => by simp [or_assoc]
  refine ⟨h.hp, ?_, ?_, fun a ha => ((e a).mp ha).elim (h.gn a) (t.gn a), fun a ha => ((e a).mp ha).elim (h.off a) (t.off a)⟩
  · clear e off
    have : ∀ (ss : List S) (vs : List V) (gs : List (List Addr)), RelSs K G H ss vs gs → RelSs K G H (ss ++ [s]) (vs ++ [v]) (gs ++ [f]) := by
      intro ss
      induction ss with
      | nil =>
        intro vs gs r
        simp only [RelSs] at r
        rw [r.1, r.2]
        exact ⟨v, [], f, [], rfl, rfl, t.rel, rfl, rfl⟩
      | cons s ss ih =>
        intro vs gs r
        simp only [RelSs] at r
        obtain ⟨v', vs', g', gs', rfl, rfl, h1, h2⟩ := r
        exact ⟨v', vs' ++ [v], g', gs' ++ [f], rfl, rfl, h1, ih _ _ h2⟩
    exact this _ _ _ h.rel
  · have nd := h.nd
    rw [show p :: (gs ++ [f]).flatten = (p :: gs.flatten) ++ f by simp]
    rw [List.nodup_append]
    refine ⟨nd, t.rel.nodup, fun a ha b hb z => ?_⟩
    subst z
    exact off a hb ha
def finB (K0 : List Key) (ss : List S) (ρ : List S) : R S := if decide (K0.length = ss.length) && decide K0.Nodup then .ok (.box (.dK K0) ss) ρ else .stk
def trsOf (K : PySem.W.Frag) (xr : XR) (W : WX) (Φ : Fns) : List Key → List E → List (TE × TE)
  | k :: ks, x :: xs => (tC (kV k), tE K xr W (evE Φ x)) :: trsOf K xr W Φ ks xs
  | _, _ => []
theorem zip_snoc {α β : Type} {xs : List α} {ys : List β} {x : α} {y : β} (h : xs.length = ys.length) : (xs ++ [x]).zip (ys ++ [y]) = xs.zip ys ++ [(x, y)] := by
  induction xs generalizing ys with
  | nil => cases ys with
    | nil => rfl
    | cons _ _ => cases h
  | cons a xs ih => cases ys with
    | nil => cases h
    | cons b ys => rw [List.cons_append, List.cons_append, List.zip_cons_cons, List.zip_cons_cons, ih (Nat.succ.inj h)]; rfl
theorem boxd_go (W : WX) {K0 : List Key} (h15 : K0.length ≤ 15) : ∀ (ks : List Key) (xs : List E) (ks0 : List Key) {ρ : List S} {G H : Hp} {φ : Nat → List Addr} {ss : List S} {vs : List V} {gs : List (List Addr)} {Q' : List (V × V) → Hp → Prop}, K0 = ks0 ++ ks → ks.length = xs.length → ks0.length = vs.length →
    HD K G H φ p ss vs gs → SR K G H ρ σ φ → Stp G0 H0 (own φ0) G H (fun a => own φ a ∨ a ∈ p :: gs.flatten) → PoE K xr W σ G0 H0 φ0 ((evEs Φ xs ρ).bnd fun ss' ρ' => finB K0 (ss ++ ss') ρ') Q →
    (∀ ps H2, (H2 p = some (.dK []) ∧ ∃ kvs : List (Key × V), (ks0.zip vs).map (fun kv => (kV kv.1, kv.2)) ++ ps = kvs.map (fun kv => (kV kv.1, kv.2)) ∧ kvs.length ≤ 15 ∧ Q (.ref p) (upd H2 p (.dK (mergeK [] kvs)))) → Q' ps H2) →
    tPairs (trsOf K xr W Φ ks xs) σ H Q'
  | [], [], ks0, ρ, G, H, φ, ss, vs, gs, Q', e0, _, l0, hd, r, st, h, hq => by
    refine hq [] H ⟨hd.hp, ks0.zip vs, by rw [List.append_nil], ?_, ?_⟩
    · rw [List.length_zip]
      rw [e0, List.append_nil] at h15
      omega
    · simp only [evEs, R.bnd_ok, List.append_nil] at h
      unfold finB at h
      split at h
      · rename_i hc
        simp only [Bool.and_eq_true, decide_eq_true_eq] at hc
        rw [e0, List.append_nil] at hc h
        have em : mergeK [] (ks0.zip vs) = ks0.zip vs := by
          rw [merge_new (acc := []) (fun _ _ => rfl)]
          · rfl
          · have : ∀ (ks : List Key) (vs : List V), ks.Nodup → (ks.zip vs).Pairwise (fun p q => ¬ p.1 = q.1) := by
              intro ks
              induction ks with
              | nil => intro vs _; exact List.Pairwise.nil
              | cons k ks ih =>
                intro vs nd
                cases vs with
                | nil => exact List.Pairwise.nil
                | cons v vs =>
                  rw [List.nodup_cons] at nd
                  rw [List.zip_cons_cons]
                  refine List.Pairwise.cons (fun q hq z => nd.1 ?_) (ih vs nd.2)
                  have := (List.of_mem_zip (show (q.1, q.2) ∈ ks.zip vs from hq)).1
                  simp only at z
                  rw [z]; exact this
            exact this ks0 vs hc.2
        rw [em]
        have np : p ∉ gs.flatten := (List.nodup_cons.mp hd.nd).1
        refine h (.ref p) G _ φ (p :: ([] ++ gs.flatten)) ((st.trans (Stp.wr (.inr List.mem_cons_self))).weak fun a z => z) (r.other (hd.off p List.mem_cons_self) (hd.gn p List.mem_cons_self)) ⟨⟨p, vs, gs, [], rfl, ⟨upd_same, rfl, l0⟩, hd.rel.mono (Same.refl G) fun g hg a ha u hu => ?_, rfl, hd.nd⟩, hd.gn, hd.off⟩
        rw [upd_ne fun z => np (by rw [← z]; exact List.mem_flatten.mpr ⟨g, hg, ha⟩)]
        exact hu
      · exact h.elim
  | k :: ks, x :: xs, ks0, ρ, G, H, φ, ss, vs, gs, Q', e0, l, l0, hd, r, st, h, hq => by
    show tC (kV k) σ H _
    have key : tE K xr W (evE Φ x) σ H fun y H2 => tPairs (trsOf K xr W Φ ks xs) σ H2 fun ps H3 => Q' ((kV k, y) :: ps) H3 := by
      refine ⟨ρ, G, φ, r, ?_⟩
      simp only [evEs] at h
      cases ex : evE Φ x ρ with
      | stk => rw [ex] at h; exact h.elim
      | exc c d ρ' =>
        rw [ex] at h
        exact PoX.from h (st.weak fun _ z => .inl z)
      | ok s ρ1 =>
        rw [ex] at h
        simp only [R.bnd_ok] at h
        intro y G1 H1 φ1 f st1 r1 t1
        obtain ⟨hd1, nF⟩ := hd.step st1 (φ' := φ1) fun a z => .inl z
        have hd2 := hd1.snoc t1 fun a ha z => nF a z (.inr ha)
        have fr := st1.frame (T := fun a => a ∈ p :: gs.flatten) fun a ha => ⟨hd.off a ha, by
          obtain ⟨o, e, _⟩ := hd.here a ha
          rw [e]; exact fun z => nomatch z⟩
        refine boxd_go W h15 ks xs (ks0 ++ [k]) (by rw [e0, List.append_assoc]; rfl) (Nat.succ.inj l) (by rw [List.length_append, List.length_append, l0]; rfl) hd2 r1 ((st.trans fr).weak fun a z => ?_) ?_ fun ps H2 ⟨q1, kvs, q2, q3, q4⟩ => hq _ H2 ⟨q1, kvs, ?_, q3, q4⟩
        · rcases z with z | z
          · exact .inl (.inl z)
          · have : a ∈ p :: gs.flatten ∨ a ∈ f := by
              simp only [List.mem_cons, List.flatten_append, List.flatten_cons, List.flatten_nil, List.append_nil, List.mem_append] at z ⊢
              rcases z with z | z | z
              · exact .inl (.inl z)
              · exact .inl (.inr z)
              · exact .inr z
            exact this.elim .inr fun y => .inl (.inr y)
        · cases ey : evEs Φ xs ρ1 with
          | stk => rw [ey] at h; exact h.elim
          | exc c d ρ' => rw [ey] at h; exact h
          | ok ss' ρ2 =>
            rw [ey] at h
            simp only [R.bnd_ok] at h ⊢
            rw [List.append_assoc]
            exact h
        · rw [← q2, zip_snoc l0, List.map_append, List.append_assoc]
          rfl
    exact key
  | [], _ :: _, _, _, _, _, _, _, _, _, _, _, l, _, _, _, _, _, _ => by cases l
  | _ :: _, [], _, _, _, _, _, _, _, _, _, _, l, _, _, _, _, _, _ => by cases l
theorem boxd_ok {ks : List Key} {xs : List E} (hl : ks.length = xs.length) (h15 : ks.length ≤ 15) (r : SR K G H ρ σ φ) (h : PoE K xr W σ G H φ (evE Φ (.boxd ks xs) ρ) Q) : tDisp (trsOf K xr W Φ ks xs) σ H Q := by
  rw [evE] at h
  intro p hp
  have np : ¬ own φ p := fun z => by
    obtain ⟨o, e⟩ := r.here z
    rw [hp] at e; cases e
  refine boxd_go W h15 ks xs [] rfl hl rfl (ss := []) (vs := []) (gs := []) (φ := φ) ⟨upd_same, ⟨rfl, rfl⟩, by simp, fun a ha => ?_, fun a ha => ?_⟩ (r.newH hp) ((Stp.newH hp).weak fun a z => z.imp id fun y => ?_) h fun ps H2 q => q
  · obtain rfl := List.mem_singleton.mp ha
    exact r.gh.free hp
  · obtain rfl := List.mem_singleton.mp ha
    exact np
  · exact List.mem_singleton.mp y
/-! ### a list that owns containers -/
theorem resS_rel (r : SR K G H ρ σ φ) : ∀ {as : List A} {ts : List (Option S)} {vs : List V} {fs : List Addr} {ss : List S}, Ops K G H σ as ts vs fs → resS as ts ρ = some ss → ∃ gs, RelSs K G H ss vs gs ∧ gs.flatten = fs ∧ gs.flatten.Nodup := by
  intro as ts vs fs ss o
  induction o generalizing ss with
  | nil =>
    intro h
    cases h
    exact ⟨[], ⟨rfl, rfl⟩, rfl, List.nodup_nil⟩
  | @cons a as t ts v vs f g o os dj ih =>
    intro h
    obtain ⟨s, ss', rfl, hs, rl⟩ : ∃ s ss', ss = s :: ss' ∧ resS as ts ρ = some ss' ∧ RelS K G H s v f := by
      cases a with
      | pl i =>
        obtain ⟨rfl, hv⟩ := o
        rw [resS] at h
        split at h
        · rename_i d ds e1 e2
          cases h
          obtain ⟨w, hw, q⟩ := r.at (i := i) (by rw [e1]; exact fun z => nomatch z)
          rw [hv] at hw
          cases hw
          rw [e1] at q
          exact ⟨_, _, rfl, e2, q.1, rfl⟩
        · cases h
      | e x =>
        obtain ⟨s, rfl, q⟩ := o
        rw [resS] at h
        split at h
        · rename_i ds e2
          cases h
          exact ⟨_, _, rfl, e2, q⟩
        · cases h
    obtain ⟨gs, r2, e2, n2⟩ := ih hs
    refine ⟨f :: gs, ⟨v, vs, f, gs, rfl, rfl, rl, r2⟩, by rw [List.flatten_cons, e2], ?_⟩
    rw [List.flatten_cons, List.nodup_append]
    refine ⟨rl.nodup, n2, fun x hx y hy z => ?_⟩
    subst z
    rw [e2] at hy
    exact dj x hx hy
theorem boxl_ok {as : List A} (r : SR K G H ρ σ φ) (h : PoE K xr W σ G H φ (evE Φ (.boxl as) ρ) Q) : tLst (tAs K xr W Φ as) σ H Q := by
  rw [evE] at h
  refine opsE0 r h fun ts ρ' vs G' H' φ' fs r' o hf q st => ?_
  split at q
  · rename_i ss hs
    split at q
    · rename_i hz
      obtain ⟨gs, rs, efs, nd⟩ := resS_rel r' o hs
      have hl := rs.len
      refine ⟨by rw [hl.1]; exact of_decide_eq_true hz, fun p hp => ?_⟩
      have here : ∀ a ∈ fs, ∃ u, H' a = some u := fun a ha => by
        rw [← efs] at ha
        obtain ⟨g, hg, ha⟩ := List.mem_flatten.mp ha
        obtain ⟨u, hu, _⟩ := rs.hereT g hg a ha
        exact ⟨u, hu⟩
      have pn : p ∉ fs := fun z => by
        obtain ⟨u, hu⟩ := here p z
        rw [hp] at hu; cases hu
      have fr := (Stp.newH (G := G') (H := H') (F := own φ') (o := HO.lst vs) hp).frame (T := fun a => a ∈ fs) fun a ha => ⟨(hf a ha).2, by
        obtain ⟨u, hu⟩ := here a ha
        rw [hu]; exact fun z => nomatch z⟩
      refine q (.ref p) G' _ φ' (p :: ([] ++ gs.flatten)) ((st.trans fr).weak fun a z => ?_) (r'.newH hp) ⟨⟨p, vs, gs, [], rfl, ⟨upd_same, rfl⟩, rs.mono (Same.refl G') fun g hg a ha u hu => Same.upd_new hp a u hu, rfl, ?_⟩, fun a ha => ?_, fun a ha z => ?_⟩
      · rcases z with z | z
        · exact .inl (.inl z)
        · rcases List.mem_cons.mp z with z | z
          · exact .inl (.inr z)
          · exact .inr (by rw [← efs]; simpa using z)
      · rw [List.nil_append, List.nodup_cons]
        exact ⟨by rw [efs]; exact pn, nd⟩
      · rcases List.mem_cons.mp ha with rfl | ha
        · exact r'.gh.free hp
        · exact (hf a (by rw [← efs]; simpa using ha)).1
      · rcases List.mem_cons.mp ha with rfl | ha
        · obtain ⟨u, hu⟩ := r'.here z
          rw [hp] at hu; cases hu
        · exact (hf a (by rw [← efs]; simpa using ha)).2 z
    · exact q.elim
  · exact q.elim
end
end VE

/-! VG: dicts with int and text keys at a place: pop, min, a display of one pair. -/
namespace VE
open PySem L2 PySem.Spec PyProof.Rows
section
variable {K : PySem.W.Frag} {xr : XR} {W : WX} {Φ : Fns} {σ : L2.St} {G H G' H' : Hp} {φ φ' : Nat → List Addr} {ρ : List S} {Q : VK}
theorem dks_key {K : PySem.W.Frag} {G : Hp} {kv : List (Key × V)} {k0 w : PyData} {l : List (PyData × PyData)} (h : DKs K G kv ((k0, w) :: l)) : ∃ k, k0 = kD k := by
  cases h with
  | cons _ _ => exact ⟨_, rfl⟩
theorem dts_key {K : PySem.W.Frag} {G : Hp} {kv : List (List Key × V)} {k0 w : PyData} {l : List (PyData × PyData)} (h : DTs K G kv ((k0, w) :: l)) : ∃ ks, k0 = .tuple ks := by
  cases h with
  | cons _ _ => exact ⟨_, rfl⟩
theorem DKs.any {kv : List (Key × V)} {ds : List (PyData × PyData)} {k : Key} (h : DKs K G kv ds) : (ds.any fun p => decide (keyD p.1 = some k)) = kv.any fun p => decide (p.1 = k) := by
  induction kv generalizing ds with
  | nil => cases h; rfl
  | cons p kv ih =>
    cases h with
    | cons hx hr =>
      rw [List.any_cons, List.any_cons, ih hr]
      congr 1
      simp only [keyD_kD, Option.some.injEq]
theorem DKs.put {kv : List (Key × V)} {ds : List (PyData × PyData)} {k : Key} {v : V} {d : PyData} (h : DKs K G kv ds) (hv : DP K G v d) : DKs K G (putK kv k v) (putD ds k d) := by
  unfold putK putD
  rw [h.any]
  split
  · rename_i hc
    clear hc
    induction kv generalizing ds with
    | nil => cases h; exact .nil
    | cons p kv ih =>
      cases h with
      | @cons k1 v1 _ d1 ds1 hx hr =>
        rw [List.map_cons, List.map_cons]
        by_cases e : k1 = k
        · rw [if_pos e, if_pos (by simp only [keyD_kD, e])]
          exact .cons hv (ih hr)
        · rw [if_neg e, if_neg (by simp only [keyD_kD, Option.some.injEq]; exact e)]
          exact .cons hx (ih hr)
  · rename_i hc
    clear hc
    induction kv generalizing ds with
    | nil => cases h; rw [kDat_kD]; exact .cons hv .nil
    | cons p kv ih =>
      cases h with
      | cons hx hr => exact .cons hx (ih hr)
theorem DKs.drop {kv : List (Key × V)} {ds : List (PyData × PyData)} {k : Key} (h : DKs K G kv ds) : DKs K G (dropK kv k) (dropD ds k) := by
  unfold dropK dropD
  induction kv generalizing ds with
  | nil => cases h; exact .nil
  | cons p kv ih =>
    cases h with
    | @cons k1 v1 _ d1 ds1 hx hr =>
      rw [List.filter_cons, List.filter_cons]
      by_cases e : k1 = k
      · rw [if_neg (by simp [e]), if_neg (by simp [keyD_kD, e])]
        exact ih hr
      · rw [if_pos (by simp [e]), if_pos (by simp [keyD_kD, e])]
        exact .cons hx (ih hr)
theorem DKs.ints {kv : List (Key × V)} {ds : List (PyData × PyData)} {is : List Int} (h : DKs K G kv ds) (e : keysI ds = some is) : kv.map (·.1) = is.map Sum.inl := by
  induction kv generalizing ds is with
  | nil => cases h; cases e; rfl
  | cons p kv ih =>
    cases h with
    | @cons k1 v1 _ d1 ds1 hx hr =>
      cases k1 with
      | inl i =>
        have e' : (keysI ds1).map (i :: ·) = some is := e
        cases q : keysI ds1 with
        | none => rw [q] at e'; cases e'
        | some js =>
          rw [q] at e'
          cases e'
          rw [List.map_cons, List.map_cons, ih hr q]
      | inr x => cases e
theorem dpop_ok {i : Nat} {π : List Px} {k : U} (r : SR K G H ρ σ φ) (h : PoE K xr W σ G H φ (evE Φ (.dpop i π k) ρ) Q) : tDPop1 (tPt K i π) (tU K k) σ H Q := by
  rw [evE] at h
  cases e1 : atP' ρ i π with
  | dct kvs =>
    rw [e1] at h
    cases e2 : evU ρ k with
    | none => rw [e2] at h; exact h.elim
    | some kd =>
      rw [e2] at h
      simp only at h
      split at h
      · rename_i kk hkk
        split at h
        · rename_i d hd0
          obtain ⟨π', v0, u, g, p1, p2, p3, p4, p5, pm⟩ := r.modP (i := i) (rπ := π) (by rw [e1]; exact fun z => nomatch z)
          rw [e1] at p4
          obtain ⟨a, rfl, rfl, kv, hH, hd⟩ := p4
          have oa : own φ a := ⟨i, p5 a (List.mem_singleton.mpr rfl)⟩
          rcases hd.look (k := kk) with ⟨v, d', z1, z2, z3⟩ | ⟨z1, z2⟩
          · rw [hd0] at z1
            cases z1
            refine ⟨ρ, G, φ, π', v0, .ref a, r, p1, p2, p3, a, rfl, .inl ⟨kv, .inl hH⟩, ρ, G, φ, kd, r, e2, fun y hy => ⟨kv, kk, v, hH, (keyD_val hkk hy).1, z2, ?_⟩⟩
            obtain ⟨φ', r', st'⟩ := pm (T := fun _ => False) (t := .dct (dropD kvs kk)) (g' := [a]) (Stp.at (o := .dK (dropK kv kk))) (same_at r.gh (r.gno oa)) (fun _ z => z.elim) ⟨a, rfl, rfl, _, upd_same, hd.drop⟩ fun b hb => by
              obtain rfl := List.mem_singleton.mp hb
              exact r.gno oa
            refine h v G _ φ' [] ?_ r' ⟨⟨z3, rfl⟩, (fun _ z => nomatch z), fun _ z => nomatch z⟩
            exact ⟨st'.gg, fun b o ho hn => st'.keep b o ho fun z => z.elim hn id, fun b z => (st'.sub b (z.elim id fun y => nomatch y)).imp (fun y => y.elim id fun y => y.elim) id, fun b z z' => (st'.gnew b z z').imp (fun y => y.elim id fun y => y.elim) id, st'.there⟩
          · rw [hd0] at z1
            cases z1
        · exact h.elim
      · exact h.elim
  | _ => rw [e1] at h; exact h.elim
theorem lookT_dks {kv : List (Key × V)} {ds : List (PyData × PyData)} {k : List Key} (h : DKs K G kv ds) : (ds.find? fun p => decide (keyT p.1 = some k)) = none := by
  induction kv generalizing ds with
  | nil => cases h; rfl
  | cons p kv ih =>
    cases h with
    | @cons k1 _ _ _ _ hx hr =>
      rw [List.find?_cons]
      have e : decide (keyT (kD k1) = some k) = false := by cases k1 <;> rfl
      simp only [e]
      exact ih hr
theorem dix_ok {a b : A} (r : SR K G H ρ σ φ) (h : PoE K xr W σ G H φ (evE Φ (.dix a b) ρ) Q) : tDGet (tA K xr W Φ a) (tA K xr W Φ b) σ H Q := by
  rw [evE] at h
  have z := op2 (r := fun x y H Q => ∃ a v, x = .ref a ∧ DGet H a y (some v) ∧ Q v H) (g := opDix) (fun x y H Q ⟨σ, G, φ, ρ, d, e, r, v, w, p⟩ => by
    unfold opDix at p
    split at p
    · rename_i kvs
      split at p
      · rename_i kk hkk
        cases e with
        | tuple ds =>
          obtain ⟨b, ws, rfl, hb, hd⟩ := w.tupX
          obtain ⟨rfl, rfl⟩ := keysL_dps hd hkk
          have lk : lkey kvs = false := by
            cases kvs with
            | nil => rfl
            | cons p0 r0 =>
              obtain ⟨k0, d0⟩ := p0
              cases k0 with
              | list l =>
                exfalso
                obtain ⟨a, rfl, hh⟩ : ∃ a, x = .ref a ∧ True := by
                  rcases v with v | ⟨a, _, _, e, _⟩ | ⟨a, _, e, _⟩
                  · cases v <;> exact ⟨_, rfl, trivial⟩
                  · exact ⟨a, e, trivial⟩
                  · exact ⟨a, e, trivial⟩
                rcases v with v | ⟨_, _, _, _, e, _⟩ | ⟨_, _, _, e, kv, _, h2⟩
                · cases v with
                  | dctK _ h2 =>
                    obtain ⟨k, e⟩ := dks_key h2
                    cases k <;> cases e
                  | dctT _ h2 _ =>
                    obtain ⟨k, e⟩ := dts_key h2
                    cases e
                  | err _ _ _ _ => exact p.elim
                · cases e
                · cases e
                  obtain ⟨k, e⟩ := dks_key h2
                  cases k <;> cases e
              | _ => rfl
          obtain ⟨a, rfl, ⟨kv, _, h2⟩ | ⟨kv, h1, h2⟩⟩ := v.dict r.gh lk
          · rw [lookT_dks h2] at p
            exact p.elim
          · rcases h2.look (k := kk) with ⟨v, d', z1, z2, z3⟩ | ⟨z1, z2⟩
            · unfold lookT at z1
              cases hf : (kvs.find? fun p => decide (keyT p.1 = some kk)) with
              | none => rw [hf] at z1; cases z1
              | some q =>
                rw [hf] at z1 p
                cases z1
                exact ⟨a, v, rfl, .inr ⟨kv, kk, b, h1, rfl, r.gh _ _ hb, z2.symm⟩, fin_val r z3 p⟩
            · unfold lookT at z1
              cases hf : (kvs.find? fun p => decide (keyT p.1 = some kk)) with
              | none => rw [hf] at p; exact p.elim
              | some q => rw [hf] at z1; cases z1
        | _ => cases hkk
      · exact p.elim
    · exact p.elim) r h
  exact z
theorem dlist_ok {a : A} (r : SR K G H ρ σ φ) (h : PoE K xr W σ G H φ (evE Φ (.dlist a) ρ) Q) :
    tCB (fun xs H Q => ∃ d kvs, xs = [V.ref d] ∧ Rd H d (.dT kvs) ∧ ∀ p bs, H p = none → IsKeys H kvs bs → Q (.ref p) (upd H p (.lst (bs.map V.ref)))) (tCons (tA K xr W Φ a) tNil) σ H Q := by
  rw [evE] at h
  have z := op1 (r := fun x H Q => ∃ d kvs, [x] = [V.ref d] ∧ Rd H d (.dT kvs) ∧ ∀ p bs, H p = none → IsKeys H kvs bs → Q (.ref p) (upd H p (.lst (bs.map V.ref)))) (g := opDlist) (fun x H Q ⟨σ, G, φ, ρ, d, r, v, p⟩ => by
    unfold opDlist at p
    split at p
    · rename_i kvs
      split at p
      · rename_i tk
        obtain ⟨a, od, kv, rfl, h1, hd⟩ := v.dctT tk
        refine ⟨a, kv, rfl, .inr ⟨od, r.gh _ _ h1⟩, fun q bs hp hb => ?_⟩
        obtain ⟨G2, st2, r2, h2⟩ := tupsG r hb
        rw [← hd.keys] at h2
        exact fin_lst r2 hp h2 (PoE.from p st2)
      · exact p.elim
    · exact p.elim) r h
  exact z
theorem minI_is : ∀ (ns : List Int) (n m : Int), m ∈ n :: ns → (∀ j ∈ n :: ns, m ≤ j) → minI n ns = m
  | [], n, m, hm, _ => (List.mem_singleton.mp hm).symm
  | x :: xs, n, m, hm, hl => by
    rw [minI]
    have h1 := hl n List.mem_cons_self
    have h2 := hl x (List.mem_cons_of_mem _ List.mem_cons_self)
    refine minI_is xs _ m ?_ fun j hj => ?_
    · rcases List.mem_cons.mp hm with e | hm
      · subst e
        rw [if_neg (by rw [decide_eq_true_eq]; omega)]
        exact List.mem_cons_self
      · rcases List.mem_cons.mp hm with e | hm
        · subst e
          by_cases hx : m < n
          · rw [if_pos (by rw [decide_eq_true_eq]; exact hx)]
            exact List.mem_cons_self
          · rw [if_neg (by rw [decide_eq_true_eq]; exact hx)]
            have : m = n := by omega
            rw [this]
            exact List.mem_cons_self
        · exact List.mem_cons_of_mem _ hm
    · rcases List.mem_cons.mp hj with e | hj
      · rw [e]
        split
        · exact h2
        · exact h1
      · exact hl j (List.mem_cons_of_mem _ (List.mem_cons_of_mem _ hj))
theorem dmin_ok {i : Nat} {π : List Px} (r : SR K G H ρ σ φ) (h : PoE K xr W σ G H φ (evE Φ (.dmin i π) ρ) Q) : tCB rMinK (tCons (tPt K i π) tNil) σ H Q := by
  rw [evE] at h
  cases e1 : atP' ρ i π with
  | dct kvs =>
    rw [e1] at h
    simp only at h
    split at h
    · rename_i n ns hk
      obtain ⟨π', v0, u, g, p1, p2, p3, p4, _, _⟩ := r.place (i := i) (rπ := π) (by rw [e1]; exact fun z => nomatch z)
      rw [e1] at p4
      obtain ⟨a, rfl, _, kv, hH, hd⟩ := p4
      refine ⟨ρ, G, φ, π', v0, _, r, p1, p2, p3, a, kv, n :: ns, rfl, hH, hd.ints hk, (fun z => nomatch z), fun m hm hl => ?_⟩
      rw [← minI_is ns n m hm hl]
      exact fin_int r h
    · exact h.elim
  | _ => rw [e1] at h; exact h.elim
theorem disp1_ok {k : Key} {x : A} (r : SR K G H ρ σ φ) (h : PoE K xr W σ G H φ (evE Φ (.disp1 k x) ρ) Q) : tDisp [(tC (kV k), tA K xr W Φ x)] σ H Q := by
  rw [evE] at h
  intro p hp
  have np : ¬ own φ p := fun z => by
    obtain ⟨o, e⟩ := r.here z
    rw [hp] at e; cases e
  have r0 : SR K G (upd H p (.dK [])) ρ σ φ := r.newH hp
  have t0 : Tmp K G (upd H p (.dK [])) (.dct []) (.ref p) [p] φ := ⟨⟨p, rfl, rfl, [], upd_same, .nil⟩, (fun a ha => by
    obtain rfl := List.mem_singleton.mp ha
    exact r.gh.free hp), fun a ha => by
    obtain rfl := List.mem_singleton.mp ha
    exact np⟩
  have st0 : Stp G H (own φ) G (upd H p (.dK [])) (fun a => own φ a ∨ a ∈ [p]) := (Stp.newH hp).weak fun a q => q.imp id fun z => List.mem_singleton.mp z
  have h' : PoE K xr W σ G H φ ((evAs Φ [x] ρ).bnd fun ts ρ' => match resV [x] ts ρ' with
      | some ds => (match ds with
        | [d] => .ok (.dct [(kDat k, d)]) ρ'
        | _ => .stk)
      | none => .stk) Q := by
    simp only [evAs]
    cases e : evA Φ x ρ with
    | stk => rw [e] at h; exact h
    | exc _ _ _ => rw [e] at h; exact h
    | ok t ρ' =>
      rw [e] at h
      simp only [R.bnd_ok] at h ⊢
      split at h
      · rename_i hds
        rw [hds]; exact h
      · exact h.elim
  have key : tAs K xr W Φ [x] σ (upd H p (.dK [])) (fun vs H2 => match vs with
      | [y] => H2 p = some (.dK []) ∧ ∃ kvs : List (Key × V), [(kV k, y)] = kvs.map (fun kv => (kV kv.1, kv.2)) ∧ kvs.length ≤ 15 ∧ Q (.ref p) (upd H2 p (.dK (mergeK [] kvs)))
      | _ => False) := by
    refine keepT r0 t0 st0 h' fun ρ' vs ds G' H' φ' r' hd t' st' q => ?_
    split at q
    · rename_i d
      cases hd with
      | cons p1 hd =>
        cases hd
        obtain ⟨c, ec, _, kv, hc, hkv⟩ := t'.rel
        cases ec
        cases hkv
        have gp : G' p = none := t'.gn p (List.mem_singleton.mpr rfl)
        have op : ¬ own φ' p := t'.off p (List.mem_singleton.mpr rfl)
        refine ⟨hc, [(k, _)], rfl, Nat.le_of_ble_eq_true rfl, ?_⟩
        refine q (.ref p) G' _ φ' [p] (st'.trans (Stp.wr (.inr (List.mem_singleton.mpr rfl)))) (r'.other op gp) ⟨⟨p, rfl, rfl, _, upd_same, ?_⟩, (fun a ha => by
          obtain rfl := List.mem_singleton.mp ha
          exact gp), fun a ha => by
          obtain rfl := List.mem_singleton.mp ha
          exact op⟩
        have ek : kD k = kDat k := by cases k <;> rfl
        rw [← ek]
        exact .cons p1 .nil
    · exact q.elim
  exact key
end
end VE

/-! VX: errors: their classes, isinstance, fields, a try whose clause keeps the error. -/
namespace VE
open PySem L2 PySem.Spec PyProof.Rows

/-- what is known of the class of errors c, at C -/
structure XCls (K : PySem.W.Frag) (mg : Str → Option Value) (c : Nat) (C : Addr) : Prop where
  ns : PySem.W.nsIn K mainGlobals (cnm c) = some (some (.ref C))
  mg : mg (cnm c) = some (.ref C)
  kp : PySem.W.keepIn K (.ref C) = true
  be : PySem.W.subIn K (.ref C) (.type "BaseException") = some true
  ve : PySem.W.kitOne K (.ref C) (.type "ValueError") = some true
  no : PySem.W.kitOne K (.type "NoneType") (.ref C) = some false
  ty : PySem.W.typeIn K (.ref C) = some (.type "type")
  hd : PySem.W.hasDictIn K C = true
  ga : PySem.W.findIn K (.ref C) "__getattribute__" = some (some (.builtin "BaseException.__getattribute__"))
  gt : PySem.W.findIn K (.ref C) "__getattr__" = some none
  ha : PySem.W.findIn K (.ref C) "__class__" = some (some (.builtin "object.__class__"))
  hn : PySem.W.specialIn K (.builtin "object.__class__") "__get__" = some (some (.builtin "getset_descriptor.__get__"))
  ht : PySem.W.takesIn K (.builtin "object.__class__") = some true
  hm : PySem.W.mroIn K C (.type "object") = some true
  fno : PySem.W.findIn K (.ref C) (fldX c) = some none ∨ c < 13
  new : c < 13 → PySem.W.excIn K C [.type "ValueError", .type "Exception", .type "BaseException", .type "object"] "ValueError.__new__" = true
/-- the same, to be computed -/
def xclsB (K : PySem.W.Frag) (c : Nat) (C : Addr) : Bool :=
  decide (PySem.W.keepIn K (.ref C) = true) && (decide (PySem.W.subIn K (.ref C) (.type "BaseException") = some true) && (decide (PySem.W.kitOne K (.ref C) (.type "ValueError") = some true) &&
  (decide (PySem.W.kitOne K (.type "NoneType") (.ref C) = some false) && (decide (PySem.W.typeIn K (.ref C) = some (.type "type")) && (decide (PySem.W.hasDictIn K C = true) &&
  (decide (PySem.W.findIn K (.ref C) "__getattribute__" = some (some (.builtin "BaseException.__getattribute__"))) && (decide (PySem.W.findIn K (.ref C) "__getattr__" = some none) &&
  (decide (PySem.W.findIn K (.ref C) "__class__" = some (some (.builtin "object.__class__"))) && (decide (PySem.W.specialIn K (.builtin "object.__class__") "__get__" = some (some (.builtin "getset_descriptor.__get__"))) &&
  (decide (PySem.W.takesIn K (.builtin "object.__class__") = some true) && (decide (PySem.W.mroIn K C (.type "object") = some true) &&
  ((decide (c < 13) || decide (PySem.W.findIn K (.ref C) (fldX c) = some none)) &&
  (!decide (c < 13) || PySem.W.excIn K C [.type "ValueError", .type "Exception", .type "BaseException", .type "object"] "ValueError.__new__")))))))))))))
theorem xcls_of {K : PySem.W.Frag} {mg : Str → Option Value} {c : Nat} {C : Addr} (h1 : PySem.W.nsIn K mainGlobals (cnm c) = some (some (.ref C))) (h2 : mg (cnm c) = some (.ref C)) (h : xclsB K c C = true) : XCls K mg c C := by
  simp only [xclsB, Bool.and_eq_true, Bool.or_eq_true, Bool.not_eq_true', decide_eq_true_eq, decide_eq_false_iff_not] at h
  obtain ⟨a1, a2, a3, a4, a5, a6, a7, a8, a9, b1, b2, b3, b4, b5⟩ := h
  exact ⟨h1, h2, a1, a2, a3, a4, a5, a6, a7, a8, a9, b1, b2, b3, b4.symm, fun z => b5.resolve_left fun y => y z⟩
/-- the classes of errors that are in use -/
def XOk (K : PySem.W.Frag) (mg : Str → Option Value) (xc : List Nat) : Prop :=
  ∃ ad : Nat → Addr, (∀ c ∈ xc, XCls K mg c (ad c)) ∧ ∀ c' ∈ xc, ∀ c ∈ xc, PySem.W.subIn K (.ref (ad c')) (.ref (ad c)) = some (subX c' c) ∧ PySem.W.kitOne K (.ref (ad c')) (.ref (ad c)) = some (subX c' c)
def xpairB (K : PySem.W.Frag) (tbl : List (Nat × Addr)) : Bool := tbl.all fun p => tbl.all fun q =>
  decide (PySem.W.subIn K (.ref p.2) (.ref q.2) = some (subX p.1 q.1)) && decide (PySem.W.kitOne K (.ref p.2) (.ref q.2) = some (subX p.1 q.1))
def adOf (tbl : List (Nat × Addr)) (c : Nat) : Addr := (tbl.lookup c).getD 0
theorem adOf_mem : ∀ {tbl : List (Nat × Addr)} {c : Nat}, c ∈ tbl.map (·.1) → (c, adOf tbl c) ∈ tbl
  | [], c, h => nomatch h
  | (k, a) :: r, c, h => by
    unfold adOf
    rw [List.lookup_cons]
    by_cases e : c = k
    · subst e
      rw [beq_self_eq_true]
      exact List.mem_cons_self
    · rw [beq_false_of_ne e]
      rcases List.mem_cons.mp h with z | z
      · exact absurd z e
      · exact List.mem_cons_of_mem _ (adOf_mem z)
theorem xok_of {K : PySem.W.Frag} {mg : Str → Option Value} (tbl : List (Nat × Addr)) (h1 : ∀ p ∈ tbl, XCls K mg p.1 p.2) (h2 : xpairB K tbl = true) : XOk K mg (tbl.map (·.1)) := by
  refine ⟨adOf tbl, fun c hc => h1 _ (adOf_mem hc), fun c' hc' c hc => ?_⟩
  have z := List.all_eq_true.mp (List.all_eq_true.mp h2 _ (adOf_mem hc')) _ (adOf_mem hc)
  simp only [Bool.and_eq_true, decide_eq_true_eq] at z
  exact z
/-- how an error that flies stands -/
def xrK (K : PySem.W.Frag) : XR := fun c o cls dx G => ∃ C, PySem.W.nsIn K mainGlobals (cnm c) = some (some (.ref C)) ∧ cls = .ref C ∧ ErrF G c o dx
/-- an exception object whose context is None -/
def CtxO (oe : Obj) : Prop := ∃ vs : Array Value, oe.data = .fields vs ∧ vs[2]? = some .none
/-- the object of an error that was caught -/
def ErrP (cls : Value) (dx : Option Addr) (a : Addr) : Heap → Prop := fun h => ∃ oe, h.get? a = some oe ∧ Zc cls dx oe ∧ ∃ vs, oe.data = .fields vs
theorem errP {cls : Value} {dx : Option Addr} {a : Addr} : ErrO cls dx a (ErrP cls dx a) := fun _ z => z
section
variable {X : Cx} {pins : List (Addr × Obj)} {σ : L2.St} {H : Hp} {s : Shared}
theorem err_inst {C a : Addr} {c : Nat} {o : Option Int} {dx : Option Addr} {φ : Heap → Prop} (I : L2.Inv X pins σ H s) (h : ExtAt H a φ) (e : ErrO (.ref C) dx a φ) (f : ErrF H c o dx) :
    ∃ oe od, PySem.W.InstAt s.heap a oe C od ∧ ∀ i, o = some i → ∃ dd ob, od = some ob ∧ dx = some dd ∧ ∃ mA, s.heap.Ns1 dd mA ∧ s.heap.get? dd = some ob ∧ RelO (some (V.int i)) (mA (fldX c)) ∧ ∀ n, PySem.W.lookIn n ob = some (mA n) := by
  obtain ⟨oz, h⟩ := h
  obtain ⟨_, p, _, _⟩ := (show ObjOk X.prog X.w H s.heap a (.frz oz (.ext φ)) from I.hok a _ h)
  obtain ⟨oe, h1, ⟨h2, h3⟩, vs, h4⟩ := e _ p
  cases f with
  | no => exact ⟨oe, none, ⟨h1, h2, by unfold PySem.W.notCls; rw [h4] <;> rfl, by rw [h3]; trivial⟩, fun i z => nomatch z⟩
  | @int x i g =>
    obtain ⟨mA, hns, hr⟩ := (show ObjOk X.prog X.w H s.heap x (.xd [(fldX c, .int i)]) from I.hok x _ g)
    obtain ⟨od, ho, hl⟩ := lookIn_ns hns
    refine ⟨oe, some od, ⟨h1, h2, by unfold PySem.W.notCls; rw [h4] <;> rfl, by rw [h3]; exact ho⟩, fun j z => ?_⟩
    cases z
    refine ⟨x, od, rfl, rfl, mA, hns, ho, ?_, hl⟩
    have q := hr (fldX c)
    rw [List.lookup_cons_self] at q
    exact q
theorem err_kit {C a : Addr} {c : Nat} {o : Option Int} {dx : Option Addr} {φ : Heap → Prop} {mg : Str → Option Value} (I : L2.Inv X pins σ H s) (xc : XCls X.K mg c C) (h : ExtAt H a φ) (e : ErrO (.ref C) dx a φ) (f : ErrF H c o dx) :
    ∃ P : Heap → Prop, PySem.W.KitX X.K (.ref a) (.ref C) P ∧ P s.heap := by
  obtain ⟨oe, od, J, _⟩ := err_inst I h e f
  have hc : (PySem.W.clsIn X.K C).isSome = true := by
    obtain ⟨cd, hc, _⟩ := PySem.W.any_some xc.hd
    rw [hc]; rfl
  exact ⟨_, PySem.W.kitx_exc hc xc.ga xc.gt xc.be xc.ha xc.hn xc.ht xc.hm, J⟩
end
/-! ### isinstance -/
/-- a class as an operand -/
def clV (ad : Nat → Addr) (c : Nat) : V := if c = 15 then .ty "ValueError" else .ref (ad c)
def clU (ad : Nat → Addr) (c : Nat) : Value := if c = 15 then .type "ValueError" else .ref (ad c)
theorem clVU (ad : Nat → Addr) (c : Nat) : ClsV (clV ad c) (clU ad c) := by
  unfold clV clU
  split
  · exact .ty _
  · exact .own _
theorem clVUs (ad : Nat → Addr) : ∀ cs : List Nat, Paired ClsV (cs.map (clV ad)) (cs.map (clU ad))
  | [] => .nil
  | c :: cs => .cons (clVU ad c) (clVUs ad cs)
/-- the operands: one class, or several in a tuple -/
inductive IsxA (ad : Nat → Addr) (H : Hp) : List Nat → V → Prop
  | one (c : Nat) : IsxA ad H [c] (clV ad c)
  | tup {cs : List Nat} {a : Addr} : H a = some (.tup (cs.map (clV ad))) → IsxA ad H cs (.ref a)
section
variable {X : Cx} {xr : XR} {W : WX} {xc : List Nat}
theorem unX_eq {d : PyData} {c : Nat} {o : Option Int} (h : unX d = some (c, o)) : ∃ i : Int, i.toNat = c ∧ d = .dict [(.list [.int i], oD o)] := by
  unfold unX at h
  split at h
  · cases h; exact ⟨_, rfl, rfl⟩
  · cases h; exact ⟨_, rfl, rfl⟩
  · cases h
theorem oD_inj {a b : Option Int} (h : oD a = oD b) : a = b := by
  cases a <;> cases b <;> cases h <;> rfl
theorem dks_err {K : PySem.W.Frag} {G : Hp} {kv : List (Key × V)} {i : Int} {w : PyData} (h : DKs K G kv [(.list [.int i], w)]) : False := by
  obtain ⟨k, e⟩ := dks_key h
  cases k <;> cases e
theorem dts_err {K : PySem.W.Frag} {G : Hp} {kv : List (List Key × V)} {i : Int} {w : PyData} (h : DTs K G kv [(.list [.int i], w)]) : False := by
  obtain ⟨k, e⟩ := dts_key h
  cases e
theorem DP.unX {K : PySem.W.Frag} {G : Hp} {v : V} {d : PyData} {c : Nat} {o : Option Int} (h : DP K G v d) (e : VE.unX d = some (c, o)) :
    ∃ a C dx φ, v = .ref a ∧ PySem.W.nsIn K mainGlobals (cnm c) = some (some (.ref C)) ∧ ExtAt G a φ ∧ ErrO (.ref C) dx a φ ∧ ErrF G c o dx := by
  obtain ⟨i, rfl, rfl⟩ := unX_eq e
  generalize hd : (PyData.dict [(.list [.int i], oD o)]) = d at h
  cases h with
  | dctK _ r =>
    cases hd
    exact (dks_err r).elim
  | dctT _ r _ =>
    cases hd
    exact (dts_err r).elim
  | @err a C c' o' dx φ h1 h2 h3 h4 =>
    unfold exD at hd
    injection hd with hd
    injection hd with hd
    injection hd with hd hd2
    injection hd with hd
    injection hd with hd
    injection hd with hd
    subst hd
    obtain rfl := oD_inj hd2
    exact ⟨a, C, dx, φ, rfl, h1, h2, h3, h4⟩
  | _ => cases hd
theorem VW.unX {K : PySem.W.Frag} {G H : Hp} {v : V} {d : PyData} {c : Nat} {o : Option Int} (h : VW K G H v d) (e : VE.unX d = some (c, o)) :
    ∃ a C dx φ, v = .ref a ∧ PySem.W.nsIn K mainGlobals (cnm c) = some (some (.ref C)) ∧ ExtAt G a φ ∧ ErrO (.ref C) dx a φ ∧ ErrF G c o dx := by
  rcases h with h | ⟨a, vs, ds', rfl, rfl, h1, h2⟩ | ⟨a, ds', rfl, rfl, kv, h1, h2⟩
  · exact h.unX e
  · cases e
  · obtain ⟨i, _, hd⟩ := unX_eq e
    injection hd with hd
    subst hd
    exact (dks_err h2).elim
theorem kit_any {K : PySem.W.Frag} {t : Value} {ad : Nat → Addr} {g : Nat → Bool} : ∀ (cs : List Nat), (∀ c ∈ cs, PySem.W.kitOne K t (clU ad c) = some (g c)) → PySem.W.kitAny K t (cs.map (clU ad)) = some (cs.any g)
  | [], _ => rfl
  | c :: cs, h => by
    have h1 := h c List.mem_cons_self
    have h2 := kit_any cs fun b hb => h b (List.mem_cons_of_mem _ hb)
    rw [List.map_cons, PySem.W.kitAny, h1, List.any_cons]
    cases g c with
    | true => rfl
    | false => exact h2
/-- None, or an error that is tracked; the answer -/
inductive IsxV (K : PySem.W.Frag) (H : Hp) (xc cs : List Nat) : V → Bool → Prop
  | non : IsxV K H xc cs .non false
  | err {a C : Addr} {c0 : Nat} {o : Option Int} {dx : Option Addr} {φ : Heap → Prop} : c0 ∈ xc → PySem.W.nsIn K mainGlobals (cnm c0) = some (some (.ref C)) → ExtAt H a φ → ErrO (.ref C) dx a φ → ErrF H c0 o dx →
      IsxV K H xc cs (.ref a) (cs.any (subX c0))
theorem IsxV.mono {K : PySem.W.Frag} {H H' : Hp} {cs : List Nat} {v : V} {b : Bool} (e : Same H H') (h : IsxV K H xc cs v b) : IsxV K H' xc cs v b := by
  cases h with
  | non => exact .non
  | err h1 h2 h3 h4 h5 => exact .err h1 h2 (h3.mono e) h4 (h5.mono e)
theorem isxV_of {K : PySem.W.Frag} {G H : Hp} {cs : List Nat} {v : V} {d : PyData} {t : S} (gh : Same G H) (hv : VW K G H v d) (e : opIsx cs xc d = some t) : ∃ b, IsxV K H xc cs v b ∧ t = .val (.bool b) := by
  cases d with
  | none =>
    obtain rfl := hv.none
    cases e
    exact ⟨false, .non, rfl⟩
  | dict kvs =>
    change ((VE.unX (.dict kvs)).bind fun p => if p.1 ∈ xc then some (S.val (.bool (cs.any fun c => subX p.1 c))) else none) = some t at e
    cases h : VE.unX (.dict kvs) with
    | none => rw [h] at e; cases e
    | some p =>
      obtain ⟨c0, o⟩ := p
      rw [h, Option.bind_some] at e
      obtain ⟨a, C, dx, ψ, rfl, n1, g1, e1, f1⟩ := hv.unX h
      by_cases m0 : c0 ∈ xc
      case neg => rw [if_neg m0] at e; cases e
      rw [if_pos m0] at e
      cases e
      exact ⟨_, .err m0 n1 (g1.mono gh) e1 (f1.mono gh), rfl⟩
  | bool _ => cases e
  | int _ => cases e
  | str _ => cases e
  | list _ => cases e
  | tuple _ => cases e
def rIsx (K : PySem.W.Frag) (ad : Nat → Addr) (cs xc : List Nat) : List V → Hp → VK → Prop := fun xs H Q => ∃ v w b, xs = [v, w] ∧ IsxA ad H cs w ∧ IsxV K H xc cs v b ∧ Q (.bl b) H
theorem call_isx {mg : Str → Option Value} {ad : Nat → Addr} {cs : List Nat} (h1 : ∀ c ∈ xc, XCls X.K mg c (ad c)) (h2 : ∀ c' ∈ xc, ∀ c ∈ xc, PySem.W.kitOne X.K (.ref (ad c')) (.ref (ad c)) = some (subX c' c))
    (hcs : ∀ c ∈ cs, c ∈ xc ∨ c = 15) : CallR X (.builtin "isinstance") (rIsx X.K ad cs xc) := by
  intro pins s σ H xs us Q I r h
  obtain ⟨v, w, b, rfl, hw, hv, q⟩ := h
  obtain ⟨u1, u2, rfl, r1, r2⟩ := vals2 r
  have key : ∃ (t : Value) (P : Heap → Prop) (g : Nat → Bool), PySem.W.KitX X.K u1 t P ∧ P s.heap ∧ u1 ≠ .builtin "__main__.__loader__#opaque" ∧ (∀ c ∈ cs, PySem.W.kitOne X.K t (clU ad c) = some (g c)) ∧ b = cs.any g := by
    cases hv with
    | non =>
      cases (show u1 = Value.none from r1)
      refine ⟨_, fun _ => True, fun _ => false, PySem.W.kitx_none, True.intro, (fun z => nomatch z), fun c hc => ?_, ?_⟩
      · unfold clU
        split
        · rfl
        · exact (h1 c ((hcs c hc).resolve_right (by assumption))).no
      · symm
        rw [List.any_eq_false]
        exact fun _ _ => Bool.false_ne_true
    | @err a C c0 o dx ψ m0 n1 g1 e1 f1 =>
      have x0 := h1 c0 m0
      obtain rfl : ad c0 = C := by
        have z := x0.ns.symm.trans n1
        injection z with z
        injection z with z
        injection z with z
      obtain ⟨P, Z, p⟩ := err_kit I x0 g1 e1 f1
      cases (show u1 = Value.ref a from r1)
      refine ⟨_, P, subX c0, Z, p, (fun z => nomatch z), fun c hc => ?_, rfl⟩
      unfold clU
      split
      · rename_i h15
        subst h15
        rw [x0.ve]
        simp [subX]
      · exact h2 c0 m0 c ((hcs c hc).resolve_right (by assumption))
  obtain ⟨t, P, g, Z, p, ne, hk, rfl⟩ := key
  cases hw with
  | one c =>
    have e2 := (clVU ad c).eq r2
    subst e2
    refine PySem.W.kia_one Z I.kIn p (hk c List.mem_cons_self) ne fun tk => ⟨.bl (g c), H, I.tok tk, rfl, ?_⟩
    simpa using q
  | @tup _ tp hT =>
    cases (show u2 = Value.ref tp from r2)
    obtain ⟨_, its, rv, o, k1, k2, n, k3⟩ := (show ObjOk X.prog X.w H s.heap tp (.tup (cs.map (clV ad))) from I.hok tp _ hT)
    have e3 := ClsV.all (clVUs ad cs) rv
    subst e3
    obtain ⟨oc, od, dt, sl⟩ := o
    simp only at k2 k3
    subst k2 k3
    exact PySem.W.kia_tup Z I.kIn p k1 (kit_any cs hk) ne fun tk => ⟨.bl (cs.any g), H, I.tok tk, rfl, q⟩
section
variable {K : PySem.W.Frag} {Φ : Fns} {σ : L2.St} {G H : Hp} {φ : Nat → List Addr} {ρ : List S} {Q : VK}
/-- the reading with one class -/
theorem isx_one {ad : Nat → Addr} {a : A} {c : Nat} (sr : SR K G H ρ σ φ) (h : PoE K xr W σ G H φ (evE Φ (.isx a [c] xc) ρ) Q) :
    tCB (rIsx K ad [c] xc) (tCons (tA K xr W Φ a) (tCons (tC (clV ad c)) tNil)) σ H Q := by
  rw [evE] at h
  have z := op1 (r := fun x H Q => rIsx K ad [c] xc [x, clV ad c] H Q) (g := opIsx [c] xc) (fun x H Q ⟨σ, G, φ, ρ, d, r, v, p⟩ => by
    cases e : opIsx [c] xc d with
    | none => rw [e] at p; exact p.elim
    | some t =>
      obtain ⟨b, hv, rfl⟩ := isxV_of r.gh v e
      rw [e] at p
      exact ⟨x, _, b, rfl, .one c, hv, fin_bool r p⟩) sr h
  exact z
/-- .. with a tuple of classes -/
theorem isx_tup {ad : Nat → Addr} {a : A} {cs : List Nat} {t : TA} (ht : ∀ (Q : List V → Hp → Prop) (H : Hp), Q (cs.map (clV ad)) H → t σ H Q) (hl : cs.length ≤ 100) (sr : SR K G H ρ σ φ) (h : PoE K xr W σ G H φ (evE Φ (.isx a cs xc) ρ) Q) :
    tCB (rIsx K ad cs xc) (tCons (tA K xr W Φ a) (tCons (tTup t) tNil)) σ H Q := by
  rw [evE] at h
  have z := op1 (r := fun x H Q => (tCons (tTup t) tNil) σ H fun xs H2 => rIsx K ad cs xc (x :: xs) H2 Q) (g := opIsx cs xc) (fun x H Q ⟨σ1, G, φ, ρ, d, r, v, p⟩ => by
    refine ht _ H ⟨?_, fun a ha => ?_⟩
    · rw [List.length_map, sizeLine_eq]
      omega
    cases e : opIsx cs xc d with
    | none => rw [e] at p; exact p.elim
    | some t =>
      obtain ⟨b, hv, rfl⟩ := isxV_of r.gh v e
      rw [e] at p
      exact ⟨x, _, b, rfl, .tup upd_same, hv.mono (Same.upd_new ha), fin_bool (r.newG (o := .tup (cs.map (clV ad))) ha) (p.from (Stp.newG r.gh ha))⟩) sr h
  exact z
end
/-! ### a field -/
theorem pe_efld {mg : Str → Option Value} {c : Nat} {C : Addr} {e : Expr} {pos : Pos} {t : TE} (xc : XCls X.K mg c C) (hc : ¬ c < 13) (he : PE X e t) (hb : attributeBase e (fldX c) X.env (eval e X.env) = eval e X.env) :
    PE X (.Attribute e (fldX c) pos) (fun σ H Q => t σ H fun x H1 => ∃ a dx φ i, x = .ref a ∧ ExtAt H1 a φ ∧ ErrO (.ref C) dx a φ ∧ ErrF H1 c (some i) dx ∧ Q (.int i) H1) := by
  refine ⟨fun pins s σ H Q I h => ?_⟩
  refine attr_of hb (thn (he.run pins s σ H _ I h) fun u s1 hh => ?_)
  obtain ⟨x, H1, I1, rx, a, dx, φ, i, rfl, h1, h2, h3, q⟩ := hh
  cases (show u = Value.ref a from rx)
  obtain ⟨oe, od, J, fld⟩ := err_inst I1 h1 h2 h3
  obtain ⟨dd, ob, rfl, _, mA, _, _, hr, hl⟩ := fld i rfl
  obtain ⟨w, hw, rw_⟩ := RelO.some_of (v := V.int i) (o := mA (fldX c)) hr
  have hno := xc.fno.resolve_right hc
  exact HandSPX.exc_get I1.kIn J xc.ga xc.gt xc.be (PySem.W.findObj_own xc.hd hno rfl (by rw [hl, hw])) (handed_of rw_) ⟨.int i, H1, I1.tok _, rw_, q⟩
/-! ### a try whose clause keeps the error -/
section
variable {pins : List (Addr × Obj)} {σ : L2.St} {H : Hp} {s : Shared}
abbrev CxA (X : Cx) (a : Addr) (pn : List (Addr × Obj)) : Cx := X.suite a pn
theorem inv_into (I : L2.Inv X pins σ H s) (a : Addr) : L2.Inv (CxA X a (X.pn ++ pins)) [] σ H s where
  ok := I.ok.suite _ _
  os := I.os
  bare := I.bare
  base := I.base
  loc := I.loc
  cell := I.cell
  free := I.free
  freeC := I.freeC
  pin p hp := I.pin p (by rw [List.append_nil] at hp; exact hp)
  hok := I.hok
  len := I.len
theorem inv_outof {a : Addr} {pn : List (Addr × Obj)} (I : L2.Inv (CxA X a (X.pn ++ pins)) pn σ H s) (ok : X.Ok) : L2.Inv X pins σ H s where
  ok := ok
  os := I.os
  bare := I.bare
  base := I.base
  loc := I.loc
  cell := I.cell
  free := I.free
  freeC := I.freeC
  pin p hp := I.pin p (List.mem_append_left _ hp)
  hok := I.hok
  len := I.len
/-- the heap without one object -/
theorem heap_less (h : Heap) (a : Addr) : ∃ G : Heap, G.get? a = none ∧ (∀ b, b ≠ a → G.get? b = h.get? b) ∧ ∀ b o, G.get? b = some o → h.get? b = some o := by
  obtain ⟨G, g1, g2⟩ := L2.restrict h fun b => decide (b ≠ a)
  refine ⟨G, g2 a (by simp), fun b hb => g1 b (by simpa using hb), fun b o e => ?_⟩
  by_cases hb : b = a
  · subst hb
    rw [g2 b (by simp)] at e
    cases e
  · rw [← g1 b (by simpa using hb)]
    exact e
/-- an error that has landed is tracked from now on -/
theorem land_on {B : Heap} {sI s' : Shared} {h3 : Heap} {a : Addr} {cls : Value} {d : Option Addr} (J : L2.Inv X pins σ H sI) (nb : ∀ b o, sI.heap.get? b = some o → b ∉ frs X.stack → B.get? b = some o)
    (fl : HandSPX.FlyingZ B X.stack a (L2N.Zn cls d) h3) (up : sI.heap.UpToSlots h3) (os : s'.os = sI.os) (ag : AllBare s'.gens) (na : H a = none) :
    ∃ oe, CtxO oe ∧ L2.Inv X pins σ (upd H a (.frz oe (.ext (ErrP cls d a)))) { s' with heap := h3 } := by
  obtain ⟨oe, vs, he, hz, hd⟩ := fl.there
  obtain ⟨st, hen, ff, _⟩ := fl
  have nfr : a ∉ frs X.stack := fun hm => by
    obtain ⟨_, o2, e2, hnf⟩ := ff.mem hm
    rw [he] at e2
    cases e2
    exact hnf _ hd
  have nI : sI.heap.get? a = none := by
    cases e : sI.heap.get? a with
    | none => rfl
    | some o =>
      have z := nb a o e nfr
      rw [hen] at z
      cases z
  obtain ⟨G, g1, g2, g3⟩ := heap_less h3 a
  have J1 : L2.Inv X pins σ H { s' with heap := G } := by
    refine J.landed (s' := { s' with heap := G }) nb (fun b o e => ?_) (fun b o e nf => ?_) os ag
    · have hb : b ≠ a := fun z => by
        rw [z, hen] at e
        cases e
      show G.get? b = some o
      rw [g2 b hb]
      exact st b o e
    · have hb : b ≠ a := fun z => by
        rw [z, nI] at e
        cases e
      obtain ⟨sl, q⟩ := up b o e nf
      exact ⟨sl, by show G.get? b = _; rw [g2 b hb]; exact q⟩
  have L := J1.laidN (h' := h3) (a := a) (o := .frz oe (.ext (ErrP cls d a))) (t' := s'.toks) g3 g1 na ?_
  · exact ⟨oe, ⟨vs, hd, hz.2.2 vs hd⟩, L⟩
  · exact ⟨he, ⟨oe, he, hz.zc, vs, hd⟩, ⟨oe, he⟩, fun _ _ ⟨o, e, z⟩ k => ⟨o, k o e, z⟩⟩
end
/-- what the clause wishes of an error that it keeps in slot i -/
def wAd (K : PySem.W.Frag) (c : Value) (i : Nat) (ts : Addr → TS) (Wout : WX) (D : Ends) : WX := fun cls d σ H =>
  ∃ b, PySem.W.exmOne K cls c = some b ∧
    (b = true → ∀ a oe, H a = none → CtxO oe → ts a { nx := fun σ1 H1 => D.nx (σ1.set i none) H1, rt := D.rt, bk := fun σ1 H1 => D.bk (σ1.set i none) H1, ct := fun σ1 H1 => D.ct (σ1.set i none) H1 } (σ.set i (some (.ref a))) (upd H a (.frz oe (.ext (ErrP cls d a))))) ∧
    (b = false → Wout cls d σ H)
section
variable {x n : Str} {cv : Value} {i : Nat} {body suite : List Stmt} {b0 : Stmt} {np pos pos' : Pos} {tb : WX → TS} {ts : Addr → TS} {Wout : WX}
theorem ps_try_ad (hs : X.stack = X.env :: X.outer) (hf : X.env.frame = some X.env.locals) (hN : X.N.Nodup) (hi : X.N[i]? = some n) (hln : X.env.kindOf n = some .local) (hc : Names X x cv) (tk : L2N.Takes X Wout)
    (hb : ∀ (W : WX) (pn : List (Addr × Obj)) (xe : Value → Shared → Prop), L2N.Takes (X.tr pn xe) W → PassesOwn (model X.prog X.w) X.A X.env xe → PSs (X.tr pn xe) body (tb W))
    (hsu : ∀ (a : Addr) (pn : List (Addr × Obj)), PSs (CxA X a pn) (b0 :: suite) (ts a)) :
    PS X (.Try body [.ExceptHandler (some (.Name x np)) (some n) (b0 :: suite) pos'] [] [] pos) (fun D σ H => tb (wAd X.K cv i ts Wout D) D σ H) := by
  constructor
  intro pins s σ H D I h
  have good := I.ok
  have fr : X.A.frames = some (X.env :: X.outer) := by rw [good.frames, hs]
  apply wpAny_Try_except
  have caught : ∀ xe u s1, L2N.XE (X.tr (X.pn ++ pins) xe) (wAd X.K cv i ts Wout D) u s1 →
      wpAny (model X.prog X.w) X.A (noteFrame u X.env) (fun _ s2 => wpAny (model X.prog X.w) X.A (setFlight u none) (fun _ s3 =>
        wpAny (model X.prog X.w) X.A (handleBy u X.env [.ExceptHandler (some (.Name x np)) (some n) (b0 :: suite) pos']) (SP X pins D) X.xe s3) X.xe s2) X.xe s1 := by
    rintro xe u s1 ⟨a, B, sI, pn1, σ1, H1, cls, d, rfl, J0, nb, up, sky, na, os, ag, b, hb1, yes, no⟩
    have J : L2.Inv X pins σ1 H1 sI := J0.ofTry good
    have sky1 : Sky B (X.env :: X.outer) a (L2N.Zn cls d) X.env.locals s1.heap := hs ▸ sky
    refine L2N.Sky.land L2N.Zn.steady fr hf sky1 fun h3 fl3 up3 => ?_
    have fl3' : HandSPX.FlyingZ B X.stack a (L2N.Zn cls d) h3 := hs ▸ fl3
    obtain ⟨oe3, vs3, he3, hz3, hd3⟩ := fl3.there
    obtain ⟨oe3', _, J3⟩ := land_on (s' := s1) J nb fl3' (up.trans up3) os ag na
    have T3 := inv_into J3 a
    refine wpAny_handleBy_cons (codeAny_handlers_test ?_) (by intro q; cases q)
    have lt : PySem.W.Looks (model X.prog X.w) h3 (typeOf (.ref a)) cls := fun A2 Q2 E2 s2 k q => wpAny_typeOf_ref (k _ _ he3) (by rw [hz3.1]; exact q)
    have lm := PySem.W.exm_one (M := model X.prog X.w) J3.kIn lt hb1
    have asked : ∀ {Q : Value → Shared → Prop} {E : Value → Shared → Prop}, Q cv { s1 with heap := h3 } → wpAny (model X.prog X.w) (X.A.mark (some (.ref a))) (eval (.Name x np) X.env) Q E { s1 with heap := h3 } := by
      intro Q E q
      obtain ⟨g1, g2, g3⟩ := hc
      rcases g3 with g3 | ⟨g3, g4, g5⟩
      · exact ld_glob T3 g1 g3 q g2
      · exact ld_blt T3 g1 g3 g4 q g5 g2
    refine asked (lm.here ?_)
    cases b with
    | false =>
      show wpAny _ X.A (handleBy (.ref a) X.env []) _ _ _
      refine wpAny_handleBy_nil ?_
      obtain ⟨_, _, _, o5, v5, t5, _, _, e5, _, d5, f5, _⟩ := id fl3
      unfold PySem.passOn
      refine wpAny_bind (wpAny_field e5 d5 f5 ?_)
      rw [if_neg (by simp)]
      have go : wpAny (model X.prog X.w) X.A (setFlight (.ref a) X.env.frame) (fun _ s4 => wpAny (model X.prog X.w) X.A (throw (.ref a) : Sem Flow) (SP X pins D) X.xe s4) X.xe { s1 with heap := h3 } := by
        rw [hf]
        refine HandSPX.setFlight_upZ fl3 fun h4 hh4 up4 => wpAny_throw (tk _ _ ?_)
        refine ⟨a, B, sI, pins, σ1, H1, cls, d, rfl, J, nb, (up.trans up3).trans up4, .inr (.inr ?_), na, os, ag, no rfl⟩
        exact hs ▸ hh4
      first
        | exact wpAny_bind (wpAny_pure (wpAny_bind go))
        | exact wpAny_bind go
    | true =>
      refine codeAny_handlers_suite_as (HandSPX.lands_againZ fl3 fun h4 fl4 up4 => ?_)
      have fl4' : HandSPX.FlyingZ B X.stack a (L2N.Zn cls d) h4 := hs ▸ fl4
      obtain ⟨oe4', cx4, J4⟩ := land_on (s' := s1) J nb fl4' ((up.trans up3).trans up4) os ag na
      refine store_ok (X := CxA X a (X.pn ++ pins)) (v := .ref a) (inv_into J4 a) hN hi (.inl hln) rfl (fun s5 I5 => ?_) (.inr hln)
      refine wpAny_mono ((hsu a (X.pn ++ pins)).run [] s5 _ _ _ I5 (yes rfl a oe4' na cx4)) (fun f s6 z => ?_) fun _ _ z => z.elim
      have fin : ∀ {σ6 : L2.St} {H6 : Hp} {Q : Shared → Prop}, L2.Inv (CxA X a (X.pn ++ pins)) [] σ6 H6 s6 → (∀ s7, L2.Inv X pins (σ6.set i none) H6 s7 → Q s7) →
          wpAny (model X.prog X.w) X.A (do bindName X.env n .none; unbindBehindTheSuite X.env n pos') (fun _ s7 => Q s7) X.xe s6 := fun I6 hq => gone_ok (inv_outof I6 good) hN hi hln hq
      cases f with
      | next =>
        obtain ⟨_, _, I6, q6⟩ := z
        exact fin I6 fun s7 I7 => ⟨_, _, I7, q6⟩
      | brk =>
        obtain ⟨_, _, I6, q6⟩ := z
        exact fin I6 fun s7 I7 => ⟨_, _, I7, q6⟩
      | cont =>
        obtain ⟨_, _, I6, q6⟩ := z
        exact fin I6 fun s7 I7 => ⟨_, _, I7, q6⟩
      | ret u =>
        obtain ⟨_, _, _, I6, r6, q6⟩ := z
        exact fin I6 fun s7 I7 => ⟨_, _, _, I7, r6, q6⟩
  refine wpAny_mono ((hb (wAd X.K cv i ts Wout D) (X.pn ++ pins) _ (fun u s1 xx => caught _ u s1 xx) PassesOwn.looking).run [] s σ H D (I.toTry _) h) (fun f s1 z => ?_) fun e s1 z => z
  cases f with
  | next =>
    obtain ⟨σ1, H1, I1, q⟩ := z
    exact wpAny_execs_nil ⟨σ1, H1, I1.ofTry good, q⟩
  | brk =>
    obtain ⟨σ1, H1, I1, q⟩ := z
    exact ⟨σ1, H1, I1.ofTry good, q⟩
  | cont =>
    obtain ⟨σ1, H1, I1, q⟩ := z
    exact ⟨σ1, H1, I1.ofTry good, q⟩
  | ret u =>
    obtain ⟨v, σ1, H1, I1, r, q⟩ := z
    exact ⟨v, σ1, H1, I1.ofTry good, r, q⟩
end
end
end VE

/-! VI: classes of errors whose __init__ says super().__init__(f'..{x}') and keeps x. -/
namespace VE
open PySem L2 PySem.Spec PyProof.Rows NdefX

section
variable {prog : Program} {w : World} {A : Around} {E : Value → Shared → Prop} {h : Heap} {g : Array GenState} {d : Drawn} {t : Nat} {os : OsState}
/-- ValueError's __init__, bound to the error e, is called -/
theorem call_wrap {nm q : Str} {C N u e t0 : Addr} {bs bm : List Value} {hdct : Bool} {sn : List Str} {sub : List Value} {ab : Bool} {col : Option Bool} {dd : Option Addr} {k0 k1 k2 k3 k5 : Option Value} {rest : List Value} {Q : Value → Shared → Prop}
    (hC : h.get? C = some (excClassObj nm q C N bs bm hdct sn sub ab col dd k0 k1 k2 k3 k5 "ValueError.__new__")) (hbm : HandSPX.refsVE bm = true) (he : h.get? e = some (HandSPX.excO C t0)) (hu : h.get? u = some (PySem.W.kxs_mw "ValueError.__init__" e)) (hz : rest.length ≤ sizeLine)
    (hq : ∀ h' t1, (∀ b o, b ≠ e → h.get? b = some o → h'.get? b = some o) → h'.get? e = some (HandSPX.excO C t1) → Q .none ⟨h', g, d, t, os⟩) : wpAny (model prog w) A (call (.ref u) rest) Q E ⟨h, g, d, t, os⟩ := by
  refine wpAny_call (codeAny_of_tree ?_)
  show wpAny _ A.in1 (callAny (.ref u) ⟨rest, []⟩) _ _ _
  simp only [callAny]
  refine wpAny_bind (wpAny_load hu ?_)
  have kind : (Value.type "method-wrapper" == Value.type "method" || Value.type "method-wrapper" == Value.type "builtin_function_or_method" || Value.type "method-wrapper" == Value.type "method-wrapper") = true := by decide
  simp only [PySem.W.kxs_mw, kind, if_true]
  refine PySem.W.KFB.if_so (by decide) ?_
  have has : (Value.ref C :: bm).contains (.type "ValueError") = true := by
    rw [List.contains_cons, HandSPX.refsVE_contains "ValueError" bm hbm]
    rw [show HandSPX.veTail.contains (Value.type "ValueError") = true from by decide, Bool.or_true]
  have star := F.excBase_ValueError.noStar
  have chk : ∀ {Q' : Unit → Shared → Prop} {E' : Value → Shared → Prop} {A' : Around}, Q' () ⟨h, g, d, t, os⟩ → wpAny (model prog w) A' (checkBoundCall "ValueError.__init__" ⟨.ref e :: rest, []⟩) Q' E' ⟨h, g, d, t, os⟩ := by
    intro Q' E' A' q'
    simp only [checkBoundCall, F.excBase_ValueError.initKind, F.excBase_ValueError.initRow]
    repeat (first | with_reducible refine wpAny_loadPart_at he ?_ | with_reducible refine wpAny_loadPart_at hC ?_ | wp_step)
    refine wpAny_onRaise ?_
    rw [show ∀ (a b : String) (n : Nat), Bind.check ⟨.positional, "*", "ValueError", .self, [⟨"args", .varPos, false⟩]⟩ a b n (List.map (fun x => x.fst) ({ pos := Value.ref e :: rest } : Args).kw) = pure () from fun a b n => check_star_args _ _ _ _ _ _]
    exact wpAny_pure q'
  refine wpAny_bind (chk ?_)
  refine wpAny_bind (wpAny_pure (wpAny_pure ?_))
  refine ⟨Code.quiet_builtin _ (by decide +kernel), codeAny_builtin F.excBase_ValueError.initEntry ?_⟩
  rw [Around.under_plainId F.excBase_ValueError.init.plain _]
  wp_walk
  refine hq _ h.objs.size (fun b o hb ho => ?_) ?_
  · rw [Heap.get?_update_other _ _ (Ne.symm hb)]
    exact Heap.get?_push_of_some _ ho
  · rw [Heap.get?_update_self _ (Heap.get?_push_of_some _ he) rfl]
    rfl
end
/-- what the def asks: an error that is being made, an int -/
def spI (C : Addr) (f : Str) : Sp := fun vs H Q E => ∃ (a : Addr) (i : Int), vs = [.ref a, .int i] ∧ i.natAbs.log2 < 1920 ∧ H a = some (exo a C none) ∧ ∀ dx, H dx = none → dx ≠ a → Q .non (upd (upd H dx (exd dx [(f, .int i)])) a (exo a C (some dx)))
/-- what is known of the class at C and its __init__ at fI -/
structure XIni (P : Program) (K : PySem.W.Frag) (mg : Str → Option Value) (C fI : Addr) (f : Str) (st : Stmt) (fd : FuncData) : Prop where
  T : OexC K C
  ini : PySem.W.findIn K (.ref C) "__init__" = some (some (.ref fI))
  tI : PySem.W.typeIn K (.ref fI) = some (.type "function")
  no : PySem.W.findIn K (.ref C) f = some none
  sub : PySem.W.mroIn K C (.ref C) = some true
  veI : PySem.W.subIn K (.ref C) (.type "ValueError") = some true
  sup : mg "super" = none
  opq : PySem.W.nsIn K cStatics "thirdparty.any" = some none
  nxt : PySem.W.ks_superIn K C C "__init__" = some (some (.builtin "ValueError.__init__"))
  top : (P.main.scope.names.lookup ("super" : Str)).isSome = false
  fn : ∃ (cc cda : Addr) (oc cl ccl : Value) (od cld cdd : Option Addr) (osl csl ccs : Array (Option Value)) (kV doc pm ct : Value) (an : Option Addr) (vs : Array Value) (file : Str) (tf : Tok) (qual : Str),
    fd = PySem.W.ksFn "__init__" qual (defArgs st) (defBody st) (defScope st) .none kV doc pm an (.ref cda) ct cc ∧ K.lookup fI = some ⟨oc, od, .func fd, osl⟩ ∧ PySem.W.codeIn K (.ref cda) qual = true ∧
    K.lookup cda = some ⟨ccl, cdd, .fields vs, ccs⟩ ∧ vs[2]? = some (.str file tf) ∧ ((P.main.file : Str) == file) = true ∧ K.lookup cc = some ⟨cl, cld, .cell (some (.ref C)), csl⟩
/-- the def's text -/
structure XTxt (f : Str) (st : Stmt) : Prop where
  body : ∃ (m : Str) (j : Nat) (p0 p1 p2 p3 p4 p5 p6 p7 p8 q1 q2 q3 q4 : Pos) (j2 : Int), defBody st = [.Expr (.Call (.Attribute (.Call (.Name "super" p0) [] [] p1) "__init__" p2) [.JoinedStr [.Constant (.str m) j p3, .FormattedValue (.Name f p4) (-1) none p5] p6] [] p7) p8,
    .Assign [.Attribute (.Name "self" q1) f q2] (.Name f q3) q4] ∧ m.length ≤ 100 ∧
    ∀ env : Env, ∃ pl : Sem Bool, eval (.Call (.Attribute (.Call (.Name "super" p0) [] [] p1) "__init__" p2) [.JoinedStr [.Constant (.str m) j p3, .FormattedValue (.Name f p4) (-1) none p5] p6] [] p7) env = (do
      let ov ← attributeBase (.Call (.Name "super" p0) [] [] p1) "__init__" env (eval (.Call (.Name "super" p0) [] [] p1) env)
      standAt p2.atName
      let (fn, first) ← holding [ov] (getMethod ov "__init__" pl)
      callWith p7 fn first (backTo p7 (starEach [.JoinedStr [.Constant (.str m) j p3, .FormattedValue (.Name f p4) (-1) none p5] p6] env)) [])
  S : NScope ["self", f, "__class__"] ["self", f] ["__class__"] (defScope st)
  sup : (defScope st).names.lookup ("super" : Str) = some .globalImplicit
  self : (((defArgs st).posonlyargs ++ (defArgs st).args).head?.map (·.arg)) = some ("self" : Str)
  ne : f ≠ "self" ∧ f ≠ "__class__" ∧ (f == ("__debug__" : Str)) = false ∧ (f == ("__classdict__" : Str)) = false
/-- .. of the class of errors c -/
def XiC (P : Program) (K : PySem.W.Frag) (mg : Str → Option Value) (c : Nat) : Prop := ∃ C fI st fd, PySem.W.nsIn K mainGlobals (cnm c) = some (some (.ref C)) ∧ XIni P K mg C fI (fldX c) st fd ∧ XTxt (fldX c) st ∧ Binds K fd ["self", fldX c] []
theorem exd_eq {H : Hp} {a C : Addr} (e : H a = some (exo a C none)) : upd H a (exo a C none) = H := by
  funext b
  by_cases hb : b = a
  · rw [hb, upd_same, e]
  · rw [upd_ne hb]
theorem init_fn {P : Program} {w : World} {K : PySem.W.Frag} {mg : Str → Option Value} {base : Heap} {CX : CXT} {k : Nat} {C fI : Addr} {f : Str} {st : Stmt} {fd : FuncData} (F : XIni P K mg C fI f st fd) (X : XTxt f st) :
    FnOk P w K mg base CX (k + 1) fI fd ["self", f] (spI C f) := by
  obtain ⟨cc, cda, oc, cl, ccl, od, cld, cdd, osl, csl, ccs, kV, doc, pm, ct, an, vs, file, tf, qual, rfl, lk, hcd, hcode, hvs, hfile, hcell⟩ := F.fn
  obtain ⟨m, j, p0, p1, p2, p3, p4, p5, p6, p7, p8, q1, q2, q3, q4, j2, hbody, hm, hev⟩ := X.body
  refine ⟨fun vs H Q E ⟨a, i, e, _⟩ => by rw [e]; rfl, ?_⟩
  intro A outer s H args us vs' Q E hr e0 hb r hsp
  obtain ⟨a, i, rfl, hi, ha, q⟩ := hsp
  have KX : K.In s.heap := e0.mod.kin.keeps fun b o e => (e0.bs b o e).1
  have lim : s.heap.NoLimit := e0.mod.nolimit.keeps fun b o e => (e0.bs b o e).1
  obtain ⟨u0, u1, rfl, ru, ri⟩ := vals2 r
  cases (show u0 = Value.ref a from ru)
  let F' : NF := ⟨"__init__", qual, defArgs st, defBody st, defScope st, [("__class__", cc)], cda⟩
  have hccB : H cc = none := (e0.bs cc _ (e0.mod.kin _ _ hcell)).2
  refine PySem.ks_codeAny_call_defAt (fd := PySem.W.ksFn "__init__" qual (defArgs st) (defBody st) (defScope st) .none kV doc pm an (.ref cda) ct cc) (body := defBody st) (binds := (["self", f] : List Str).zip [Value.ref a, u1]) hr.depth (KX _ _ lk) rfl lim
    (PySem.W.codeRec_of KX hcd) rfl hb X.S.nocell (fun y hy => X.S.par y.1 (List.of_mem_zip (show (y.1, y.2) ∈ _ from hy)).1) (fun h1 hns kp => ?_) X.S.co X.S.gen X.S.kind
  have cells : CellsAt F'.cl ["__class__"] [none] s.heap H := by
    refine ⟨rfl, fun y c e => ?_, fun x y c e1 e2 => ?_, fun n y hn => ?_⟩
    · simp only [F', List.lookup_cons, List.lookup_nil] at e
      split at e
      · cases e
        exact ⟨hccB, _, _, KX _ _ hcell, rfl⟩
      · cases e
    · simp only [F', List.lookup_cons, List.lookup_nil] at e1 e2
      split at e1
      · rename_i h1
        split at e2
        · rename_i h2
          exact (beq_iff_eq.mp h1).trans (beq_iff_eq.mp h2).symm
        · cases e2
      · cases e1
    · match n, hn with
      | 0, hn =>
        cases hn
        exact ⟨cc, rfl, fun v z => nomatch z⟩
      | n + 1, hn => cases n <;> cases hn
  have I := inv_startN (CX := CX) (F := F') (f := fI) (E := E) (ws := [none]) (tk := s.toks + ((["self", f] : List Str).zip [Value.ref a, u1]).length) X.S hr.hd e0 rfl r cells hns kp
  let env : Env := envF F' fI s.heap.objs.size
  let X0 : Cx := ncx CX P w K mg base ([("self" : Str), f, "__class__"] : List Str) F' fI A outer s H E
  have hA : X0.A = A.deeper env := rfl
  -- the second row
  have row2 : ∀ {s2 : Shared} {Q2 : Flow → Shared → Prop}, L2.Inv X0 [] (startF ([("self" : Str), f, "__class__"] : List Str) [V.ref a, V.int i] [none]) H s2 → (∀ σ' H' s', L2.Inv X0 [] σ' H' s' → Q .non H' → Q2 .next s') →
      wpAny (model P w) (A.deeper env) (execs [.Assign [.Attribute (.Name "self" q1) f q2] (.Name f q3) q4] env) Q2 X0.xe s2 := by
    intro s2 Q2 J k2
    have v0 : PE X0 (.Name "self" q1) (tVar 0) := pe_var rfl (.inl (X.S.par "self" (by simp))) (by decide) (by decide)
    have v1 : PE X0 (.Name f q3) (tVar 1) := pe_var rfl (.inl (X.S.par f (by simp))) X.ne.2.2.1 X.ne.2.2.2
    have p := pss_one (ps_ost (f := f) (p' := q2) (pos := q4) v0 v1)
    refine wpAny_mono (p.run [] s2 _ H { nx := fun _ H' => Q .non H', rt := fun _ _ => False } J ?_) (fun fl s' hs => ?_) fun _ _ z => z
    · refine ⟨_, rfl, _, rfl, a, C, rfl, F.T, F.no, .inl ⟨ha, fun dx hd hne => q dx hd hne⟩⟩
    · cases fl with
      | next =>
        obtain ⟨σ', H', J', z⟩ := hs
        exact k2 σ' H' s' J' z
      | brk =>
        obtain ⟨_, _, _, z⟩ := hs
        exact z.elim
      | cont =>
        obtain ⟨_, _, _, z⟩ := hs
        exact z.elim
      | ret u =>
        obtain ⟨_, _, _, _, _, z⟩ := hs
        exact z.elim
  rw [hbody]
  have hsz : h1.Ns s.heap.objs.size fun y => ((["self", f] : List Str).zip [Value.ref a, u1]).reverse.lookup y := hns
  obtain ⟨t1, ho⟩ := exo_at I.hok ha
  obtain ⟨nm, qn, N, bs, bm, sn, sub, ab, col, dd, k0, k1, k2, k3, k5, hC, hbm⟩ := F.T.cls
  have hcl : PySem.W.clsIn K C = some { name := nm, bases := bs, mro := .ref C :: bm, ns := N, qualname := qn, hasDict := true, slotNames := sn, subclasses := sub, abstract := ab, collection := col, hasDel := false } := by unfold PySem.W.clsIn; rw [hC] <;> rfl
  have K1 : K.In h1 := I.kIn
  obtain ⟨mb, hmb, boot⟩ := e0.mod.blt
  have up : ∀ b o, base.get? b = some o → h1.get? b = some o := fun b o e => kp b o (e0.bs b o e).1
  have aC : a ≠ C := fun z => by
    have e2 := e0.bs C _ (e0.mod.kin _ _ hC)
    rw [← z, ha] at e2
    cases e2.2
  obtain ⟨ar, har, hself⟩ : ∃ ar, ((defArgs st).posonlyargs ++ (defArgs st).args).head? = some ar ∧ ar.arg = ("self" : Str) := by
    have z := X.self
    cases hh : ((defArgs st).posonlyargs ++ (defArgs st).args).head? with
    | none => rw [hh] at z; cases z
    | some ar => rw [hh] at z; exact ⟨ar, rfl, Option.some.inj z⟩
  have hkc : (defScope st).names.lookup ("__class__" : Str) = some .free := X.S.frk "__class__" (by simp)
  have hks : (defScope st).names.lookup ("self" : Str) = some .local := X.S.par "self" (by simp)
  obtain ⟨pl, hev⟩ := hev env
  refine PySem.ks_wpAt_execs_cons (PySem.ks_wpAt_Expr_any (PySem.ks_wpAt_MethodCall (pl := pl) (PySem.ks_wpAt_super_base (f := fI) (cc := cda) (ar := ar) (vs := vs) (file := file) (tf := tf) X.sup hkc (by decide) rfl (K1 _ _ lk) rfl har rfl (K1 _ _ hcode) rfl hvs hfile F.top ?_) hev) I.quiet)
  refine PySem.W.ks_loadName_global X.S.kind X.sup (Calls.loadGlobal_builtin (mb := mb) (by exact e0.mod.glob.keeps up) F.sup (by exact hmb.keeps up) ((boot _ (by decide)).trans (show bootBuiltins "super" = some (.type "super") by decide +kernel)) ⟨rfl, ?_⟩)
  refine wpAny_loadName_free X.S.kind hkc rfl ⟨_, K1 _ _ hcell, rfl⟩ ?_
  rw [hself]
  refine wpAny_loadName_local X.S.kind hks hns (v := .ref a) ?_ ?_
  · have z := zip_look (ps := ([("self" : Str), f] : List Str)) (us := [Value.ref a, u1]) (i := 0) (x := ("self" : Str)) (u := Value.ref a) (by
      rw [List.nodup_cons]
      exact ⟨fun z => X.ne.1 (List.mem_singleton.mp z).symm, by simp⟩) rfl rfl
    exact z
  refine PySem.ks_wpAny_isType_cls (K1 _ _ hC) rfl ⟨rfl, ?_⟩
  refine PySem.ks_wpAny_call_super (K1 _ _ hC) rfl ho rfl (fun c z => nomatch z) (PySem.W.looks_mroIn K1 F.sub) (fun h2 e2 k2 => ?_)
  have I2 := I.kept (h' := h2) (t' := s.toks + ((["self", f] : List Str).zip [Value.ref a, u1]).length) fun b o e => k2 b o e
  have K2 : K.In h2 := I2.kIn
  have J2 : PySem.W.InstAt h2 a { cls := .ref C, dict := none, data := .fields #[.ref t1, .none, .none, .none, .bool false, .none] } C none := ⟨k2 _ _ ho, rfl, rfl, trivial⟩
  have nxt := F.nxt
  unfold PySem.W.ks_superIn at nxt
  rw [hcl, Option.bind_some] at nxt
  refine PySem.W.kxs_getMethod PySem.W.kxs_ValueError e2 (PySem.W.looks_opaque K2 F.opq) (l₀ := .ref C :: bm) (fun A Q E s k q => wpAny_bind ((PySem.W.looks_clsIn K2 hcl) A _ E s k (wpAny_pure q))) rfl K2 nxt (J2.type.andThen (PySem.W.looks_subIn K2 F.veI)) aC rfl ?_
  -- the bound __init__
  have hu : (h2.push (PySem.W.kxs_mw "ValueError.__init__" a)).get? h2.objs.size = some (PySem.W.kxs_mw "ValueError.__init__" a) := Heap.get?_push_at rfl rfl
  have fp : ∀ b ∈ [h2.objs.size], FpOk X0 [] H b := fun b hb => by
    rw [List.mem_singleton.mp hb]
    exact I2.fpOk (Nat.le_refl _) (I2.hok.fresh (Nat.le_refl _))
  have I3 := I2.kept (h' := h2.push (PySem.W.kxs_mw "ValueError.__init__" a)) (t' := s.toks + ((["self", f] : List Str).zip [Value.ref a, u1]).length + 1) fun b o e => Heap.get?_push_of_some _ e
  have I4 := I3.pinned fp fun b hb => by
    obtain rfl := List.mem_singleton.mp hb
    exact ⟨_, hu, fun v z => nomatch z⟩
  have v1 : PE X0 (.Name f p4) (tVar 1) := pe_var rfl (.inl (X.S.par f (by simp))) X.ne.2.2.1 X.ne.2.2.2
  have pa : PA X0 [.JoinedStr [.Constant (.str m) j p3, .FormattedValue (.Name f p4) (-1) none p5] p6] _ := pa_cons (pe_joined (PJ.cons pe_str (PJ.cons (pe_fmt v1) PJ.nil))) pa_nil rfl
  have hst : starEach [.JoinedStr [.Constant (.str m) j p3, .FormattedValue (.Name f p4) (-1) none p5] p6] env = (false, eval (.JoinedStr [.Constant (.str m) j p3, .FormattedValue (.Name f p4) (-1) none p5] p6) env) :: starEach [] env := rfl
  show wpAny (model P w) (A.deeper env) (callWith p7 (.ref h2.objs.size) [] (backTo p7 (starEach [.JoinedStr [.Constant (.str m) j p3, .FormattedValue (.Name f p4) (-1) none p5] p6] env)) []) _ _ _
  refine PySem.W.kxs_callWith (i := "ValueError.__init__") (x := a) (by rfl) ?_
  have run := pa.run p7 _ _ _ H (fun vs H1 => ∃ x, vs = [V.str x] ∧ H1 = H) I4 ?_
  · refine Calls.evalArgs_plain (x := eval (.JoinedStr [.Constant (.str m) j p3, .FormattedValue (.Name f p4) (-1) none p5] p6) env) (rest := backTo p7 (starEach [] env)) ?_
    refine wpAny_mono run (fun us s1 hh => ?_) fun _ _ z => z
    obtain ⟨vs1, H1, I5, r5, x, rfl, rfl⟩ := hh
    have pin := I5.pin (h2.objs.size, _) (List.mem_append_right _ (List.mem_append_right _ (mem_pinsAt List.mem_cons_self hu)))
    refine ⟨pin.1, ?_⟩
    obtain ⟨t5, ho5⟩ := exo_at I5.hok ha
    have hz : us.length ≤ sizeLine := by
      rw [← r5.length, sizeLine_eq]
      exact Nat.le_of_ble_eq_true rfl
    obtain ⟨h5, g5, d5, tk5, os5⟩ := s1
    show wpAny _ _ (call (.ref h2.objs.size) us) _ _ _
    refine call_wrap (I5.kIn _ _ hC) hbm ho5 pin.1 hz fun h6 t6 k6 e6 => ?_
    have J6 := I5.unpinned.write (t' := tk5) (h' := h6) (x := a) (e := a) (o := exo a C none) (by rw [ha]; exact True.intro) (.inl rfl) k6 ⟨_, e6⟩ (exo_ok e6)
    rw [exd_eq ha] at J6
    exact wpAt_of_wpAny (row2 J6 fun σ' H' s' J' z => ⟨.non, H', J'.os, J'.bare, J'.base, J'.hok, rfl, z⟩)
  · have l0 : (Str.empty ++ m : Str).length = m.length := by
      show (Str.empty ++ m : Str).cps.size = m.cps.size
      rw [show (Str.empty ++ m : Str).cps = Str.empty.cps ++ m.cps from rfl, Array.size_append]
      show 0 + _ = _
      omega
    have li : (Str.ofString (toString i)).length ≤ 1000000 := by
      have e := int_text_length_le (k := 1920) (by decide) hi
      rw [PySem.ofString_length]
      omega
    have l2 : ∀ a b : Str, (a ++ b : Str).length = a.length + b.length := fun a b => by
      show (a ++ b : Str).cps.size = a.cps.size + b.cps.size
      rw [show (a ++ b : Str).cps = a.cps ++ b.cps from rfl, Array.size_append]
    have hs := sizeLine_eq
    refine ⟨m, rfl, by rw [l0]; omega, _, rfl, .inr ⟨i, rfl, hi, _, rfl, ?_, _, rfl, rfl⟩⟩
    have := l2 (Str.empty ++ m) (Str.ofString (toString i))
    rw [l0] at this
    show ((Str.empty ++ m) ++ Str.ofString (toString i) : Str).length ≤ sizeLine
    omega
/-- what is asked behind the operand of C(e) -/
theorem mkO_post {C : Addr} {f : Str} {i : Int} {H1 : Hp} {Q : XK} (hi : i.natAbs.log2 < 1920) (h : ∀ d, H1 d = none → Q (.ref C) (some d) (upd H1 d (.xd [(f, .int i)]))) :
    ([V.int i] : List V).length ≤ 1000 ∧ ∀ a, H1 a = none → spI C f (.ref a :: ([V.int i] ++ [])) (upd H1 a (exo a C none))
      (fun v H2 => v = .non ∧ ∃ (d : Addr) (fs : List (Str × V)), H2 a = some (exo a C (some d)) ∧ H2 d = some (exd d fs) ∧ H1 d = none ∧ Q (.ref C) (some d) (upd (del H2 a) d (.xd fs))) (fun _ _ _ => False) := by
  refine ⟨Nat.le_of_ble_eq_true rfl, fun a ha => ⟨a, i, rfl, hi, upd_same, fun dx hd hne => ⟨rfl, dx, [(f, .int i)], upd_same, ?_, ?_, ?_⟩⟩⟩
  · rw [upd_ne hne, upd_same]
  · rw [upd_ne hne] at hd
    exact hd
  · rw [upd_ne hne] at hd
    have e : upd (del (upd (upd (upd H1 a (exo a C none)) dx (exd dx [(f, V.int i)])) a (exo a C (some dx))) a) dx (.xd [(f, V.int i)]) = upd H1 dx (.xd [(f, .int i)]) := by
      funext b
      by_cases hb : b = dx
      · rw [hb, upd_same, upd_same]
      · rw [upd_ne hb, upd_ne hb]
        by_cases hba : b = a
        · rw [hba, del_same, ha]
        · rw [del_ne hba, upd_ne hba, upd_ne hb, upd_ne hba]
    rw [e]
    exact h dx hd
/-- an error of a class with its own __init__ is made where nothing is handled: its context is None -/
theorem pmk_ini {X : Cx} {C fI : Addr} {k : Nat} {f x : Str} {st : Stmt} {fd : FuncData} {e : Expr} {ta : TE} {p pos : Pos} (F : XIni X.prog X.K X.mg C fI f st fd) (Tx : XTxt f st) (hr : Room (k + 2) X.A) (hb : Binds X.K fd ["self", f] []) (hg : Gl X x) (hm : X.mg x = some (.ref C))
    (ha : PE X e ta) (hdb : (x == ("__debug__" : Str)) = false) (hs : starEach [e] X.env = (false, eval e X.env) :: starEach [] X.env) : L2N.PMk X (.Call (.Name x p) [e] [] pos) (tMkO C (spI C f) [] (tCons ta tNil)) := by
  intro pins s σ H Q I h
  have fn := init_fn (P := X.prog) (w := X.w) (K := X.K) (mg := X.mg) (base := X.base) (CX := CX0) (k := k) F Tx
  have pa := pa_cons ha pa_nil hs
  obtain ⟨_, _, _, _, bm, _, _, _, _, _, _, _, _, _, _, cls0, refs0⟩ := F.T.cls
  refine wpAny_Call_Name_kw (ld_glob I hg hm ?_ hdb)
  refine PySem.W.callWith_K (h₀ := X.base) I.ok.mod.kin F.T.kC (wpAny_mono (pa.run pos pins s σ H _ I h) (fun us s1 ⟨ws, Ha, Ia, ra, hz, qa⟩ => ⟨Ia.kIn, ?_⟩) fun _ _ z => z) hs (by rfl)
  show wpAny (model X.prog X.w) X.A (call (.ref C) us) _ _ s1
  obtain ⟨hp, gn, dw, tk, osx⟩ := s1
  generalize hA : hp.objs.size + 1 = A
  have free : Ha A = none := Ia.hok.fresh (by rw [← hA]; exact Nat.le_succ _)
  have wish := qa A free
  generalize hB : (hp.push (PySem.W.kdv_tup us)).push (PySem.HandSPX.excO C hp.objs.size) = B
  have grows : ∀ b o, hp.get? b = some o → B.get? b = some o := fun b o z => by
    rw [← hB]; exact Heap.get?_push_of_some _ (Heap.get?_push_of_some _ z)
  have there : B.get? A = some (PySem.HandSPX.excO C hp.objs.size) := by
    rw [← hB, ← hA]; heap_get
  have Ib : L2.Inv X pins σ (upd Ha A (exo A C none)) ⟨B, gn, dw, tk, osx⟩ := Ia.laid (t' := tk) grows (by rw [← hA]; exact Nat.le_succ _) (exo_ok there)
  have rb : Vals (V.ref A :: (ws ++ [])) (Value.ref A :: (us ++ [])) := .cons rfl (ra.append .nil)
  have cnt : (Value.ref A :: us ++ []).length = (["self", f] : List Str).length := by
    have z := rb.length
    rw [fn.len _ _ _ _ wish] at z
    exact z.symm
  have few : us.length ≤ sizeLine := by
    have z := Paired.length ra
    rw [sizeLine_eq]
    omega
  have run := fn.run _ X.stack _ _ ⟨Value.ref A :: us, []⟩ (Value.ref A :: (us ++ [])) _ _ (fun _ _ _ => False) (hr.make C us []) (Ib.env0.make C us []) (by
      have z := hb _ (Value.ref A :: us) Ib.kIn cnt
      exact z) rb wish
  subst hA hB
  refine wpAny_call (PySem.HandSPX.call_own PySem.F.excBase_ValueError (fun Y => PySem.HandSPX.refsVE_contains Y bm refs0) (Ia.kIn _ _ cls0) (PySem.W.looks_findIn Ia.kIn F.ini) (fun self => PySem.W.bind_fn Ia.kIn self F.tI) few (codeAny_mono run fun r s' z => ?_))
  match r, z with
  | .error er, z => exact pass0 pins σ _ _ er s' Ib z
  | .ok (.ret u), ⟨v, H2, os2, bare2, un2, hok2, rv, ev, d, fs, ea, ed, hd1, q2⟩ =>
    subst ev
    obtain ⟨h2, g2, d2, t2, os'⟩ := s'
    obtain ⟨t0, G, J, kG, ge, hoe, na⟩ := mk_end0 (d2 := d2) (t2 := t2) Ia (Nat.le_succ _) grows un2 hok2 os2 bare2 ea ed hd1
    refine ⟨rv, _, _, _, ⟨G, g2, d2, t2, os'⟩, _, .ref C, some d, rfl, J, kG, ge, hoe, ⟨rfl, rfl, fun vs hv => ?_⟩, rfl, rfl, na, rfl, bare2, raises_own F.T.exC F.T.tyC, q2⟩
    cases hv
    rfl
end VE

/-! VMk: an error made as a value. -/
namespace VE
open PySem L2 PySem.Spec PyProof.Rows
section
variable {X : Cx}
/-- what is laid: the object, from now on unchanged -/
def tMk (t : L2.St → Hp → XK → Prop) : TE := fun σ H Q => t σ H fun cls d H' => ∀ a oe, H' a = none → Q (.ref a) (upd H' a (.frz oe (.ext (ErrP cls d a))))
theorem pe_mk {e : Expr} {t : L2.St → Hp → XK → Prop} (he : L2N.PMk X e t) : PE X e (tMk t) := by
  refine ⟨fun pins s σ H Q I h => wpAny_mono (he pins s σ H _ I h) (fun u s1 hu => ?_) fun _ _ x => x⟩
  obtain ⟨a, oe, vs, sI, H', cls, d, rfl, J, k, hne, ha, hz, hd, h1, na, os, ag, r, q⟩ := hu
  obtain ⟨G, g1, g2, g3⟩ := heap_less s1.heap a
  have J1 : L2.Inv X pins σ H' { s1 with heap := G } := by
    refine J.landed (s' := { s1 with heap := G }) (fun b o e _ => e) (fun b o e => ?_) (fun b o e _ => ?_) os ag
    · have hb : b ≠ a := fun z => by
        rw [z, hne] at e
        cases e
      show G.get? b = some o
      rw [g2 b hb]
      exact k b o e
    · have hb : b ≠ a := fun z => by
        rw [z, hne] at e
        cases e
      exact ⟨o.slots, by show G.get? b = _; rw [g2 b hb]; exact k b o e⟩
  have L := J1.laidN (h' := s1.heap) (a := a) (o := .frz oe (.ext (ErrP cls d a))) (t' := s1.toks) g3 g1 na
    ⟨ha, ⟨oe, ha, hz.zc, vs, hd⟩, ⟨oe, ha⟩, fun _ _ ⟨o, e, z⟩ k => ⟨o, k o e, z⟩⟩
  exact ⟨.ref a, _, L, rfl, q a oe na⟩
/-- X(e) of a class without own __init__ -/
theorem pmk_own1N {C : Addr} {bmB : List Value} {B newId initId : String} {x : Str} {e : Expr} {ta : TE} {p pos : Pos} (F : ExcBaseFacts B newId initId bmB) (q : PySem.W.excIn X.K C bmB newId = true) (gC : X.mg x = some (.ref C)) (kC : PySem.W.keepIn X.K (.ref C) = true) (r : Raises X (.ref C)) (hg : Gl X x)
    (he : PE X e ta) (hs : starEach [e] X.env = (false, eval e X.env) :: starEach [] X.env) (hdb : (x == ("__debug__" : Str)) = false) :
    L2N.PMk X (.Call (.Name x p) [e] [] pos) (fun σ H Q => ta σ H fun _ H1 => Q (.ref C) none H1) := by
  intro pins s σ H Q I h
  refine wpAny_Call_Name_kw (ld_glob I hg gC ?_ hdb)
  refine PySem.W.callWith_K (h₀ := X.base) I.ok.mod.kin kC ?_ hs (by rfl)
  rw [hs]
  show wpAny _ _ (spliced ((false, eval e X.env) :: backTo pos (starEach [] X.env))) _ _ s
  refine Calls.spliced_cons (thn (he.run pins s σ H _ I h) fun u s1 ⟨v, H1, I1, r1, q1⟩ => ?_)
  refine Calls.spliced_nil ⟨I1.kIn, ?_⟩
  show wpAny _ _ (call (.ref C) [u]) _ _ _
  obtain ⟨bm, N, nm, qn, bs, hdct, sn, sub, ab, col, dd, k0, k1, k2, k3, k5, mN, hC, hN, hni, T⟩ := exc_obj I1.kIn q
  refine wpAny_call_exc_subT F T hC hN hni (fun h' e hm => ?_) (by show 1 ≤ sizeLine; rw [sizeLine_eq]; omega)
  exact L2N.mk_of I1 hm r q1 (I1.hok.gone hm.new)
end
section
variable {K : PySem.W.Frag} {xr : XR} {W : WX} {Φ : Fns} {ρ : List S} {σ : L2.St} {G H : Hp} {φ : Nat → List Addr} {Q : VK} {c : Nat} {C : Addr} {a : A}
theorem mkx_ok (ns : PySem.W.nsIn K mainGlobals (cnm c) = some (some (.ref C))) (h13 : c < 13) (r : SR K G H ρ σ φ) (h : PoE K xr W σ G H φ (evE Φ (.mkx c a) ρ) Q) :
    tMk (fun σ H Q => tA K xr W Φ a σ H fun _ H1 => Q (.ref C) none H1) σ H Q := by
  rw [evE] at h
  refine op1 (g := opMkx c) (r := fun _ H1 Q => ∀ a oe, H1 a = none → Q (.ref a) (upd H1 a (.frz oe (.ext (ErrP (.ref C) none a))))) (fun x H Q q => ?_) r h
  obtain ⟨σ0, G0, φ0, ρ0, d, sr, vx, q⟩ := q
  intro b oe hb
  unfold opMkx at q
  split at q
  · rw [if_pos h13] at q
    exact fin_val (sr.newG (o := .frz oe (.ext (ErrP (.ref C) none b))) hb) (.err ns ⟨oe, upd_same⟩ errP .no) (q.from (Stp.newG sr.gh hb))
  · rw [if_neg (fun z => by have := z.1; omega)] at q
    exact q.elim
  · exact q.elim
/-- what the operand of a class with its own __init__ is to be -/
def rMk (C : Addr) (f : Str) : V → Hp → VK → Prop := fun x H1 Q => [x].length ≤ 1000 ∧ ∀ a, H1 a = none → spI C f (.ref a :: ([x] ++ [])) (upd H1 a (exo a C none))
  (fun v H2 => v = .non ∧ ∃ (d : Addr) (fs : List (Str × V)), H2 a = some (exo a C (some d)) ∧ H2 d = some (exd d fs) ∧ H1 d = none ∧ ∀ b oe, upd (del H2 a) d (.xd fs) b = none → Q (.ref b) (upd (upd (del H2 a) d (.xd fs)) b (.frz oe (.ext (ErrP (.ref C) (some d) b))))) (fun _ _ _ => False)
theorem rMk_of {g : PyData → Option S} {h : Int → S} (hgs : ∀ z, g (.str z) = if c < 13 then g (.str z) else none) (hgi : ∀ i, g (.int i) = if 13 ≤ c ∧ decide (i.natAbs.log2 < 1920) = true then some (h i) else none) (hgo : ∀ d t, g d = some t → (∃ z, d = .str z) ∨ ∃ i, d = .int i) (h13 : ¬ c < 13)
    {k : VK → VK} (hk : ∀ {i : Int} {Q : VK} {σ : L2.St} {G H : Hp} {φ : Nat → List Addr} {ρ : List S} {d b : Addr} {oe : Obj}, SR K G H ρ σ φ → PoE K xr W σ G H φ (.ok (h i) ρ) Q → H d = none → upd H d (.xd [(fldX c, .int i)]) b = none →
      k Q (.ref b) (upd (upd H d (.xd [(fldX c, .int i)])) b (.frz oe (.ext (ErrP (.ref C) (some d) b))))) :
    ∀ x H Q, rD1 K xr W g x H Q → rMk C (fldX c) x H (k Q) := by
  rintro x H Q ⟨σ0, G0, φ0, ρ0, d, sr, vx, q⟩
  cases e : g d with
  | none => rw [e] at q; exact q.elim
  | some t =>
    rcases hgo d t e with ⟨z, rfl⟩ | ⟨i, rfl⟩
    · rw [hgs, if_neg h13] at e
      cases e
    · rw [e] at q
      rw [hgi] at e
      split at e
      · rename_i hc
        cases e
        obtain rfl := vx.int
        exact mkO_post (C := C) (f := fldX c) (Q := fun _ d H' => ∀ b oe, H' b = none → k Q (.ref b) (upd H' b (.frz oe (.ext (ErrP (.ref C) d b))))) (of_decide_eq_true hc.2) fun d hd b oe hb => hk sr q hd hb
      · cases e
theorem mki_ok (ns : PySem.W.nsIn K mainGlobals (cnm c) = some (some (.ref C))) (h13 : ¬ c < 13) (r : SR K G H ρ σ φ) (h : PoE K xr W σ G H φ (evE Φ (.mkx c a) ρ) Q) :
    tMk (tMkO C (spI C (fldX c)) [] (tCons (tA K xr W Φ a) tNil)) σ H Q := by
  rw [evE] at h
  refine op1 (g := opMkx c) (r := rMk C (fldX c)) (rMk_of (h := fun i => .val (exD c (some i))) (k := id) (fun z => ?_) (fun i => rfl) (fun d t e => ?_) h13 fun {i Q σ G H φ ρ d b oe} sr q hd hb => ?_) r h
  · show (if c < 13 then some (S.val (exD c none)) else none) = if c < 13 then (if c < 13 then some (S.val (exD c none)) else none) else none
    rw [if_neg h13, if_neg h13]
  · unfold opMkx at e
    split at e
    · exact .inl ⟨_, rfl⟩
    · exact .inr ⟨_, rfl⟩
    · cases e
  · have s1 := sr.newG (o := .xd [(fldX c, .int i)]) hd
    exact fin_val (s1.newG (o := .frz oe (.ext (ErrP (.ref C) (some d) b))) hb) (.err ns ⟨oe, upd_same⟩ errP ((ErrF.int upd_same).mono (Same.upd_new (s1.gh.free hb))))
      ((q.from (Stp.newG sr.gh hd)).from (Stp.newG s1.gh hb))
theorem mkf_ok (h13 : ¬ c < 13) (r : SR K G H ρ σ φ) (h : PoE K xr W σ G H φ (evE Φ (.mkf c a) ρ) Q) :
    tMk (tMkO C (spI C (fldX c)) [] (tCons (tA K xr W Φ a) tNil)) σ H (fun x H1 => ∃ a dx φ i, x = .ref a ∧ ExtAt H1 a φ ∧ ErrO (.ref C) dx a φ ∧ ErrF H1 c (some i) dx ∧ Q (.int i) H1) := by
  rw [evE] at h
  refine op1 (g := opMkf c) (r := fun x H1 Q => rMk C (fldX c) x H1 fun x H1 => ∃ a dx φ i, x = .ref a ∧ ExtAt H1 a φ ∧ ErrO (.ref C) dx a φ ∧ ErrF H1 c (some i) dx ∧ Q (.int i) H1) (rMk_of (h := fun i => .val (.int i)) (k := fun Q x H1 => ∃ a dx φ i, x = .ref a ∧ ExtAt H1 a φ ∧ ErrO (.ref C) dx a φ ∧ ErrF H1 c (some i) dx ∧ Q (.int i) H1) (fun z => ?_) (fun i => rfl) (fun d t e => ?_) h13 fun {i Q σ G H φ ρ d b oe} sr q hd hb => ?_) r h
  · rw [if_neg h13]
    rfl
  · unfold opMkf at e
    split at e
    · exact .inr ⟨_, rfl⟩
    · cases e
  · have s1 := sr.newG (o := .xd [(fldX c, .int i)]) hd
    refine ⟨b, some d, _, i, rfl, ⟨oe, upd_same⟩, errP, (ErrF.int upd_same).mono (Same.upd_new (show upd H d (.xd [(fldX c, .int i)]) b = none from hb)), ?_⟩
    exact fin_val (s1.newG (o := .frz oe (.ext (ErrP (.ref C) (some d) b))) hb) (.int i) ((q.from (Stp.newG sr.gh hd)).from (Stp.newG s1.gh hb))
end
end VE

/-! VN: a call of one of several defs that stand in a list: [f, g, ..][i](x, ..). -/
namespace VE
open PySem L2 PySem.Spec PyProof.Rows
/-- the defs' places as operands -/
def adT (ad : Nat → Addr) : List Nat → TA
  | [] => tNil
  | f :: fs => tCons (tC (V.ref (ad f))) (adT ad fs)
theorem adT_eq (ad : Nat → Addr) {σ : L2.St} : ∀ (fs : List Nat) (Q : List V → Hp → Prop) (H : Hp), Q (fs.map fun f => V.ref (ad f)) H → adT ad fs σ H Q
  | [], Q, H, h => h
  | f :: fs, Q, H, h => adT_eq ad fs (fun xs H2 => Q (V.ref (ad f) :: xs) H2) H h
def tCallSel (ad : Nat → Addr) (fs : List Nat) (sp : Nat → Sp) (E : L2.St → XK) (tf : TE) (t : TA) : TE := fun σ H Q => tf σ H fun y H1 => ∃ f, f ∈ fs ∧ y = V.ref (ad f) ∧ t σ H1 fun vs H2 => sp f vs H2 Q (E σ)
section
variable {X : Cx} {CX : CXT} {ad : Nat → Addr} {fs : List Nat} {sp : Nat → Sp} {E : L2.St → XK} {fe : Expr} {p pos : Pos} {e : Expr} {es : List Expr} {tf : TE} {t : TA}
theorem pe_callSel (hf : PE X fe tf) (F : ∀ f ∈ fs, ∃ k fd ps, FnG X.prog X.w X.K X.mg X.base CX k (ad f) fd ps (sp f) ∧ Room k X.A ∧ PySem.W.keepIn X.K (.ref (ad f)) = true ∧ Binds X.K fd ps []) (hgd : X.A.guards = some [])
    (hx : ∀ σ, PassesAt CX X σ (E σ)) (ha : PA X (e :: es) t)
    (ht : eval (.Call fe (e :: es) [] pos) X.env = (do callWith pos (← eval fe X.env) [] (backTo pos (starEach (e :: es) X.env)) (backToKw pos (keywordEach [] X.env))))
    (he : starEach (e :: es) X.env = (false, eval e X.env) :: starEach es X.env) (hpl : (backTo pos (starEach es X.env)).any (·.1) = false) :
    PE X (.Call fe (e :: es) [] pos) (tCallSel ad fs sp E tf t) := by
  constructor
  intro pins s σ H Q I h
  refine Call_ (thn (hf.run pins s σ H _ I h) fun u s1 ⟨y, H1, I1, ry, f, hf, ey, q⟩ => ?_) ht
  subst ey
  obtain rfl : u = Value.ref (ad f) := ry
  obtain ⟨k, fd, ps, Fn, hr, hk, hb⟩ := F f hf
  have args := ha.run pos pins s1 σ H1 _ I1 q
  exact PySem.W.callWith_K (h₀ := X.base) I1.ok.mod.kin hk (wpAny_mono args (fun us s2 ⟨vs, H2, I2, r, q2⟩ => ⟨I2.kIn, Fn.at hr hgd hb (hx σ) I2 r q2⟩) fun _ _ z => z) he hpl
end
section
variable {K : PySem.W.Frag} {xr : XR} {W : WX} {Φ : Fns} {σ : L2.St} {G H : Hp} {φ : Nat → List Addr} {ρ : List S} {Q : VK}
theorem evE_csel {fs : List Nat} {i : Nat} {as : List A} : evE Φ (.csel fs i as) ρ = match slot ρ i with
    | .val (.int k) => match L2.atI fs k with
      | some f => evE Φ (.call f as) ρ
      | none => .stk
    | _ => .stk := by
  have ec : ∀ f, evE Φ (.call f as) ρ = (evAs Φ as ρ).bnd fun ts ρ' => match lend as ts ρ' with
      | some (ss, ρ'') => match Φ.fn f ss with
        | .stk => .stk
        | .ok s fs => .ok s (giveBack as ss fs ρ'')
        | .exc c d fs => .exc c d (giveBack as ss fs ρ'')
      | none => .stk := fun f => by rw [evE] <;> rfl
  simp only [ec]
  rw [evE] <;> rfl
theorem csel_ok {ad : Nat → Addr} {fs : List Nat} {i : Nat} {as : List A} (hl : fs.length ≤ sizeLine) (r : SR K G H ρ σ φ) (h : PoE K xr W σ G H φ (evE Φ (.csel fs i as) ρ) Q) :
    tCallSel ad fs (fun f => spOf K xr as.length (Φ.fn f)) (fun σ => WEx W σ) (tOp (rIxL K) (tLst (adT ad fs)) (tVar i)) (tAs K xr W Φ as) σ H Q := by
  rw [evE_csel] at h
  split at h
  · rename_i k hs
    split at h
    · rename_i f hf
      refine adT_eq ad fs _ H ⟨by simpa using hl, fun p hp => ?_⟩
      rcases r.rel i with q | ⟨v, e, q⟩
      · rw [hs] at q
        cases q.1
      · rw [hs] at q
        refine ⟨v, e, ?_⟩
        have hv : v = V.int k := by cases q.1; rfl
        subst hv
        obtain ⟨j, h1, h2⟩ := Option.bind_eq_some_iff.mp (show ((ixN fs.length k).bind fun j => fs[j]?) = some f from hf)
        have hm : f ∈ fs := List.mem_of_getElem? h2
        have ha : L2.atI (fs.map fun f => V.ref (ad f)) k = some (V.ref (ad f)) := by
          show ((ixN (fs.map fun f => V.ref (ad f)).length k).bind fun j => (fs.map fun f => V.ref (ad f))[j]?) = _
          rw [List.length_map, h1, Option.bind_some, List.getElem?_map, h2]
          rfl
        refine ⟨p, _, k, _, rfl, rfl, .inl (.inl upd_same), ha, f, hm, rfl, ?_⟩
        exact callE_ok (r.newG hp) (h.from (Stp.newG r.gh hp))
    · exact h.elim
  · exact h.elim
end
end VE

/-! VHa: walking while an error is handled. -/
namespace VE
open PySem L2 PySem.Spec PyProof.Rows
/-- an error is handled; its object is known where the context begins; its context is None -/
def HotG (X : Cx) : Prop := ∃ a oe u, X.A.handled = some (.ref a) ∧ X.H_0 a = some (.frz oe u) ∧ CtxO oe
section
variable {X : Cx} {pins : List (Addr × Obj)} {σ : L2.St} {H : Hp} {s : Shared}
theorem HotG.seen (g : HotG X) (I : L2.Inv X pins σ H s) : ∃ a, HotX.HotAt X.A a s.heap := by
  obtain ⟨a, oe, u, e1, e2, vs, e3, e4⟩ := g
  obtain ⟨e5, _⟩ := (show ObjOk X.prog X.w H s.heap a (.frz oe u) from I.hok a _ (I.base.frzs a oe u e2))
  exact ⟨a, e1, oe, vs, e5, e3, e4⟩
theorem HotG.block (g : HotG X) (I : L2.Inv X pins σ H s) {H2 : Hp} (k : ∀ b o u, H b = some (.frz o u) → H2 b = some (.frz o u)) (t : Shared) (scope : Scope) (ce : Env) (fp : List Addr) : HotG (X.blk t H2 scope ce fp) := by
  obtain ⟨a, oe, u, e1, e2, e3⟩ := g
  exact ⟨a, oe, u, e1, k _ _ _ (I.base.frzs a oe u e2), e3⟩
end
section
variable {prog : Program} {w : World} {A : Around} {E : Value → Shared → Prop} {s : Shared}
theorem next_end_list {k q x1 : Addr} {n : Nat} {ys : Array Value} {Q : Option Value → Shared → Prop} (hot : HotX.HotAt A x1 s.heap) (hk : s.heap.IsListIter k q n) (hq : s.heap.IsList q ys) (hn : ys[n]? = none) (hne : x1 ≠ k)
    (fin : ∀ g, (∀ b o, b ≠ k → s.heap.get? b = some o → g.get? b = some o) → Q none { s with heap := g }) : wpAny (model prog w) A (pyNext (.ref k)) Q E s := by
  obtain ⟨ob, e1, e2, e3⟩ := id hk
  obtain ⟨oq, f1, _, mq, f2⟩ := hq
  obtain ⟨k0, oz, vz, k1, k2, k3⟩ := hot
  unfold pyNext
  refine wpAny_bind (wpAny_attempt (wpAny_callSpecial?_slot
    (name := Str.ofString "__next__") hk.typeIs slot_listiter_next (wpAny_call_entry slot_listiter_next hk.typeIs entry_listiter_next ?_ (args_listiter_next _))))
  show wpAny _ _ (field (.ref k) 0 >>= _) _ _ s
  refine wpAny_bind (wpAny_field e1 e3 (x := .ref q) rfl ?_)
  show wpAny _ _ (if (Value.ref q == Value.none) = true then _ else _) _ _ s
  rw [if_neg (by exact Bool.false_ne_true)]
  show wpAny _ _ (field (.ref k) 1 >>= _) _ _ s
  refine wpAny_bind (wpAny_field e1 e3 (x := .int n 0) rfl ?_)
  show wpAny _ _ (seqItems? (.ref q) >>= _) _ _ s
  refine wpAny_bind (wpAny_seqItems f1 f2 ?_)
  simp only [Int.toNat_natCast, hn]
  refine wpAny_bind (wpAny_rule (wpAny_bind (wpAny_setField e1 e3 (by simp) ?_)))
  generalize hG : s.heap.update k _ = G
  have kG : ∀ b o, b ≠ k → s.heap.get? b = some o → G.get? b = some o := fun b o hb z => by
    rw [← hG, Heap.get?_update_other _ _ (Ne.symm hb)]; exact z
  show wpAny _ _ (newExc (.type "StopIteration") [] >>= _) _ _ _
  refine wpAny_bind ?_
  simp only [newExc, newTuple]
  refine wpAny_bind (wpAny_newObj_type ?_ (by size_fits))
  refine wpAny_bind (m := firstArgMember _ _) (wpAny_of_eq (a := Value.none) (by
    first
    | rfl
    | (simp only [firstArgMember]; rfl)) ?_)
  refine wpAny_newObj_type ?_ (by size_fits)
  have kk := kG _ _ hne k1
  refine HotX.raiseNew_hot ⟨k0, oz, vz, Heap.get?_push_of_some _ (Heap.get?_push_of_some _ kk), k2, k3⟩
    (Nat.ne_of_lt (Heap.lt_size (Heap.get?_push_of_some _ kk))) (Heap.get?_push_size _ rfl) rfl (by
      first
      | (simp; done)
      | (simp; omega)
      | (simp only [Array.size_append]; simp; omega)) ?_
  refine wpAny_bind (wpAny_isInstance
    (T := "StopIteration") (b := true) ⟨_, Heap.get?_update_self _ (Heap.get?_push_size _ rfl) rfl, rfl⟩ isSubtype_stop ?_)
  refine wpAny_pure (fin _ fun b o hb z => ?_)
  have z2 := kG b o hb z
  rw [Heap.get?_update_other _ _ (Nat.ne_of_gt (Heap.lt_size (Heap.get?_push_of_some _ z2)))]
  exact Heap.get?_push_of_some _ (Heap.get?_push_of_some _ z2)
theorem next_end_tuple {k q x1 : Addr} {n : Nat} {ys : Array Value} {Q : Option Value → Shared → Prop} (hot : HotX.HotAt A x1 s.heap) (hk : s.heap.IsTupleIter k q n) (hq : s.heap.IsTuple q ys) (hn : ys[n]? = none) (hne : x1 ≠ k)
    (fin : ∀ g, (∀ b o, b ≠ k → s.heap.get? b = some o → g.get? b = some o) → Q none { s with heap := g }) : wpAny (model prog w) A (pyNext (.ref k)) Q E s := by
  obtain ⟨ob, e1, e2, e3⟩ := id hk
  obtain ⟨oq, f1, _, mq, f2⟩ := hq
  obtain ⟨k0, oz, vz, k1, k2, k3⟩ := hot
  unfold pyNext
  refine wpAny_bind (wpAny_attempt (wpAny_callSpecial?_slot
    (name := Str.ofString "__next__") hk.typeIs F.slot_tuple_iterator_next (wpAny_call_entry F.slot_tuple_iterator_next hk.typeIs F.entry_tuple_iterator_next ?_ (F.args_tuple_iterator_next_1 _))))
  show wpAny _ _ (field (.ref k) 0 >>= _) _ _ s
  refine wpAny_bind (wpAny_field e1 e3 (x := .ref q) rfl ?_)
  show wpAny _ _ (if (Value.ref q == Value.none) = true then _ else _) _ _ s
  rw [if_neg (by exact Bool.false_ne_true)]
  show wpAny _ _ (field (.ref k) 1 >>= _) _ _ s
  refine wpAny_bind (wpAny_field e1 e3 (x := .int n 0) rfl ?_)
  show wpAny _ _ (seqItems? (.ref q) >>= _) _ _ s
  refine wpAny_bind (wpAny_seqItems f1 f2 ?_)
  simp only [Int.toNat_natCast, hn]
  refine wpAny_bind (wpAny_rule (wpAny_bind (wpAny_setField e1 e3 (by simp) ?_)))
  generalize hG : s.heap.update k _ = G
  have kG : ∀ b o, b ≠ k → s.heap.get? b = some o → G.get? b = some o := fun b o hb z => by
    rw [← hG, Heap.get?_update_other _ _ (Ne.symm hb)]; exact z
  show wpAny _ _ (newExc (.type "StopIteration") [] >>= _) _ _ _
  refine wpAny_bind ?_
  simp only [newExc, newTuple]
  refine wpAny_bind (wpAny_newObj_type ?_ (by size_fits))
  refine wpAny_bind (m := firstArgMember _ _) (wpAny_of_eq (a := Value.none) (by
    first
    | rfl
    | (simp only [firstArgMember]; rfl)) ?_)
  refine wpAny_newObj_type ?_ (by size_fits)
  have kk := kG _ _ hne k1
  refine HotX.raiseNew_hot ⟨k0, oz, vz, Heap.get?_push_of_some _ (Heap.get?_push_of_some _ kk), k2, k3⟩
    (Nat.ne_of_lt (Heap.lt_size (Heap.get?_push_of_some _ kk))) (Heap.get?_push_size _ rfl) rfl (by
      first
      | (simp; done)
      | (simp; omega)
      | (simp only [Array.size_append]; simp; omega)) ?_
  refine wpAny_bind (wpAny_isInstance
    (T := "StopIteration") (b := true) ⟨_, Heap.get?_update_self _ (Heap.get?_push_size _ rfl) rfl, rfl⟩ isSubtype_stop ?_)
  refine wpAny_pure (fin _ fun b o hb z => ?_)
  have z2 := kG b o hb z
  rw [Heap.get?_update_other _ _ (Nat.ne_of_gt (Heap.lt_size (Heap.get?_push_of_some _ z2)))]
  exact Heap.get?_push_of_some _ (Heap.get?_push_of_some _ z2)
end
end VE

/-! VHb: comprehensions over a list or tuple while an error is handled. -/
namespace VE
open PySem L2 PySem.Spec PyProof.Rows
/-- an iterator's turns where an error is handled -/
structure TurnG (P : Program) (w : World) (K : PySem.W.Frag) (tg : Expr) (J : L2.It) (it : Addr) (tn : Nat → Heap → Prop) : Prop where
  obj : ∀ i h, tn i h → ∃ o, h.get? it = some o ∧ ∀ v, o.data ≠ .cell v
  keep : ∀ i h h', tn i h → (∀ o, h.get? it = some o → h'.get? it = some o) → tn i h'
  item : ∀ (X : Cx), X.prog = P → X.w = w → X.K = K → ∀ (i : Nat) (pins : List (Addr × Obj)) (s : Shared) (σ : L2.St) (H : Hp) (E : Value → Shared → Prop), L2.Inv X pins σ H s → FpOk X pins H it → tn i s.heap → J.go i H →
    wpAny (model P w) X.A (pyNext (.ref it)) (fun r s1 => ∃ u, r = some u ∧
      wpAny (model P w) X.A (letOwnedTupleGo tg (.ref it) u) (fun _ s2 => ∃ x H', L2.Inv X pins σ H' s2 ∧ L2.RelV x u ∧ J.yld i H x H' ∧ tn (i + 1) s2.heap ∧ H' it = none) E s1) E s
  done : ∀ (X : Cx), X.prog = P → X.w = w → X.K = K → HotG X → ∀ (i : Nat) (pins : List (Addr × Obj)) (s : Shared) (σ : L2.St) (H : Hp) (E : Value → Shared → Prop), L2.Inv X pins σ H s → FpOk X pins H it → tn i s.heap → J.stop i H →
    wpAny (model P w) X.A (pyNext (.ref it)) (fun r s1 => r = none ∧ L2.Inv X pins σ H s1) E s
  self : ∀ (A : Around) (i : Nat) (s : Shared) (Q E : Value → Shared → Prop), tn i s.heap → Q (.ref it) s → wpAny (model P w) A (pyIter (.ref it)) Q E s
section
variable {P : Program} {w : World} {K : PySem.W.Frag} {tg : Expr} {a it : Addr}
theorem hot_ne {X : Cx} {pins : List (Addr × Obj)} {σ : L2.St} {H : Hp} {s : Shared} {it : Addr} (g : HotG X) (I : L2.Inv X pins σ H s) (f : H it = none) : ∃ x1, HotX.HotAt X.A x1 s.heap ∧ x1 ≠ it := by
  obtain ⟨b, oe, u, e1, e2, vs, e3, e4⟩ := g
  have hb := I.base.frzs b oe u e2
  obtain ⟨e5, _⟩ := (show ObjOk X.prog X.w H s.heap b (.frz oe u) from I.hok b _ hb)
  exact ⟨b, ⟨e1, oe, vs, e5, e3, e4⟩, fun z => by rw [← z, hb] at f; cases f⟩
theorem turnG_list : TurnG P w K tg (Itl K a) it (fun i h => h.IsListIter it a i) where
  obj := fun i h ⟨o, e, _, d⟩ => ⟨o, e, fun v z => by
    rw [d] at z
    cases z⟩
  keep := fun i h h' ⟨o, e, r⟩ k => ⟨o, k o e, r⟩
  item := by
    rintro X rfl rfl rfl i pins s σ H E I ⟨f0, f1, f2, f3, f4, f5⟩ st ⟨xs, x, hq, hx⟩
    obtain ⟨its, rv, p, _⟩ := I.list hq
    obtain ⟨u, hu, ru⟩ := rv.get hx
    refine wpAny_pyNext_list_item st p.isList (x := u) (by rw [List.getElem?_toArray]; exact hu) fun g st2 sb => ⟨u, rfl, ?_⟩
    obtain ⟨o, e, c, d⟩ := id st2
    have I2 := I.turned (h' := g) (t' := s.toks) (fun b o hb e => (sb.2 b hb).trans e) f0 f1 f3 f4 f5
    exact go_of (s := { s with heap := g }) e c d (by decide) ⟨x, H, I2, ru, ⟨rfl, fun ys hy => by
      rw [I.list_inj hy hq]
      exact hx⟩, st2, f0⟩
  done := by
    rintro X rfl rfl rfl g i pins s σ H E I ⟨f0, f1, f2, f3, f4, f5⟩ st ⟨xs, hq, hx⟩
    obtain ⟨its, rv, p, _⟩ := I.list hq
    obtain ⟨x1, hot, ne⟩ := hot_ne g I f0
    have hl := rv.length
    refine next_end_list hot st p.isList (by rw [List.getElem?_toArray, List.getElem?_eq_none (by omega)]) ne fun h2 k => ⟨rfl, ?_⟩
    exact I.turned (t' := s.toks) (fun b o hb e => k b o hb e) f0 f1 f3 f4 f5
  self := fun _ _ _ _ _ st q => wpAny_pyIter_listiter st q
theorem turnG_tuple : TurnG P w K tg (Itt K a) it (fun i h => h.IsTupleIter it a i) where
  obj := fun i h ⟨o, e, _, d⟩ => ⟨o, e, fun v z => by
    rw [d] at z
    cases z⟩
  keep := fun i h h' ⟨o, e, r⟩ k => ⟨o, k o e, r⟩
  item := by
    rintro X rfl rfl rfl i pins s σ H E I ⟨f0, f1, f2, f3, f4, f5⟩ st ⟨xs, x, hq, hx⟩
    obtain ⟨its, rv, p, _⟩ := I.tuple hq
    obtain ⟨u, hu, ru⟩ := rv.get hx
    refine wpAny_pyNext_tuple_item st (show s.heap.IsTuple a its.toArray from p) (x := u) (by rw [List.getElem?_toArray]; exact hu) fun g st2 sb => ⟨u, rfl, ?_⟩
    obtain ⟨o, e, c, d⟩ := id st2
    have I2 := I.turned (h' := g) (t' := s.toks) (fun b o hb e => (sb.2 b hb).trans e) f0 f1 f3 f4 f5
    exact go_of (s := { s with heap := g }) e c d (by decide) ⟨x, H, I2, ru, ⟨rfl, fun ys hy => by
      rw [I.tuple_inj hy hq]
      exact hx⟩, st2, f0⟩
  done := by
    rintro X rfl rfl rfl g i pins s σ H E I ⟨f0, f1, f2, f3, f4, f5⟩ st ⟨xs, hq, hx⟩
    obtain ⟨its, rv, p, _⟩ := I.tuple hq
    obtain ⟨x1, hot, ne⟩ := hot_ne g I f0
    have hl := rv.length
    refine next_end_tuple hot st (show s.heap.IsTuple a its.toArray from p) (by rw [List.getElem?_toArray, List.getElem?_eq_none (by omega)]) ne fun h2 k => ⟨rfl, ?_⟩
    exact I.turned (t' := s.toks) (fun b o hb e => k b o hb e) f0 f1 f3 f4 f5
  self := fun _ _ _ _ _ st q => wpAny_pyIter_tupleiter st q
end
/-- a tuple's items taken out -/
theorem items_hot {prog : Program} {w : World} {A : Around} {E : Value → Shared → Prop} {s : Shared} {t x1 : Addr} {ys : Array Value} {Q : List Value → Shared → Prop} (hot : HotX.HotAt A x1 s.heap) (ht : s.heap.IsTuple t ys)
    (fin : ∀ g, (∀ b o, b ≠ s.heap.objs.size → s.heap.get? b = some o → g.get? b = some o) → Q ys.toList { s with heap := g }) : wpAny (model prog w) A (unpackItems (.ref t) ys.size none) Q E s := by
  have tk : t ≠ s.heap.objs.size := by
    obtain ⟨o, e, _⟩ := ht
    exact Nat.ne_of_lt (Heap.lt_size e)
  obtain ⟨k0, oz, vz, k1, k2, k3⟩ := hot
  have xk : x1 ≠ s.heap.objs.size := Nat.ne_of_lt (Heap.lt_size k1)
  have same : (ys.toList.drop 0).take ys.size = ys.toList := List.take_of_length_le (Nat.le_of_eq Array.length_toList)
  unfold unpackItems
  refine wpAny_bind ?_
  unfold notIterableAtAll
  refine wpAny_bind (wpAny_specialOf ht.typeIs PySem.F.slot_tuple_iter.lookup (wpAny_pure ?_))
  simp only [Bool.false_eq_true, if_false]
  refine wpAny_bind (wpAny_holding (wpAny_pyIter_tuple ht ?_))
  have ht1 := ht.push { cls := .type "tuple_iterator", data := .fields #[.ref t, .int 0 0] }
  refine wpAny_bind (wpAny_holding (wpAny_draw_tuple tk ys.size 0 _ _ ⟨_, Heap.get?_push_size _ rfl, rfl, rfl⟩ ht1 (Nat.le_of_eq (Nat.zero_add _)) fun g it1 sb => ?_))
  rw [same, if_neg (by rw [Array.length_toList]; exact Nat.lt_irrefl _)]
  have far : ∀ b o, b ≠ s.heap.objs.size → s.heap.get? b = some o → g.get? b = some o := fun b o hb e => (sb.2 b hb).trans (Heap.get?_push_of_some _ e)
  have ht2 : g.IsTuple t ys := by
    obtain ⟨o, e, r⟩ := ht
    exact ⟨o, far t o tk e, r⟩
  refine wpAny_bind (wpAny_holding (next_end_tuple ⟨k0, oz, vz, far x1 oz xk k1, k2, k3⟩ it1 ht2 (by simp) xk fun g2 kp => ?_))
  simp only [Option.isSome_none, Bool.false_eq_true, if_false]
  exact wpAny_pure (fin g2 fun b o hb e => kp b o hb (far b o hb e))
theorem pg_tupG {X : Cx} {pos : Pos} {es : List Expr} {k : Nat} {t : TGs} {n : Nat} (g : HotG X) (h : PGs X es t) (hn : (assignEach es X.env).length = n) (hst : (assignEach es X.env).findIdx? (·.1) = none) : PG X (.Tuple es k pos) (gTup X.K n t) := by
  constructor
  rintro pins s σ H v u Q I r ⟨a, xs, rfl, hq, hl, hw⟩
  obtain rfl : u = .ref a := r
  obtain ⟨its, rv, ht, _⟩ := I.tuple hq
  obtain ⟨x1, hot⟩ := g.seen I
  have len : (assignEach es X.env).length = its.toArray.size := by
    rw [hn, ← hl, rv.length]
    rfl
  rw [PyProof.Rows.assign_Tuple]
  refine wpAny_bind (wpAny_standAt ?_)
  unfold unpack
  rw [len, hst]
  refine wpAny_bind (wpAny_holding (items_hot hot (show s.heap.IsTuple a its.toArray from ht) fun h2 kp => ?_))
  have I2 : L2.Inv X pins σ H { s with heap := h2 } := I.kept (t' := s.toks) fun b o e => kp b o (Nat.ne_of_lt (Heap.lt_size e)) e
  exact h.run pins _ σ H xs its Q I2 rv hw
/-- an iterator has come -/
def PIEG (X : Cx) (pins : List (Addr × Obj)) (σ : L2.St) (tg : Expr) (R : L2.It → Hp → Prop) (itv : Value) (s2 : Shared) : Prop :=
  ∃ (it : Addr) (tn : Nat → Heap → Prop) (J : L2.It) (H' : Hp), itv = .ref it ∧ L2.Inv X pins σ H' s2 ∧ TurnG X.prog X.w X.K tg J it tn ∧ tn 0 s2.heap ∧ FpOk X pins H' it ∧ R J H'
theorem pig_seq {X : Cx} {tg l : Expr} {tl : TE} (hl : PE X l tl) {pins : List (Addr × Obj)} {s : Shared} {σ : L2.St} {H : Hp} {R : L2.It → Hp → Prop} (I : L2.Inv X pins σ H s) (h : iSeq X.K tl σ H R) :
    wpAny (model X.prog X.w) X.A (eval l X.env) (fun v s1 => wpAny (model X.prog X.w) X.A (pyIter v) (PIEG X pins σ tg R) X.xe s1) X.xe s := by
  refine thn (hl.run pins s σ H _ I h) fun v s1 ⟨x, H1, I1, r1, q1⟩ => ?_
  have fresh := I1.hok.fresh (Nat.le_refl s1.heap.objs.size)
  rcases q1 with ⟨b, rfl, ⟨xs, hq⟩, q⟩ | ⟨b, rfl, ⟨xs, hq⟩, q⟩
  · obtain rfl : v = .ref b := r1
    obtain ⟨its, rv, p, _⟩ := I1.list hq
    refine wpAny_pyIter_list p.isList ⟨_, _, Itl X.K b, H1, rfl, I1.kept (t' := s1.toks) fun c o e => Heap.get?_push_of_some _ e, turnG_list, ⟨_, Heap.get?_push_size _ rfl, rfl, rfl⟩, ?_, q⟩
    exact I1.fpOk (Nat.le_refl _) fresh
  · obtain rfl : v = .ref b := r1
    obtain ⟨its, rv, p, _⟩ := I1.tuple hq
    refine wpAny_pyIter_tuple (show s1.heap.IsTuple b its.toArray from p) ⟨_, _, Itt X.K b, H1, rfl, I1.kept (t' := s1.toks) fun c o e => Heap.get?_push_of_some _ e, turnG_tuple, ⟨_, Heap.get?_push_size _ rfl, rfl, rfl⟩, ?_, q⟩
    exact I1.fpOk (Nat.le_refl _) fresh
end VE

/-! VHc: name = [..] while an error is handled. -/
namespace VE
open PySem L2 PySem.Spec PyProof.Rows
section
variable {X : Cx} {elt tg iter : Expr} {ifs : List Expr} {scope : Scope} {own : List (Str × Nat)} {pos : Pos} {tl : TE} {g : TG} {tt : TT} {te : TE}
theorem lc_hot {pins : List (Addr × Obj)} {s : Shared} {σ : L2.St} {H : Hp} {Q : VK} {pos' : Pos} {use : Option (Value → Sem Unit)} {Qf : Value → Shared → Prop} (hot : HotG X) (hN : X.N.Nodup) (I : L2.Inv X pins σ H s) (hl : PE X iter tl) (ok : BlkOk X.N X.env.scope scope own)
    (hg : ∀ (s : Shared) (H : Hp) (C : Addr) (cl : List (Str × Addr)) (fp : List Addr), HotG (X.blk s H scope (compEnvC scope cl C X.env) fp) → PG (X.blk s H scope (compEnvC scope cl C X.env) fp) tg g)
    (ht : ∀ (s : Shared) (H : Hp) (C : Addr) (cl : List (Str × Addr)) (fp : List Addr), PTs (X.blk s H scope (compEnvC scope cl C X.env) fp) ifs tt)
    (he : ∀ (s : Shared) (H : Hp) (C : Addr) (cl : List (Str × Addr)) (fp : List Addr), PE (X.blk s H scope (compEnvC scope cl C X.env) fp) elt te)
    (hs : ∀ x, foldedSetIterable iter X.env x = pure x) (h : tLc (iSeq X.K tl) g tt te (own.map (·.2)) σ H Q)
    (fin : ∀ L C s' m H', L2.Inv X pins σ H' s' → Q (.ref L) H' → s'.heap.Ns C m → FpOk X pins H' C → compPost (model X.prog X.w) X.A X.xe use Qf (.ref L) C (.ok .next) s') :
    wpAny (model X.prog X.w) X.A (comprehension (.ListComp elt [⟨tg, iter, ifs, 0⟩] scope pos) scope X.env pos' (newList []) false (eval iter X.env) use) Qf X.xe s := by
  have caps : ∀ y ∈ scope.names, y.2 = .free → ∃ c, X.env.cells.lookup y.1 = some c := fun y hy e =>
    (ok.free y hy e).elim (fun z => I.ok.has _ (.inl z)) fun z => I.ok.has _ (.inr z)
  have first := pig_seq (tg := tg) hl I h
  refine wpAny_comprehension_free (use := use) rfl hs (closure_ok caps) ok.kind (fun y hy e => by
    rw [ok.uniq y hy]
    exact congrArg some e) (thn first fun v s0 z0 => thn z0 fun itv s1 z1 => ?_)
  obtain ⟨k, tn, J, Ha, rfl, Ia, T, st1, fk, q⟩ := z1
  refine wpAny_newObj_type (newEnv_comp ?_) (Nat.zero_le _)
  -- the new list
  generalize eL : s1.heap.objs.size = L
  have LN : Ha L = none := Ia.hok.fresh (Nat.le_of_eq eL)
  obtain ⟨W, ⟨m0, w0⟩, turn⟩ := q L LN
  have kL : k < L := by
    obtain ⟨o, e, _⟩ := T.obj _ _ st1
    rw [← eL]
    exact Heap.lt_size e
  have up1 : ∀ b o, s1.heap.get? b = some o → (s1.heap.push { cls := .type "list", data := .seq ([] : List Value).toArray }).get? b = some o := fun b o e => Heap.get?_push_of_some _ e
  have Ib : L2.Inv X pins σ (upd Ha L (.lst [])) { s1 with heap := s1.heap.push { cls := .type "list", data := .seq ([] : List Value).toArray } } :=
    Ia.laid (t' := s1.toks) up1 (Nat.le_of_eq eL) ⟨Nat.zero_le _, [], 0, .nil, by
      rw [← eL]
      exact Heap.get?_push_size _ rfl⟩
  have st2 : tn 0 (s1.heap.push { cls := .type "list", data := .seq ([] : List Value).toArray }) := T.keep _ _ _ st1 fun o e => up1 _ _ e
  have fk2 : FpOk X pins (upd Ha L (.lst [])) k := ⟨by
    rw [upd_ne (Nat.ne_of_lt kL)]
    exact fk.1, fk.2⟩
  generalize eS : ({ s1 with heap := s1.heap.push { cls := .type "list", data := .seq ([] : List Value).toArray } } : Shared) = sL at Ib ⊢
  have hL : sL.heap = s1.heap.push { cls := .type "list", data := .seq ([] : List Value).toArray } := by rw [← eS]
  rw [← hL] at st2
  have szk : k < sL.heap.objs.size := by
    rw [hL, Heap.size_push, eL]
    exact Nat.lt_succ_of_lt kL
  have fks : ∀ b ∈ [k], FpOk X pins (upd Ha L (.lst [])) b ∧ b < sL.heap.objs.size := fun b hb => by
    obtain rfl := List.mem_singleton.mp hb
    exact ⟨fk2, szk⟩
  -- the block
  have Ic := block_start Ib ok hN fks
  have hot2 : HotG (X.blk sL (upd Ha L (.lst [])) scope (compEnvC scope (cellsFrom (sL.heap.objs.size + 1) scope.names (cloFrom X.env.cells scope.names [])) sL.heap.objs.size X.env) [k]) := hot.block Ia (fun b o u e => by
    rw [upd_ne fun z => by rw [z, LN] at e; cases e]
    exact e) sL scope _ [k]
  have pg := hg sL (upd Ha L (.lst [])) sL.heap.objs.size (cellsFrom (sL.heap.objs.size + 1) scope.names (cloFrom X.env.cells scope.names [])) [k] hot2
  have pt := ht sL (upd Ha L (.lst [])) sL.heap.objs.size (cellsFrom (sL.heap.objs.size + 1) scope.names (cloFrom X.env.cells scope.names [])) [k]
  have pe := he sL (upd Ha L (.lst [])) sL.heap.objs.size (cellsFrom (sL.heap.objs.size + 1) scope.names (cloFrom X.env.cells scope.names [])) [k]
  show codeAny _ _ (.compStart (.ListComp elt [⟨tg, iter, ifs, 0⟩] scope pos) 0 (.ref k) (.ref L) (compEnvC scope (cellsFrom (sL.heap.objs.size + 1) scope.names (cloFrom X.env.cells scope.names [])) sL.heap.objs.size X.env)) (compPost (model X.prog X.w) X.A X.xe use Qf (.ref L) sL.heap.objs.size) _
  have locs : (compEnvC scope (cellsFrom (sL.heap.objs.size + 1) scope.names (cloFrom X.env.cells scope.names [])) sL.heap.objs.size X.env).locals = sL.heap.objs.size := rfl
  generalize eE : compEnvC scope (cellsFrom (sL.heap.objs.size + 1) scope.names (cloFrom X.env.cells scope.names [])) sL.heap.objs.size X.env = ce at Ic hot2 pg pt pe locs ⊢
  generalize eH : upd Ha L (.lst []) = Hb at Ib Ic hot2 pg pt pe w0 fk2 fks
  generalize eT : ({ sL with heap := pushCells (sL.heap.push { cls := .type "dict", data := .dict #[] }) scope.names } : Shared) = sB at Ic ⊢
  have st3 : tn 0 sB.heap := T.keep _ _ _ st2 fun o e => by
    rw [← eT]
    exact pushCells_keeps _ _ _ _ (Heap.get?_push_of_some _ e)
  -- the iterator stays out of reach within the block
  have aside : ∀ {τ : L2.St} {H' : Hp} {s' : Shared}, L2.Inv (X.blk sL Hb scope ce [k]) [] τ H' s' → H' k = none → FpOk (X.blk sL Hb scope ce [k]) [] H' k := fun {τ H' s'} J hn => by
    have mk : k ∈ (X.blk sL Hb scope ce [k]).ex := List.mem_singleton.mpr rfl
    exact ⟨hn, (J.ok.exf k mk).1, J.ok.exfs k mk, .inl mk, fun x c e => (J.ok.exf k mk).2 x c e, fun p hp => nomatch (show p ∈ ([] : List (Addr × Obj)) from hp)⟩
  have go : codeAny (model X.prog X.w) X.A (.compLoop (.ListComp elt [⟨tg, iter, ifs, 0⟩] scope pos) 0 (.ref k) (.ref L) ce) (compPost (model X.prog X.w) X.A X.xe use Qf (.ref L) sL.heap.objs.size) sB := by
    refine compLoop_any (fun n s' => ∃ i H', L2.Inv (X.blk sL Hb scope ce [k]) [] (wipe σ (own.map (·.2))) H' s' ∧ tn i s'.heap ∧ H' k = none ∧ W i n H') ?_ m0 ⟨0, Hb, Ic, st3, fk2.1, w0⟩
    rintro n s4 ⟨i, Hc, Id, st4, nk, wk⟩
    rcases turn i n Hc wk with ⟨stop, qq⟩ | ⟨more, Nx, hNx, step⟩
    · refine thnF (T.done (X.blk sL Hb scope ce [k]) rfl rfl rfl hot2 i [] s4 _ Hc (fun _ _ => False) Id (aside Id nk) st4 stop) fun r s5 z5 => ?_
      obtain ⟨rfl, Ie⟩ := z5
      have If : L2.Inv X pins σ Hc s5 := Ib.call' (ch := [k]) Ie.os Ie.base Ie.hok Ie.bare fun b hb => by
        obtain ⟨z, _⟩ := fks b hb
        exact ⟨z.2.2.2.1, z.2.1, z.2.2.2.2.1, z.2.2.2.2.2⟩
      have free := Ie.free
      obtain ⟨m, ns, _⟩ := Ie.loc
      have free : Hc ce.locals = none := free
      have ns : s5.heap.Ns ce.locals m := ns
      rw [locs] at free ns
      exact fin L sL.heap.objs.size s5 m Hc If qq ns (Ib.fpOk (Nat.le_refl _) free)
    · refine thnF (T.item (X.blk sL Hb scope ce [k]) rfl rfl rfl i [] s4 _ Hc (fun _ _ => False) Id (aside Id nk) st4 more) fun r s5 z5 => ?_
      obtain ⟨u, rfl, z5⟩ := z5
      refine thnF z5 fun _ s6 ⟨x, Hd, Ie, rx, yx, st6, n6⟩ => ?_
      have there : ∀ b ∈ [k], ∃ o, s6.heap.get? b = some o ∧ ∀ v, o.data ≠ .cell v := fun b hb => by
        obtain rfl := List.mem_singleton.mp hb
        exact T.obj _ _ st6
      have Ip := Ie.pinned (fun b hb => by
        obtain rfl := List.mem_singleton.mp hb
        exact aside Ie n6) there
      refine thnF (pg.run _ s6 _ Hd x u _ Ip rx (step x Hd yx)) fun _ s7 ⟨τ, He, Iq, hw, q7⟩ => ?_
      refine thnF (pt.run _ s7 τ He _ Iq q7) fun b s8 ⟨Hf, Ir, q8⟩ => ?_
      have again : ∀ {s' : Shared} {H' : Hp}, L2.Inv (X.blk sL Hb scope ce [k]) ([] ++ pinsAt [k] s6.heap) τ H' s' → Nx H' → ∃ m, m < n ∧ ∃ i H', L2.Inv (X.blk sL Hb scope ce [k]) [] (wipe σ (own.map (·.2))) H' s' ∧ tn i s'.heap ∧ H' k = none ∧ W i m H' := fun {s' H'} Is nx => by
        obtain ⟨m', lt, w'⟩ := hNx H' nx
        have pin : ∀ o, s6.heap.get? k = some o → s'.heap.get? k = some o ∧ H' k = none := fun o e => by
          have z := Is.pin (k, o) (List.mem_append_right _ (List.mem_append_right _ (mem_pinsAt (List.mem_singleton.mpr rfl) e)))
          exact ⟨z.1, z.2.1⟩
        have len : (wipe σ (own.map (·.2))).length = τ.length := by
          rw [← hw]
          exact wipe_length _ _
        have back := (Is.unpinned (pins := [])).weak len fun j v e => by
          rw [← hw] at e
          exact (wipe_some e).1
        obtain ⟨o, eo, _⟩ := T.obj _ _ st6
        exact ⟨m', lt, i + 1, H', back, T.keep _ _ _ st6 fun o e => (pin o e).1, (pin o eo).2, w'⟩
      cases b with
      | false =>
        rw [if_neg Bool.false_ne_true] at q8 ⊢
        exact again Ir q8
      | true =>
        rw [if_pos rfl] at q8 ⊢
        refine thnF (pe.run _ s8 τ Hf _ Ir q8) fun z s9 ⟨yv, Hg, It, ry, acc, eD, zD, nx⟩ => ?_
        exact app_ok (X := X.blk sL Hb scope ce [k]) It eD zD ry fun s10 Iu => again Iu nx
  exact codeAny_compStart_list go (T.self X.A 0 _ _ _ st3 go)
/-- name = [..] on one line -/
theorem ps_lcG {i : Nat} {y : Str} {py spos : Pos} (hot : HotG X) (hN : X.N.Nodup) (hy : X.N[i]? = some y) (hyl : X.env.scope.names.lookup y = some .local) (hsw : swapsWith (.ListComp elt [⟨tg, iter, ifs, 0⟩] scope pos) (some (.Name y py)) spos.line X.env = pure true)
    (hl : PE X iter tl) (ok : BlkOk X.N X.env.scope scope own)
    (hg : ∀ (s : Shared) (H : Hp) (C : Addr) (cl : List (Str × Addr)) (fp : List Addr), HotG (X.blk s H scope (compEnvC scope cl C X.env) fp) → PG (X.blk s H scope (compEnvC scope cl C X.env) fp) tg g)
    (ht : ∀ (s : Shared) (H : Hp) (C : Addr) (cl : List (Str × Addr)) (fp : List Addr), PTs (X.blk s H scope (compEnvC scope cl C X.env) fp) ifs tt)
    (he : ∀ (s : Shared) (H : Hp) (C : Addr) (cl : List (Str × Addr)) (fp : List Addr), PE (X.blk s H scope (compEnvC scope cl C X.env) fp) elt te)
    (hs : ∀ x, foldedSetIterable iter X.env x = pure x) : PS X (.Assign [.Name y py] (.ListComp elt [⟨tg, iter, ifs, 0⟩] scope pos) spos) (tAsg (tLc (iSeq X.K tl) g tt te (own.map (·.2))) (gName i)) := by
  constructor
  intro pins s σ H D I h
  rw [exec_Assign_Name_used _ _ _ _ hsw]
  refine wpAny_bind (wpAny_standAt (wpAny_bind ?_))
  have h : tLc (iSeq X.K tl) g tt te (own.map (·.2)) σ H (fun x H1 => gName i x σ H1 D.nx) := h
  show wpAny _ X.A (do
    let _ ← comprehension (.ListComp elt [⟨tg, iter, ifs, 0⟩] scope pos) scope X.env (firstIterPos [⟨tg, iter, ifs, 0⟩] pos) (newList []) false (eval iter X.env) (some (assign (.Name y py) X.env))) _ _ s
  have core := lc_hot (pos := pos) (pos' := firstIterPos [⟨tg, iter, ifs, 0⟩] pos) (use := some (assign (.Name y py) X.env)) (Qf := fun _ s' => SP X pins D .next s') hot hN I hl ok hg ht he hs h fun L C s' m H' J q ns f => by
    show wpAny _ _ (assign (.Name y py) X.env (.ref L)) _ _ _
    refine wpAny_assign_Name (store_ok2 (v := V.ref L) J hN hy (.inl hyl) rfl (fun s2 J2 z => ?_) (.inr hyl))
    obtain ⟨a, sb, ha⟩ := z
    obtain ⟨g0, g1, g2, g3, g4, g5⟩ := f
    have ne : C ≠ a := ha.elim (fun z => by rw [z]; exact g1) fun z e => g4 y a z e.symm
    refine ⟨m, ns.sameBut sb ne, fun h3 sb3 => ⟨_, H', J2.turned (t' := s2.toks) (fun b o hb e => ?_) g0 g1 g3 g4 g5, q⟩⟩
    exact (sb3.2 b hb).trans e
  exact wpAny_bind (thn core fun _ s' z => wpAny_pure (wpAny_pure z))
end
end VE

/-! VHd: defs that are called while an error is handled. -/
namespace VE
open PySem L2 PySem.Spec PyProof.Rows
/-- a def keeps its promise where the error at a is handled, which is known and has no context -/
structure FnGH (P : Program) (w : World) (K : PySem.W.Frag) (mg : Str → Option Value) (base : Heap) (CX : CXT) (k : Nat) (f : Addr) (fd : FuncData) (ps : List Str) (sp : Sp) : Prop where
  len : ∀ vs H Q E, sp vs H Q E → vs.length = ps.length
  go : ∀ (A : Around) (outer : List Env) (s : Shared) (H : Hp) (args : Args) (us : List Value) (vs : List V) (Q : VK) (E : XK) (a : Addr) (oe : Obj) (u : HO),
    L2H.RoomH k A → A.guards = some [] → A.handled = some (.ref a) → H a = some (.frz oe u) → CtxO oe → Env0 P w K mg base A outer s H → BindsTo s fd args (ps.zip us) → Vals vs us → sp vs H Q E → codeAny (model P w) A (.call (.ref f) args) (CR CX outer P w H s Q E) s
/-- f(e), e the name of the handled error -/
theorem pe_callGH {X : Cx} {CX : CXT} {k i : Nat} {a f : Addr} {fd : FuncData} {ps : List Str} {sp : Sp} {E : L2.St → XK} {x : Str} {p pos : Pos} {e : Expr} (F : FnGH X.prog X.w X.K X.mg X.base CX k f fd ps sp) (hr : L2H.RoomH k X.A) (hgd : X.A.guards = some []) (hh : X.A.handled = some (.ref a))
    (hg : Gl X x) (hm : X.mg x = some (.ref f)) (hk : PySem.W.keepIn X.K (.ref f) = true) (hb : Binds X.K fd ps []) (hx : ∀ σ, PassesAt CX X σ (E σ)) (he : PE X e (tVar i)) (hdb : (x == ("__debug__" : Str)) = false) (hs : starEach [e] X.env = (false, eval e X.env) :: starEach [] X.env) :
    PE X (.Call (.Name x p) [e] [] pos) (fun σ H Q => tVar i σ H fun v H1 => (∃ oe u, H1 a = some (.frz oe u) ∧ CtxO oe) ∧ sp [v] H1 Q (E σ)) := by
  constructor
  intro pins s σ H Q I h
  have args := (pa_cons he pa_nil hs).run pos pins s σ H (fun vs H1 => ∃ v, vs = [v] ∧ (∃ oe u, H1 a = some (.frz oe u) ∧ CtxO oe) ∧ sp [v] H1 Q (E σ)) I (by
    obtain ⟨v, h1, h2⟩ := h
    exact ⟨v, h1, v, rfl, h2⟩)
  refine wpAny_Call_Name_kw (ld_glob I hg hm ?_ hdb)
  refine PySem.W.callWith_K (h₀ := X.base) I.ok.mod.kin hk (wpAny_mono args (fun us s1 ⟨vs, H1, I1, r, v, ev, ⟨oe, u, h1, h2⟩, q⟩ => ⟨I1.kIn, ?_⟩) fun _ _ z => z) hs (by rfl)
  subst ev
  have n : us.length = ps.length := r.length.symm.trans (F.len _ H1 Q (E σ) q)
  have bt := hb s1 us I1.kIn (by simpa using n)
  simp only [List.append_nil] at bt
  refine wpAny_call (codeAny_mono (F.go X.A X.stack s1 H1 ⟨us, []⟩ us _ Q (E σ) a oe u hr hgd hh h1 h2 I1.env0 bt r q) ?_)
  intro res s' z
  match res, z with
  | .ok (.ret u), z => exact I1.after z
  | .error y, z => exact hx σ pins H1 s1 y s' I1 z
section
variable {P : Program} {w : World} {K : PySem.W.Frag} {mg : Str → Option Value} {base : Heap}
/-- the context of such a def's body -/
abbrev cxG (CX : CXT) (P : Program) (w : World) (K : PySem.W.Frag) (mg : Str → Option Value) (base : Heap) (N : List Str) (qual : Str) (scope : Scope) (f : Addr) (cd : Value) (A : Around) (outer : List Env) (s : Shared) (H : Hp) (E : XK) : Cx :=
  { cxOf CX P w K mg base N qual scope f cd A outer s H E with calm := false }
theorem inv_startHot {CX : CXT} {N ps : List Str} {qual : Str} {scope : Scope} {f : Addr} {cd : Value} {A : Around} {outer : List Env} {s s1 : Shared} {H : Hp} {E : XK} {us : List Value} {vs : List V} (S : FnScope N ps scope) (e0 : Env0 P w K mg base A outer s H) (hl : vs.length = ps.length) (r : Vals vs us)
    (x : InCallC s s.heap.objs.size (bindL (envOfC qual scope s.heap.objs.size f cd).kindOf (ps.zip us) fun _ => none) (cellsFrom (s.heap.objs.size + 1) scope.names []) (bindC (envOfC qual scope s.heap.objs.size f cd).kindOf (ps.zip us) fun _ => none) s1) :
    L2.Inv (cxG CX P w K mg base N qual scope f cd A outer s H E) [] (start N vs) H s1 := by
  have e1 : Env0 P w K mg base { A with handled := none } outer s H := ⟨e0.frames, e0.mod, e0.bs, e0.bsz, e0.funs, e0.frf, e0.hok, e0.bare⟩
  have I := inv_start (CX := CX) (mg := mg) (E := E) (A := { A with handled := none }) (qual := qual) (f := f) (cd := cd) S rfl e1 hl r x
  exact ⟨⟨I.ok.mod, I.ok.kind, I.ok.glob, I.ok.blt, I.ok.above, I.ok.inj, I.ok.has, I.ok.cab, (fun z => nomatch z), Around.frames_deeper e0.frames, I.ok.stk, I.ok.exf, I.ok.bs, I.ok.bsz, I.ok.noex, I.ok.exfs, I.ok.funs, I.ok.frf⟩,
    I.os, I.bare, I.base, I.loc, I.cell, I.free, I.freeC, I.pin, I.hok, I.len⟩
/-- a def of the text keeps that promise by its body -/
theorem Fun.okGH {CX : CXT} {x qual : Str} {st : Stmt} {f : Addr} {fd : FuncData} {N ps : List Str} {k : Nat} {sp : Sp} (F : L2.Fun K x qual st f fd) (Sc : FnScope N ps (defScope st)) (len : ∀ vs H Q E, sp vs H Q E → vs.length = ps.length)
    (hbody : ∀ (cdv : Value) (A : Around) (outer : List Env) (s : Shared) (H : Hp) (vs : List V) (Q : VK) (E : XK), L2H.RoomH k (A.deeper (envOfC qual (defScope st) s.heap.objs.size f cdv)) → A.guards = some [] → HotG (cxG CX P w K mg base N qual (defScope st) f cdv A outer s H E) → sp vs H Q E →
      ∃ t, PSs (cxG CX P w K mg base N qual (defScope st) f cdv A outer s H E) (defBody st) t ∧ t { nx := fun _ H' => Q .non H', rt := Q } (start N vs) H) : FnGH P w K mg base CX (k + 1) f fd ps sp := by
  obtain ⟨oc, od, kV, doc, pm, an, cdv, ct, osl, rfl, lk, hcd⟩ := F.ex
  refine ⟨len, ?_⟩
  intro A outer s H args us vs Q E a oe uu hr hg hh ha hc e0 hb r hsp
  have ks : K.In s.heap := e0.mod.kin.keeps fun b o e => (e0.bs b o e).1
  have nl : s.heap.NoLimit := e0.mod.nolimit.keeps fun b o e => (e0.bs b o e).1
  have kd : ∀ y ∈ ps.zip us, (defScope st).names.lookup y.1 = some .local ∨ ((defScope st).names.lookup y.1 = some .cell ∧ ((cellsFrom (s.heap.objs.size + 1) (defScope st).names []).lookup y.1).isSome = true) := by
    intro y hy
    have hp := (List.of_mem_zip (show (y.1, y.2) ∈ ps.zip us from hy)).1
    exact (Sc.par y.1 hp).imp id fun q => ⟨q, PySem.W.cellsFrom_some _ _ _ (.inl q)⟩
  refine codeAny_call_function hr.depth (ks _ _ lk) rfl Sc.co Sc.gen rfl (PySem.W.codeRec_of ks hcd) (hb _ _ _ _ (wpAny_newFunctionEnv_cells Sc.kind kd ?_))
  rintro env rfl s1 y
  refine ⟨nl.keeps y.toInCall.keep, codeAny_func ?_⟩
  obtain ⟨t, ht, hq⟩ := hbody cdv A outer s H vs Q E (hr.deeper _) hg ⟨a, oe, uu, hh, ha, hc⟩ hsp
  have I := inv_startHot (CX := CX) (mg := mg) (E := E) Sc e0 (len vs H Q E hsp) r y
  refine wpAny_mono (ht.run [] s1 (start N vs) H _ I hq) ?_ fun _ _ z => z
  intro fl s' z
  match fl, z with
  | .ret u, ⟨v, σ', H', J, rv, q⟩ => exact ⟨v, H', J.os, J.bare, J.base, J.hok, rv, q⟩
  | .next, ⟨σ', H', J, q⟩ => exact ⟨.non, H', J.os, J.bare, J.base, J.hok, rfl, q⟩
  | .brk, ⟨_, _, _, q⟩ => exact q.elim
  | .cont, ⟨_, _, _, q⟩ => exact q.elim
end
end VE

/-! VS9: the look that an expression of the text is the evaluator's, and that it is then evaluated so. -/
namespace VE
open PySem L2 PySem.Spec PyProof.Rows

/-- what the look knows: the def's names, the defs and constants by number -/
structure Ck where
  N : List Str
  fns : List (Str × Nat)
  gls : List Str
  /-- class, method, the def's number, operands with the object -/
  ms : List (Str × Str × Nat × Nat)
  /-- class, its __init__'s number, operands with the object -/
  mks : List (Str × Nat × Nat)
  /-- the classes of errors in use -/
  xc : List Nat
  /-- those with a field that are made -/
  xi : List Nat
  /-- within an except suite: nothing is walked, no def is called -/
  hot : Bool
  /-- the defs that suites call, numbers from 300 -/
  hf : List (Str × Nat)
def vis (sc : Scope) (x : Str) : Bool := match sc.names.lookup x with
  | some .local => true
  | some .cell => true
  | some .free => true
  | _ => false
def loc (sc : Scope) (x : Str) : Bool := match sc.names.lookup x with
  | some .local => true
  | some .cell => true
  | _ => false
def gl (sc : Scope) (x : Str) : Bool := decide (sc.names.lookup x = some .globalImplicit) && !(x == ("__debug__" : Str))
def nameOk (C : Ck) (sc : Scope) (i : Nat) (x : Str) : Bool := decide (C.N[i]? = some x) && vis sc x && !(x == ("__debug__" : Str)) && !(x == ("__classdict__" : Str))
def notStar : Expr → Bool
  | .Starred .. => false
  | _ => true
def notSet : Expr → Bool
  | .Set .. => false
  | _ => true
def notSlice : Expr → Bool
  | .Slice .. => false
  | _ => true
def notIf : Expr → Bool
  | .IfExp .. => false
  | _ => true
def bltN : Blt → String
  | b => match bltK b with
    | .fn x => x
    | .type x => x
/-- isinstance's second operand -/
def ckTy : Blt → Scope → List Expr → Bool
  | .isi t, sc, [.Name x _] => decide (x = Str.ofString (tyN t)) && gl sc x
  | .isi _, _, _ => false
  | _, _, [] => true
  | _, _, _ => false
/-- a class of errors, a tuple of them -/
def ckC1 (C : Ck) (sc : Scope) (c : Nat) : Expr → Bool
  | .Name x _ => decide (x = cnm c) && gl sc x && (decide (c ∈ C.xc) || decide (c = 15))
  | _ => false
def ckCs1 (C : Ck) (sc : Scope) : List Nat → List Expr → Bool
  | [], [] => true
  | c :: cs, e :: es => ckC1 C sc c e && ckCs1 C sc cs es
  | _, _ => false
/-- defs in a list -/
def ckFs (C : Ck) (sc : Scope) (n : Nat) : List Nat → List Expr → Bool
  | [], [] => true
  | f :: fs, .Name x _ :: es => decide (C.fns[f]? = some (x, n)) && gl sc x && ckFs C sc n fs es
  | _, _ => false
def ckCls (C : Ck) (sc : Scope) (cs : List Nat) : Expr → Bool
  | .Tuple es _ _ => ckCs1 C sc cs es && decide (es.length ≤ 100)
  | e => match cs with
    | [c] => ckC1 C sc c e
    | _ => false
def mutX : Mut → String
  | .append => "append"
  | .remove => "remove"
  | .pop => "pop"
  | .reverse => "reverse"
def lmX : LM → String
  | .count => "count"
/-- a display's key, its constant -/
def ckCst : PyData → Expr → Bool
  | .none, .Constant .none _ _ => true
  | .bool a, .Constant (.bool b) _ _ => a == b
  | .int a, .Constant (.int b) _ _ => a == b
  | .str a, .Constant (.str b) _ _ => decide (a = b)
  | _, _ => false
def smX : SM → String
  | .join => "join"
  | .split => "split"
def plainB : Expr → Bool
  | .Name .. => true
  | .Constant .. => true
  | _ => false
def tgX (C : Ck) (is : List Nat) : List (Str × Nat) := is.map fun i => (C.N.getD i Str.empty, i)
/-- a target's name, where lc tells what may be stored -/
def ckNm (C : Ck) (lc : Str → Bool) (i : Nat) : Expr → Bool
  | .Name x _ => decide (C.N[i]? = some x) && lc x
  | _ => false
def ckNms (C : Ck) (lc : Str → Bool) : List Nat → List Expr → Bool
  | [], [] => true
  | i :: is, e :: es => ckNm C lc i e && ckNms C lc is es
  | _, _ => false
def ckTg (C : Ck) (lc : Str → Bool) : Tg → Expr → Bool
  | .nm i, e => ckNm C lc i e
  | .tp is, .Tuple es _ _ => ckNms C lc is es
  | .tp _, _ => false
/-- what a comprehension stores -/
def lcB (scope sc : Scope) (x : Str) : Bool := decide ((relS scope sc).names.lookup x = some .local) || (decide ((relS scope sc).names.lookup x = some .cell) && (scope.names.lookup x == some .cell))
/-- isinstance has one operand before the class -/
def blt1 : Blt → Nat → Bool
  | .isi _, n => n == 1
  | _, _ => true
/-! ### places and expressions that only look -/
def plainA : Expr → Bool
  | .Name .. => true
  | .Attribute .. => true
  | .Subscript .. => true
  | _ => false
/-- .. on which a method is called -/
def plainM : Expr → Bool
  | .Name .. => true
  | .Attribute .. => true
  | .Subscript .. => true
  | .Call _ (_ :: _) _ _ => true
  | _ => false
def ckKs : List Key → List (Option Expr) → Bool
  | [], [] => true
  | k :: ks, some e :: es => ckCst (kDat k) e && ckKs ks es
  | _, _ => false
def isNm (C : Ck) (sc : Scope) (i : Nat) : Expr → Bool
  | .Name x _ => nameOk C sc i x
  | _ => false
def ckPx (C : Ck) (sc : Scope) : Px → Expr → Bool
  | .key c, e => ckCst c e
  | .nm i, e => isNm C sc i e
  | .fld _, _ => false
def ckP (C : Ck) (sc : Scope) (i : Nat) : List Px → Expr → Bool
  | [], e => isNm C sc i e
  | .fld f :: r, e => match e with
    | .Attribute o nm _ => decide (nm = f) && plainA o && ckP C sc i r o
    | _ => false
  | p :: r, e => match e with
    | .Subscript o k _ => notSlice k && ckPx C sc p k && ckP C sc i r o
    | _ => false
def ckG (C : Ck) (sc : Scope) (i : Nat) (π : List Px) : List Px → Expr → Bool
  | [], e => ckP C sc i π e
  | p :: r, e => match e with
    | .Subscript o k _ => notSlice k && ckPx C sc p k && ckG C sc i π r o
    | _ => false
def ckU (C : Ck) (sc : Scope) : U → Expr → Bool
  | .cst d, e => ckCst d e
  | .nm i, e => isNm C sc i e
  | .get i π ks, e => ckG C sc i π ks e
  | .len i π, e => match e with
    | .Call (.Name x _) [o] [] _ => decide (x = ("len" : Str)) && gl sc x && notStar o && ckP C sc i π o
    | _ => false
  | .add a b, e => match e with
    | .BinOp l op r _ => decide (op = .Add) && ckU C sc a l && ckU C sc b r
    | _ => false
  | .sub a b, e => match e with
    | .BinOp l op r _ => decide (op = .Sub) && ckU C sc a l && ckU C sc b r
    | _ => false
  | .inD k i π, e => match e with
    | .Compare l [op] [r] _ => decide (op = .In) && notSet r && ckU C sc k l && ckP C sc i π r
    | _ => false
  | .dget i π k z, e => match e with
    | .Call (.Attribute o nm apos) [y, f] [] cpos => decide (nm = ("get" : Str)) && plainA o && (apos.endLine == cpos.line) && notStar y && notStar f && ckP C sc i π o && ckU C sc k y && ckU C sc z f
    | _ => false
def ckUs (C : Ck) (sc : Scope) : List U → List Expr → Bool
  | [], [] => true
  | x :: xs, e :: es => notStar e && ckU C sc x e && ckUs C sc xs es
  | _, _ => false
section
variable (C : Ck)
mutual
def ckA (sc : Scope) : A → Expr → Bool
  | .pl i, e => match e with
    | .Name x _ => nameOk C sc i x
    | _ => false
  | .e p, e => ckE sc p e
def ckAs (sc : Scope) : List A → List Expr → Bool
  | [], es => match es with
    | [] => true
    | _ => false
  | a :: as, es => match es with
    | e :: es => notStar e && ckA sc a e && ckAs sc as es
    | [] => false
def ckBs (sc : Scope) : List E → List Expr → Bool
  | [], _ => false
  | [p], es => match es with
    | [e] => ckE sc p e && notIf e
    | _ => false
  | p :: q :: r, es => match es with
    | e :: f :: s => ckE sc p e && notIf e && ckBs sc (q :: r) (f :: s)
    | _ => false
def ckEs (sc : Scope) : List E → List Expr → Bool
  | [], es => match es with
    | [] => true
    | _ => false
  | p :: ps, es => match es with
    | e :: es => ckE sc p e && ckEs sc ps es
    | [] => false
def ckC (sc : Scope) : Option E → List Expr → Bool
  | none, es => match es with
    | [] => true
    | _ => false
  | some c, es => match es with
    | [e] => ckE sc c e && notIf e
    | _ => false
def ckIt (sc : Scope) : It → Expr → Expr → Bool
  | .rng1 a, _, e => match e with
    | .Call (.Name r _) [x] [] _ => decide (r = ("range" : Str)) && gl sc r && notStar x && ckA sc a x
    | _ => false
  | .rng2 a b, _, e => match e with
    | .Call (.Name r _) [x, y] [] _ => decide (r = ("range" : Str)) && gl sc r && notStar x && notStar y && ckA sc a x && ckA sc b y
    | _ => false
  | .rng3 as, _, e => match e with
    | .Call (.Name r _) [x, y, z] [] _ => decide (r = ("range" : Str)) && gl sc r && ckAs sc as [x, y, z]
    | _ => false
  | .seq a, _, e => notSet e && ckA sc a e
  | .enum a, tg, e => match tg, e with
    | .Tuple _ _ _, .Call (.Name r _) [x] [] _ => decide (r = ("enumerate" : Str)) && gl sc r && notStar x && ckA sc a x
    | _, _ => false
  | .zip a b, tg, e => match tg, e with
    | .Tuple _ _ _, .Call (.Name r _) [x, y] [] _ => decide (r = ("zip" : Str)) && gl sc r && notStar x && notStar y && ckA sc a x && ckA sc b y
    | _, _ => false
  | .keys a, _, e => notSet e && ckA sc a e
  | .chars a, _, e => notSet e && ckA sc a e
  | .seqP i π, _, e => notSet e && ckP C sc i π e
  | .zipP i π π', tg, e => match tg, e with
    | .Tuple _ _ _, .Call (.Name r _) [x, y] [] _ => decide (r = ("zip" : Str)) && gl sc r && notStar x && notStar y && ckP C sc i π x && ckP C sc i π' y
    | _, _ => false
def ckE (sc : Scope) : E → Expr → Bool
  | .rd i _, e => match e with
    | .Name x _ => nameOk C sc i x
    | _ => false
  | .cst d, e => match e with
    | .Constant k _ _ => (match d, k with
      | .none, .none => true
      | .bool a, .bool b => a == b
      | .int a, .int b => a == b
      | .str a, .str b => decide (a = b)
      | _, _ => false)
    | _ => false
  | .glob g, e => match e with
    | .Name x _ => decide (C.gls[g]? = some x) && gl sc x
    | _ => false
  | .bin o a b, e => match e with
    | .BinOp l op r _ => decide (op = srcB o) && ckA sc a l && ckA sc b r
    | _ => false
  | .neg a, e => match e with
    | .UnaryOp .USub x _ => ckA sc a x
    | _ => false
  | .not a, e => match e with
    | .UnaryOp .Not x _ => ckE sc a x && notIf x
    | _ => false
  | .cmp o a b, e => match e with
    | .Compare l [op] [r] _ => decide (op = srcC o) && notSet r && ckA sc a l && ckA sc b r
    | _ => false
  | .chain o₁ o₂ a b c, e => match e with
    | .Compare l [op, op'] [m, r] _ => decide (op = srcC o₁) && decide (op' = srcC o₂) && notSet r && ckA sc a l && ckA sc b m && ckA sc c r
    | _ => false
  | .bop k es, e => match e with
    | .BoolOp op xs _ => decide (op = if k then .And else .Or) && ckBs sc es xs
    | _ => false
  | .ite c a b, e => match e with
    | .IfExp t x y _ => ckE sc c t && notIf t && ckE sc a x && ckE sc b y
    | _ => false
  | .idx a b, e => match e with
    | .Subscript l r _ => notSlice r && ckA sc a l && ckA sc b r
    | _ => false
  | .slice k as, e => match e with
    | .Subscript l (.Slice x y none _) _ => (match k, x, y with
      | .no, none, none => ckAs sc as [l]
      | .lo, some x, none => ckAs sc as [l, x]
      | .hi, none, some y => ckAs sc as [l, y]
      | _, _, _ => false)
    | _ => false
  | .tup as, e => match e with
    | .Tuple es _ _ => ckAs sc as es
    | _ => false
  | .lst as, e => match e with
    | .List es _ => ckAs sc as es
    | _ => false
  | .call f as, e => match e with
    | .Call (.Name x _) (e :: es) [] _ => decide (C.fns[f]? = some (x, as.length)) && gl sc x && ckAs sc as (e :: es)
    | _ => false
  | .csel fs i as, e => match e with
    | .Call (.Subscript (.List ns _) (.Name y _) _) (e :: es) [] _ => nameOk C sc i y && ckFs C sc as.length fs ns && decide (fs.length ≤ 1000) && ckAs sc as (e :: es)
    | _ => false
  | .blt b as, e => match e with
    | .Call (.Name x _) (e :: es) [] _ => decide (x = Str.ofString (bltN b)) && gl sc x && (e :: es).all notStar && blt1 b as.length && ckAs sc as ((e :: es).take as.length) && ckTy b sc ((e :: es).drop as.length) && (!C.hot || !loudB b)
    | _ => false
  | .mut m i as, e => match e with
    | .Call (.Attribute (.Name x _) nm apos) es [] cpos => decide (nm = Str.ofString (mutX m)) && nameOk C sc i x && (apos.endLine == cpos.line) && decide (es.length < 20) && ckAs sc as es
    | _ => false
  | .ext i p, e => match e with
    | .Call (.Attribute (.Name x _) nm apos) [y] [] cpos => decide (nm = ("extend" : Str)) && nameOk C sc i x && (apos.endLine == cpos.line) && notStar y && ckE sc p y
    | _ => false
  | .sm k o x, e => match e with
    | .Call (.Attribute b nm apos) [y] [] cpos => decide (nm = Str.ofString (smX k)) && plainB b && (apos.endLine == cpos.line) && notStar y && ckA sc o b && ckA sc x y
    | _ => false
  | .lrg as, e => match e with
    | .Call (.Name l _) [.Call (.Name r _) es [] _] [] _ => decide (l = ("list" : Str)) && gl sc l && decide (r = ("range" : Str)) && gl sc r && (as.length == 1 || as.length == 2) && ckAs sc as es && !C.hot
    | _ => false
  | .lset a, e => match e with
    | .Call (.Name l _) [.Call (.Name r _) [x] [] _] [] _ => decide (l = ("len" : Str)) && gl sc l && decide (r = ("set" : Str)) && gl sc r && notStar x && ckA sc a x && !C.hot
    | _ => false
  | .sset a, e => match e with
    | .Call (.Name l _) [.Call (.Name r _) [x] [] _] [] _ => decide (l = ("sorted" : Str)) && gl sc l && decide (r = ("set" : Str)) && gl sc r && notStar x && ckA sc a x && !C.hot
    | _ => false
  | .rev a, e => match e with
    | .Subscript l (.Slice none none (some (.UnaryOp .USub (.Constant (.int i) _ _) _)) _) _ => decide (i = 1) && ckA sc a l
    | _ => false
  | .lm k i x, e => match e with
    | .Call (.Attribute (.Name y _) nm apos) [z] [] cpos => decide (nm = Str.ofString (lmX k)) && nameOk C sc i y && (apos.endLine == cpos.line) && notStar z && ckA sc x z
    | _ => false
  | .dcst o, e => match e with
    | .Dict ks vs _ => (match o, ks, vs with
      | none, [], [] => true
      | some (k, d), [some ke], [ve] => ckCst (kDat k) ke && ckCst d ve
      | _, _, _ => false)
    | _ => false
  | .dnewT, e => match e with
    | .Dict [] [] _ => true
    | _ => false
  | .dispT k x, e => match e with
    | .Dict [some ke] [ve] _ => ckA sc k ke && ckA sc x ve
    | _ => false
  | .keep x, e => match e with
    | .Name y p => ckE sc x (.Name y p)
    | .Dict ks vs p => ckE sc x (.Dict ks vs p)
    | _ => false
  | .deq0 i, e => match e with
    | .Compare (.Name y _) [op] [.Dict [] [] _] _ => decide (op = .Eq) && nameOk C sc i y
    | _ => false
  | .dkeys i, e => match e with
    | .Call (.Name l _) [.Name y _] [] _ => decide (l = ("list" : Str)) && gl sc l && nameOk C sc i y && !C.hot
    | _ => false
  | .dix a b, e => match e with
    | .Subscript l i _ => notSlice i && ckA sc a l && ckA sc b i
    | _ => false
  | .dlist a, e => match e with
    | .Call (.Name l _) [x] [] _ => decide (l = ("list" : Str)) && gl sc l && notStar x && ckA sc a x && !C.hot
    | _ => false
  | .dpop i π k, e => match e with
    | .Call (.Attribute o nm apos) [y] [] cpos => decide (nm = ("pop" : Str)) && plainA o && (apos.endLine == cpos.line) && notStar y && ckP C sc i π o && ckU C sc k y
    | _ => false
  | .dmin i π, e => match e with
    | .Call (.Name x _) [o] [] _ => decide (x = ("min" : Str)) && gl sc x && notStar o && ckP C sc i π o && !C.hot
    | _ => false
  | .disp1 k x, e => match e with
    | .Dict [some ke] [ve] _ => ckCst (kDat k) ke && ckA sc x ve
    | _ => false
  | .isx a cs xs, e => match e with
    | .Call (.Name x _) [y, ce] [] _ => decide (x = ("isinstance" : Str)) && gl sc x && notStar y && ckA sc a y && ckCls C sc cs ce && decide (xs = C.xc)
    | _ => false
  | .mkx c a, e => match e with
    | .Call (.Name x _) [y] [] _ => decide (x = cnm c) && gl sc x && decide (c ∈ C.xc) && (decide (c < 13) || decide (c ∈ C.xi)) && notStar y && ckA sc a y
    | _ => false
  | .mkf c a, e => match e with
    | .Attribute (.Call (.Name x _) [y] [] _) nm _ => decide (nm = fldX c) && decide (x = cnm c) && gl sc x && decide (c ∈ C.xc) && decide (c ∈ C.xi) && decide (¬ c < 13) && notStar y && ckA sc a y
    | _ => false
  | .efld c i, e => match e with
    | .Attribute (.Name y p) nm _ => decide (nm = fldX c) && nameOk C sc i y && decide (c ∈ C.xc) && decide (¬ c < 13)
    | _ => false
  | .u x, e => ckU C sc x e
  | .mutP m i π xs, e => match e with
    | .Call (.Attribute o nm apos) es [] cpos => decide (nm = Str.ofString (mutX m)) && plainA o && (apos.endLine == cpos.line) && decide (es.length < 20) && ckP C sc i π o && ckUs C sc xs es
    | _ => false
  | .meth k m f x xs, e => match e with
    | .Call (.Attribute o nm apos) es [] cpos => decide (nm = m) && plainM o && (apos.endLine == cpos.line) && decide (es.length < 20) && decide ((k, m, f, xs.length + 1) ∈ C.ms) && ckE sc x o && ckUs C sc xs es
    | _ => false
  | .callP k m f i π xs, e => match e with
    | .Call (.Attribute o nm apos) es [] cpos => decide (nm = m) && plainM o && (apos.endLine == cpos.line) && decide (es.length < 20) && decide ((k, m, f, xs.length + 1) ∈ C.ms) && ckP C sc i π o && ckUs C sc xs es
    | _ => false
  | .make k f xs, e => match e with
    | .Call (.Name x _) (y :: es) [] _ => decide (x = k) && gl sc x && decide ((k, f, xs.length + 1) ∈ C.mks) && ckUs C sc xs (y :: es)
    | _ => false
  | .boxl as, e => match e with
    | .List es _ => ckAs sc as es
    | _ => false
  | .boxd ks xs, e => match e with
    | .Dict kes vs _ => decide (ks.length = xs.length) && decide (ks.length ≤ 15) && !ks.isEmpty && ckKs ks kes && ckEs sc xs vs
    | _ => false
  | .comp2 t it c t1 it1 c1 x, e => match e with
    | .ListComp elt gs scope _ => (match gs with
      | [⟨tg, iter, ifs, k⟩, ⟨tg1, iter1, ifs1, k1⟩] => (k == 0) && (k1 == 0) && blkC C.N sc scope (tgX C (tgs t ++ tgs t1)) && ckIt sc it tg iter && notSet iter && notSet iter1 && ckTg C (lcB scope sc) t tg && ckC (relS scope sc) c ifs && ckIt (relS scope sc) it1 tg1 iter1 && ckTg C (lcB scope sc) t1 tg1 && ckC (relS scope sc) c1 ifs1 && ckE (relS scope sc) x elt && !C.hot
      | _ => false)
    | _ => false
  | .comp t it c x, e => match e with
    | .ListComp elt gs scope _ => (match gs with
      | [⟨tg, iter, ifs, k⟩] => (k == 0) && blkC C.N sc scope (tgX C (tgs t)) && ckIt sc it tg iter && notSet iter && ckTg C (lcB scope sc) t tg && ckC (relS scope sc) c ifs && ckE (relS scope sc) x elt && !C.hot
      | _ => false)
    | _ => false
end
end

/-- where one stands, for the look -/
structure Cok (C : Ck) (Φ : Fns) (xr : XR) (sc : Scope) (X : Cx) : Prop where
  N : X.N = C.N
  nd : C.N.Nodup
  sc : X.env.scope = sc
  calm : C.hot = false → X.calm = true
  xk : xr = xrK X.K
  xo : XOk X.K X.mg C.xc
  xi : ∀ c ∈ C.xi, Room 2 X.A ∧ XiC X.prog X.K X.mg c
  ve : X.mg (Str.ofString "ValueError") = none
  gd : X.A.guards = some []
  hu : X.A.units + 70 < cLine
  fns : ∀ f x n, C.fns[f]? = some (x, n) → ∃ k a fd ps, FnG X.prog X.w X.K X.mg X.base (L2N.CX X.prog X.w) k a fd ps (spOf X.K xr n (Φ.fn f)) ∧ Room k X.A ∧ X.mg x = some (.ref a) ∧ PySem.W.keepIn X.K (.ref a) = true ∧ Binds X.K fd ps []
  ms : ∀ c m f n, (c, m, f, n) ∈ C.ms → ∃ k a fd ps Cc, FnG X.prog X.w X.K X.mg X.base (L2N.CX X.prog X.w) k a fd ps (spOf X.K xr n (Φ.fn f)) ∧ Room k X.A ∧ PySem.W.nsIn X.K mainGlobals c = some (some (.ref Cc)) ∧ Cls X.K Cc ∧ Meth X.K Cc m a ∧ Binds X.K fd ps []
  mks : ∀ c f n, (c, f, n) ∈ C.mks → ∃ k a fd ps Cc, FnG X.prog X.w X.K X.mg X.base (L2N.CX X.prog X.w) k a fd ps (spOf X.K xr n (Φ.fn f)) ∧ Room (k + 1) X.A ∧ ObjC X.K c Cc ∧ Mk X.K Cc a ∧ X.mg c = some (.ref Cc) ∧ Binds X.K fd ps []
  hfs : ∀ i x n, C.hf[i]? = some (x, n) → ∃ k a fd ps, FnGH X.prog X.w X.K X.mg X.base (L2N.CX X.prog X.w) k a fd ps (spOf X.K xr n (Φ.fn (300 + i))) ∧ L2H.RoomH k X.A ∧ X.mg x = some (.ref a) ∧ PySem.W.keepIn X.K (.ref a) = true ∧ Binds X.K fd ps []
  gls : ∀ g x, C.gls[g]? = some x → ∃ u v, X.mg x = some u ∧ L2.RelV v u ∧ ∀ G, DP X.K G v (Φ.gl g)
  blt : ∀ x ∈ (["len", "repr", "min", "max", "list", "isinstance", "int", "tuple", "range", "enumerate", "sum", "all", "any", "str", "bool", "sorted", "set", "dict", "zip"] : List String), X.mg (Str.ofString x) = none
theorem Cok.blk {C : Ck} {Φ : Fns} {xr : XR} {sc : Scope} {X : Cx} (c : Cok C Φ xr sc X) (s : Shared) (H : Hp) (scope : Scope) (Ca : Addr) (cl : List (Str × Addr)) (fp : List Addr) : Cok C Φ xr (relS scope sc) (X.blk s H scope (compEnvC scope cl Ca X.env) fp) where
  N := c.N
  nd := c.nd
  sc := by
    have e := c.sc
    subst e
    rfl
  calm := c.calm
  xk := c.xk
  xo := c.xo
  xi := c.xi
  ve := c.ve
  gd := c.gd
  hu := c.hu
  fns := c.fns
  ms := c.ms
  mks := c.mks
  hfs := c.hfs
  gls := c.gls
  blt := c.blt
theorem PE.imp {X : Cx} {e : Expr} {t t' : TE} (h : PE X e t) (i : ∀ σ H Q, t' σ H Q → t σ H Q) : PE X e t' := ⟨fun pins s σ H Q I q => h.run pins s σ H Q I (i σ H Q q)⟩
theorem PT.imp {X : Cx} {e : Expr} {t t' : TT} (h : PT X e t) (i : ∀ σ H Q, t' σ H Q → t σ H Q) : PT X e t' := ⟨fun pins s σ H Q I q => h.run pins s σ H Q I (i σ H Q q)⟩
theorem PW.imp {X : Cx} {e : Expr} {t t' : TT} (h : PW X e t) (i : ∀ σ H Q, t' σ H Q → t σ H Q) : PW X e t' := ⟨fun w pins s σ H Q I q => h.run w pins s σ H Q I (i σ H Q q)⟩
theorem star1 {e : Expr} {env : Env} (h : notStar e = true) (es : List Expr) : starEach (e :: es) env = (false, eval e env) :: starEach es env := by
  cases e <;> first | rfl | cases h
theorem starAll {env : Env} : ∀ {es : List Expr}, es.all notStar = true → starEach es env = es.map fun e => (false, eval e env)
  | [], _ => rfl
  | e :: es, h => by
    simp only [List.all_cons, Bool.and_eq_true] at h
    rw [star1 h.1, starAll h.2]
    rfl
theorem plain_of {env : Env} {pos : Pos} {es : List Expr} (h : es.all notStar = true) : (backTo pos (starEach es env)).any (·.1) = false := by
  rw [starAll h]
  unfold backTo
  induction es with
  | nil => rfl
  | cons e es ih =>
    simp only [List.all_cons, Bool.and_eq_true] at h
    simp only [List.map_cons, List.any_cons, Bool.false_or]
    exact ih h.2
theorem nomarkS {op : CmpOp} {e : Expr} (h : notSet e = true) : behindInMarks op e = false := by
  cases e <;> first | rfl | cases h
theorem folded {e : Expr} {env : Env} (h : notSet e = true) (x : Value) : foldedSetIterable e env x = pure x := by
  cases e <;> first | rfl | cases h
theorem plainIx {e : Expr} (h : notSlice e = true) : PlainIx e := by
  intro o i
  cases e <;> first | rfl | cases h
section
variable {C : Ck} {Φ : Fns} {xr : XR} {sc : Scope} {X : Cx} {W : WX}
theorem vis_of {x : Str} (h : vis sc x = true) : Vis sc x := by
  unfold vis at h
  split at h
  · exact .inl (by assumption)
  · exact .inr (.inl (by assumption))
  · exact .inr (.inr (by assumption))
  · cases h
theorem name_ok {i : Nat} {x : Str} {pos : Pos} (c : Cok C Φ xr sc X) (h : nameOk C sc i x = true) : PE X (.Name x pos) (tVar i) := by
  simp only [nameOk, Bool.and_eq_true, decide_eq_true_eq, Bool.not_eq_true'] at h
  exact pe_var (by rw [c.N]; exact h.1.1.1) (by rw [c.sc]; exact vis_of h.1.1.2) h.1.2 h.2
theorem gl_of {x : Str} (c : Cok C Φ xr sc X) (h : gl sc x = true) : Gl X x ∧ (x == ("__debug__" : Str)) = false := by
  simp only [gl, Bool.and_eq_true, decide_eq_true_eq, Bool.not_eq_true'] at h
  refine ⟨?_, h.2⟩
  show X.env.scope.names.lookup x = _
  rw [c.sc]
  exact h.1
theorem base_of {o : Expr} {nm : Str} {env : Env} (h : plainB o = true) : attributeBase o nm env (eval o env) = eval o env := by
  cases o <;> first | rfl | cases h
theorem base_ofA {o : Expr} {nm : Str} {env : Env} (h : plainA o = true) : attributeBase o nm env (eval o env) = eval o env := by
  cases o <;> first | rfl | cases h
theorem cst_okU {X : Cx} {d : PyData} {e : Expr} (h : ckCst d e = true) : PE X e (tC (cstV d)) ∧ isCst d = true := by
  unfold ckCst at h
  split at h
  · exact ⟨pe_non, rfl⟩
  · obtain rfl := eq_of_beq h
    exact ⟨pe_bl, rfl⟩
  · obtain rfl := eq_of_beq h
    exact ⟨pe_int, rfl⟩
  · obtain rfl := of_decide_eq_true h
    exact ⟨pe_str, rfl⟩
  · cases h
theorem isNm_ok {i : Nat} {e : Expr} (c : Cok C Φ xr sc X) (h : isNm C sc i e = true) : PE X e (tVar i) := by
  unfold isNm at h
  split at h
  · exact name_ok c h
  · cases h
theorem px_ok {p : Px} {e : Expr} (c : Cok C Φ xr sc X) (h : ckPx C sc p e = true) : PE X e (tPx X.K p) ∧ isKey p = true := by
  cases p with
  | fld f => cases h
  | key d =>
    obtain ⟨q, hd⟩ := cst_okU (X := X) h
    exact ⟨px_cst q fun _ => cstV_dp hd, rfl⟩
  | nm i => exact ⟨px_nm (isNm_ok c h), rfl⟩
theorem pl_ok {i : Nat} (c : Cok C Φ xr sc X) : ∀ (π : List Px) (e : Expr), ckP C sc i π e = true → PE X e (tPt X.K i π)
  | [], e, h => by
    unfold ckP at h
    exact pt_nil (isNm_ok c h)
  | .fld f :: r, e, h => by
    unfold ckP at h
    split at h
    · simp only [Bool.and_eq_true, decide_eq_true_eq] at h
      obtain ⟨⟨rfl, hp⟩, hr⟩ := h
      exact pt_fld (pl_ok c r _ hr) (base_ofA hp)
    · cases h
  | .key d :: r, e, h => by
    unfold ckP at h
    split at h
    · simp only [Bool.and_eq_true] at h
      obtain ⟨q, hk⟩ := px_ok c h.1.2
      exact pt_px c.hu (pl_ok c r _ h.2) q (plainIx h.1.1) hk
    · cases h
  | .nm d :: r, e, h => by
    unfold ckP at h
    split at h
    · simp only [Bool.and_eq_true] at h
      obtain ⟨q, hk⟩ := px_ok c h.1.2
      exact pt_px c.hu (pl_ok c r _ h.2) q (plainIx h.1.1) hk
    · cases h
theorem get_ok {i : Nat} {π : List Px} (c : Cok C Φ xr sc X) : ∀ (ks : List Px) (e : Expr), ckG C sc i π ks e = true → PE X e (tU X.K (.get i π ks))
  | [], e, h => by
    unfold ckG at h
    exact u_get0 (pl_ok c π e h)
  | [p], e, h => by
    unfold ckG at h
    split at h
    · simp only [Bool.and_eq_true] at h
      obtain ⟨q, hk⟩ := px_ok c h.1.2
      have h2 := h.2
      unfold ckG at h2
      exact u_get1 c.hu (pl_ok c π _ h2) q (plainIx h.1.1)
    · cases h
  | p :: p' :: r, e, h => by
    unfold ckG at h
    split at h
    · simp only [Bool.and_eq_true] at h
      obtain ⟨q, hk⟩ := px_ok c h.1.2
      exact u_get2 (get_ok c (p' :: r) _ h.2) q (plainIx h.1.1)
    · cases h
theorem takesB : L2N.Takes (X := X) (fun _ _ _ _ => False) := fun u s' ⟨_, _, _, _, _, _, _, _, _, _, _, _, _, _, _, _, z⟩ => z.elim
end
/-- targets -/
theorem assign1 {C : Ck} {tg : Expr} {lc : Str → Bool} {i : Nat} {env : Env} (h : ckNm C lc i tg = true) (es : List Expr) : assignEach (tg :: es) env = (false, assign tg env) :: assignEach es env := by
  cases tg <;> first | rfl | cases h
section
variable {C : Ck} {X : Cx} {lc : Str → Bool}
theorem ckNm_ok (hN : X.N.Nodup) (eN : X.N = C.N) (hl : ∀ x, lc x = true → Loc X.env.scope x ∧ (X.fn x = true ∨ X.env.scope.names.lookup x = some .local)) {i : Nat} {e : Expr} (h : ckNm C lc i e = true) : PG X e (gName i) := by
  unfold ckNm at h
  split at h
  · rename_i x pos
    simp only [Bool.and_eq_true, decide_eq_true_eq] at h
    obtain ⟨h1, h2⟩ := hl x h.2
    exact pg_name hN (by rw [eN]; exact h.1) h1 h2
  · cases h
theorem ckNms_ok (hN : X.N.Nodup) (eN : X.N = C.N) (hl : ∀ x, lc x = true → Loc X.env.scope x ∧ (X.fn x = true ∨ X.env.scope.names.lookup x = some .local)) : ∀ {is : List Nat} {es : List Expr}, ckNms C lc is es = true →
    PGs X es (tSets X.K is) ∧ (assignEach es X.env).length = is.length ∧ (assignEach es X.env).findIdx? (·.1) = none
  | [], [], _ => ⟨pgs_nil, rfl, rfl⟩
  | i :: is, e :: es, h => by
    simp only [ckNms, Bool.and_eq_true] at h
    obtain ⟨h1, h2, h3⟩ := ckNms_ok hN eN hl h.2
    refine ⟨pgs_cons (ckNm_ok hN eN hl h.1) h1 (by rw [assign1 h.1]; rfl), by rw [assign1 h.1, List.length_cons, h2, List.length_cons], ?_⟩
    rw [assign1 h.1, List.findIdx?_cons]
    simp only [Bool.false_eq_true, if_false]
    rw [h3]
    rfl
  | [], _ :: _, h => by simp [ckNms] at h
  | _ :: _, [], h => by simp [ckNms] at h
theorem ckTg_ok (hc : X.calm = true) (hN : X.N.Nodup) (eN : X.N = C.N) (hl : ∀ x, lc x = true → Loc X.env.scope x ∧ (X.fn x = true ∨ X.env.scope.names.lookup x = some .local)) : ∀ {t : Tg} {e : Expr}, ckTg C lc t e = true → PG X e (tTg X.K t)
  | .nm i, e, h => ckNm_ok hN eN hl h
  | .tp is, e, h => by
    unfold ckTg at h
    split at h
    · rename_i e1; cases e1
    · rename_i e1; cases e1
      obtain ⟨h1, h2, h3⟩ := ckNms_ok hN eN hl h
      exact pg_tup hc h1 h2 h3
    · cases h
end
theorem lcB_ok {X : Cx} {sc scope : Scope} {s : Shared} {H : Hp} {Ca : Addr} {cl : List (Str × Addr)} {fp : List Addr} (e : X.env.scope = sc) (x : Str) (h : lcB scope sc x = true) :
    Loc (X.blk s H scope (compEnvC scope cl Ca X.env) fp).env.scope x ∧ ((X.blk s H scope (compEnvC scope cl Ca X.env) fp).fn x = true ∨ (X.blk s H scope (compEnvC scope cl Ca X.env) fp).env.scope.names.lookup x = some .local) := by
  subst e
  simp only [lcB, Bool.or_eq_true, Bool.and_eq_true, decide_eq_true_eq] at h
  rcases h with h | ⟨h1, h2⟩
  · exact ⟨.inl h, .inr h⟩
  · exact ⟨.inr h1, .inl h2⟩
theorem few_of {env : Env} {pos : Pos} {es : List Expr} (h : es.all notStar = true) (hl : es.length < 20) : ((backTo pos (starEach es env)).all (fun x => !x.1) && (backToKw pos (keywordEach [] env)).all (fun x => x.1.isSome)
      && decide (es.length + ([] : List Keyword).length + (if ([] : List Keyword).isEmpty then 0 else 1) < 30)) = true := by
  have h1 : (backTo pos (starEach es env)).all (fun x => !x.1) = true := by
    rw [starAll h]
    unfold backTo
    clear hl
    induction es with
    | nil => rfl
    | cons e es ih =>
      simp only [List.all_cons, Bool.and_eq_true] at h
      simp only [List.map_cons, List.all_cons, Bool.not_false, Bool.true_and]
      exact ih h.2
  rw [h1]
  have h2 : decide (es.length + ([] : List Keyword).length + (if ([] : List Keyword).isEmpty then 0 else 1) < 30) = true := by
    apply decide_eq_true
    simp
    omega
  rw [h2]
  rfl
theorem tgX_snd (C : Ck) (is : List Nat) : (tgX C is).map (·.2) = is := by
  unfold tgX
  rw [List.map_map]
  exact List.map_id _
theorem slot_mut (m : Mut) : Slot "list" (Str.ofString (mutX m)) (mutN m) := by
  cases m
  · exact PySem.F.slot_list_append
  · exact PySem.F.slot_list_pop
  · exact PySem.F.slot_list_reverse
  · exact PySem.F.slot_list_remove
theorem type_mut (m : Mut) : typeOf (.builtin (mutN m)) = pure (.type "method_descriptor") := by
  cases m
  · exact PySem.F.type_list_append
  · exact PySem.F.type_list_pop
  · exact PySem.F.type_list_reverse
  · exact PySem.F.type_list_remove
theorem slot_lm (k : LM) : Slot "list" (Str.ofString (lmX k)) (lmN k) := by
  cases k
  exact PySem.F.slot_list_count
theorem type_lm (k : LM) : typeOf (.builtin (lmN k)) = pure (.type "method_descriptor") := by
  cases k
  exact PySem.F.type_list_count
theorem bltN_mem (b : Blt) : bltN b ∈ (["len", "repr", "min", "max", "list", "isinstance", "int", "tuple", "range", "enumerate", "sum", "all", "any", "str", "bool", "sorted", "set", "dict", "zip"] : List String) := by
  cases b <;> simp [bltN, bltK]
theorem tyN_mem (t : Ty) : tyN t ∈ (["len", "repr", "min", "max", "list", "isinstance", "int", "tuple", "range", "enumerate", "sum", "all", "any", "str", "bool", "sorted", "set", "dict", "zip"] : List String) := by
  cases t <;> simp [tyN]
theorem bltN_name (b : Blt) : Str.ofString (bltN b) ≠ "__name__" := by
  cases b <;> first | (rename_i t; cases t <;> decide +kernel) | decide +kernel
theorem tyN_name (t : Ty) : Str.ofString (tyN t) ≠ "__name__" := by
  cases t <;> decide +kernel
/-- a built-in by its name -/
theorem blt_boot (b : Blt) : bootBuiltins (Str.ofString (bltN b)) = some (bltV b) := by
  cases b <;> first | (rename_i t; cases t <;> decide +kernel) | decide +kernel
theorem ty_boot (t : Ty) : bootBuiltins (Str.ofString (tyN t)) = some (.type (tyN t)) := by
  cases t <;> decide +kernel
section
variable {C : Ck} {Φ : Fns} {xr : XR} {sc : Scope} {X : Cx}
theorem U_ok (c : Cok C Φ xr sc X) : ∀ (x : U) (e : Expr), ckU C sc x e = true → PE X e (tU X.K x)
  | .cst d, e, h => by
    unfold ckU at h
    obtain ⟨q, hd⟩ := cst_okU (X := X) h
    exact u_cst q fun _ => cstV_dp hd
  | .nm i, e, h => by
    unfold ckU at h
    exact u_nm (isNm_ok c h)
  | .get i π ks, e, h => by
    unfold ckU at h
    exact get_ok c ks e h
  | .len i π, e, h => by
    unfold ckU at h
    split at h
    · simp only [Bool.and_eq_true, decide_eq_true_eq] at h
      obtain ⟨⟨⟨rfl, hg⟩, hs⟩, hp⟩ := h
      obtain ⟨hgl, hdb⟩ := gl_of c hg
      have b := blt_boot .len
      exact u_len (pl_ok c π _ hp) (fun t pa => pe_callB call_len_seq hgl (c.blt "len" (by decide)) b pa (bltN_name .len) hdb (star1 hs []) rfl) (star1 hs [])
    · cases h
  | .add a b, e, h => by
    unfold ckU at h
    split at h
    · simp only [Bool.and_eq_true, decide_eq_true_eq] at h
      obtain ⟨⟨rfl, ha⟩, hb⟩ := h
      exact u_add (U_ok c a _ ha) (U_ok c b _ hb)
    · cases h
  | .sub a b, e, h => by
    unfold ckU at h
    split at h
    · simp only [Bool.and_eq_true, decide_eq_true_eq] at h
      obtain ⟨⟨rfl, ha⟩, hb⟩ := h
      exact u_sub (U_ok c a _ ha) (U_ok c b _ hb)
    · cases h
  | .inD k i π, e, h => by
    unfold ckU at h
    split at h
    · simp only [Bool.and_eq_true, decide_eq_true_eq] at h
      obtain ⟨⟨⟨rfl, hs⟩, hk⟩, hp⟩ := h
      exact u_inD c.hu (U_ok c k _ hk) (pl_ok c π _ hp) (nomarkS hs)
    · cases h
  | .dget i π k z, e, h => by
    unfold ckU at h
    split at h
    · rename_i o nm apos y f cpos
      simp only [Bool.and_eq_true, decide_eq_true_eq] at h
      obtain ⟨⟨⟨⟨⟨⟨⟨rfl, hb⟩, hl⟩, h1⟩, h2⟩, hp⟩, hk⟩, hz⟩ := h
      have t2 : backTo cpos (starEach [y, f] X.env) = [(false, eval y X.env), (false, eval f X.env)] := by rw [star1 h1, star1 h2]; rfl
      exact u_dget c.hu (U_ok c k _ hk) (U_ok c z _ hz) (pl_ok c π _ hp) ⟨base_ofA hb, few_of (es := [y, f]) (by rw [List.all_cons, List.all_cons, h1, h2]; rfl) (show 2 < 20 by decide), hl, t2⟩
    · cases h
theorem Us_ok (c : Cok C Φ xr sc X) : ∀ (xs : List U) (es : List Expr), ckUs C sc xs es = true → PA X es (tUs X.K xs) ∧ es.all notStar = true ∧ es.length = xs.length
  | [], [], _ => ⟨us_nil, rfl, rfl⟩
  | x :: xs, e :: es, h => by
    simp only [ckUs, Bool.and_eq_true] at h
    obtain ⟨h1, h2, h3⟩ := Us_ok c xs es h.2
    exact ⟨us_cons (U_ok c x e h.1.2) h1 (star1 h.1.1 es), by rw [List.all_cons, h.1.1, h2]; rfl, by rw [List.length_cons, List.length_cons, h3]⟩
  | [], _ :: _, h => by simp [ckUs] at h
  | _ :: _, [], h => by simp [ckUs] at h
theorem base_ofM {o : Expr} {nm : Str} {env : Env} (h : plainM o = true) : attributeBase o nm env (eval o env) = eval o env := by
  cases o with
  | Call g as ks p =>
    cases as with
    | nil => cases h
    | cons a as => cases g <;> rfl
  | _ => first | rfl | cases h
theorem ht_of {o : Expr} {m : Str} {apos pos : Pos} {es : List Expr} {env : Env} (h : plainM o = true) (hl : (apos.endLine == pos.line) = true) (hs : es.all notStar = true) (hn : es.length < 20) : ∃ pl : Sem Bool, eval (.Call (.Attribute o m apos) es [] pos) env = (do
      let ov ← eval o env
      standAt apos.atName
      let (f, first) ← holding [ov] (getMethod ov m pl)
      callWith pos f first (backTo pos (starEach es env)) (backToKw pos (keywordEach [] env))) := by
  refine ⟨do return (← importBound o env).getD true, ?_⟩
  rw [arm_eval_Call, base_ofM h]
  have hform : methodCallForm (es.length + ([] : List Keyword).length) (backTo pos (starEach es env)) (backToKw pos (keywordEach [] env)) = true := few_of hs hn
  have hpos : methodCallPos true o env apos pos = pure pos := by unfold methodCallPos; simp [hl]
  unfold methodCall
  rw [hform, hpos]
  simp only [calleeOf, if_true, pure_bind]
end
end VE

/-! VS10: an expression that passes the look is evaluated so. -/
namespace VE
open PySem L2 PySem.Spec PyProof.Rows
section
variable {C : Ck} {Φ : Fns} {xr : XR} {sc : Scope} {X : Cx} {W : WX}
theorem chain_ok {K : PySem.W.Frag} {σ : L2.St} {G H : Hp} {φ : Nat → List Addr} {ρ : List S} {Q : VK} {o₁ o₂ : Cop} {a b c : A} (r : SR K G H ρ σ φ) (h : PoE K xr W σ G H φ (evE Φ (.chain o₁ o₂ a b c) ρ) Q) :
    tChain (rD K xr W (cmpS o₁)) (rD K xr W (cmpS o₂)) (tA K xr W Φ a) (tA K xr W Φ b) (tA K xr W Φ c) σ H Q := by
  rw [evE] at h
  have h' : PoE K xr W σ G H φ ((evAs Φ [a, b] ρ).bnd fun ts ρ'' => match ts with
      | [t, u] => (match res a (t.bind view) ρ'', res b (u.bind view) ρ'' with
        | some d, some d' => match opC o₁ d d' with
          | some true => (evA Φ c ρ'').bnd fun z ρ3 => fin2 b c u z ρ3 (cmpS o₂)
          | some false => .ok (.val (.bool false)) ρ''
          | none => .stk
        | _, _ => .stk)
      | _ => .stk) Q := by
    simp only [evAs]
    cases e1 : evA Φ a ρ with
    | stk => rw [e1] at h; exact h
    | exc _ _ _ => rw [e1] at h; exact h
    | ok t ρ1 =>
      rw [e1] at h
      simp only [R.bnd] at h ⊢
      cases e2 : evA Φ b ρ1 with
      | stk => rw [e2] at h; exact h
      | exc _ _ _ => rw [e2] at h; exact h
      | ok u ρ2 => rw [e2] at h; exact h
  have key : tAs K xr W Φ [a, b] σ H (fun vs H2 => match vs with
      | [x, y] => rD K xr W (cmpS o₁) x y H2 fun z H3 => ∃ k, z = .bl k ∧ (if k = true then tA K xr W Φ c σ H3 fun w' H4 => rD K xr W (cmpS o₂) y w' H4 Q else Q (.bl false) H3)
      | _ => False) := by
    refine opsE0 r h' fun ts ρ' vs G' H' φ' fs r' o hf q st => ?_
    obtain ⟨t, u, x, y, f, g, rfl, rfl, ox, oy, rfl⟩ := o.two
    simp only at q
    split at q
    · rename_i d d' h1 h2
      refine ⟨σ, G', φ', ρ', d, d', r', ox.vw r' h1, oy.vw r' h2, ?_⟩
      unfold cmpS
      cases e : opC o₁ d d' with
      | none => rw [e] at q; exact q.elim
      | some k =>
        rw [e] at q
        intro v G2 H2 φ2 f2 st2 r2 t2
        have hv := t2.rel.1
        cases hv
        refine ⟨k, rfl, ?_⟩
        have st' := st.weak (T := own φ') fun a z => .inl z
        cases k with
        | false =>
          rw [if_neg Bool.false_ne_true]
          exact fin_bool r2 (PoE.from q ((st'.trans st2).weak fun _ z => .inl z))
        | true =>
          rw [if_pos rfl]
          simp only at q
          -- y's own things are held aside through the first comparison and c
          have off2 : ∀ b ∈ g, ¬ own φ' b := fun b hb => (hf b (List.mem_append_right _ (List.mem_append_left _ hb))).2
          have key3 : tAs K xr W Φ [c] σ H2 (fun vs H4 => match vs with
              | [w'] => rD K xr W (cmpS o₂) y w' H4 Q
              | _ => False) := by
            have q' : PoE K xr W σ G H φ ((evAs Φ [c] ρ').bnd fun ts ρ3 => match ts with
                | [z] => fin2 b c u z ρ3 (cmpS o₂)
                | _ => .stk) Q := by
              simp only [evAs]
              cases e1 : evA Φ c ρ' with
              | stk => rw [e1] at q; exact q
              | exc _ _ _ => rw [e1] at q; exact q
              | ok t ρ1 => rw [e1] at q; exact q
            refine opsE (Q := Q) r2 (PoE.from q' ((st'.trans st2).weak fun _ z => .inl z)) fun ts ρ3 vs G3 H3 φ3 fs3 r3 o3 hf3 q3 st3 => ?_
            obtain ⟨t3, w', f3, rfl, rfl, o4, rfl⟩ := o3.one
            simp only [fin2] at q3
            split at q3
            · rename_i d3 e h5 h6
              refine ⟨σ, G3, φ3, ρ3, d3, e, r3, ?_, o4.vw r3 h6, q3⟩
              cases b with
              | pl i => exact (show OpR1 K G3 H3 σ (.pl i) u y g from oy).vw r3 h5
              | e z =>
                obtain ⟨s, rfl, qs⟩ := oy
                have tm : Tmp K G' H' s y g φ' := ⟨qs, fun b hb => (hf b (List.mem_append_right _ (List.mem_append_left _ hb))).1, off2⟩
                obtain ⟨p1, p2, p3⟩ := tm.frame st2 tm.off
                have tm2 : Tmp K G2 H2 s y g φ2 := ⟨p1, p2, fun b hb z => p3 b hb (.inl z)⟩
                obtain ⟨p4, _, _⟩ := tm2.frame st3 tm2.off
                exact VW.of p4 h5
            · exact q3.elim
          exact key3
    · exact q.elim
  exact key

/-! ### slices -/
theorem VWs.len {K : PySem.W.Frag} {G H : Hp} {vs : List V} {ds : List PyData} (h : VWs K G H vs ds) : vs.length = ds.length := by
  induction h with
  | nil => rfl
  | cons _ _ ih => rw [List.length_cons, List.length_cons, ih]
theorem ofIf {K : PySem.W.Frag} {G H : Hp} {φ : Nat → List Addr} {σ : L2.St} {Q : VK} {xr : XR} {W : WX} {c : Bool} {z : S} {ρ : List S} (q : PoE K xr W σ G H φ (ofO (if c = true then some z else none) ρ) Q) : PoE K xr W σ G H φ (if c = true then .ok z ρ else .stk) Q := by
  cases c
  · exact q
  · exact q
theorem slice_ok {K : PySem.W.Frag} {σ : L2.St} {G H : Hp} {φ : Nat → List Addr} {ρ : List S} {Q : VK} {k : Sl} {as : List A} {Qr : List V → Hp → Prop} (r : SR K G H ρ σ φ) (h : PoE K xr W σ G H φ (evE Φ (.slice k as) ρ) Q)
    (hq : ∀ vs H' x lo hi, ((rSlL K x lo hi H' Q ∨ rSlA K x lo hi H' Q) ∨ rSlS x lo hi H' Q) →
      ((k = .no ∧ vs = [x] ∧ lo = none ∧ hi = none) ∨ (k = .lo ∧ ∃ i, vs = [x, .int i] ∧ lo = some i ∧ hi = none) ∨ (k = .hi ∧ ∃ j, vs = [x, .int j] ∧ lo = none ∧ hi = some j) ∨ (k = .both ∧ ∃ i j, vs = [x, .int i, .int j] ∧ lo = some i ∧ hi = some j)) → Qr vs H') : tAs K xr W Φ as σ H Qr := by
  rw [evE] at h
  refine opsE r h fun ts ρ' vs G' H' φ' fs r' o _ q _ => ?_
  split at q
  · rename_i ds hds
    have vw := o.vws r' hds
    unfold opSl at q
    split at q
    · cases vw with
      | cons v1 v2 =>
        cases v2
        exact hq _ _ _ none none (.inl (.inl (slL_D r' v1 q))) (.inl ⟨rfl, rfl, rfl, rfl⟩)
    · cases vw with
      | cons v1 v2 =>
        cases v2 with
        | cons v2 v3 =>
          cases v3
          obtain rfl := v2.int
          exact hq _ _ _ _ none (.inl (.inl (slL_D r' v1 q))) (.inr (.inl ⟨rfl, _, rfl, rfl, rfl⟩))
    · cases vw with
      | cons v1 v2 =>
        cases v2 with
        | cons v2 v3 =>
          cases v3
          obtain rfl := v2.int
          exact hq _ _ _ none _ (.inl (.inl (slL_D r' v1 q))) (.inr (.inr (.inl ⟨rfl, _, rfl, rfl, rfl⟩)))
    · cases vw with
      | cons v1 v2 =>
        cases v2 with
        | cons v2 v3 =>
          cases v3 with
          | cons v3 v4 =>
            cases v4
            obtain rfl := v2.int
            obtain rfl := v3.int
            exact hq _ _ _ _ _ (.inl (.inl (slL_D r' v1 q))) (.inr (.inr (.inr ⟨rfl, _, _, rfl, rfl, rfl⟩)))
    · cases vw with
      | cons v1 v2 =>
        cases v2
        exact hq _ _ _ none none (.inl (.inr (slA_D r' v1 q))) (.inl ⟨rfl, rfl, rfl, rfl⟩)
    · cases vw with
      | cons v1 v2 =>
        cases v2 with
        | cons v2 v3 =>
          cases v3
          obtain rfl := v2.int
          exact hq _ _ _ _ none (.inl (.inr (slA_D r' v1 q))) (.inr (.inl ⟨rfl, _, rfl, rfl, rfl⟩))
    · cases vw with
      | cons v1 v2 =>
        cases v2 with
        | cons v2 v3 =>
          cases v3
          obtain rfl := v2.int
          exact hq _ _ _ none _ (.inl (.inr (slA_D r' v1 q))) (.inr (.inr (.inl ⟨rfl, _, rfl, rfl, rfl⟩)))
    · cases vw with
      | cons v1 v2 =>
        cases v2 with
        | cons v2 v3 =>
          cases v3 with
          | cons v3 v4 =>
            cases v4
            obtain rfl := v2.int
            obtain rfl := v3.int
            exact hq _ _ _ _ _ (.inl (.inr (slA_D r' v1 q))) (.inr (.inr (.inr ⟨rfl, _, _, rfl, rfl, rfl⟩)))
    · cases vw with
      | cons v1 v2 =>
        cases v2
        exact hq _ _ _ none none (.inr (slS_D r' v1 (ofIf q))) (.inl ⟨rfl, rfl, rfl, rfl⟩)
    · cases vw with
      | cons v1 v2 =>
        cases v2 with
        | cons v2 v3 =>
          cases v3
          obtain rfl := v2.int
          exact hq _ _ _ _ none (.inr (slS_D r' v1 (ofIf q))) (.inr (.inl ⟨rfl, _, rfl, rfl, rfl⟩))
    · cases vw with
      | cons v1 v2 =>
        cases v2 with
        | cons v2 v3 =>
          cases v3
          obtain rfl := v2.int
          exact hq _ _ _ none _ (.inr (slS_D r' v1 (ofIf q))) (.inr (.inr (.inl ⟨rfl, _, rfl, rfl, rfl⟩)))
    · cases vw with
      | cons v1 v2 =>
        cases v2 with
        | cons v2 v3 =>
          cases v3 with
          | cons v3 v4 =>
            cases v4
            obtain rfl := v2.int
            obtain rfl := v3.int
            exact hq _ _ _ _ _ (.inr (slS_D r' v1 (ofIf q))) (.inr (.inr (.inr ⟨rfl, _, _, rfl, rfl, rfl⟩)))
    · exact q.elim
  · exact q.elim
theorem not_ok {K : PySem.W.Frag} {σ : L2.St} {G H : Hp} {φ : Nat → List Addr} {ρ : List S} {Q : VK} {a : E} (r : SR K G H ρ σ φ) (h : PoE K xr W σ G H φ (evE Φ (.not a) ρ) Q) : tE K xr W (evE Φ a) σ H (fun x H1 => ∃ b, x = .bl b ∧ Q (.bl (!b)) H1) := by
  rw [evE] at h
  refine ⟨ρ, G, φ, r, ?_⟩
  cases e : evE Φ a ρ with
  | stk => rw [e] at h; exact h
  | exc _ _ _ => rw [e] at h; exact h
  | ok s ρ1 =>
    rw [e] at h
    simp only [R.bnd] at h
    intro v G1 H1 φ1 f st r1 t1
    cases e2 : toBool s with
    | none => rw [e2] at h; exact h.elim
    | some b =>
      rw [e2] at h
      have es : s = .val (.bool b) := by
        unfold toBool at e2
        split at e2
        · cases e2; rfl
        · cases e2
      subst es
      have q := t1.rel.1
      cases q
      exact ⟨b, rfl, fin_bool r1 (PoE.from h (st.weak fun _ z => .inl z))⟩
theorem toBool_some {s : S} {b : Bool} (h : toBool s = some b) : s = .val (.bool b) := by
  unfold toBool at h
  split at h
  · cases h; rfl
  · cases h
/-- a test, then one of two ways -/
theorem test_then {K : PySem.W.Frag} {σ : L2.St} {G H : Hp} {φ : Nat → List Addr} {ρ : List S} {c : E} {k : Bool → List S → R S} {Q : VK} {Qr : Bool → Hp → Prop} (r : SR K G H ρ σ φ)
    (h : PoE K xr W σ G H φ ((evE Φ c ρ).bnd fun s ρ' => match toBool s with
      | some b => k b ρ'
      | none => .stk) Q)
    (hk : ∀ b ρ' G' H' φ', SR K G' H' ρ' σ φ' → PoE K xr W σ G' H' φ' (k b ρ') Q → Qr b H') : tE K xr W (evE Φ c) σ H (fun x H1 => ∃ b, x = .bl b ∧ Qr b H1) := by
  refine ⟨ρ, G, φ, r, ?_⟩
  cases e : evE Φ c ρ with
  | stk => rw [e] at h; exact h
  | exc _ _ _ => rw [e] at h; exact h
  | ok s ρ1 =>
    rw [e] at h
    simp only [R.bnd] at h
    intro v G1 H1 φ1 f st r1 t1
    cases e2 : toBool s with
    | none => rw [e2] at h; exact h.elim
    | some b =>
      rw [e2] at h
      obtain rfl := toBool_some e2
      have q := t1.rel.1
      cases q
      exact ⟨b, rfl, hk b ρ1 G1 H1 φ1 r1 (PoE.from h (st.weak fun _ z => .inl z))⟩

/-! ### the look is right -/
theorem cst_ok {X : Cx} {d : PyData} {e : Expr} (h : ckCst d e = true) : PE X e (tC (cstV d)) ∧ isCst d = true := by
  unfold ckCst at h
  split at h
  · exact ⟨pe_non, rfl⟩
  · obtain rfl := eq_of_beq h
    exact ⟨pe_bl, rfl⟩
  · obtain rfl := eq_of_beq h
    exact ⟨pe_int, rfl⟩
  · obtain rfl := of_decide_eq_true h
    exact ⟨pe_str, rfl⟩
  · cases h
theorem cst_kV (k : Key) : cstV (kDat k) = kV k := by cases k <;> rfl
def evBsT (Φ : Fns) (k : Bool) (es : List E) : List S → R S := evBs Φ k es
theorem ckTy_nil {b : Blt} {sc : Scope} {es : List Expr} (hb : ∀ t, b ≠ .isi t) (h : ckTy b sc es = true) : es = [] := by
  cases es with
  | nil => rfl
  | cons e es => cases b <;> simp_all [ckTy]
theorem us0_of {K : PySem.W.Frag} {xs : List U} (σ : L2.St) (H : Hp) (Q : List V → Hp → Prop) (h : tUs K xs σ H Q) (e : xs = []) : Q [] H := by
  subst e
  obtain ⟨ρ, G, φ, ds, r, e, q⟩ := h
  cases e
  exact q [] .nil
theorem bm0_of {K : PySem.W.Frag} {m : Mut} {i : Nat} {π : List Px} (σ : L2.St) (H : Hp) (Q : VK) (h : tBM K "list" (rMg K m) (tPt K i π) (tUs K []) σ H Q) : tBM0 K "list" (rMg K m) (tPt K i π) σ H Q := by
  obtain ⟨ρ, G, φ, π', v0, u, r, p1, p2, p3, ty, q⟩ := h
  exact ⟨ρ, G, φ, π', v0, u, r, p1, p2, p3, ty, us0_of σ H _ q rfl⟩
theorem hot_no {b : Bool} (h : (!b) = true) : b = false := by simpa using h
theorem loud_no {b : Bool} {k : Blt} (h : (!b || !loudB k) = true) (hl : loudB k = true) : b = false := by
  rw [hl] at h
  simpa using h
theorem ckC1_ok {ad : Nat → Addr} {k : Nat} {e : Expr} (c : Cok C Φ xr sc X) (ha : ∀ c ∈ C.xc, XCls X.K X.mg c (ad c)) (h : ckC1 C sc k e = true) : PE X e (tC (clV ad k)) ∧ notStar e = true ∧ (k ∈ C.xc ∨ k = 15) := by
  unfold ckC1 at h
  split at h
  · simp only [Bool.and_eq_true, Bool.or_eq_true, decide_eq_true_eq] at h
    obtain ⟨⟨rfl, hg⟩, hk⟩ := h
    obtain ⟨hg, hdb⟩ := gl_of c hg
    refine ⟨?_, rfl, hk⟩
    unfold clV
    split
    · rename_i e15
      subst e15
      exact pe_bltn hg c.ve (show bootBuiltins (cnm 15) = some (.type "ValueError") by decide +kernel) (show RelV (V.ty "ValueError") _ from rfl) (by decide) hdb
    · rename_i e15
      exact pe_glob hg (ha k (hk.resolve_right e15)).mg (show RelV (V.ref (ad k)) _ from rfl) hdb
  · cases h
def clT (ad : Nat → Addr) : List Nat → TA
  | [] => tNil
  | c :: cs => tCons (tC (clV ad c)) (clT ad cs)
theorem clT_eq (ad : Nat → Addr) {σ : L2.St} : ∀ (cs : List Nat) (Q : List V → Hp → Prop) (H : Hp), Q (cs.map (clV ad)) H → clT ad cs σ H Q
  | [], Q, H, h => h
  | c :: cs, Q, H, h => clT_eq ad cs (fun xs H2 => Q (clV ad c :: xs) H2) H h
theorem ckCs1_ok {ad : Nat → Addr} (c : Cok C Φ xr sc X) (ha : ∀ c ∈ C.xc, XCls X.K X.mg c (ad c)) : ∀ (cs : List Nat) (es : List Expr), ckCs1 C sc cs es = true → PA X es (clT ad cs) ∧ es.length = cs.length ∧ ∀ k ∈ cs, k ∈ C.xc ∨ k = 15
  | [], [], _ => ⟨pa_nil, rfl, fun _ z => nomatch z⟩
  | k :: cs, e :: es, h => by
    simp only [ckCs1, Bool.and_eq_true] at h
    obtain ⟨p, hs, hk⟩ := ckC1_ok c ha h.1
    obtain ⟨q, hl, hr⟩ := ckCs1_ok c ha cs es h.2
    refine ⟨pa_cons p q (star1 hs es), by rw [List.length_cons, List.length_cons, hl], fun j hj => ?_⟩
    rcases List.mem_cons.mp hj with rfl | hj
    · exact hk
    · exact hr j hj
  | [], _ :: _, h => by cases h
  | _ :: _, [], h => by cases h
/-- where the def f stands -/
def adF (C : Ck) (X : Cx) (f : Nat) : Addr := match C.fns[f]? with
  | some (x, _) => match X.mg x with
    | some (.ref a) => a
    | _ => 0
  | none => 0
theorem ckFs_ok {n : Nat} (c : Cok C Φ xr sc X) : ∀ (fs : List Nat) (es : List Expr), ckFs C sc n fs es = true → PA X es (adT (adF C X) fs) ∧
    ∀ f ∈ fs, ∃ k fd ps, FnG X.prog X.w X.K X.mg X.base (L2N.CX X.prog X.w) k (adF C X f) fd ps (spOf X.K xr n (Φ.fn f)) ∧ Room k X.A ∧ PySem.W.keepIn X.K (.ref (adF C X f)) = true ∧ Binds X.K fd ps []
  | [], [], _ => ⟨pa_nil, fun _ z => nomatch z⟩
  | f :: fs, e :: es, h => by
    cases e with
    | Name x p =>
      simp only [ckFs, Bool.and_eq_true, decide_eq_true_eq] at h
      obtain ⟨q, hr⟩ := ckFs_ok c fs es h.2
      obtain ⟨k, a, fd, ps, F, rm, hm, hk, hb⟩ := c.fns f x n h.1.1
      obtain ⟨hg, hdb⟩ := gl_of c h.1.2
      have ea : adF C X f = a := by
        unfold adF
        rw [h.1.1]
        simp only [hm]
      refine ⟨pa_cons (pe_glob hg hm (show RelV (V.ref (adF C X f)) _ by rw [ea]; rfl) hdb) q (star1 rfl es), fun j hj => ?_⟩
      rcases List.mem_cons.mp hj with rfl | hj
      · rw [ea]
        exact ⟨k, fd, ps, F, rm, hk, hb⟩
      · exact hr j hj
    | _ => simp [ckFs] at h
  | [], _ :: _, h => by simp [ckFs] at h
  | _ :: _, [], h => by simp [ckFs] at h
mutual
theorem A_ok : ∀ (a : A) (e : Expr) (sc : Scope) (X : Cx) (W : WX), Cok C Φ xr sc X → L2N.Takes X W → ckA C sc a e = true → PE X e (tA X.K xr W Φ a)
  | .pl i, e, sc, X, W, c, tk, h => by
    unfold ckA at h
    split at h
    · exact name_ok c h
    · cases h
  | .e p, e, sc, X, W, c, tk, h => by
    unfold ckA at h
    exact E_ok p e sc X W c tk h
termination_by a => (sizeOf a, 0)
theorem As_ok : ∀ (as : List A) (es : List Expr) (sc : Scope) (X : Cx) (W : WX), Cok C Φ xr sc X → L2N.Takes X W → ckAs C sc as es = true → PA X es (tAs X.K xr W Φ as) ∧ es.all notStar = true ∧ es.length = as.length
  | [], es, sc, X, W, c, tk, h => by
    unfold ckAs at h
    split at h
    · exact ⟨pa_nil, rfl, rfl⟩
    · cases h
  | a :: as, es, sc, X, W, c, tk, h => by
    unfold ckAs at h
    split at h
    · rename_i e es
      simp only [Bool.and_eq_true] at h
      obtain ⟨h1, h2, h3⟩ := As_ok as es sc X W c tk h.2
      exact ⟨pa_cons (A_ok a e sc X W c tk h.1.2) h1 (star1 h.1.1 es), by rw [List.all_cons, h.1.1, h2]; rfl, by rw [List.length_cons, List.length_cons, h3]⟩
    · cases h
termination_by as => (sizeOf as, 0)
theorem Ps_ok : ∀ (ks : List Key) (xs : List E) (kes : List (Option Expr)) (vs : List Expr) (pos : Pos) (sc : Scope) (X : Cx) (W : WX), Cok C Φ xr sc X → L2N.Takes X W → ckKs ks kes = true → ckEs C sc xs vs = true → ks.length = xs.length →
    PPs X pos kes vs (trsOf X.K xr W Φ ks xs) ∧ kes.all (·.isSome) = true ∧ kes.length = vs.length ∧ kes.length = ks.length
  | [], [], kes, vs, pos, sc, X, W, c, tk, hk, hv, _ => by
    unfold ckEs at hv
    split at hv
    · cases kes with
      | nil => exact ⟨pps_nil, rfl, rfl, rfl⟩
      | cons a b => cases a <;> cases hk
    · cases hv
  | k :: ks, x :: xs, kes, vs, pos, sc, X, W, c, tk, hk, hv, hl => by
    unfold ckEs at hv
    split at hv
    · rename_i e es
      simp only [Bool.and_eq_true] at hv
      cases kes with
      | nil => cases hk
      | cons a kes =>
        cases a with
        | none => cases hk
        | some ke =>
          simp only [ckKs, Bool.and_eq_true] at hk
          obtain ⟨q1, q2, q3, q4⟩ := Ps_ok ks xs kes es pos sc X W c tk hk.2 hv.2 (Nat.succ.inj hl)
          obtain ⟨p1, _⟩ := cst_okU (X := X) hk.1
          rw [cst_kV] at p1
          exact ⟨pps_cons p1 (E_ok x e sc X W c tk hv.1) q1, by rw [List.all_cons, q2]; rfl, by rw [List.length_cons, List.length_cons, q3], by rw [List.length_cons, List.length_cons, q4]⟩
    · cases hv
  | [], _ :: _, _, _, _, _, _, _, _, _, _, _, l => by cases l
  | _ :: _, [], _, _, _, _, _, _, _, _, _, _, l => by cases l
termination_by _ xs => (sizeOf xs, 0)
theorem BsV_ok : ∀ (k : Bool) (ps : List E) (es : List Expr) (pos : Pos) (sc : Scope) (X : Cx) (W : WX), Cok C Φ xr sc X → L2N.Takes X W → ckBs C sc ps es = true → PE X (.BoolOp (if k then .And else .Or) es pos) (tE X.K xr W (evBs Φ k ps))
  | k, [], es, pos, sc, X, W, c, tk, h => by simp [ckBs] at h
  | k, [p], es, pos, sc, X, W, c, tk, h => by
    unfold ckBs at h
    split at h
    · rename_i e
      simp only [Bool.and_eq_true] at h
      have q := pe_one (op := if k then .And else .Or) (pos := pos) (E_ok p e sc X W c tk h.1)
      exact PE.imp q fun σ H Q ⟨ρ, G, φ, r, z⟩ => ⟨ρ, G, φ, r, by rw [evBs] at z; exact z⟩
    · cases h
  | k, p :: q :: ps, es, pos, sc, X, W, c, tk, h => by
    unfold ckBs at h
    split at h
    · rename_i e f es
      simp only [Bool.and_eq_true] at h
      have ha := E_ok p e sc X W c tk h.1.1
      have hb := BsV_ok k (q :: ps) (f :: es) pos sc X W c tk h.2
      cases k with
      | true =>
        refine PE.imp (pe_and ha hb) fun σ H Q ⟨ρ, G, φ, r, z⟩ => ?_
        rw [evBs] at z
        · refine test_then r z fun b ρ' G' H' φ' r' z' => ?_
          cases b with
          | true =>
            rw [if_pos rfl] at z' ⊢
            exact ⟨ρ', G', φ', r', z'⟩
          | false =>
            rw [if_neg Bool.false_ne_true] at z' ⊢
            exact fin_bool r' z'
      | false =>
        refine PE.imp (pe_or ha hb) fun σ H Q ⟨ρ, G, φ, r, z⟩ => ?_
        rw [evBs] at z
        · refine test_then r z fun b ρ' G' H' φ' r' z' => ?_
          cases b with
          | true =>
            rw [if_neg (fun z => nomatch z)] at z'
            rw [if_pos rfl]
            exact fin_bool r' z'
          | false =>
            rw [if_pos rfl] at z'
            rw [if_neg Bool.false_ne_true]
            exact ⟨ρ', G', φ', r', z'⟩
    · cases h
termination_by k ps => (sizeOf ps, 0)
theorem BsT_ok : ∀ (k : Bool) (ps : List E) (es : List Expr) (pos : Pos) (sc : Scope) (X : Cx) (W : WX), Cok C Φ xr sc X → L2N.Takes X W → ckBs C sc ps es = true → PW X (.BoolOp (if k then .And else .Or) es pos) (tTest (tE X.K xr W (evBs Φ k ps)))
  | k, [], es, pos, sc, X, W, c, tk, h => by simp [ckBs] at h
  | k, [p], es, pos, sc, X, W, c, tk, h => by
    unfold ckBs at h
    split at h
    · rename_i e
      simp only [Bool.and_eq_true] at h
      have q := T_ok p e sc X W c tk h.1 h.2
      cases k with
      | true => exact PW.imp (pw_and1 q) fun σ H Q ⟨ρ, G, φ, r, z⟩ => ⟨ρ, G, φ, r, by rw [evBs] at z; exact z⟩
      | false => exact PW.imp (pw_or1 q) fun σ H Q ⟨ρ, G, φ, r, z⟩ => ⟨ρ, G, φ, r, by rw [evBs] at z; exact z⟩
    · cases h
  | k, p :: q :: ps, es, pos, sc, X, W, c, tk, h => by
    unfold ckBs at h
    split at h
    · rename_i e f es
      simp only [Bool.and_eq_true] at h
      have ha := T_ok p e sc X W c tk h.1.1 h.1.2
      have hb := BsT_ok k (q :: ps) (f :: es) pos sc X W c tk h.2
      cases k with
      | true =>
        refine PW.imp (pw_and ha hb) fun σ H Q ⟨ρ, G, φ, r, z⟩ => ?_
        rw [evBs] at z
        · refine test_then r z fun b ρ' G' H' φ' r' z' => ?_
          cases b with
          | true =>
            rw [if_pos rfl] at z' ⊢
            exact ⟨ρ', G', φ', r', z'⟩
          | false =>
            rw [if_neg Bool.false_ne_true] at z' ⊢
            obtain ⟨b', e', q'⟩ := fin_bool r' z'
            cases e'
            exact q'
      | false =>
        refine PW.imp (pw_or ha hb) fun σ H Q ⟨ρ, G, φ, r, z⟩ => ?_
        rw [evBs] at z
        · refine test_then r z fun b ρ' G' H' φ' r' z' => ?_
          cases b with
          | true =>
            rw [if_neg (fun z => nomatch z)] at z'
            rw [if_pos rfl]
            obtain ⟨b', e', q'⟩ := fin_bool r' z'
            cases e'
            exact q'
          | false =>
            rw [if_pos rfl] at z'
            rw [if_neg Bool.false_ne_true]
            exact ⟨ρ', G', φ', r', z'⟩
    · cases h
termination_by k ps => (sizeOf ps, 0)
theorem C_ok : ∀ (o : Option E) (es : List Expr) (sc : Scope) (X : Cx), Cok C Φ xr sc X → ckC C sc o es = true → PTs X es (condT X.K xr Φ o)
  | none, es, sc, X, c, h => by
    unfold ckC at h
    split at h
    · exact pts_nil
    · cases h
  | some p, es, sc, X, c, h => by
    unfold ckC at h
    split at h
    · rename_i e
      simp only [Bool.and_eq_true] at h
      exact pts_one (T_ok p e sc X _ c takesB h.1 h.2)
    · cases h
termination_by o => (sizeOf o, 0)
theorem It_ok : ∀ (it : It) (tg e : Expr) (sc : Scope) (X : Cx) (W : WX), Cok C Φ xr sc X → L2N.Takes X W → ckIt C sc it tg e = true → PI X tg e (tIt X.K xr W Φ it)
  | .rng1 a, tg, e, sc, X, W, c, tk, h => by
    unfold ckIt at h
    split at h
    · rename_i r p x pos
      simp only [Bool.and_eq_true, decide_eq_true_eq] at h
      obtain ⟨⟨⟨rfl, hg⟩, hs⟩, ha⟩ := h
      exact pi_range1 (gl_of c hg).1 (c.blt "range" (by decide)) (pa_cons (A_ok a x sc X W c tk ha) pa_nil (star1 hs [])) (star1 hs [])
    · cases h
  | .rng2 a b, tg, e, sc, X, W, c, tk, h => by
    unfold ckIt at h
    split at h
    · rename_i r p x y pos
      simp only [Bool.and_eq_true, decide_eq_true_eq] at h
      obtain ⟨⟨⟨⟨⟨rfl, hg⟩, hs⟩, hs2⟩, ha⟩, hb⟩ := h
      exact pi_range2 (gl_of c hg).1 (c.blt "range" (by decide)) (pa_cons (A_ok a x sc X W c tk ha) (pa_cons (A_ok b y sc X W c tk hb) pa_nil (star1 hs2 [])) (star1 hs [y])) (by rw [star1 hs [y], star1 hs2 []]; rfl) (star1 hs2 [])
    · cases h
  | .rng3 as, tg, e, sc, X, W, c, tk, h => by
    unfold ckIt at h
    split at h
    · rename_i r p x y z pos
      simp only [Bool.and_eq_true, decide_eq_true_eq] at h
      obtain ⟨⟨rfl, hg⟩, ha⟩ := h
      obtain ⟨pa, hst, _⟩ := As_ok as [x, y, z] sc X W c tk ha
      simp only [List.all_cons, Bool.and_eq_true] at hst
      exact pi_range3 (gl_of c hg).1 (c.blt "range" (by decide)) pa (star1 hst.1 [y, z]) (plain_of (es := [y, z]) (by simp only [List.all_cons, hst.2.1, hst.2.2.1]; rfl))
    · cases h
  | .seq a, tg, e, sc, X, W, c, tk, h => by
    unfold ckIt at h
    rw [Bool.and_eq_true] at h
    exact pi_seq (A_ok a e sc X W c tk h.2)
  | .enum a, tg, e, sc, X, W, c, tk, h => by
    unfold ckIt at h
    split at h
    · rename_i r p x pos
      simp only [Bool.and_eq_true, decide_eq_true_eq] at h
      obtain ⟨⟨⟨rfl, hg⟩, hs⟩, ha⟩ := h
      exact pi_enumT (gl_of c hg).1 (c.blt "enumerate" (by decide)) (pa_cons (A_ok a x sc X W c tk ha) pa_nil (star1 hs [])) (star1 hs [])
    · cases h
  | .chars a, tg, e, sc, X, W, c, tk, h => by
    unfold ckIt at h
    rw [Bool.and_eq_true] at h
    exact pi_str (A_ok a e sc X W c tk h.2)
  | .zip a b, tg, e, sc, X, W, c, tk, h => by
    unfold ckIt at h
    split at h
    · rename_i r p x y pos
      simp only [Bool.and_eq_true, decide_eq_true_eq] at h
      obtain ⟨⟨⟨⟨⟨rfl, hg⟩, hs⟩, hs2⟩, ha⟩, hb⟩ := h
      exact pi_zipK (gl_of c hg).1 (c.blt "zip" (by decide)) (pa_cons (A_ok a x sc X W c tk ha) (pa_cons (A_ok b y sc X W c tk hb) pa_nil (star1 hs2 [])) (star1 hs [y])) (star1 hs [y]) (plain_of (es := [y]) (by rw [List.all_cons, hs2]; rfl))
    · cases h
  | .seqP i π, tg, e, sc, X, W, c, tk, h => by
    unfold ckIt at h
    rw [Bool.and_eq_true] at h
    exact pi_seq (pl_ok c π e h.2)
  | .zipP i π ϖ, tg, e, sc, X, W, c, tk, h => by
    unfold ckIt at h
    split at h
    · rename_i r p x y pos
      simp only [Bool.and_eq_true, decide_eq_true_eq] at h
      obtain ⟨⟨⟨⟨⟨rfl, hg⟩, hs⟩, hs2⟩, ha⟩, hb⟩ := h
      exact pi_zipK (gl_of c hg).1 (c.blt "zip" (by decide)) (pa_cons (pl_ok c π x ha) (pa_cons (pl_ok c ϖ y hb) pa_nil (star1 hs2 [])) (star1 hs [y])) (star1 hs [y]) (plain_of (es := [y]) (by rw [List.all_cons, hs2]; rfl))
    · cases h
  | .keys a, tg, e, sc, X, W, c, tk, h => by
    unfold ckIt at h
    rw [Bool.and_eq_true] at h
    exact pi_keys (A_ok a e sc X W c tk h.2)
termination_by it => (sizeOf it, 0)
theorem T_ok : ∀ (p : E) (e : Expr) (sc : Scope) (X : Cx) (W : WX), Cok C Φ xr sc X → L2N.Takes X W → ckE C sc p e = true → notIf e = true → PT X e (tTest (tE X.K xr W (evE Φ p)))
  | .not a, e, sc, X, W, c, tk, h, hn => by
    unfold ckE at h
    split at h
    · rename_i x pos
      simp only [Bool.and_eq_true] at h
      refine PT.imp (pt_not (T_ok a x sc X W c tk h.1 h.2)) fun σ H Q ⟨ρ, G, φ, r, z⟩ => ?_
      obtain ⟨ρ', G', φ', r', q⟩ := not_ok r z
      refine ⟨ρ', G', φ', r', ?_⟩
      cases e1 : evE Φ a ρ' with
      | stk => rw [e1] at q; exact q
      | exc _ _ _ => rw [e1] at q; exact q
      | ok s ρ1 =>
        rw [e1] at q
        intro v G1 H1 φ1 f st r1 t1
        obtain ⟨b, e2, b2, e3, q3⟩ := q v G1 H1 φ1 f st r1 t1
        cases e3
        exact ⟨b, e2, q3⟩
    · cases h
  | .bop k ps, e, sc, X, W, c, tk, h, hn => by
    unfold ckE at h
    split at h
    · rename_i op xs pos
      simp only [Bool.and_eq_true, decide_eq_true_eq] at h
      obtain ⟨rfl, h⟩ := h
      exact PW.pt (PW.imp (BsT_ok k ps xs pos sc X W c tk h) fun σ H Q ⟨ρ, G, φ, r, z⟩ => ⟨ρ, G, φ, r, by rw [evE] at z; exact z⟩)
    · cases h
  | .cmp o a b, e, sc, X, W, c, tk, h, hn => by
    unfold ckE at h
    split at h
    · rename_i l op r' pos
      simp only [Bool.and_eq_true, decide_eq_true_eq] at h
      obtain ⟨⟨⟨rfl, hs⟩, ha⟩, hb⟩ := h
      exact PT.imp (pt_cmpR (cmp_ok (xr := xr) (W := W) c.hu o) (A_ok a l sc X W c tk ha) (A_ok b r' sc X W c tk hb) (nomarkS hs)) fun σ H Q ⟨ρ, G, φ, r, z⟩ => op2 (fun _ _ _ _ q => q) r (by rw [evE] at z; exact z)
    · cases h
  | .chain o₁ o₂ a b d, e, sc, X, W, c, tk, h, hn => by
    unfold ckE at h
    split at h
    · rename_i l op op' m r' pos
      simp only [Bool.and_eq_true, decide_eq_true_eq] at h
      obtain ⟨⟨⟨⟨⟨rfl, rfl⟩, hs⟩, ha⟩, hb⟩, hd⟩ := h
      exact PT.imp (pt_chain (cmp_ok (xr := xr) (W := W) c.hu o₁) (cmp_ok (xr := xr) (W := W) c.hu o₂) (A_ok a l sc X W c tk ha) (A_ok b m sc X W c tk hb) (A_ok d r' sc X W c tk hd) (nomarkS hs)) fun σ H Q ⟨ρ, G, φ, r, z⟩ => chain_ok r z
    · cases h
  | .ite c' a b, e, sc, X, W, c, tk, h, hn => by
    unfold ckE at h
    split at h
    · cases hn
    · cases h
  | .rd i m, e, sc, X, W, c, tk, h, hn => by
    have q := E_ok (.rd i m) e sc X W c tk h
    unfold ckE at h
    split at h
    · exact pt_val q fun _ => rfl
    · cases h
  | .cst d, e, sc, X, W, c, tk, h, hn => by
    have q := E_ok (.cst d) e sc X W c tk h
    unfold ckE at h
    split at h
    · exact pt_val q fun _ => rfl
    · cases h
  | .glob g, e, sc, X, W, c, tk, h, hn => by
    have q := E_ok (.glob g) e sc X W c tk h
    unfold ckE at h
    split at h
    · exact pt_val q fun _ => rfl
    · cases h
  | .bin o a b, e, sc, X, W, c, tk, h, hn => by
    have q := E_ok (.bin o a b) e sc X W c tk h
    unfold ckE at h
    split at h
    · exact pt_val q fun _ => rfl
    · cases h
  | .neg a, e, sc, X, W, c, tk, h, hn => by
    have q := E_ok (.neg a) e sc X W c tk h
    unfold ckE at h
    split at h
    · exact pt_val q fun _ => rfl
    · cases h
  | .idx a b, e, sc, X, W, c, tk, h, hn => by
    have q := E_ok (.idx a b) e sc X W c tk h
    unfold ckE at h
    split at h
    · exact pt_val q fun _ => rfl
    · cases h
  | .slice k as, e, sc, X, W, c, tk, h, hn => by
    have q := E_ok (.slice k as) e sc X W c tk h
    unfold ckE at h
    split at h
    · exact pt_val q fun _ => rfl
    · cases h
  | .tup as, e, sc, X, W, c, tk, h, hn => by
    have q := E_ok (.tup as) e sc X W c tk h
    unfold ckE at h
    split at h
    · exact pt_val q fun _ => rfl
    · cases h
  | .lst as, e, sc, X, W, c, tk, h, hn => by
    have q := E_ok (.lst as) e sc X W c tk h
    unfold ckE at h
    split at h
    · exact pt_val q fun _ => rfl
    · cases h
  | .call f as, e, sc, X, W, c, tk, h, hn => by
    have q := E_ok (.call f as) e sc X W c tk h
    unfold ckE at h
    split at h
    · exact pt_val q fun _ => rfl
    · cases h
  | .csel fs i as, e, sc, X, W, c, tk, h, hn => by
    have q := E_ok (.csel fs i as) e sc X W c tk h
    unfold ckE at h
    split at h
    · exact pt_val q fun _ => rfl
    · cases h
  | .blt b as, e, sc, X, W, c, tk, h, hn => by
    have q := E_ok (.blt b as) e sc X W c tk h
    unfold ckE at h
    split at h
    · exact pt_val q fun _ => rfl
    · cases h
  | .mut m i as, e, sc, X, W, c, tk, h, hn => by
    have q := E_ok (.mut m i as) e sc X W c tk h
    unfold ckE at h
    split at h
    · exact pt_val q fun _ => rfl
    · cases h
  | .ext i p, e, sc, X, W, c, tk, h, hn => by
    have q := E_ok (.ext i p) e sc X W c tk h
    unfold ckE at h
    split at h
    · exact pt_val q fun _ => rfl
    · cases h
  | .sm k o x, e, sc, X, W, c, tk, h, hn => by
    have q := E_ok (.sm k o x) e sc X W c tk h
    unfold ckE at h
    split at h
    · exact pt_val q fun _ => rfl
    · cases h
  | .dpop i π k, e, sc, X, W, c, tk, h, hn => by
    have q := E_ok (.dpop i π k) e sc X W c tk h
    unfold ckE at h
    split at h
    · exact pt_val q fun _ => rfl
    · cases h
  | .dmin i π, e, sc, X, W, c, tk, h, hn => by
    have q := E_ok (.dmin i π) e sc X W c tk h
    unfold ckE at h
    split at h
    · exact pt_val q fun _ => rfl
    · cases h
  | .disp1 k x, e, sc, X, W, c, tk, h, hn => by
    have q := E_ok (.disp1 k x) e sc X W c tk h
    unfold ckE at h
    split at h
    · exact pt_val q fun _ => rfl
    · cases h
  | .dix a b, e, sc, X, W, c, tk, h, hn => by
    have q := E_ok (.dix a b) e sc X W c tk h
    unfold ckE at h
    split at h
    · exact pt_val q fun _ => rfl
    · cases h
  | .dlist a, e, sc, X, W, c, tk, h, hn => by
    have q := E_ok (.dlist a) e sc X W c tk h
    unfold ckE at h
    split at h
    · exact pt_val q fun _ => rfl
    · cases h
  | .isx a cs xs, e, sc, X, W, c, tk, h, hn => by
    have q := E_ok (.isx a cs xs) e sc X W c tk h
    unfold ckE at h
    split at h
    · exact pt_val q fun _ => rfl
    · cases h
  | .mkx k a, e, sc, X, W, c, tk, h, hn => by
    have q := E_ok (.mkx k a) e sc X W c tk h
    unfold ckE at h
    split at h
    · exact pt_val q fun _ => rfl
    · cases h
  | .mkf k a, e, sc, X, W, c, tk, h, hn => by
    have q := E_ok (.mkf k a) e sc X W c tk h
    unfold ckE at h
    split at h
    · exact pt_val q fun _ => rfl
    · cases h
  | .efld k i, e, sc, X, W, c, tk, h, hn => by
    have q := E_ok (.efld k i) e sc X W c tk h
    unfold ckE at h
    split at h
    · exact pt_val q fun _ => rfl
    · cases h
  | .lrg as, e, sc, X, W, c, tk, h, hn => by
    have q := E_ok (.lrg as) e sc X W c tk h
    unfold ckE at h
    split at h
    · exact pt_val q fun _ => rfl
    · cases h
  | .lset a, e, sc, X, W, c, tk, h, hn => by
    have q := E_ok (.lset a) e sc X W c tk h
    unfold ckE at h
    split at h
    · exact pt_val q fun _ => rfl
    · cases h
  | .sset a, e, sc, X, W, c, tk, h, hn => by
    have q := E_ok (.sset a) e sc X W c tk h
    unfold ckE at h
    split at h
    · exact pt_val q fun _ => rfl
    · cases h
  | .rev a, e, sc, X, W, c, tk, h, hn => by
    have q := E_ok (.rev a) e sc X W c tk h
    unfold ckE at h
    split at h
    · exact pt_val q fun _ => rfl
    · cases h
  | .lm k i x, e, sc, X, W, c, tk, h, hn => by
    have q := E_ok (.lm k i x) e sc X W c tk h
    unfold ckE at h
    split at h
    · exact pt_val q fun _ => rfl
    · cases h
  | .dcst o, e, sc, X, W, c, tk, h, hn => by
    have q := E_ok (.dcst o) e sc X W c tk h
    unfold ckE at h
    split at h
    · exact pt_val q fun _ => rfl
    · cases h
  | .dnewT, e, sc, X, W, c, tk, h, hn => by
    have q := E_ok (.dnewT) e sc X W c tk h
    unfold ckE at h
    split at h
    · exact pt_val q fun _ => rfl
    · cases h
  | .dispT k x, e, sc, X, W, c, tk, h, hn => by
    have q := E_ok (.dispT k x) e sc X W c tk h
    unfold ckE at h
    split at h
    · exact pt_val q fun _ => rfl
    · cases h
  | .keep x, e, sc, X, W, c, tk, h, hn => by
    have q := E_ok (.keep x) e sc X W c tk h
    unfold ckE at h
    split at h
    · exact pt_val q fun _ => rfl
    · exact pt_val q fun _ => rfl
    · cases h
  | .deq0 i, e, sc, X, W, c, tk, h, hn => by
    unfold ckE at h
    split at h
    · rename_i y p op q pos
      simp only [Bool.and_eq_true, decide_eq_true_eq] at h
      obtain ⟨rfl, hy⟩ := h
      exact PT.imp (pt_cmpR (op_eqNil (by have := c.hu; omega)) (name_ok c hy) pe_dnewK (nomarkS rfl)) fun σ H Q ⟨ρ, G, φ, r, z⟩ => deq0_ok r z
    · cases h
  | .dkeys i, e, sc, X, W, c, tk, h, hn => by
    have q := E_ok (.dkeys i) e sc X W c tk h
    unfold ckE at h
    split at h
    · exact pt_val q fun _ => rfl
    · cases h
  | .u x, e, sc, X, W, c, tk, h, hn => by
    unfold ckE at h
    have fin : ∀ σ H Q, tTest (tE X.K xr W (evE Φ (.u x))) σ H Q → tB (tU X.K x) σ H Q := fun σ H Q ⟨ρ, G, φ, r, z⟩ => by
      rw [evE] at z
      cases e1 : evU ρ x with
      | none => rw [e1] at z; exact z.elim
      | some d =>
        rw [e1] at z
        exact ⟨ρ, G, φ, d, r, e1, fun v hv => fin_val r hv z⟩
    have q := U_ok c x e h
    refine PT.imp ?_ fin
    cases x with
    | cst d =>
      unfold ckU ckCst at h
      split at h <;> first | exact pt_val q fun _ => rfl | cases h
    | nm i =>
      unfold ckU isNm at h
      split at h
      · exact pt_val q fun _ => rfl
      · cases h
    | get i π ks =>
      cases ks with
      | nil =>
        unfold ckU ckG at h
        cases π with
        | nil =>
          unfold ckP isNm at h
          split at h
          · exact pt_val q fun _ => rfl
          · cases h
        | cons p π =>
          cases p <;>
          · unfold ckP at h
            split at h
            · exact pt_val q fun _ => rfl
            · cases h
      | cons p ks =>
        unfold ckU ckG at h
        split at h
        · exact pt_val q fun _ => rfl
        · cases h
    | len i π =>
      unfold ckU at h
      split at h
      · exact pt_val q fun _ => rfl
      · cases h
    | add a b =>
      unfold ckU at h
      split at h
      · exact pt_val q fun _ => rfl
      · cases h
    | sub a b =>
      unfold ckU at h
      split at h
      · exact pt_val q fun _ => rfl
      · cases h
    | inD k i π =>
      unfold ckU at h
      split at h
      · simp only [Bool.and_eq_true, decide_eq_true_eq] at h
        obtain ⟨⟨⟨rfl, hs⟩, hk⟩, hp⟩ := h
        exact ut_inD c.hu (U_ok c k _ hk) (pl_ok c π _ hp) (nomarkS hs)
      · cases h
    | dget i π k z =>
      unfold ckU at h
      split at h
      · exact pt_val q fun _ => rfl
      · cases h
  | .mutP m i π xs, e, sc, X, W, c, tk, h, hn => by
    have q := E_ok (.mutP m i π xs) e sc X W c tk h
    unfold ckE at h
    split at h
    · exact pt_val q fun _ => rfl
    · cases h
  | .meth k m f x xs, e, sc, X, W, c, tk, h, hn => by
    have q := E_ok (.meth k m f x xs) e sc X W c tk h
    unfold ckE at h
    split at h
    · exact pt_val q fun _ => rfl
    · cases h
  | .callP k m f i π xs, e, sc, X, W, c, tk, h, hn => by
    have q := E_ok (.callP k m f i π xs) e sc X W c tk h
    unfold ckE at h
    split at h
    · exact pt_val q fun _ => rfl
    · cases h
  | .make k f xs, e, sc, X, W, c, tk, h, hn => by
    have q := E_ok (.make k f xs) e sc X W c tk h
    unfold ckE at h
    split at h
    · exact pt_val q fun _ => rfl
    · cases h
  | .boxl as, e, sc, X, W, c, tk, h, hn => by
    have q := E_ok (.boxl as) e sc X W c tk h
    unfold ckE at h
    split at h
    · exact pt_val q fun _ => rfl
    · cases h
  | .boxd ks xs, e, sc, X, W, c, tk, h, hn => by
    have q := E_ok (.boxd ks xs) e sc X W c tk h
    unfold ckE at h
    split at h
    · exact pt_val q fun _ => rfl
    · cases h
  | .comp t it d x, e, sc, X, W, c, tk, h, hn => by
    have q := E_ok (.comp t it d x) e sc X W c tk h
    unfold ckE at h
    split at h
    · exact pt_val q fun _ => rfl
    · cases h
  | .comp2 t it d t1 it1 d1 x, e, sc, X, W, c, tk, h, hn => by
    have q := E_ok (.comp2 t it d t1 it1 d1 x) e sc X W c tk h
    unfold ckE at h
    split at h
    · exact pt_val q fun _ => rfl
    · cases h
termination_by p => (sizeOf p, 1)
theorem E_ok : ∀ (p : E) (e : Expr) (sc : Scope) (X : Cx) (W : WX), Cok C Φ xr sc X → L2N.Takes X W → ckE C sc p e = true → PE X e (tE X.K xr W (evE Φ p))
  | .rd i m, e, sc, X, W, c, tk, h => by
    unfold ckE at h
    split at h
    · exact PE.imp (name_ok c h) fun σ H Q ⟨ρ, G, φ, r, z⟩ => rd_ok r z
    · cases h
  | .cst d, e, sc, X, W, c, tk, h => by
    unfold ckE at h
    split at h
    · split at h
      · exact PE.imp pe_non fun σ H Q ⟨ρ, G, φ, r, z⟩ => fin_none r (by rw [evE] at z; exact z)
      · obtain rfl := eq_of_beq h
        exact PE.imp pe_bl fun σ H Q ⟨ρ, G, φ, r, z⟩ => fin_bool r (by rw [evE] at z; exact z)
      · obtain rfl := eq_of_beq h
        exact PE.imp pe_int fun σ H Q ⟨ρ, G, φ, r, z⟩ => fin_int r (by rw [evE] at z; exact z)
      · obtain rfl := of_decide_eq_true h
        exact PE.imp pe_str fun σ H Q ⟨ρ, G, φ, r, z⟩ => fin_str r (by rw [evE] at z; exact z)
      · cases h
    · cases h
  | .glob g, e, sc, X, W, c, tk, h => by
    unfold ckE at h
    split at h
    · rename_i x pos
      simp only [Bool.and_eq_true, decide_eq_true_eq] at h
      obtain ⟨u, v, hm, rv, hd⟩ := c.gls g x h.1
      obtain ⟨hg, hdb⟩ := gl_of c h.2
      exact PE.imp (pe_glob hg hm rv hdb) fun σ H Q ⟨ρ, G, φ, r, z⟩ => fin_val r (hd G) (by rw [evE] at z; exact z)
    · cases h
  | .bin o a b, e, sc, X, W, c, tk, h => by
    unfold ckE at h
    split at h
    · rename_i l op r' pos
      simp only [Bool.and_eq_true, decide_eq_true_eq] at h
      obtain ⟨⟨rfl, ha⟩, hb⟩ := h
      exact PE.imp (pe_op (opB_ok (xr := xr) (W := W) o) (A_ok a l sc X W c tk ha) (A_ok b r' sc X W c tk hb)) fun σ H Q ⟨ρ, G, φ, r, z⟩ => op2 (fun _ _ _ _ q => q) r (by rw [evE] at z; exact z)
    · cases h
  | .neg a, e, sc, X, W, c, tk, h => by
    unfold ckE at h
    split at h
    · rename_i x pos
      exact PE.imp (pe_un (neg_ok (xr := xr) (W := W)) (A_ok a x sc X W c tk h)) fun σ H Q ⟨ρ, G, φ, r, z⟩ => op1 (fun _ _ _ q => q) r (by rw [evE] at z; exact z)
    · cases h
  | .not a, e, sc, X, W, c, tk, h => by
    unfold ckE at h
    split at h
    · rename_i x pos
      simp only [Bool.and_eq_true] at h
      exact PE.imp (pe_not (E_ok a x sc X W c tk h.1)) fun σ H Q ⟨ρ, G, φ, r, z⟩ => not_ok r z
    · cases h
  | .cmp o a b, e, sc, X, W, c, tk, h => by
    unfold ckE at h
    split at h
    · rename_i l op r' pos
      simp only [Bool.and_eq_true, decide_eq_true_eq] at h
      obtain ⟨⟨⟨rfl, hs⟩, ha⟩, hb⟩ := h
      exact PE.imp (pe_cmpR (cmp_ok (xr := xr) (W := W) c.hu o) (A_ok a l sc X W c tk ha) (A_ok b r' sc X W c tk hb) (nomarkS hs)) fun σ H Q ⟨ρ, G, φ, r, z⟩ => op2 (fun _ _ _ _ q => q) r (by rw [evE] at z; exact z)
    · cases h
  | .chain o₁ o₂ a b d, e, sc, X, W, c, tk, h => by
    unfold ckE at h
    split at h
    · rename_i l op op' m r' pos
      simp only [Bool.and_eq_true, decide_eq_true_eq] at h
      obtain ⟨⟨⟨⟨⟨rfl, rfl⟩, hs⟩, ha⟩, hb⟩, hd⟩ := h
      exact PE.imp (pe_chain (cmp_ok (xr := xr) (W := W) c.hu o₁) (cmp_ok (xr := xr) (W := W) c.hu o₂) (A_ok a l sc X W c tk ha) (A_ok b m sc X W c tk hb) (A_ok d r' sc X W c tk hd) (nomarkS hs)) fun σ H Q ⟨ρ, G, φ, r, z⟩ => chain_ok r z
    · cases h
  | .bop k ps, e, sc, X, W, c, tk, h => by
    unfold ckE at h
    split at h
    · rename_i op xs pos
      simp only [Bool.and_eq_true, decide_eq_true_eq] at h
      obtain ⟨rfl, h⟩ := h
      exact PE.imp (BsV_ok k ps xs pos sc X W c tk h) fun σ H Q ⟨ρ, G, φ, r, z⟩ => ⟨ρ, G, φ, r, by rw [evE] at z; exact z⟩
    · cases h
  | .ite d a b, e, sc, X, W, c, tk, h => by
    unfold ckE at h
    split at h
    · rename_i t x y pos
      simp only [Bool.and_eq_true] at h
      refine PE.imp (pe_ifExp (T_ok d t sc X W c tk h.1.1.1 h.1.1.2) (E_ok a x sc X W c tk h.1.2) (E_ok b y sc X W c tk h.2)) fun σ H Q ⟨ρ, G, φ, r, z⟩ => ?_
      rw [evE] at z
      refine test_then (Q := Q) (k := fun k ρ' => if k = true then evE Φ a ρ' else evE Φ b ρ') r ?_ fun k ρ' G' H' φ' r' z' => ?_
      · cases e1 : evE Φ d ρ with
        | stk => rw [e1] at z; exact z
        | exc _ _ _ => rw [e1] at z; exact z
        | ok s ρ1 =>
          rw [e1] at z
          simp only [R.bnd] at z ⊢
          cases e2 : toBool s with
          | none => rw [e2] at z; exact z
          | some k => rw [e2] at z; cases k <;> exact z
      · cases k with
        | true => exact ⟨ρ', G', φ', r', z'⟩
        | false => exact ⟨ρ', G', φ', r', z'⟩
    · cases h
  | .idx a b, e, sc, X, W, c, tk, h => by
    unfold ckE at h
    split at h
    · rename_i l r' pos
      simp only [Bool.and_eq_true] at h
      exact PE.imp (pe_ix (ix_ok (xr := xr) (W := W)) (A_ok a l sc X W c tk h.1.2) (A_ok b r' sc X W c tk h.2) (plainIx h.1.1)) fun σ H Q ⟨ρ, G, φ, r, z⟩ => op2 (fun _ _ _ _ q => q) r (by rw [evE] at z; exact z)
    · cases h
  | .slice k as, e, sc, X, W, c, tk, h => by
    unfold ckE at h
    split at h
    · rename_i l x y p2 pos
      split at h
      all_goals first | (cases h; done) | skip
      · match hz : as, h with
        | [a], h =>
          unfold ckAs at h
          simp only [Bool.and_eq_true] at h
          refine PE.imp (pe_slice (SlR.or (SlR.or sl_list sl_tupA) sl_str) (A_ok a l sc X W c tk h.1.2) po_none po_none) fun σ H Q ⟨ρ, G, φ, r, z⟩ => ?_
          refine slice_ok (as := [a]) (Qr := fun vs H' => match vs with | [v] => ((rSlL X.K v none none H' Q ∨ rSlA X.K v none none H' Q) ∨ rSlS v none none H' Q) | _ => False) r z fun vs H' x0 lo hi h1 h3 => ?_
          rcases h3 with ⟨_, rfl, rfl, rfl⟩ | ⟨z, _⟩ | ⟨z, _⟩ | ⟨z, _⟩
          · exact h1
          all_goals cases z
        | [], h => simp [ckAs] at h
        | _ :: _ :: _, h => simp [ckAs] at h
      · rename_i x
        match hz : as, h with
        | [a, b], h =>
          simp only [ckAs, Bool.and_true] at h
          simp only [Bool.and_eq_true] at h
          refine PE.imp (pe_slice (SlR.or (SlR.or sl_list sl_tupA) sl_str) (A_ok a l sc X W c tk h.1.2) (po_some (A_ok b x sc X W c tk h.2.2)) po_none) fun σ H Q ⟨ρ, G, φ, r, z⟩ => ?_
          refine slice_ok (as := [a, b]) (Qr := fun vs H' => match vs with | [v, w] => ∃ i, w = V.int i ∧ ((rSlL X.K v (some i) none H' Q ∨ rSlA X.K v (some i) none H' Q) ∨ rSlS v (some i) none H' Q) | _ => False) r z fun vs H' x0 lo hi h1 h3 => ?_
          rcases h3 with ⟨z, _⟩ | ⟨_, i, rfl, rfl, rfl⟩ | ⟨z, _⟩ | ⟨z, _⟩
          · cases z
          · exact ⟨i, rfl, h1⟩
          all_goals cases z
        | [], h => simp [ckAs] at h
        | [_], h => simp [ckAs] at h
        | _ :: _ :: _ :: _, h => simp [ckAs] at h
      · rename_i y
        match hz : as, h with
        | [a, b], h =>
          simp only [ckAs, Bool.and_true] at h
          simp only [Bool.and_eq_true] at h
          refine PE.imp (pe_slice (SlR.or (SlR.or sl_list sl_tupA) sl_str) (A_ok a l sc X W c tk h.1.2) po_none (po_some (A_ok b y sc X W c tk h.2.2))) fun σ H Q ⟨ρ, G, φ, r, z⟩ => ?_
          refine slice_ok (as := [a, b]) (Qr := fun vs H' => match vs with | [v, w] => ∃ i, w = V.int i ∧ ((rSlL X.K v none (some i) H' Q ∨ rSlA X.K v none (some i) H' Q) ∨ rSlS v none (some i) H' Q) | _ => False) r z fun vs H' x0 lo hi h1 h3 => ?_
          rcases h3 with ⟨z, _⟩ | ⟨z, _⟩ | ⟨_, i, rfl, rfl, rfl⟩ | ⟨z, _⟩
          · cases z
          · cases z
          · exact ⟨i, rfl, h1⟩
          · cases z
        | [], h => simp [ckAs] at h
        | [_], h => simp [ckAs] at h
        | _ :: _ :: _ :: _, h => simp [ckAs] at h
    · cases h
  | .tup as, e, sc, X, W, c, tk, h => by
    unfold ckE at h
    split at h
    · exact PE.imp (pe_tup (As_ok as _ sc X W c tk h).1) fun σ H Q ⟨ρ, G, φ, r, z⟩ => tup_ok r z
    · cases h
  | .lst as, e, sc, X, W, c, tk, h => by
    unfold ckE at h
    split at h
    · exact PE.imp (pe_lst (As_ok as _ sc X W c tk h).1) fun σ H Q ⟨ρ, G, φ, r, z⟩ => lst_ok r z
    · cases h
  | .call f as, e, sc, X, W, c, tk, h => by
    unfold ckE at h
    split at h
    · rename_i x p e0 es pos
      simp only [Bool.and_eq_true, decide_eq_true_eq] at h
      obtain ⟨k, a, fd, ps, F, rm, hm, hk, hb⟩ := c.fns f x as.length h.1.1
      obtain ⟨hg, hdb⟩ := gl_of c h.1.2
      obtain ⟨pa, hst, _⟩ := As_ok as (e0 :: es) sc X W c tk h.2
      simp only [List.all_cons, Bool.and_eq_true] at hst
      exact PE.imp (pe_callG (E := fun σ => WEx W σ) F rm c.gd hg hm hk hb (fun σ => L2N.passAt tk σ) pa hdb (star1 hst.1 es) (plain_of hst.2)) fun σ H Q ⟨ρ, G, φ, r, z⟩ => callE_ok r z
    · cases h
  | .csel fs i as, e, sc, X, W, c, tk, h => by
    unfold ckE at h
    split at h
    · rename_i ns p1 y p2 p3 e0 es pos
      simp only [Bool.and_eq_true, decide_eq_true_eq] at h
      obtain ⟨⟨⟨hn, hf⟩, hl⟩, ha⟩ := h
      obtain ⟨q1, q2⟩ := ckFs_ok c fs ns hf
      obtain ⟨pa, hst, _⟩ := As_ok as (e0 :: es) sc X W c tk ha
      simp only [List.all_cons, Bool.and_eq_true] at hst
      exact PE.imp (pe_callSel (sp := fun f => spOf X.K xr as.length (Φ.fn f)) (E := fun σ => WEx W σ) (pe_ix ix_list (pe_lst q1) (name_ok c hn) (plainIx rfl)) q2 c.gd (fun σ => L2N.passAt tk σ) pa (by rfl) (star1 hst.1 es) (plain_of hst.2)) fun σ H Q ⟨ρ, G, φ, r, z⟩ => csel_ok (Nat.le_trans hl (by decide)) r z
    · cases h
  | .blt b as, e, sc, X, W, c, tk, h => by
    unfold ckE at h
    split at h
    · rename_i x p e0 es pos
      rw [Bool.and_eq_true] at h
      obtain ⟨h, hh⟩ := h
      simp only [Bool.and_eq_true, decide_eq_true_eq] at h
      obtain ⟨⟨⟨⟨⟨rfl, hg⟩, hst⟩, h1⟩, ha⟩, ht⟩ := h
      obtain ⟨hgl, hdb⟩ := gl_of c hg
      obtain ⟨pa, _, hlen⟩ := As_ok as _ sc X W c tk ha
      have hst' := hst
      simp only [List.all_cons, Bool.and_eq_true] at hst'
      have key : ∃ t, PA X (e0 :: es) t ∧ ∀ σ H Q, tE X.K xr W (evE Φ (.blt b as)) σ H Q → tCB (fun xs H Q => ∃ ys, xs = bltA b ys ∧ rDs X.K xr W (opBlt b) ys H Q) t σ H Q := by
        have plain : (e0 :: es).drop as.length = [] → (∀ ys, bltA b ys = ys) → ∃ t, PA X (e0 :: es) t ∧ ∀ σ H Q, tE X.K xr W (evE Φ (.blt b as)) σ H Q → tCB (fun xs H Q => ∃ ys, xs = bltA b ys ∧ rDs X.K xr W (opBlt b) ys H Q) t σ H Q := by
          intro e1 e2
          have e3 : (e0 :: es).take as.length = e0 :: es := by
            have z := List.take_append_drop as.length (e0 :: es)
            rw [e1, List.append_nil] at z
            exact z
          rw [e3] at pa
          refine ⟨_, pa, fun σ H Q ⟨ρ, G, φ, r, z⟩ => opN (g := opBlt b) (fun ys _ _ q => ⟨ys, (e2 ys).symm, q⟩) r (by rw [evE] at z; exact z)⟩
        cases b with
        | isi t =>
          simp only [blt1, beq_iff_eq] at h1
          match hz : as, h1 with
          | [a], _ =>
            simp only [List.length_cons, List.length_nil, Nat.zero_add, List.take_succ_cons, List.take_zero, List.drop_succ_cons, List.drop_zero] at pa ht ha
            match es, ht with
            | [.Name y py], ht =>
              simp only [ckTy, Bool.and_eq_true, decide_eq_true_eq] at ht
              obtain ⟨rfl, hg2⟩ := ht
              obtain ⟨hgl2, hdb2⟩ := gl_of c hg2
              have hs0 := hst'.1
              simp only [ckAs, Bool.and_true, Bool.and_eq_true] at ha
              have q := pa_cons (A_ok a e0 sc X W c tk ha.2) (pa_cons (pe_bltn (pos := py) hgl2 (c.blt _ (tyN_mem t)) (ty_boot t) (show RelV (V.ty (tyN t)) _ from rfl) (tyN_name t) hdb2) pa_nil) (star1 hs0 [.Name (Str.ofString (tyN t)) py])
              refine ⟨_, q, fun σ H Q ⟨ρ, G, φ, r, z⟩ => ?_⟩
              have z' := opN (r := fun xs H Q => ∃ ys, xs ++ [V.ty (tyN t)] = ys ++ [V.ty (tyN t)] ∧ rDs X.K xr W (opBlt (.isi t)) ys H Q) (g := opBlt (.isi t)) (fun ys _ _ q => ⟨ys, rfl, q⟩) r (by rw [evE] at z; exact z)
              exact z'
            | [], ht => simp [ckTy] at ht
            | _ :: _ :: _, ht => simp [ckTy] at ht
        | len => exact plain (ckTy_nil (by intro t z; cases z) ht) fun _ => rfl
        | repr => exact plain (ckTy_nil (by intro t z; cases z) ht) fun _ => rfl
        | min2 => exact plain (ckTy_nil (by intro t z; cases z) ht) fun _ => rfl
        | max2 => exact plain (ckTy_nil (by intro t z; cases z) ht) fun _ => rfl
        | list => exact plain (ckTy_nil (by intro t z; cases z) ht) fun _ => rfl
        | int => exact plain (ckTy_nil (by intro t z; cases z) ht) fun _ => rfl
        | minL => exact plain (ckTy_nil (by intro t z; cases z) ht) fun _ => rfl
        | maxL => exact plain (ckTy_nil (by intro t z; cases z) ht) fun _ => rfl
        | sumL => exact plain (ckTy_nil (by intro t z; cases z) ht) fun _ => rfl
        | tup => exact plain (ckTy_nil (by intro t z; cases z) ht) fun _ => rfl
        | all => exact plain (ckTy_nil (by intro t z; cases z) ht) fun _ => rfl
        | any => exact plain (ckTy_nil (by intro t z; cases z) ht) fun _ => rfl
        | sorted => exact plain (ckTy_nil (by intro t z; cases z) ht) fun _ => rfl
        | str => exact plain (ckTy_nil (by intro t z; cases z) ht) fun _ => rfl
        | dict => exact plain (ckTy_nil (by intro t z; cases z) ht) fun _ => rfl
      obtain ⟨t, pa', key⟩ := key
      have bo := blt_ok (X := X) (xr := xr) (W := W) b (fun hl => c.calm (loud_no hh hl)) c.gd c.hu
      have bb := blt_boot b
      cases e : bltK b with
      | fn id =>
        have ev : bltV b = .builtin id := by simp only [bltV, e]
        rw [ev] at bo bb
        exact PE.imp (pe_callB bo hgl (c.blt _ (bltN_mem b)) bb pa' (bltN_name b) hdb (star1 hst'.1 es) (plain_of hst'.2)) key
      | type id =>
        have ev : bltV b = .type id := by simp only [bltV, e]
        rw [ev] at bo bb
        exact PE.imp (pe_callTy bo hgl (c.blt _ (bltN_mem b)) bb pa' (bltN_name b) hdb (star1 hst'.1 es) (plain_of hst'.2)) key
    · cases h
  | .mut m i as, e, sc, X, W, c, tk, h => by
    unfold ckE at h
    split at h
    · rename_i x p nm apos es cpos
      simp only [Bool.and_eq_true, decide_eq_true_eq] at h
      obtain ⟨⟨⟨⟨rfl, hn⟩, hl⟩, hf⟩, ha⟩ := h
      obtain ⟨pa, hst, hlen⟩ := As_ok as es sc X W c tk ha
      cases es with
      | nil =>
        match as, hlen with
        | [], _ => exact PE.imp (pe_bm0 PySem.F.plainAttrs_list (slot_mut m) (type_mut m) (mut_ok (xr := xr) (W := W) m) (name_ok c hn) (by rfl) hl) fun σ H Q ⟨ρ, G, φ, r, z⟩ => mutE_ok r z
      | cons e0 es =>
        have hst' := hst
        simp only [List.all_cons, Bool.and_eq_true] at hst'
        exact PE.imp (pe_bm PySem.F.plainAttrs_list (slot_mut m) (type_mut m) (mut_ok (xr := xr) (W := W) m) (name_ok c hn) pa (by rfl) (few_of hst hf) hl (star1 hst'.1 es) (plain_of hst'.2)) fun σ H Q ⟨ρ, G, φ, r, z⟩ => mutE_ok r z
    · cases h
  | .ext i q, e, sc, X, W, c, tk, h => by
    unfold ckE at h
    split at h
    · rename_i x p nm apos y cpos
      simp only [Bool.and_eq_true, decide_eq_true_eq] at h
      obtain ⟨⟨⟨⟨rfl, hn⟩, hl⟩, hs⟩, he⟩ := h
      have hst : [y].all notStar = true := by rw [List.all_cons, hs]; rfl
      have pa : PA X [y] (tAs X.K xr W Φ [.e q]) := pa_cons (E_ok q y sc X W c tk he) pa_nil (star1 hs [])
      exact PE.imp (pe_bm PySem.F.plainAttrs_list PySem.F.slot_list_extend PySem.F.type_list_extend mt_extend (name_ok c hn) pa (by rfl) (few_of hst (show (1 : Nat) < 20 by omega)) hl (star1 hs []) (plain_of (by rfl))) fun σ H Q ⟨ρ, G, φ, r, z⟩ => ext_ok r z
    · cases h
  | .sm k o x, e, sc, X, W, c, tk, h => by
    unfold ckE at h
    split at h
    · rename_i b nm apos y cpos
      simp only [Bool.and_eq_true, decide_eq_true_eq] at h
      obtain ⟨⟨⟨⟨⟨rfl, hb⟩, hl⟩, hs⟩, ho⟩, hx⟩ := h
      cases k with
      | join => exact PE.imp (pe_join (A_ok o b sc X W c tk ho) (A_ok x y sc X W c tk hx) (star1 hs []) (base_of hb) hl) fun σ H Q ⟨ρ, G, φ, r, z⟩ => sm_ok (k := .join) r z
      | split => exact PE.imp (pe_split (A_ok o b sc X W c tk ho) (A_ok x y sc X W c tk hx) (star1 hs []) (base_of hb) hl) fun σ H Q ⟨ρ, G, φ, r, z⟩ => sm_ok (k := .split) r z
    · cases h
  | .dix a b, e, sc, X, W, c, tk, h => by
    unfold ckE at h
    split at h
    · rename_i l i pos
      simp only [Bool.and_eq_true] at h
      exact PE.imp (pe_dget (by have := c.hu; omega) (A_ok a l sc X W c tk h.1.2) (A_ok b i sc X W c tk h.2) (plainIx h.1.1)) fun σ H Q ⟨ρ, G, φ, r, z⟩ => dix_ok r z
    · cases h
  | .dlist a, e, sc, X, W, c, tk, h => by
    unfold ckE at h
    split at h
    · rename_i l p1 x pos
      rw [Bool.and_eq_true] at h
      obtain ⟨h, hh⟩ := h
      simp only [Bool.and_eq_true, decide_eq_true_eq] at h
      obtain ⟨⟨⟨rfl, hg⟩, hs⟩, ha⟩ := h
      obtain ⟨hgl, hdb⟩ := gl_of c hg
      exact PE.imp (pe_callTy (call_list_dT (c.calm (hot_no hh))) hgl (c.blt "list" (by decide)) (blt_boot .list) (pa_cons (A_ok a x sc X W c tk ha) pa_nil (star1 hs [])) (bltN_name .list) hdb (star1 hs []) (plain_of (by rfl))) fun σ H Q ⟨ρ, G, φ, r, z⟩ => dlist_ok r z
    · cases h
  | .dpop i π k, e, sc, X, W, c, tk, h => by
    unfold ckE at h
    split at h
    · rename_i o nm apos y cpos
      simp only [Bool.and_eq_true, decide_eq_true_eq] at h
      obtain ⟨⟨⟨⟨⟨rfl, hb⟩, hl⟩, h1⟩, hp⟩, hk⟩ := h
      have t1 : backTo cpos (starEach [y] X.env) = [(false, eval y X.env)] := by rw [star1 h1]; rfl
      exact PE.imp (pe_dpop1 (pl_ok c π o hp) (U_ok c k y hk) ⟨base_ofA hb, few_of (es := [y]) (by rw [List.all_cons, h1]; rfl) (show 1 < 20 by decide), hl, t1⟩) fun σ H Q ⟨ρ, G, φ, r, z⟩ => dpop_ok r z
    · cases h
  | .dmin i π, e, sc, X, W, c, tk, h => by
    unfold ckE at h
    split at h
    · rename_i x p o pos
      rw [Bool.and_eq_true] at h
      obtain ⟨h, hh⟩ := h
      simp only [Bool.and_eq_true, decide_eq_true_eq] at h
      obtain ⟨⟨⟨rfl, hg⟩, hs⟩, hp⟩ := h
      obtain ⟨hgl, hdb⟩ := gl_of c hg
      exact PE.imp (pe_callB (cr_minK (c.calm (hot_no hh))) hgl (c.blt "min" (by decide)) (show bootBuiltins "min" = some (.builtin "min") by decide +kernel) (pa_cons (pl_ok c π o hp) pa_nil (star1 hs [])) (by decide) hdb (star1 hs []) (plain_of (by rfl))) fun σ H Q ⟨ρ, G, φ, r, z⟩ => dmin_ok r z
    · cases h
  | .disp1 k x, e, sc, X, W, c, tk, h => by
    unfold ckE at h
    split at h
    · rename_i ke ve pos
      simp only [Bool.and_eq_true] at h
      have p1 : PE X ke (tC (kV k)) := by
        have q := (cst_ok (X := X) h.1).1
        cases k <;> exact q
      exact PE.imp (pe_disp (pps_cons p1 (A_ok x ve sc X W c tk h.2) pps_nil) rfl rfl (fun z => nomatch z) (Nat.le_of_ble_eq_true rfl)) fun σ H Q ⟨ρ, G, φ, r, z⟩ => disp1_ok r z
    · cases h
  | .isx a cs xs, e, sc, X, W, c, tk, h => by
    unfold ckE at h
    split at h
    · rename_i x p y ce pos
      simp only [Bool.and_eq_true, decide_eq_true_eq] at h
      obtain ⟨⟨⟨⟨⟨rfl, hg⟩, hs⟩, ha⟩, hc⟩, rfl⟩ := h
      obtain ⟨hgl, hdb⟩ := gl_of c hg
      obtain ⟨ad, x1, x2⟩ := c.xo
      have pa := A_ok a y sc X W c tk ha
      have go : ∀ {t : TE}, PE X ce t → notStar ce = true → (∀ k ∈ cs, k ∈ C.xc ∨ k = 15) → (∀ {ρ : List S} {G H : Hp} {σ : L2.St} {φ : Nat → List Addr} {Q : VK}, SR X.K G H ρ σ φ → PoE X.K xr W σ G H φ (evE Φ (.isx a cs C.xc) ρ) Q → tCB (rIsx X.K ad cs C.xc) (tCons (tA X.K xr W Φ a) (tCons t tNil)) σ H Q) →
          PE X (.Call (.Name "isinstance" p) [y, ce] [] pos) (tE X.K xr W (evE Φ (.isx a cs C.xc))) := fun pc hs2 hk rd => by
        have hst : [y, ce].all notStar = true := by simp [hs, hs2]
        exact PE.imp (pe_callB (call_isx (mg := X.mg) x1 (fun c' h' c h => (x2 c' h' c h).2) hk) hgl (c.blt "isinstance" (by decide)) PyProof.Rows.boot_isinstance (pa_cons pa (pa_cons pc pa_nil (star1 hs2 [])) (star1 hs [ce])) (by decide) hdb (star1 hs [ce]) (plain_of (by simp [hs2]))) fun σ H Q ⟨ρ, G, φ, r, z⟩ => rd r z
      unfold ckCls at hc
      split at hc
      · simp only [Bool.and_eq_true, decide_eq_true_eq] at hc
        obtain ⟨q1, q2, q3⟩ := ckCs1_ok c x1 _ _ hc.1
        exact go (pe_tup q1) rfl q3 fun r z => isx_tup (fun Q H q => clT_eq ad cs Q H q) (by rw [← q2]; exact hc.2) r z
      · split at hc
        · obtain ⟨q1, q2, q3⟩ := ckC1_ok c x1 hc
          exact go q1 q2 (fun j hj => by rcases List.mem_singleton.mp hj with rfl; exact q3) fun r z => isx_one r z
        · cases hc
    · cases h
  | .mkx k a, e, sc, X, W, c, tk, h => by
    unfold ckE at h
    split at h
    · rename_i x p y pos
      simp only [Bool.and_eq_true, Bool.or_eq_true, decide_eq_true_eq] at h
      obtain ⟨⟨⟨⟨⟨rfl, hg⟩, hk⟩, hi⟩, hs⟩, ha⟩ := h
      obtain ⟨hgl, hdb⟩ := gl_of c hg
      obtain ⟨ad, x1, _⟩ := c.xo
      have xk := x1 k hk
      by_cases h13 : k < 13
      · exact PE.imp (pe_mk (pmk_own1N PySem.F.excBase_ValueError (xk.new h13) xk.mg xk.kp (raises_own xk.be xk.ty) hgl (A_ok a y sc X W c tk ha) (star1 hs []) hdb)) fun σ H Q ⟨ρ, G, φ, r, z⟩ => mkx_ok xk.ns h13 r z
      · obtain ⟨rm, Cc, fI, st, fd, n1, xi, xt, bd⟩ := c.xi k (hi.resolve_left h13)
        obtain rfl : ad k = Cc := by
          have z := xk.ns.symm.trans n1
          injection z with z
          injection z with z
          injection z with z
        exact PE.imp (pe_mk (pmk_ini (k := 0) xi xt rm bd hgl xk.mg (A_ok a y sc X W c tk ha) hdb (star1 hs []))) fun σ H Q ⟨ρ, G, φ, r, z⟩ => mki_ok xk.ns h13 r z
    · cases h
  | .mkf k a, e, sc, X, W, c, tk, h => by
    unfold ckE at h
    split at h
    · rename_i x p y cpos nm pos
      simp only [Bool.and_eq_true, decide_eq_true_eq] at h
      obtain ⟨⟨⟨⟨⟨⟨⟨rfl, rfl⟩, hg⟩, hk⟩, hi⟩, h13⟩, hs⟩, ha⟩ := h
      obtain ⟨hgl, hdb⟩ := gl_of c hg
      obtain ⟨ad, x1, _⟩ := c.xo
      have xk := x1 k hk
      obtain ⟨rm, Cc, fI, st, fd, n1, xi, xt, bd⟩ := c.xi k hi
      obtain rfl : ad k = Cc := by
        have z := xk.ns.symm.trans n1
        injection z with z
        injection z with z
        injection z with z
      exact PE.imp (pe_efld xk h13 (pe_mk (pmk_ini (k := 0) xi xt rm bd hgl xk.mg (A_ok a y sc X W c tk ha) hdb (star1 hs []))) (base_ofM rfl)) fun σ H Q ⟨ρ, G, φ, r, z⟩ => mkf_ok h13 r z
    · cases h
  | .efld k i, e, sc, X, W, c, tk, h => by
    unfold ckE at h
    split at h
    · rename_i y p nm pos
      simp only [Bool.and_eq_true, decide_eq_true_eq] at h
      obtain ⟨⟨⟨rfl, hn⟩, hk⟩, h13⟩ := h
      obtain ⟨ad, x1, _⟩ := c.xo
      have xk := x1 k hk
      exact PE.imp (pe_efld xk h13 (name_ok c hn) (base_of rfl)) fun σ H Q ⟨ρ, G, φ, r, z⟩ => by
        rw [evE] at z
        cases hs : slot ρ i with
        | val d =>
          rw [hs] at z
          simp only at z
          unfold opEfld at z
          split at z
          · rename_i d' hq
            split at hq
            · rename_i c' j hu
              split at hq
              · rename_i e1
                subst e1
                cases hq
                obtain ⟨v, hv, rel⟩ := r.at (i := i) (by rw [hs]; exact fun w => nomatch w)
                rw [hs] at rel
                obtain ⟨a, Cc, dx, ψ, rfl, n1, g1, e1, f1⟩ := (VW.of rel rfl).unX hu
                obtain rfl : ad c' = Cc := by
                  have w := xk.ns.symm.trans n1
                  injection w with w
                  injection w with w
                  injection w with w
                exact ⟨_, hv, a, dx, ψ, j, rfl, g1.mono r.gh, e1, f1.mono r.gh, fin_int r z⟩
              · cases hq
            · cases hq
          · exact z.elim
        | _ => rw [hs] at z; exact z.elim
    · cases h
  | .lrg as, e, sc, X, W, c, tk, h => by
    unfold ckE at h
    split at h
    · rename_i l p1 r' p2 es p3 p4
      rw [Bool.and_eq_true] at h
      obtain ⟨h, hh⟩ := h
      simp only [Bool.and_eq_true, decide_eq_true_eq] at h
      obtain ⟨⟨⟨⟨⟨rfl, hg1⟩, rfl⟩, hg2⟩, hn⟩, ha⟩ := h
      have g1 := (gl_of c hg1).1
      have g2 := (gl_of c hg2).1
      obtain ⟨_, hst, hlen⟩ := As_ok as es sc X W c tk ha
      match hz : as, hlen, ha, hn with
      | [a], hlen, ha, _ =>
        match es, hlen with
        | [x], _ =>
          simp only [ckAs, Bool.and_true, Bool.and_eq_true] at ha
          exact PE.imp (pe_listRg (c.calm (hot_no hh)) g1 (c.blt "list" (by decide)) (prg_1 g2 (c.blt "range" (by decide)) (A_ok a x sc X W c tk ha.2) (star1 ha.1 [])) rfl) fun σ H Q ⟨ρ, G, φ, r, z⟩ =>
            lrg_ok (as := [a]) (Qr := fun vs H' => match vs with | [x] => ∃ n, x = V.int n ∧ (RgOk 0 n ∧ ∀ q, H' q = none → Q (.ref q) (upd H' q (.lst (rgV 0 n)))) | _ => False) r z fun vs H' a b h1 h2 hl h3 => by
              rcases h3 with ⟨rfl, rfl⟩ | rfl
              · exact ⟨_, rfl, h1, h2⟩
              · cases hl
      | [a, b], hlen, ha, _ =>
        match es, hlen with
        | [x, y], _ =>
          simp only [ckAs, Bool.and_true] at ha
          simp only [Bool.and_eq_true] at ha
          exact PE.imp (pe_listRg (c.calm (hot_no hh)) g1 (c.blt "list" (by decide)) (prg_2 g2 (c.blt "range" (by decide)) (A_ok a x sc X W c tk ha.1.2) (A_ok b y sc X W c tk ha.2.2) (star1 ha.1.1 [y]) (star1 ha.2.1 []) (plain_of (es := [y]) (by rw [List.all_cons, ha.2.1]; rfl))) rfl) fun σ H Q ⟨ρ, G, φ, r, z⟩ =>
            lrg_ok (as := [a, b]) (Qr := fun vs H' => match vs with | [x, y] => ∃ i j, x = V.int i ∧ y = V.int j ∧ (RgOk i j ∧ ∀ q, H' q = none → Q (.ref q) (upd H' q (.lst (rgV i j)))) | _ => False) r z fun vs H' a b h1 h2 hl h3 => by
              rcases h3 with ⟨rfl, rfl⟩ | rfl
              · cases hl
              · exact ⟨_, _, rfl, rfl, h1, h2⟩
      | [], _, _, hn => simp at hn
      | _ :: _ :: _ :: _, _, _, hn => simp at hn
    · cases h
  | .lset a, e, sc, X, W, c, tk, h => by
    unfold ckE at h
    split at h
    · rename_i l p1 r' p2 x p3 p4
      rw [Bool.and_eq_true] at h
      obtain ⟨h, hh⟩ := h
      simp only [Bool.and_eq_true, decide_eq_true_eq] at h
      obtain ⟨⟨⟨⟨⟨rfl, hg1⟩, rfl⟩, hg2⟩, hs⟩, ha⟩ := h
      exact PE.imp (pe_lset (c.calm (hot_no hh)) (gl_of c hg1).1 (c.blt "len" (by decide)) (gl_of c hg2).1 (c.blt "set" (by decide)) (A_ok a x sc X W c tk ha) (star1 hs [])) fun σ H Q ⟨ρ, G, φ, r, z⟩ => lset_ok r z
    · cases h
  | .sset a, e, sc, X, W, c, tk, h => by
    unfold ckE at h
    split at h
    · rename_i l p1 r' p2 x p3 p4
      rw [Bool.and_eq_true] at h
      obtain ⟨h, hh⟩ := h
      simp only [Bool.and_eq_true, decide_eq_true_eq] at h
      obtain ⟨⟨⟨⟨⟨rfl, hg1⟩, rfl⟩, hg2⟩, hs⟩, ha⟩ := h
      exact PE.imp (pe_sset (c.calm (hot_no hh)) (gl_of c hg1).1 (c.blt "sorted" (by decide)) (gl_of c hg2).1 (c.blt "set" (by decide)) (A_ok a x sc X W c tk ha) (star1 hs [])) fun σ H Q ⟨ρ, G, φ, r, z⟩ => sset_ok r z
    · cases h
  | .rev a, e, sc, X, W, c, tk, h => by
    unfold ckE at h
    split at h
    · simp only [Bool.and_eq_true, decide_eq_true_eq] at h
      obtain ⟨rfl, ha⟩ := h
      exact PE.imp (pe_revA (A_ok a _ sc X W c tk ha)) fun σ H Q ⟨ρ, G, φ, r, z⟩ => rev_ok r z
    · cases h
  | .lm k i x, e, sc, X, W, c, tk, h => by
    unfold ckE at h
    split at h
    · rename_i y p nm apos z cpos
      simp only [Bool.and_eq_true, decide_eq_true_eq] at h
      obtain ⟨⟨⟨⟨rfl, hn⟩, hl⟩, hs⟩, hx⟩ := h
      have hst : [z].all notStar = true := by rw [List.all_cons, hs]; rfl
      have pa : PA X [z] (tAs X.K xr W Φ [x]) := pa_cons (A_ok x z sc X W c tk hx) pa_nil (star1 hs [])
      exact PE.imp (pe_bm PySem.F.plainAttrs_list (slot_lm k) (type_lm k) (lm_mt (xr := xr) (W := W) c.hu k) (name_ok c hn) pa (by rfl) (few_of hst (show (1 : Nat) < 20 by omega)) hl (star1 hs []) (plain_of (by rfl))) fun σ H Q ⟨ρ, G, φ, r, z⟩ => lm_ok r z
    · cases h
  | .dcst o, e, sc, X, W, c, tk, h => by
    unfold ckE at h
    split at h
    · split at h
      · exact PE.imp pe_dnewK fun σ H Q ⟨ρ, G, φ, r, z⟩ => dct0_ok r z
      · rename_i k d ke ve
        simp only [Bool.and_eq_true] at h
        obtain ⟨p1, _⟩ := cst_ok (X := X) h.1
        obtain ⟨p2, ic⟩ := cst_ok (X := X) h.2
        rw [cst_kV] at p1
        exact PE.imp (pe_disp (pps_cons p1 p2 pps_nil) rfl rfl (fun z => nomatch z) (Nat.le_of_ble_eq_true rfl)) fun σ H Q ⟨ρ, G, φ, r, z⟩ => dct1_ok ic r z
      · cases h
    · cases h
  | .dnewT, e, sc, X, W, c, tk, h => by
    unfold ckE at h
    split at h
    · exact PE.imp pe_dnewT fun σ H Q ⟨ρ, G, φ, r, z⟩ => dnewT_ok r z
    · cases h
  | .dispT k x, e, sc, X, W, c, tk, h => by
    unfold ckE at h
    split at h
    · rename_i ke ve pos
      simp only [Bool.and_eq_true] at h
      exact PE.imp (pe_dispT (by have := c.hu; omega) (A_ok k ke sc X W c tk h.1) (A_ok x ve sc X W c tk h.2)) fun σ H Q ⟨ρ, G, φ, r, z⟩ => dispT_ok r z
    · cases h
  | .keep x, e, sc, X, W, c, tk, h => by
    unfold ckE at h
    split at h
    · exact PE.imp (pe_keepD (E_ok x _ sc X W c tk h)) fun σ H Q ⟨ρ, G, φ, r, z⟩ => keep_ok r z
    · exact PE.imp (pe_keepD (E_ok x _ sc X W c tk h)) fun σ H Q ⟨ρ, G, φ, r, z⟩ => keep_ok r z
    · cases h
  | .deq0 i, e, sc, X, W, c, tk, h => by
    unfold ckE at h
    split at h
    · rename_i y p op q pos
      simp only [Bool.and_eq_true, decide_eq_true_eq] at h
      obtain ⟨rfl, hy⟩ := h
      exact PE.imp (pe_cmpR (op_eqNil (by have := c.hu; omega)) (name_ok c hy) pe_dnewK (nomarkS rfl)) fun σ H Q ⟨ρ, G, φ, r, z⟩ => deq0_ok r z
    · cases h
  | .dkeys i, e, sc, X, W, c, tk, h => by
    unfold ckE at h
    split at h
    · rename_i l p1 y p2 pos
      rw [Bool.and_eq_true] at h
      obtain ⟨h, hh⟩ := h
      simp only [Bool.and_eq_true, decide_eq_true_eq] at h
      obtain ⟨⟨rfl, hg⟩, hy⟩ := h
      obtain ⟨hgl, hdb⟩ := gl_of c hg
      exact PE.imp (pe_callTy (call_list_dT (c.calm (hot_no hh))) hgl (c.blt "list" (by decide)) (blt_boot .list) (pa_cons (name_ok (pos := p2) c hy) pa_nil rfl) (bltN_name .list) hdb rfl rfl) fun σ H Q ⟨ρ, G, φ, r, z⟩ => dkeys_ok r z
    · cases h
  | .u x, e, sc, X, W, c, tk, h => by
    unfold ckE at h
    refine PE.imp (U_ok c x e h) fun σ H Q ⟨ρ, G, φ, r, z⟩ => ?_
    rw [evE] at z
    cases e1 : evU ρ x with
    | none => rw [e1] at z; exact z.elim
    | some d =>
      rw [e1] at z
      exact ⟨ρ, G, φ, d, r, e1, fun v hv => fin_val r hv z⟩
  | .mutP m i π xs, e, sc, X, W, c, tk, h => by
    unfold ckE at h
    split at h
    · rename_i o nm apos es cpos
      simp only [Bool.and_eq_true, decide_eq_true_eq] at h
      obtain ⟨⟨⟨⟨⟨rfl, hb⟩, hl⟩, hf⟩, hp⟩, ha⟩ := h
      obtain ⟨pa, hst, hlen⟩ := Us_ok c xs es ha
      cases es with
      | nil =>
        match xs, hlen with
        | [], _ => exact PE.imp (pe_bm0 PySem.F.plainAttrs_list (slot_mut m) (type_mut m) (mutG_ok m) (pl_ok c π o hp) (base_ofA hb) hl) fun σ H Q ⟨ρ, G, φ, r, z⟩ => bm0_of σ H Q (mutP_ok r z)
      | cons e0 es =>
        have hst' := hst
        simp only [List.all_cons, Bool.and_eq_true] at hst'
        exact PE.imp (pe_bm PySem.F.plainAttrs_list (slot_mut m) (type_mut m) (mutG_ok m) (pl_ok c π o hp) pa (base_ofA hb) (few_of hst hf) hl (star1 hst'.1 es) (plain_of hst'.2)) fun σ H Q ⟨ρ, G, φ, r, z⟩ => mutP_ok r z
    · cases h
  | .meth k m f x xs, e, sc, X, W, c, tk, h => by
    unfold ckE at h
    split at h
    · rename_i o nm apos es pos
      simp only [Bool.and_eq_true, decide_eq_true_eq] at h
      obtain ⟨⟨⟨⟨⟨⟨rfl, hb⟩, hli⟩, h20⟩, hm⟩, hx⟩, ha⟩ := h
      obtain ⟨pa, hst, hlen⟩ := Us_ok c xs es ha
      obtain ⟨j, a, fd, ps, Cc, F, hr, hC, hc, hM, hB⟩ := c.ms _ _ _ _ hm
      have he := E_ok x o sc X W c tk hx
      cases es with
      | nil =>
        obtain ⟨pl, ht⟩ := ht_of (m := nm) (apos := apos) (pos := pos) (es := []) (env := X.env) hb hli hst h20
        cases xs with
        | cons _ _ => cases hlen
        | nil =>
        exact PE.imp (pe_methG0 (E := fun σ => WEx W σ) he hc hM F hr c.gd hB (fun σ => L2N.passAt tk σ) pa ht fun σ H Q z => us0_of σ H Q z rfl) fun σ H Q ⟨ρ, G, φ, r, z⟩ => meth_ok hC r z
      | cons e0 es =>
        obtain ⟨pl, ht⟩ := ht_of (m := nm) (apos := apos) (pos := pos) (es := e0 :: es) (env := X.env) hb hli hst h20
        have hst' := hst
        simp only [List.all_cons, Bool.and_eq_true] at hst'
        exact PE.imp (pe_methG (E := fun σ => WEx W σ) he hc hM F hr c.gd hB (fun σ => L2N.passAt tk σ) pa (star1 hst'.1 es) (plain_of hst'.2) ht) fun σ H Q ⟨ρ, G, φ, r, z⟩ => meth_ok hC r z
    · cases h
  | .callP k m f i π xs, e, sc, X, W, c, tk, h => by
    unfold ckE at h
    split at h
    · rename_i o nm apos es pos
      simp only [Bool.and_eq_true, decide_eq_true_eq] at h
      obtain ⟨⟨⟨⟨⟨⟨rfl, hb⟩, hli⟩, h20⟩, hm⟩, hx⟩, ha⟩ := h
      obtain ⟨pa, hst, hlen⟩ := Us_ok c xs es ha
      obtain ⟨j, a, fd, ps, Cc, F, hr, hC, hc, hM, hB⟩ := c.ms _ _ _ _ hm
      have he := pl_ok c π o hx
      cases es with
      | nil =>
        obtain ⟨pl, ht⟩ := ht_of (m := nm) (apos := apos) (pos := pos) (es := []) (env := X.env) hb hli hst h20
        cases xs with
        | cons _ _ => cases hlen
        | nil =>
        exact PE.imp (pe_methG0 (E := fun σ => WEx W σ) he hc hM F hr c.gd hB (fun σ => L2N.passAt tk σ) pa ht fun σ H Q z => us0_of σ H Q z rfl) fun σ H Q ⟨ρ, G, φ, r, z⟩ => callP_ok hC r z
      | cons e0 es =>
        obtain ⟨pl, ht⟩ := ht_of (m := nm) (apos := apos) (pos := pos) (es := e0 :: es) (env := X.env) hb hli hst h20
        have hst' := hst
        simp only [List.all_cons, Bool.and_eq_true] at hst'
        exact PE.imp (pe_methG (E := fun σ => WEx W σ) he hc hM F hr c.gd hB (fun σ => L2N.passAt tk σ) pa (star1 hst'.1 es) (plain_of hst'.2) ht) fun σ H Q ⟨ρ, G, φ, r, z⟩ => callP_ok hC r z
    · cases h
  | .make k f xs, e, sc, X, W, c, tk, h => by
    unfold ckE at h
    split at h
    · rename_i x p y es pos
      simp only [Bool.and_eq_true, decide_eq_true_eq] at h
      obtain ⟨⟨⟨rfl, hg⟩, hm⟩, ha⟩ := h
      obtain ⟨hgl, hdb⟩ := gl_of c hg
      obtain ⟨pa, hst, hlen⟩ := Us_ok c xs (y :: es) ha
      obtain ⟨j, a, fd, ps, Cc, F, hr, hC, hM, hmg, hB⟩ := c.mks _ _ _ hm
      have hst' := hst
      simp only [List.all_cons, Bool.and_eq_true] at hst'
      exact PE.imp (pe_makeG (E := fun σ => WEx W σ) hM F hr c.gd hgl hmg hB (fun σ => L2N.passAt tk σ) pa hdb (star1 hst'.1 es) (plain_of hst'.2)) fun σ H Q ⟨ρ, G, φ, r, z⟩ => make_ok hC r z
    · cases h
  | .boxl as, e, sc, X, W, c, tk, h => by
    unfold ckE at h
    split at h
    · exact PE.imp (pe_lst (As_ok as _ sc X W c tk h).1) fun σ H Q ⟨ρ, G, φ, r, z⟩ => boxl_ok r z
    · cases h
  | .boxd ks xs, e, sc, X, W, c, tk, h => by
    unfold ckE at h
    split at h
    · rename_i kes vs pos
      simp only [Bool.and_eq_true, decide_eq_true_eq, Bool.not_eq_true'] at h
      obtain ⟨⟨⟨⟨hl, h15⟩, h0⟩, hk⟩, hv⟩ := h
      obtain ⟨q, q1, q2, q3⟩ := Ps_ok ks xs kes vs pos sc X W c tk hk hv hl
      refine PE.imp (pe_disp q q1 q2 (fun z => ?_) (by rw [q3]; exact h15)) fun σ H Q ⟨ρ, G, φ, r, z⟩ => boxd_ok hl h15 r z
      rw [z] at q3
      cases ks with
      | nil => cases h0
      | cons _ _ => cases q3
    · cases h
  | .comp t it d x, e, sc, X, W, c, tk, h => by
    unfold ckE at h
    split at h
    · rename_i elt gs scope pos
      split at h
      · rename_i tg iter ifs k
        rw [Bool.and_eq_true] at h
        obtain ⟨h, hh⟩ := h
        simp only [Bool.and_eq_true, beq_iff_eq] at h
        obtain ⟨⟨⟨⟨⟨⟨rfl, hb⟩, hi⟩, hs⟩, ht⟩, hd⟩, hx⟩ := h
        have nd : X.N.Nodup := by rw [c.N]; exact c.nd
        have q := pe_lc (pos := pos) (te := tE X.K xr (fun _ _ _ _ => False) (evE Φ x)) (tt := condT X.K xr Φ d) (g := tTg X.K t) (own := tgX C (tgs t)) (c.calm (hot_no hh)) nd (It_ok it tg iter sc X W c tk hi) (by rw [c.sc, c.N]; exact blkOk_by hb)
          (fun s H Ca cl fp => ckTg_ok (X := X.blk s H scope (compEnvC scope cl Ca X.env) fp) (c.calm (hot_no hh)) nd c.N (lcB_ok c.sc) ht)
          (fun s H Ca cl fp => C_ok d ifs (relS scope sc) (X.blk s H scope (compEnvC scope cl Ca X.env) fp) (c.blk s H scope Ca cl fp) hd)
          (fun s H Ca cl fp => E_ok x elt (relS scope sc) (X.blk s H scope (compEnvC scope cl Ca X.env) fp) _ (c.blk s H scope Ca cl fp) takesB hx) (folded hs)
        rw [tgX_snd] at q
        exact PE.imp q fun σ H Q ⟨ρ, G, φ, r, z⟩ => comp_ok r z
      · cases h
    · cases h
  | .comp2 t it d t1 it1 d1 x, e, sc, X, W, c, tk, h => by
    unfold ckE at h
    split at h
    · rename_i elt gs scope pos
      split at h
      · rename_i tg iter ifs k tg1 iter1 ifs1 k1
        rw [Bool.and_eq_true] at h
        obtain ⟨h, hh⟩ := h
        simp only [Bool.and_eq_true, beq_iff_eq] at h
        obtain ⟨⟨⟨⟨⟨⟨⟨⟨⟨⟨⟨rfl, rfl⟩, hb⟩, hi⟩, hs⟩, hs1⟩, ht⟩, hd⟩, hi1⟩, ht1⟩, hd1⟩, hx⟩ := h
        have nd : X.N.Nodup := by rw [c.N]; exact c.nd
        have q := pe_lc2 (pos := pos) (te := tE X.K xr (fun _ _ _ _ => False) (evE Φ x)) (tt := condT X.K xr Φ d) (g := tTg X.K t) (wi1 := tIt X.K xr (fun _ _ _ _ => False) Φ it1) (tt1 := condT X.K xr Φ d1) (g1 := tTg X.K t1) (own := tgX C (tgs t ++ tgs t1)) (vs1 := tgs t1) (c.calm (hot_no hh)) nd (It_ok it tg iter sc X W c tk hi) (by rw [c.sc, c.N]; exact blkOk_by hb) (fun i hi => by rw [tgX_snd]; exact List.mem_append_right _ hi)
          (fun s H Ca cl fp => ckTg_ok (X := X.blk s H scope (compEnvC scope cl Ca X.env) fp) (c.calm (hot_no hh)) nd c.N (lcB_ok c.sc) ht)
          (fun s H Ca cl fp => C_ok d ifs (relS scope sc) (X.blk s H scope (compEnvC scope cl Ca X.env) fp) (c.blk s H scope Ca cl fp) hd)
          (fun s H Ca cl fp => It_ok it1 tg1 iter1 (relS scope sc) (X.blk s H scope (compEnvC scope cl Ca X.env) fp) _ (c.blk s H scope Ca cl fp) takesB hi1)
          (fun s H Ca cl fp => ckTg_ok (X := X.blk s H scope (compEnvC scope cl Ca X.env) fp) (c.calm (hot_no hh)) nd c.N (lcB_ok c.sc) ht1)
          (fun s H Ca cl fp => C_ok d1 ifs1 (relS scope sc) (X.blk s H scope (compEnvC scope cl Ca X.env) fp) (c.blk s H scope Ca cl fp) hd1)
          (fun s H Ca cl fp => E_ok x elt (relS scope sc) (X.blk s H scope (compEnvC scope cl Ca X.env) fp) _ (c.blk s H scope Ca cl fp) takesB hx) (folded hs) (fun _ => folded hs1)
        rw [tgX_snd] at q
        exact PE.imp q fun σ H Q ⟨ρ, G, φ, r, z⟩ => comp2_ok r z
      · cases h
    · cases h
termination_by p => (sizeOf p, 0)
decreasing_by
  all_goals first | decreasing_tactic | (subst_vars; decreasing_tactic) | (subst_vars; simp_wf; omega)
end
end
end VE

/-! VS11: statements. -/
namespace VE
open PySem L2 PySem.Spec PyProof.Rows

/-- only the names of a are stored -/
def Keep (a : List Nat) (σ σ' : L2.St) : Prop := σ'.length = σ.length ∧ ∀ j, j ∉ a → σ'[j]? = σ[j]?
theorem Keep.refl {a : List Nat} {σ : L2.St} : Keep a σ σ := ⟨rfl, fun _ _ => rfl⟩
theorem Keep.mono {a b : List Nat} {σ σ' : L2.St} (k : Keep a σ σ') (h : ∀ i ∈ a, i ∈ b) : Keep b σ σ' := ⟨k.1, fun j hj => k.2 j fun z => hj (h j z)⟩
theorem Keep.trans {a : List Nat} {σ σ' σ'' : L2.St} (k : Keep a σ σ') (l : Keep a σ' σ'') : Keep a σ σ'' := ⟨l.1.trans k.1, fun j hj => (l.2 j hj).trans (k.2 j hj)⟩
theorem Keep.set {a : List Nat} {σ : L2.St} {i : Nat} {o : Option V} (h : i ∈ a) : Keep a σ (σ.set i o) := ⟨List.length_set .., fun j hj => List.getElem?_set_ne fun z => hj (by rw [← z]; exact h)⟩
section
variable (K : PySem.W.Frag) (xr : XR) (W : WX)
/-- what is wanted behind a statement that began at σ, G, H, φ -/
def PoS (a : List Nat) (σ : L2.St) (G H : Hp) (φ : Nat → List Addr) (r : R F) (D : Ends) : Prop := match r with
  | .stk => False
  | .ok f ρ' => ∀ σ' G' H' φ', Keep a σ σ' → SR K G' H' ρ' σ' φ' → match f with
    | .nx => Stp G H (own φ) G' H' (own φ') → D.nx σ' H'
    | .brk => Stp G H (own φ) G' H' (own φ') → D.bk σ' H'
    | .cont => Stp G H (own φ) G' H' (own φ') → D.ct σ' H'
    | .ret s => ∀ v f, Stp G H (own φ) G' H' (fun b => own φ' b ∨ b ∈ f) → Tmp K G' H' s v f φ' → D.rt v H'
  | .exc c d ρ' => ∀ σ' G' H' φ' cls dd, Keep a σ σ' → Stp G H (own φ) G' H' (own φ') → SR K G' H' ρ' σ' φ' → xr c d cls dd G' → W cls dd σ' H'
def tS (a : List Nat) (ev : List S → R F) : TS := fun D σ H => ∃ ρ G φ, SR K G H ρ σ φ ∧ PoS K xr W a σ G H φ (ev ρ) D
end
section
variable {K : PySem.W.Frag} {xr : XR} {W : WX} {Φ : Fns} {a b : List Nat} {σ σ' : L2.St} {G H G' H' : Hp} {φ φ' : Nat → List Addr} {ρ : List S} {D : Ends}
theorem PoS.from {r : R F} (h : PoS K xr W a σ G H φ r D) (st : Stp G H (own φ) G' H' (own φ')) (k : Keep a σ σ') (hb : ∀ i ∈ b, i ∈ a) : PoS K xr W b σ' G' H' φ' r D := by
  cases r with
  | stk => exact h
  | exc c d ρ' => exact fun σ2 G2 H2 φ2 cls dd k2 s2 r2 x => h σ2 G2 H2 φ2 cls dd (k.trans (k2.mono hb)) (st.trans s2) r2 x
  | ok f ρ' =>
    intro σ2 G2 H2 φ2 k2 r2
    have q := h σ2 G2 H2 φ2 (k.trans (k2.mono hb)) r2
    cases f with
    | nx => exact fun s2 => q (st.trans s2)
    | brk => exact fun s2 => q (st.trans s2)
    | cont => exact fun s2 => q (st.trans s2)
    | ret s => exact fun v f s2 t => q v f (st.trans s2) t
theorem PoS.nx {ρ' : List S} (h : PoS K xr W a σ G H φ (.ok .nx ρ') D) (k : Keep a σ σ') (r : SR K G' H' ρ' σ' φ') (st : Stp G H (own φ) G' H' (own φ')) : D.nx σ' H' := h σ' G' H' φ' k r st
/-- an expression, then the rest -/
theorem then_ok {x : E} {k : S → List S → R F} {Q : VK} (r : SR K G H ρ σ φ) (h : PoS K xr W a σ G H φ ((evE Φ x ρ).bnd k) D)
    (hk : ∀ s ρ' v G' H' φ' f, SR K G' H' ρ' σ φ' → Tmp K G' H' s v f φ' → Stp G H (own φ) G' H' (fun b => own φ' b ∨ b ∈ f) → PoS K xr W a σ G H φ (k s ρ') D → Q v H') : tE K xr W (evE Φ x) σ H Q := by
  refine ⟨ρ, G, φ, r, ?_⟩
  cases e : evE Φ x ρ with
  | stk => rw [e] at h; exact h
  | exc c d ρ' =>
    rw [e] at h
    exact fun G' H' φ' cls dd st r' x => h σ G' H' φ' cls dd .refl st r' x
  | ok s ρ' =>
    rw [e] at h
    exact fun v G' H' φ' f st r' t => hk s ρ' v G' H' φ' f r' t st h
theorem thens_ok {as : List A} {k : List (Option S) → List S → R F} {Q : List V → Hp → Prop} (r : SR K G H ρ σ φ) (h : PoS K xr W a σ G H φ ((evAs Φ as ρ).bnd k) D)
    (hk : ∀ ts ρ' vs G' H' φ' fs, SR K G' H' ρ' σ φ' → Ops K G' H' σ as ts vs fs → (∀ a ∈ fs, G' a = none ∧ ¬ own φ' a) → Stp G H (own φ) G' H' (fun b => own φ' b ∨ b ∈ fs) → PoS K xr W a σ G H φ (k ts ρ') D → Q vs H') : tAs K xr W Φ as σ H Q := by
  refine ops as ρ G H φ Q r ?_
  cases e : evAs Φ as ρ with
  | stk => rw [e] at h; exact h
  | exc c d ρ' =>
    rw [e] at h
    exact fun G' H' φ' cls dd st r' x => h σ G' H' φ' cls dd .refl st r' x
  | ok ts ρ' =>
    rw [e] at h
    exact fun vs G' H' φ' fs st r' o hf => hk ts ρ' vs G' H' φ' fs r' o hf st h
/-- a test, then the rest -/
theorem test_S {c : E} {k : Bool → List S → R F} {Qr : Bool → Hp → Prop} (r : SR K G H ρ σ φ) (h : PoS K xr W a σ G H φ ((evE Φ c ρ).bnd fun s ρ' => match toBool s with
      | some true => k true ρ'
      | some false => k false ρ'
      | none => .stk) D)
    (hk : ∀ b ρ' G' H' φ', SR K G' H' ρ' σ φ' → Stp G H (own φ) G' H' (own φ') → PoS K xr W a σ G' H' φ' (k b ρ') D → Qr b H') : tTest (tE K xr W (evE Φ c)) σ H Qr := by
  refine then_ok r h fun s ρ' v G' H' φ' f r' t st q => ?_
  have st' : Stp G H (own φ) G' H' (own φ') := st.weak fun _ z => .inl z
  cases e : toBool s with
  | none => rw [e] at q; exact q.elim
  | some b =>
    rw [e] at q
    obtain rfl := toBool_some e
    have z := t.rel.1
    cases z
    refine ⟨b, rfl, hk b ρ' G' H' φ' r' st' ?_⟩
    cases b with
    | true => exact q.from st' .refl fun _ z => z
    | false => exact q.from st' .refl fun _ z => z
end

/-! ### the look at statements -/
mutual
def asgS : St → List Nat
  | .asg i _ => [i]
  | .par is _ => is
  | .unp is _ => is
  | .aug i _ _ => [i]
  | .ite _ a b => asgSs a ++ asgSs b
  | .for_ t _ _ b => tgs t ++ asgSs b
  | .while_ _ _ b => asgSs b
  | .tryC b _ _ _ => asgSs b
  | .tryR b _ _ _ => asgSs b
  | .tryA b _ _ i u => i :: (asgSs b ++ asgSs u)
  | _ => []
def asgSs : List St → List Nat
  | [] => []
  | s :: r => asgS s ++ asgSs r
end
def notLc : Expr → Bool
  | .ListComp .. => false
  | .SetComp .. => false
  | .DictComp .. => false
  | _ => true
/-- a comprehension is stored before it is left -/
def swB (sc : Scope) (y : Str) (py : Pos) : Expr → Bool
  | .ListComp _ _ s pos => decide (sc.names.lookup y = some .local) && (py.line == pos.line) && !(s.names.any fun (n, k) => n == y && (k == .local || k == .cell))
  | _ => false
def locN (sc : Scope) (line : Nat) : Expr → Option Str
  | .Name id pos => if sc.names.lookup id == some .local && pos.line == line then some id else none
  | _ => none
def lineOf (ts : List Expr) : Nat := (ts.head?.map (·.pos.line)).getD 0
/-- several names are stored one after another, from the left -/
def swNone (sc : Scope) (ts vs : List Expr) : Bool := !(ts.length == 2 || ts.length == 3) || vs.length != ts.length || vs.any (fun e => !notStar e) || (ts.filterMap (locN sc (lineOf ts))).length != ts.length || vs.all (foldedForSure 8)
def swSome (sc : Scope) (ts vs : List Expr) : Bool := (ts.length == 2 || ts.length == 3) && vs.length == ts.length && vs.all notStar && !(vs.all (foldedForSure 8)) && !(vs.all (constantsAlone 8))
def isLoc (sc : Scope) (line : Nat) (C : Ck) (i : Nat) : Expr → Bool
  | .Name x pos => decide (C.N[i]? = some x) && decide (sc.names.lookup x = some .local) && pos.line == line
  | _ => false
def heldI : It → Option Nat
  | .seq (.pl i) => some i
  | .enum (.pl i) => some i
  | .seqP i _ => some i
  | .zipP i _ _ => some i
  | _ => none
def isComp : E → Bool
  | .comp .. => true
  | .comp2 .. => true
  | _ => false
/-- within an except suite -/
def hotC (C : Ck) : Ck := { C with fns := [], ms := [], mks := [], xi := [], hot := true, hf := [] }
/-- what an except suite may be -/
def ckU1 (C : Ck) (sc : Scope) (i : Nat) : List St → List Stmt → Bool
  | [.asg j (.call f [.pl l])], [.Assign [.Name y _] (.Call (.Name g _) [e] [] _) _] => decide (l = i) && decide (300 ≤ f) && decide (C.hf[f - 300]? = some (g, 1)) && decide (C.N[j]? = some y) && loc sc y && gl sc g && notStar e && isNm C sc i e
  | [.asg j x], [.Assign [.Name y _] e _] => decide (C.N[j]? = some y) && loc sc y && ckE (hotC C) sc x e && notLc e
  | [.ret x], [.Return (some e) _] => ckE (hotC C) sc x e
  | _, _ => false
section
variable (C : Ck) (sc : Scope)
mutual
def ckS : St → Stmt → Bool
  | .expr x, s => match s with
    | .Expr e _ => notLc e && ckE C sc x e
    | _ => false
  | .asg i x, s => match s with
    | .Assign [.Name y py] e _ => decide (C.N[i]? = some y) && loc sc y && ckE C sc x e && (notLc e || isComp x)
    | _ => false
  | .par is xs, s => match s with
    | .Assign [.Tuple ts _ _] (.Tuple vs _ _) _ => if swNone sc ts vs = true then ckNms C (loc sc) is ts && ckAs C sc xs vs && decide (is.length < 100 ∧ is.length = xs.length) else (match is, ts, vs with
      | [i, j], [p, q], [u, v] => decide (i ≠ j) && isLoc sc (lineOf [p, q]) C i p && isLoc sc (lineOf [p, q]) C j q && ckAs C sc xs [u, v] && swSome sc [p, q] [u, v]
      | [i, j, l], [p, q, r], [u, v, w] => decide (i ≠ j) && decide (i ≠ l) && decide (j ≠ l) && isLoc sc (lineOf [p, q, r]) C i p && isLoc sc (lineOf [p, q, r]) C j q && isLoc sc (lineOf [p, q, r]) C l r && ckAs C sc xs [u, v, w] && swSome sc [p, q, r] [u, v, w]
      | _, _, _ => false)
    | _ => false
  | .unp is x, s => match s with
    | .Assign [.Tuple ts _ _] e _ => ckNms C (loc sc) is ts && ckE C sc x e && notLc e && (match e with
      | .Tuple vs _ _ => swNone sc ts vs
      | _ => true)
    | _ => false
  | .setit i k x, s => match s with
    | .Assign [.Subscript (.Name y _) ie _] e _ => nameOk C sc i y && notSlice ie && ckA C sc k ie && ckE C sc x e && notLc e
    | _ => false
  | .pset i π k x, s => match s with
    | .Assign [.Subscript o ie _] e _ => notSlice ie && ckP C sc i π o && ckU C sc k ie && ckE C sc x e && notLc e
    | _ => false
  | .fset i π f x, s => match s with
    | .Assign [.Attribute o nm _] e _ => decide (nm = f) && ckP C sc i π o && ckE C sc x e && notLc e
    | _ => false
  | .setd i k x, s => match s with
    | .Assign [.Subscript (.Name y _) ie _] e _ => nameOk C sc i y && ckA C sc k ie && ckE C sc x e && notLc e
    | _ => false
  | .aug i o a, s => match s with
    | .AugAssign (.Name y _) op e _ => decide (op = srcB o) && decide (C.N[i]? = some y) && loc sc y && ckA C sc a e
    | _ => false
  | .augl i x, s => match s with
    | .AugAssign (.Name y _) op e _ => decide (op = .Add) && decide (C.N[i]? = some y) && loc sc y && ckE C sc x e
    | _ => false
  | .ret x, s => match s with
    | .Return (some e) _ => ckE C sc x e
    | _ => false
  | .retN, s => match s with
    | .Return none _ => true
    | _ => false
  | .ite c a b, s => match s with
    | .If t p q _ => ckE C sc c t && notIf t && ckSs a p && ckSs b q
    | _ => false
  | .for_ t it h b, s => match s with
    | .For tg iter body [] _ => ckIt C sc it tg iter && notSet iter && ckTg C (loc sc) t tg && ckSs b body && (!h || (match heldI it with
      | some i => !(tgs t ++ asgSs b).contains i
      | none => false))
    | _ => false
  | .while_ _ c b, s => match s with
    | .While t body [] _ => ckE C sc c t && notIf t && ckSs b body
    | _ => false
  | .brk, s => match s with
    | .Break _ => true
    | _ => false
  | .cont, s => match s with
    | .Continue _ => true
    | _ => false
  | .pass, s => match s with
    | .Pass _ => true
    | _ => false
  | .raise c, s => match s with
    | .Raise (some (.Call (.Name x _) [.Constant (.str _) _ _] [] _)) none _ => decide (x = cnm c) && gl sc x && decide (c ∈ C.xc) && decide (c < 13)
    | _ => false
  | .raiseF c a, s => match s with
    | .Raise (some (.Call (.Name x _) [e] [] _)) none _ => decide (x = cnm c) && gl sc x && decide (c ∈ C.xc) && decide (c ∈ C.xi) && notStar e && ckA C sc a e
    | _ => false
  | .tryC b c cs d, s => match s with
    | .Try body [.ExceptHandler (some (.Name x _)) none [.Return (some e) _] _] [] [] _ => decide (x = cnm c) && gl sc x && decide (c ∈ C.xc) && decide (cs = C.xc) && ckE (hotC C) sc (.cst d) e && ckSs b body
    | _ => false
  | .tryA b c cs i u, s => match s with
    | .Try body [.ExceptHandler (some (.Name x _)) (some n) (s0 :: ss) _] [] [] _ => decide (x = cnm c) && gl sc x && decide (c ∈ C.xc) && decide (cs = C.xc) && decide (C.N[i]? = some n) && decide (sc.names.lookup n = some .local) && ckU1 C sc i u (s0 :: ss) && ckSs b body
    | _ => false
  | .tryR .., _ => false
  | .never, _ => true
def ckSs : List St → List Stmt → Bool
  | [], ss => match ss with
    | [] => true
    | _ => false
  | p :: ps, ss => match ss with
    | s :: ss => ckS p s && ckSs ps ss
    | [] => false
end
end
/-! ### how the model stores -/
theorem swaps_not {e : Expr} {t : Option Expr} {l : Nat} {env : Env} (h : notLc e = true) : swapsWith e t l env = pure false := by
  cases e <;> first | rfl | cases h
theorem swaps_set {elt : Expr} {gs : List Comprehension} {s : Scope} {pos py : Pos} {y : Str} {l : Nat} {env : Env} (hk : env.blockKind = .function) : swapsWith (.ListComp elt gs s pos) (some (.Name y py)) l env = pure (swB env.scope y py (.ListComp elt gs s pos)) := by
  have e1 : (env.kindOf y == some NameKind.local) = decide (env.scope.names.lookup y = some .local) := by
    unfold Env.kindOf
    by_cases h : env.scope.names.lookup y = some .local
    · rw [h]; rfl
    · rw [decide_eq_false h]
      exact beq_false_of_ne h
  simp only [swapsWith, swB, hk, e1]
  rfl
theorem locN_eq {env : Env} {line : Nat} : (fun e => match e with
    | .Name id pos => if env.kindOf id == some .local && pos.line == line then some id else none
    | _ => none : Expr → Option Str) = locN env.scope line := by
  funext e
  cases e <;> rfl
theorem stores_none {ts vs : List Expr} {k k2 : Nat} {p p2 : Pos} {env : Env} (h : swNone env.scope ts vs = true) : swappedStores [.Tuple ts k p] (.Tuple vs k2 p2) env = pure none := by
  simp only [swNone, Bool.or_eq_true] at h
  simp only [swappedStores]
  split
  · rfl
  · rename_i h1
    split
    · rfl
    · rename_i h2
      split
      · rfl
      · rename_i h3
        split
        · rfl
        · rename_i h4
          exfalso
          rcases h with (((h | h) | h) | h) | h
          · exact h1 (by simp [h])
          · exact h1 (by simp [h])
          · apply h2
            rw [List.any_eq_true] at h ⊢
            obtain ⟨e, he, q⟩ := h
            refine ⟨e, he, ?_⟩
            cases e <;> first | rfl | cases q
          · apply h3
            simp only [Bool.or_eq_true]
            exact .inl h
          · exact h4 h
theorem stores_two {a b : Expr} {x y : Str} {px py : Pos} {k k2 : Nat} {p p2 : Pos} {env : Env} (hk : env.blockKind = .function) (hx : env.scope.names.lookup x = some .local) (hy : env.scope.names.lookup y = some .local) (hl : py.line = px.line) (hn : x ≠ y)
    (h : swSome env.scope [.Name x px, .Name y py] [a, b] = true) : swappedStores [.Tuple [.Name x px, .Name y py] k p] (.Tuple [a, b] k2 p2) env = pure (some [x, y]) := by
  simp only [swSome, Bool.and_eq_true, Bool.not_eq_true'] at h
  obtain ⟨⟨⟨⟨_, _⟩, h1⟩, h2⟩, h3⟩ := h
  have e1 : (env.kindOf x == some NameKind.local) = true := by unfold Env.kindOf; rw [hx]; rfl
  have e2 : (env.kindOf y == some NameKind.local) = true := by unfold Env.kindOf; rw [hy]; rfl
  have ne : (y == x) = false := beq_false_of_ne (Ne.symm hn)
  have ne' : (x == y) = false := beq_false_of_ne hn
  simp only [swappedStores, hk]
  rw [if_neg (by simp)]
  refine (if_neg fun hs => ?_).trans ?_
  · rw [List.any_eq_true] at hs
    obtain ⟨e, he, q⟩ := hs
    have q' := List.all_eq_true.mp h1 e he
    cases e <;> first | (cases q; done) | cases q'
  have key : (List.filterMap (locN env.scope px.line) [.Name x px, .Name y py]) = [x, y] := by
    simp [locN, hx, hy, hl]
  show (if ((List.filterMap (locN env.scope px.line) [.Name x px, .Name y py]).length != [a, b].length || (List.filterMap (locN env.scope px.line) [.Name x px, .Name y py]).eraseDups.length != (List.filterMap (locN env.scope px.line) [.Name x px, .Name y py]).length) = true then (pure none : Sem (Option (List Str))) else if [a, b].all (foldedForSure 8) = true then pure none else if [a, b].all (constantsAlone 8) = true then (do
    unsupported "assign.tuple-of-constant-expressions:order-of-the-stores"
    pure (some (List.filterMap (locN env.scope px.line) [.Name x px, .Name y py]))) else pure (some (List.filterMap (locN env.scope px.line) [.Name x px, .Name y py]))) = _
  rw [key, h2, h3]
  simp [List.eraseDups_cons, ne, ne']
theorem stores_three {a b c : Expr} {x y z : Str} {px py pz : Pos} {k k2 : Nat} {p p2 : Pos} {env : Env} (hk : env.blockKind = .function) (hx : env.scope.names.lookup x = some .local) (hy : env.scope.names.lookup y = some .local) (hz : env.scope.names.lookup z = some .local)
    (hl : py.line = px.line) (hl2 : pz.line = px.line) (hn : x ≠ y) (hn2 : x ≠ z) (hn3 : y ≠ z)
    (h : swSome env.scope [.Name x px, .Name y py, .Name z pz] [a, b, c] = true) : swappedStores [.Tuple [.Name x px, .Name y py, .Name z pz] k p] (.Tuple [a, b, c] k2 p2) env = pure (some [x, y, z]) := by
  simp only [swSome, Bool.and_eq_true, Bool.not_eq_true'] at h
  obtain ⟨⟨⟨⟨_, _⟩, h1⟩, h2⟩, h3⟩ := h
  have e1 : (env.kindOf x == some NameKind.local) = true := by unfold Env.kindOf; rw [hx]; rfl
  have e2 : (env.kindOf y == some NameKind.local) = true := by unfold Env.kindOf; rw [hy]; rfl
  have e3 : (env.kindOf z == some NameKind.local) = true := by unfold Env.kindOf; rw [hz]; rfl
  have ne : (y == x) = false := beq_false_of_ne (Ne.symm hn)
  have ne2 : (z == x) = false := beq_false_of_ne (Ne.symm hn2)
  have ne3 : (z == y) = false := beq_false_of_ne (Ne.symm hn3)
  simp only [swappedStores, hk]
  rw [if_neg (by simp)]
  refine (if_neg fun hs => ?_).trans ?_
  · rw [List.any_eq_true] at hs
    obtain ⟨e, he, q⟩ := hs
    have q' := List.all_eq_true.mp h1 e he
    cases e <;> first | (cases q; done) | cases q'
  have key : (List.filterMap (locN env.scope px.line) [.Name x px, .Name y py, .Name z pz]) = [x, y, z] := by
    simp [locN, hx, hy, hz, hl, hl2]
  show (if ((List.filterMap (locN env.scope px.line) [.Name x px, .Name y py, .Name z pz]).length != [a, b, c].length || (List.filterMap (locN env.scope px.line) [.Name x px, .Name y py, .Name z pz]).eraseDups.length != (List.filterMap (locN env.scope px.line) [.Name x px, .Name y py, .Name z pz]).length) = true then (pure none : Sem (Option (List Str))) else if [a, b, c].all (foldedForSure 8) = true then pure none else if [a, b, c].all (constantsAlone 8) = true then (do
    unsupported "assign.tuple-of-constant-expressions:order-of-the-stores"
    pure (some (List.filterMap (locN env.scope px.line) [.Name x px, .Name y py, .Name z pz]))) else pure (some (List.filterMap (locN env.scope px.line) [.Name x px, .Name y py, .Name z pz]))) = _
  rw [key, h2, h3]
  simp [List.eraseDups_cons, ne, ne2, ne3]
end VE

/-! VS12: a statement that passes the look is executed so. -/
namespace VE
open PySem L2 PySem.Spec PyProof.Rows

/-! ### loops -/
section
variable {K : PySem.W.Frag} {xr : XR} {W : WX} {Φ : Fns} {a : List Nat} {σ σ' : L2.St} {G H G' H' : Hp} {φ φ' : Nat → List Addr} {ρ : List S} {D : Ends}
def putH (h : Option (Nat × S)) (ρ : List S) : List S := match h with
  | none => ρ
  | some (i, s) => ρ.set i s
def finF (h : Option (Nat × S)) : R F → R F
  | .stk => .stk
  | .ok f ρ => .ok f (putH h ρ)
  | .exc c d ρ => .exc c d (putH h ρ)
def bodyF (Φ : Fns) (t : Tg) (b : List St) (d : PyData) (ρ : List S) : R F := match bindT t d ρ with
  | some ρ3 => evSs Φ b ρ3
  | none => .stk
theorem evS_for {t : Tg} {it : It} {h : Bool} {b : List St} : evS Φ (.for_ t it h b) ρ = (evIt Φ it ρ).bnd fun p ρ1 => if p.2.isNone || h then finF p.2 (loop (bodyF Φ t b) p.1 ρ1) else .stk := by
  rw [evS]
  congr
  funext p ρ1
  obtain ⟨xs, o⟩ := p
  cases o with
  | none =>
    show loop (bodyF Φ t b) xs ρ1 = finF none (loop (bodyF Φ t b) xs ρ1)
    cases loop (bodyF Φ t b) xs ρ1 <;> rfl
  | some q =>
    obtain ⟨i, s⟩ := q
    cases h with
    | true =>
      show (match loop (bodyF Φ t b) xs ρ1 with
        | .stk => .stk
        | .ok f ρ4 => .ok f (ρ4.set i s)
        | .exc c d ρ4 => .exc c d (ρ4.set i s)) = finF (some (i, s)) (loop (bodyF Φ t b) xs ρ1)
      cases loop (bodyF Φ t b) xs ρ1 <;> rfl
    | false => rfl
theorem fin_step {h : Option (Nat × S)} {s : S} {v : V} {f : List Addr} (hold : Hold σ h s v) (hn : ∀ i s', h = some (i, s') → i ∉ a) (k : Keep a σ σ') (r : SR K G H ρ σ' φ) (t : Tmp K G H s v f φ) :
    ∃ φ6, SR K G H (putH h ρ) σ' φ6 ∧ ∀ b, own φ6 b → own φ b ∨ b ∈ f := by
  cases h with
  | none => exact ⟨φ, r, fun _ z => .inl z⟩
  | some p =>
    obtain ⟨i, s'⟩ := p
    obtain ⟨rfl, hv⟩ := hold
    refine ⟨_, r.back t (by rw [k.2 i (hn i _ rfl)]; exact hv), fun b z => ?_⟩
    rcases own_upf z with y | y
    · split at y
      · exact .inr y
      · cases y
    · exact .inl y
theorem for_ok {t : Tg} {it : It} {h : Bool} {b : List St} (ha : ∀ i ∈ tgs t ++ asgSs b, i ∈ a) (hn : ∀ p ρ1 i s, evIt Φ it ρ = .ok p ρ1 → (p.2.isNone || h) = true → p.2 = some (i, s) → i ∉ a) (r : SR K G H ρ σ φ) (q : PoS K xr W a σ G H φ (evS Φ (.for_ t it h b) ρ) D) :
    tFor (tIt K xr W Φ it) (tTg K t) (tS K xr W (asgSs b) (evSs Φ b)) D σ H := by
  rw [evS_for] at q
  refine it_ok it r ?_
  cases e : evIt Φ it ρ with
  | stk => rw [e] at q; exact q
  | exc c d ρ' =>
    rw [e] at q
    exact fun G' H' φ' cls dd st r' x => q σ G' H' φ' cls dd .refl st r' x
  | ok p ρ1 =>
    rw [e] at q
    simp only [R.bnd_ok] at q
    intro J G1 H1 φ1 s v f st1 r1 t1 sh hold
    by_cases hc : (p.2.isNone || h) = true
    case neg => rw [if_neg hc] at q; exact q.elim
    rw [if_pos hc] at q
    have hn' := fun i s => hn p ρ1 i s e hc
    refine ⟨fun i m σ2 H2 => m = p.1.length - i ∧ i ≤ p.1.length ∧ ∃ G2 φ2 ρ2, Same G1 G2 ∧ (∀ a ∈ f, ∀ o, H1 a = some o → H2 a = some o) ∧ Keep a σ σ2 ∧ Stp G H (own φ) G2 H2 (fun b => own φ2 b ∨ b ∈ f) ∧ SR K G2 H2 ρ2 σ2 φ2 ∧ Tmp K G2 H2 s v f φ2 ∧ PoS K xr W a σ G H φ (finF p.2 (loop (bodyF Φ t b) (p.1.drop i) ρ2)) D, ⟨_, rfl, Nat.zero_le _, G1, φ1, ρ1, Same.refl G1, (fun _ _ _ h => h), .refl, st1, r1, t1, by rw [List.drop_zero]; exact q⟩, ?_⟩
    rintro i m σ2 H2 ⟨rfl, hi, G2, φ2, ρ2, e2, kp2, k2, st2, r2, t2, q2⟩
    obtain ⟨hgo, hstop⟩ := sh.turn e2 kp2 t2 r2 i
    by_cases hlt : i < p.1.length
    · right
      obtain ⟨jgo, jy⟩ := hgo p.1[i] (List.getElem?_eq_getElem hlt)
      rw [List.drop_eq_getElem_cons hlt, loop] at q2
      refine ⟨jgo, fun σ5 H5 => i + 1 ≤ p.1.length ∧ ∃ G2 φ2 ρ2, Same G1 G2 ∧ (∀ a ∈ f, ∀ o, H1 a = some o → H5 a = some o) ∧ Keep a σ σ5 ∧ Stp G H (own φ) G2 H5 (fun b => own φ2 b ∨ b ∈ f) ∧ SR K G2 H5 ρ2 σ5 φ2 ∧ Tmp K G2 H5 s v f φ2 ∧ PoS K xr W a σ G H φ (finF p.2 (loop (bodyF Φ t b) (p.1.drop (i + 1)) ρ2)) D, fun σ' H' ⟨z1, z2⟩ => ⟨_, by omega, rfl, z1, z2⟩, fun y H3 hy => ?_⟩
      obtain ⟨G3, st3, r3, t3, hd3⟩ := jy y H3 hy
      cases eb : bindT t p.1[i] ρ2 with
      | none => rw [bodyF, eb] at q2; exact q2.elim
      | some ρ3 =>
        rw [bodyF, eb] at q2
        simp only at q2
        refine tg_ok eb hd3 r3 fun σ4 l4 k4 w4 r4 => ⟨ρ3, G3, _, r4, ?_⟩
        have t4 : Tmp K G3 H3 s v f (dropF φ2 (tgs t)) := ⟨t3.rel, t3.gn, fun a ha z => t3.off a ha (own_dropF z)⟩
        have f3 : ∀ b, b ∈ f → ¬ own φ2 b ∧ H2 b ≠ none := fun b hb => ⟨t2.off b hb, by obtain ⟨o, e⟩ := t2.rel.here b hb; rw [e]; exact fun z => nomatch z⟩
        have st3' : Stp G H (own φ) G3 H3 (fun b => own (dropF φ2 (tgs t)) b ∨ b ∈ f) := (st2.trans (st3.frame f3)).weak fun b z => z.imp own_dropF id
        have k4' : Keep a σ σ4 := k2.trans ⟨l4, fun j hj => k4 j fun z => hj (ha j (List.mem_append_left _ z))⟩
        -- behind the body
        have fin : ∀ {σ5 : L2.St} {G5 H5 : Hp} {φ5 : Nat → List Addr} {T : Addr → Prop}, Keep (asgSs b) σ4 σ5 → Stp G3 H3 (own (dropF φ2 (tgs t))) G5 H5 T → (∀ b, own φ5 b → T b) → Keep a σ σ5 ∧ Stp G H (own φ) G5 H5 (fun b => T b ∨ b ∈ f) ∧ Tmp K G5 H5 s v f φ5 ∧ ∀ b ∈ f, ¬ T b := fun {σ5 G5 H5 φ5 T} k5 st5 hT => by
          have f4 : ∀ b, b ∈ f → ¬ own (dropF φ2 (tgs t)) b ∧ H3 b ≠ none := fun b hb => ⟨t4.off b hb, by obtain ⟨o, e⟩ := t4.rel.here b hb; rw [e]; exact fun z => nomatch z⟩
          obtain ⟨p1, p2, p3⟩ := t4.frame st5 t4.off
          exact ⟨k4'.trans (k5.mono fun i hi => ha i (List.mem_append_right _ hi)), st3'.trans (st5.frame f4), ⟨p1, p2, fun b hb z => p3 b hb (hT b z)⟩, p3⟩
        cases ex : evSs Φ b ρ3 with
        | stk => rw [ex] at q2; exact q2.elim
        | exc c d ρ5 =>
          rw [ex] at q2
          intro σ5 G5 H5 φ5 cls dd k5 st5 r5 x5
          obtain ⟨k6, st6, t6, _⟩ := fin k5 st5 fun _ z => z
          obtain ⟨φ6, r6, o6⟩ := fin_step hold hn' k6 r5 t6
          exact q2 σ5 G5 H5 φ6 cls dd k6 (st6.weak o6) r6 x5
        | ok g ρ5 =>
          rw [ex] at q2
          simp only [R.bnd_ok] at q2
          intro σ5 G5 H5 φ5 k5 r5
          cases g with
          | nx =>
            intro st5
            obtain ⟨k6, st6, t6, _⟩ := fin k5 st5 fun _ z => z
            exact ⟨hlt, G5, φ5, ρ5, (e2.trans st3.gg).trans st5.gg, (fun a ha o ho => st5.keep a o (st3.keep a o (kp2 a ha o ho) (t2.off a ha)) (t4.off a ha)), k6, st6, r5, t6, q2⟩
          | cont =>
            intro st5
            obtain ⟨k6, st6, t6, _⟩ := fin k5 st5 fun _ z => z
            exact ⟨hlt, G5, φ5, ρ5, (e2.trans st3.gg).trans st5.gg, (fun a ha o ho => st5.keep a o (st3.keep a o (kp2 a ha o ho) (t2.off a ha)) (t4.off a ha)), k6, st6, r5, t6, q2⟩
          | brk =>
            intro st5
            obtain ⟨k6, st6, t6, _⟩ := fin k5 st5 fun _ z => z
            obtain ⟨φ6, r6, o6⟩ := fin_step hold hn' k6 r5 t6
            exact q2 σ5 G5 H5 φ6 k6 r6 (st6.weak o6)
          | ret s6 =>
            intro v6 f6 st5 t7
            obtain ⟨k6, st6, t6, no⟩ := fin (φ5 := φ5) k5 st5 fun _ z => .inl z
            obtain ⟨φ6, r6, o6⟩ := fin_step hold hn' k6 r5 t6
            refine q2 σ5 G5 H5 φ6 k6 r6 v6 f6 (st6.weak fun b z => ?_) ⟨t7.rel, t7.gn, fun b hb z => ?_⟩
            · rcases z with z | z
              · exact (o6 b z).imp .inl id
              · exact .inl (.inr z)
            · rcases o6 b z with y | y
              · exact t7.off b hb y
              · exact no b y (.inr hb)
    · left
      have e0 : p.1.drop i = [] := List.drop_eq_nil_of_le (Nat.le_of_not_lt hlt)
      refine ⟨hstop (Nat.le_of_not_lt hlt), ?_⟩
      rw [e0, loop] at q2
      obtain ⟨φ6, r6, o6⟩ := fin_step hold hn' k2 r2 t2
      exact q2 σ2 G2 H2 φ6 k2 r6 (st2.weak o6)
theorem while_ok {n : Nat} {c : E} {b : List St} (ha : ∀ i ∈ asgSs b, i ∈ a) (r : SR K G H ρ σ φ) (q : PoS K xr W a σ G H φ (evS Φ (.while_ n c b) ρ) D) :
    tWhile (tTest (tE K xr W (evE Φ c))) (tS K xr W (asgSs b) (evSs Φ b)) D σ H := by
  rw [evS] at q
  refine ⟨fun m σ2 H2 => ∃ G2 φ2 ρ2, SR K G2 H2 ρ2 σ2 φ2 ∧ PoS K xr W a σ2 G2 H2 φ2 (whl (evE Φ c) (evSs Φ b) m ρ2) D, ⟨n, G, φ, ρ, r, q⟩, ?_⟩
  rintro m σ2 H2 ⟨G2, φ2, ρ2, r2, q2⟩
  cases m with
  | zero => exact q2.elim
  | succ m =>
    rw [whl] at q2
    refine test_S (a := a) (D := D) (k := fun k ρ' => if k = true then ((evSs Φ b ρ').bnd fun r ρ'' => match r with
        | .nx => whl (evE Φ c) (evSs Φ b) m ρ''
        | .cont => whl (evE Φ c) (evSs Φ b) m ρ''
        | .brk => .ok .nx ρ''
        | .ret s => .ok (.ret s) ρ'') else .ok .nx ρ') r2 q2 fun k ρ3 G3 H3 φ3 r3 st3 q4 => ?_
    cases k with
    | false =>
      rw [if_neg Bool.false_ne_true] at q4 ⊢
      exact q4.nx .refl r3 Stp.refl
    | true =>
      rw [if_pos rfl]
      simp only [if_true] at q4
      refine ⟨fun σ5 H5 => ∃ G2 φ2 ρ2, SR K G2 H5 ρ2 σ5 φ2 ∧ PoS K xr W a σ5 G2 H5 φ2 (whl (evE Φ c) (evSs Φ b) m ρ2) D, fun σ' H' z => ⟨m, Nat.lt_succ_self m, z⟩, ρ3, G3, φ3, r3, ?_⟩
      cases ex : evSs Φ b ρ3 with
      | stk => rw [ex] at q4; exact q4.elim
      | exc c d ρ5 =>
        rw [ex] at q4
        intro σ5 G5 H5 φ5 cls dd k5 st5 r5 x5
        exact q4 σ5 G5 H5 φ5 cls dd (k5.mono ha) st5 r5 x5
      | ok g ρ5 =>
        rw [ex] at q4
        simp only [R.bnd_ok] at q4
        intro σ5 G5 H5 φ5 k5 r5
        have k5' := k5.mono ha
        cases g with
        | nx => exact fun st5 => ⟨G5, φ5, ρ5, r5, q4.from st5 k5' fun _ z => z⟩
        | cont => exact fun st5 => ⟨G5, φ5, ρ5, r5, q4.from st5 k5' fun _ z => z⟩
        | brk => exact q4 σ5 G5 H5 φ5 k5' r5
        | ret s6 => exact q4 σ5 G5 H5 φ5 k5' r5
end
end VE

/-! VJ: statements that store at places. -/
namespace VE
open PySem L2 PySem.Spec PyProof.Rows
section
variable {K : PySem.W.Frag} {xr : XR} {W : WX} {Φ : Fns} {a : List Nat} {σ : L2.St} {G H G' H' : Hp} {φ φ' : Nat → List Addr} {ρ : List S} {D : Ends}
theorem then_eq {x : E} {k : S → List S → R F} {Q : VK} (r : SR K G H ρ σ φ) (h : PoS K xr W a σ G H φ ((evE Φ x ρ).bnd k) D)
    (hk : ∀ s ρ' v G' H' φ' f, evE Φ x ρ = .ok s ρ' → SR K G' H' ρ' σ φ' → Tmp K G' H' s v f φ' → Stp G H (own φ) G' H' (fun b => own φ' b ∨ b ∈ f) → Q v H') : tE K xr W (evE Φ x) σ H Q := by
  cases e : evE Φ x ρ with
  | stk => rw [e] at h; exact h.elim
  | exc c d ρ' =>
    refine ⟨ρ, G, φ, r, ?_⟩
    rw [e] at h ⊢
    exact fun G' H' φ' cls dd st r' x => h σ G' H' φ' cls dd .refl st r' x
  | ok s ρ' =>
    refine ⟨ρ, G, φ, r, ?_⟩
    rw [e]
    exact fun v G' H' φ' f st r' t => hk s ρ' v G' H' φ' f e r' t st
theorem tmp_there {s : S} {v : V} {f : List Addr} (t : Tmp K G H s v f φ) : ∀ b ∈ f, ¬ own φ b ∧ H b ≠ none := fun b hb => ⟨t.off b hb, by
  obtain ⟨o, e⟩ := t.rel.here b hb
  rw [e]; exact fun z => nomatch z⟩
/-- p[k] = x -/
theorem pset_ok {i : Nat} {π : List Px} {k : U} {x : E} (h : tS K xr W a (evS Φ (.pset i π k x)) D σ H) :
    tAsg (tE K xr W (evE Φ x)) (gSub (tPt K i π) (tU K k) rSetL) D σ H ∨ sDPut (tPt K i π) (tU K k) (tE K xr W (evE Φ x)) D σ H := by
  obtain ⟨ρ, G, φ, r, q⟩ := h
  rw [evS] at q
  -- behind the store
  have fin : ∀ {s : S} {ρ1 : List S} {v : V} {G1 H1 : Hp} {φ1 : Nat → List Addr} {f : List Addr} {d kd : PyData} {t : S} {b : Addr} {o : HO}, evE Φ x ρ = .ok s ρ1 → SR K G1 H1 ρ1 σ φ1 → Tmp K G1 H1 s v f φ1 → Stp G H (own φ) G1 H1 (fun b => own φ1 b ∨ b ∈ f) →
      view s = some d → evU ρ1 k = some kd → putIt (atP' ρ1 i π) kd d = some t → (∀ {G3 : Hp}, SR K G3 H1 ρ1 σ φ1 → DP K G3 v d → RelS K G3 (upd H1 b o) t (.ref b) [b]) → (∀ {G3 : Hp} {u : V} {g : List Addr}, RelS K G3 H1 (atP' ρ1 i π) u g → (∃ v0 π', σ[i]? = some (some v0) ∧ pthR ρ1 π = some π' ∧ Ptr K H1 v0 π' u) → u = .ref b ∧ g = [b]) →
      D.nx σ (upd H1 b o) := by
    intro s ρ1 v G1 H1 φ1 f d kd t b o eq r1 t1 st1 ev ek ep hrel hpl
    rw [eq] at q
    simp only [R.bnd_ok, ev, ek, ep] at q
    obtain ⟨G3, st3, r3, hd3, _⟩ := t1.freeze r1 ev
    have nd : atP' ρ1 i π ≠ .dead := fun z => by rw [z] at ep; simp [putIt] at ep
    obtain ⟨π', v0, u, g, p1, p2, p3, p4, p5, pm⟩ := r3.modP nd
    obtain ⟨rfl, rfl⟩ := hpl p4 ⟨v0, π', p2, p1, p3⟩
    have ob : own φ1 b := ⟨i, p5 b (List.mem_singleton.mpr rfl)⟩
    obtain ⟨φ', r', st'⟩ := pm (T := fun _ => False) (t := t) (g' := [b]) (Stp.at (o := o)) (same_at r3.gh (r3.gno ob)) (fun _ z => z.elim) (hrel r3 hd3) fun c hc => by
      obtain rfl := List.mem_singleton.mp hc
      exact r3.gno ob
    have st4 : Stp G3 H1 (own φ1) G3 (upd H1 b o) (own φ') := ⟨st'.gg, fun b o ho hn => st'.keep b o ho fun z => z.elim hn id, fun b z => (st'.sub b z).imp (fun y => y.elim id fun y => y.elim) id, fun b z z' => (st'.gnew b z z').imp (fun y => y.elim id fun y => y.elim) id, st'.there⟩
    exact PoS.nx q .refl r' ((st1.trans st3).trans st4)
  by_cases isL : ∀ s ρ1, evE Φ x ρ = .ok s ρ1 → ∃ xs, atP' ρ1 i π = .lst xs
  · left
    refine then_eq r q fun s ρ1 v G1 H1 φ1 f eq r1 t1 st1 => ?_
    obtain ⟨xs, el⟩ := isL s ρ1 eq
    obtain ⟨π', v0, u, g, p1, p2, p3, p4, _, _⟩ := r1.place (i := i) (rπ := π) (by rw [el]; exact fun z => nomatch z)
    have p4' := p4
    rw [el] at p4
    obtain ⟨b, vs, rfl, hH, hd, rfl⟩ := p4
    have q' := q
    rw [eq] at q'
    simp only [R.bnd_ok] at q'
    split at q'
    · rename_i d kd ev ek
      split at q'
      · rename_i t ep
        have ep' := ep
        rw [el] at ep'
        cases kd with
        | int j =>
          simp only [putIt] at ep'
          split at ep'
          · rename_i n hn
            cases ep'
            refine ⟨ρ1, G1, φ1, π', v0, .ref b, r1, p1, p2, p3, ρ1, G1, φ1, _, r1, ek, fun y hy => ?_⟩
            cases hy
            refine ⟨b, vs, j, n, rfl, rfl, hH, by rw [hd.length]; exact hn, ?_⟩
            refine fin eq r1 t1 st1 ev ek ep (fun {G3} r3 hd3 => ?_) fun {G3 u g} rr ⟨w, π2, e1, e2, e3⟩ => ?_
            · obtain ⟨π3, v3, u3, g3, z1, z2, z3, z4, _, _⟩ := r3.place (i := i) (rπ := π) (by rw [el]; exact fun z => nomatch z)
              rw [el] at z4
              obtain ⟨b3, vs3, rfl, hH3, hd3', rfl⟩ := z4
              rw [p1] at z1
              rw [p2] at z2
              cases z1
              cases z2
              have := p3.fn z3
              cases this
              rw [hH] at hH3
              cases hH3
              exact ⟨b, _, rfl, upd_same, hd3'.set hd3 n, rfl⟩
            · rw [p1] at e2
              rw [p2] at e1
              cases e1
              cases e2
              have := p3.fn e3
              subst this
              rw [el] at rr
              obtain ⟨_, _, e, _, _, e'⟩ := rr
              cases e
              exact ⟨rfl, e'⟩
          · cases ep'
        | _ => simp [putIt] at ep'
      · exact q'.elim
    · exact q'.elim
  · right
    have ⟨s0, ρ0, eq0, nl⟩ : ∃ s ρ1, evE Φ x ρ = .ok s ρ1 ∧ ¬ ∃ xs, atP' ρ1 i π = .lst xs := by
      by_cases z : ∃ s ρ1, evE Φ x ρ = .ok s ρ1 ∧ ¬ ∃ xs, atP' ρ1 i π = .lst xs
      · exact z
      · exact absurd (fun s ρ1 e => Classical.byContradiction fun y => z ⟨s, ρ1, e, y⟩) isL
    refine then_eq r q fun s ρ1 v G1 H1 φ1 f eq r1 t1 st1 => ?_
    rw [eq0] at eq
    cases eq
    have q' := q
    rw [eq0] at q'
    simp only [R.bnd_ok] at q'
    split at q'
    · rename_i d kd ev ek
      split at q'
      · rename_i t ep
        cases el : atP' ρ0 i π with
        | dtt kvs =>
          obtain ⟨π', v0, u, g, p1, p2, p3, p4, _, _⟩ := r1.place (i := i) (rπ := π) (by rw [el]; exact fun z => nomatch z)
          rw [el] at p4
          obtain ⟨b, rfl, rfl, kv, hH, hd⟩ := p4
          have ep' := ep
          rw [el] at ep'
          cases kd with
          | tuple ks =>
            simp only [putIt] at ep'
            split at ep'
            · rename_i kk hkk
              split at ep'
              · rename_i hz
                cases ep'
                refine ⟨ρ0, G1, φ1, π', v0, .ref b, r1, p1, p2, p3, ρ0, G1, φ1, _, r1, ek, fun y hy => ?_⟩
                cases hy with
                | tup g1 g2 =>
                  obtain ⟨rfl, rfl⟩ := keysL_dps g2 hkk
                  refine ⟨b, _, rfl, .inr ⟨kv, kk, _, hH, rfl, r1.gh _ _ g1, by rw [hd.length]; exact hz, rfl⟩, ?_⟩
                  refine fin eq0 r1 t1 st1 ev ek ep (fun {G3} r3 hd3 => ?_) fun {G3 u g} rr ⟨w, π2, e1, e2, e3⟩ => ?_
                  · obtain ⟨π3, v3, u3, g3, z1, z2, z3, z4, _, _⟩ := r3.place (i := i) (rπ := π) (by rw [el]; exact fun z => nomatch z)
                    rw [el] at z4
                    obtain ⟨b3, rfl, rfl, kv3, hH3, hd3'⟩ := z4
                    rw [p1] at z1
                    rw [p2] at z2
                    cases z1
                    cases z2
                    have := p3.fn z3
                    cases this
                    rw [hH] at hH3
                    cases hH3
                    exact ⟨b, rfl, rfl, _, upd_same, hd3'.put hd3⟩
                  · rw [p1] at e2
                    rw [p2] at e1
                    cases e1
                    cases e2
                    have := p3.fn e3
                    subst this
                    rw [el] at rr
                    obtain ⟨_, e, e', _⟩ := rr
                    cases e
                    exact ⟨rfl, e'⟩
              · cases ep'
            · cases ep'
          | _ => simp [putIt] at ep'
        | dct kvs =>
          obtain ⟨π', v0, u, g, p1, p2, p3, p4, _, _⟩ := r1.place (i := i) (rπ := π) (by rw [el]; exact fun z => nomatch z)
          rw [el] at p4
          obtain ⟨b, rfl, rfl, kv, hH, hd⟩ := p4
          have ep' := ep
          rw [el] at ep'
          simp only [putIt] at ep'
          split at ep'
          · rename_i kk hkk
            split at ep'
            · rename_i hz
              cases ep'
              refine ⟨ρ0, G1, φ1, π', v0, .ref b, r1, p1, p2, p3, ρ0, G1, φ1, _, r1, ek, fun y hy => ?_⟩
              obtain ⟨rfl, _⟩ := keyD_val hkk hy
              refine ⟨b, _, rfl, .inl ⟨kv, kk, hH, rfl, by rw [hd.length]; exact hz, rfl⟩, ?_⟩
              refine fin eq0 r1 t1 st1 ev ek ep (fun {G3} r3 hd3 => ?_) fun {G3 u g} rr ⟨w, π2, e1, e2, e3⟩ => ?_
              · obtain ⟨π3, v3, u3, g3, z1, z2, z3, z4, _, _⟩ := r3.place (i := i) (rπ := π) (by rw [el]; exact fun z => nomatch z)
                rw [el] at z4
                obtain ⟨b3, rfl, rfl, kv3, hH3, hd3'⟩ := z4
                rw [p1] at z1
                rw [p2] at z2
                cases z1
                cases z2
                have := p3.fn z3
                cases this
                rw [hH] at hH3
                cases hH3
                exact ⟨b, rfl, rfl, _, upd_same, hd3'.put hd3⟩
              · rw [p1] at e2
                rw [p2] at e1
                cases e1
                cases e2
                have := p3.fn e3
                subst this
                rw [el] at rr
                obtain ⟨_, e, e', _⟩ := rr
                cases e
                exact ⟨rfl, e'⟩
            · cases ep'
          · cases ep'
        | lst xs => exact absurd ⟨xs, el⟩ nl
        | _ => rw [el] at ep; simp [putIt] at ep
      · exact q'.elim
    · exact q'.elim
theorem putF_at {f : Str} {y : V} : ∀ {ns : List Str} {vs : List V} {j : Nat}, ixo f ns = some j → ns.length = vs.length → putF f y (ns.zip vs) = ns.zip (vs.set j y)
  | [], _, _, h, _ => by cases h
  | n :: ns, [], _, _, l => by cases l
  | n :: ns, v :: vs, j, h, l => by
    unfold ixo at h
    rw [List.zip_cons_cons, putF]
    by_cases z : n = f
    · rw [if_pos z] at h ⊢
      cases h
      rw [List.set_cons_zero, List.zip_cons_cons]
    · rw [if_neg z] at h ⊢
      cases q : ixo f ns with
      | none => rw [q] at h; cases h
      | some i =>
        rw [q] at h
        cases h
        rw [putF_at q (Nat.succ.inj l), List.set_cons_succ, List.zip_cons_cons]
theorem putF_new {f : Str} {y : V} : ∀ {ns : List Str} {vs : List V}, ixo f ns = none → ns.length = vs.length → putF f y (ns.zip vs) = (ns ++ [f]).zip (vs ++ [y])
  | [], [], _, _ => rfl
  | [], v :: vs, _, l => by cases l
  | n :: ns, [], _, l => by cases l
  | n :: ns, v :: vs, h, l => by
    unfold ixo at h
    by_cases z : n = f
    · rw [if_pos z] at h; cases h
    · rw [if_neg z] at h
      cases q : ixo f ns with
      | some i => rw [q] at h; cases h
      | none =>
        rw [List.zip_cons_cons, putF, if_neg z, putF_new q (Nat.succ.inj l)]
        rfl
theorem RelSs.snoc : ∀ {ss : List S} {vs : List V} {gs : List (List Addr)} {t : S} {u : V} {g : List Addr}, RelSs K G H ss vs gs → RelS K G H t u g → RelSs K G H (ss ++ [t]) (vs ++ [u]) (gs ++ [g])
  | [], vs, gs, t, u, g, r, h => by
    simp only [RelSs] at r
    rw [r.1, r.2]
    exact ⟨u, [], g, [], rfl, rfl, h, rfl, rfl⟩
  | s :: ss, vs, gs, t, u, g, r, h => by
    simp only [RelSs] at r
    obtain ⟨v, vs', g', gs', rfl, rfl, h1, h2⟩ := r
    exact ⟨v, vs' ++ [u], g', gs' ++ [g], rfl, rfl, h1, RelSs.snoc h2 h⟩
theorem RelSs.put : ∀ {ss : List S} {vs : List V} {gs : List (List Addr)} {j : Nat} {t : S} {u : V} {g : List Addr}, RelSs K G H ss vs gs → j < ss.length → RelS K G H t u g → RelSs K G H (ss.set j t) (vs.set j u) (gs.set j g)
  | [], vs, gs, j, t, u, g, r, e, h => by simp at e
  | s :: ss, vs, gs, j, t, u, g, r, e, h => by
    simp only [RelSs] at r
    obtain ⟨v, vs', g', gs', rfl, rfl, h1, h2⟩ := r
    cases j with
    | zero => exact ⟨_, vs', g, gs', rfl, rfl, h, h2⟩
    | succ j => exact ⟨v, vs'.set j u, g', gs'.set j g, rfl, rfl, h1, RelSs.put h2 (by simpa using e) h⟩
/-- an instance with a field stored anew -/
theorem put_fld {c : Str} {ns : List Str} {fs : List S} {s t : S} {f : Str} {b : Addr} {vs : List V} {gs : List (List Addr)} {ex : List Addr} {v : V} {f1 : List Addr} (hp : putFd (.box (.obj c ns) fs) f s = some t) (hb : BoxAt K H (.obj c ns) b vs ex) (hs : RelSs K G H fs vs gs) (nd : (b :: (ex ++ gs.flatten)).Nodup)
    (rs : RelS K G H s v f1) (off : ∀ a ∈ f1, a ∉ b :: (ex ++ gs.flatten)) :
    ∃ C dx, H b = some (.ins C dx (ns.zip vs)) ∧ Cls K C ∧ NoAttr K C f ∧ (ns.zip vs).length < 1000 ∧ ∃ g', RelS K G (upd H b (.ins C dx (putF f v (ns.zip vs)))) t (.ref b) g' ∧ (∀ a ∈ g', a ∈ b :: (ex ++ gs.flatten) ∨ a ∈ f1) := by
  obtain ⟨C, dx, hc, h1, h2, rfl, hl, hn⟩ := hb
  have nd0 := nd
  rw [List.nodup_cons, List.nodup_append] at nd0
  obtain ⟨n1, n2, n3, n4⟩ := nd0
  have hl2 := hs.len
  have hbd : dx ≠ b := fun z => n1 (by rw [← z]; exact List.mem_append_left _ (List.mem_singleton.mpr rfl))
  simp only [putFd] at hp
  · split at hp
    · rename_i hf
      refine ⟨C, dx, h1, hc.2.1, hc.2.2 f hf, by rw [List.length_zip]; omega, ?_⟩
      have up : ∀ (o : HO) (l : List Addr), b ∉ l → ∀ a ∈ l, ∀ u, H a = some u → (upd H b o) a = some u := fun o l hn a ha u hu => by
        rw [upd_ne fun z => hn (by rw [← z]; exact ha)]; exact hu
      have bf1 : b ∉ f1 := fun z => off b z List.mem_cons_self
      have bgs : ∀ g ∈ gs, b ∉ g := fun g hg z => n1 (List.mem_append_right _ (List.mem_flatten.mpr ⟨g, hg, z⟩))
      have rs' : ∀ o, RelS K G (upd H b o) s v f1 := fun o => rs.mono (Same.refl G) (up o f1 bf1)
      have hs' : ∀ o, RelSs K G (upd H b o) fs vs gs := fun o => hs.mono (Same.refl G) fun g hg => up o g (bgs g hg)
      split at hp
      · rename_i j hj
        cases hp
        rw [putF_at hj hl]
        have hjl : j < fs.length := by
          have := (List.getElem?_eq_some_iff.mp (ixo_get hj)).1
          omega
        have hg : gs[j]? = some (gs[j]'(by omega)) := List.getElem?_eq_getElem (by omega)
        obtain ⟨m1, m2⟩ := flat_set (g' := f1) hg n3 rs.nodup fun a ha hm => absurd (List.mem_cons_of_mem _ (List.mem_append_right _ hm)) (off a ha)
        refine ⟨b :: ([dx] ++ (gs.set j f1).flatten), ⟨b, vs.set j v, gs.set j f1, [dx], rfl, ⟨C, dx, hc, upd_same, by rw [upd_ne hbd]; exact h2, rfl, by rw [List.length_set]; exact hl, hn⟩, (hs' _).put hjl (rs' _), rfl, ?_⟩, fun a ha => ?_⟩
        · rw [List.nodup_cons, List.nodup_append]
          refine ⟨fun z => ?_, n2, m1, fun a ha a' ha' z => ?_⟩
          · rcases List.mem_append.mp z with z | z
            · exact n1 (List.mem_append_left _ z)
            · rcases (m2 b).mp z with ⟨z, _⟩ | z
              · exact n1 (List.mem_append_right _ z)
              · exact bf1 z
          · subst z
            rcases (m2 a).mp ha' with ⟨z, _⟩ | z
            · exact n4 a ha a z rfl
            · exact off a z (List.mem_cons_of_mem _ (List.mem_append_left _ ha))
        · rcases List.mem_cons.mp ha with rfl | ha
          · exact .inl List.mem_cons_self
          · rcases List.mem_append.mp ha with ha | ha
            · exact .inl (List.mem_cons_of_mem _ (List.mem_append_left _ ha))
            · rcases (m2 a).mp ha with ⟨z, _⟩ | z
              · exact .inl (List.mem_cons_of_mem _ (List.mem_append_right _ z))
              · exact .inr z
      · rename_i hj
        split at hp
        · rename_i h8
          cases hp
          rw [putF_new hj hl]
          refine ⟨b :: ([dx] ++ (gs ++ [f1]).flatten), ⟨b, vs ++ [v], gs ++ [f1], [dx], rfl, ⟨C, dx, hc, upd_same, by rw [upd_ne hbd]; exact h2, rfl, by rw [List.length_append, List.length_append, hl]; rfl, by rw [List.length_append]; show ns.length + 1 < 900; omega⟩, (hs' _).snoc (rs' _), rfl, ?_⟩, fun a ha => ?_⟩
          · rw [List.nodup_cons, List.nodup_append]
            have mm : ∀ a, a ∈ (gs ++ [f1]).flatten ↔ a ∈ gs.flatten ∨ a ∈ f1 := fun a => by simp
            refine ⟨fun z => ?_, n2, ?_, fun a ha a' ha' z => ?_⟩
            · rcases List.mem_append.mp z with z | z
              · exact n1 (List.mem_append_left _ z)
              · rcases (mm b).mp z with z | z
                · exact n1 (List.mem_append_right _ z)
                · exact bf1 z
            · rw [List.flatten_append, List.nodup_append]
              refine ⟨n3, by simpa using rs.nodup, fun a ha a' ha' z => ?_⟩
              subst z
              exact off a (by simpa using ha') (List.mem_cons_of_mem _ (List.mem_append_right _ ha))
            · subst z
              rcases (mm a).mp ha' with z | z
              · exact n4 a ha a z rfl
              · exact off a z (List.mem_cons_of_mem _ (List.mem_append_left _ ha))
          · rcases List.mem_cons.mp ha with rfl | ha
            · exact .inl List.mem_cons_self
            · rcases List.mem_append.mp ha with ha | ha
              · exact .inl (List.mem_cons_of_mem _ (List.mem_append_left _ ha))
              · have : a ∈ gs.flatten ∨ a ∈ f1 := by simpa using ha
                rcases this with z | z
                · exact .inl (List.mem_cons_of_mem _ (List.mem_append_right _ z))
                · exact .inr z
        · cases hp
    · cases hp
/-- p.f = x -/
theorem fset_ok {i : Nat} {π : List Px} {f : Str} {x : E} (h : tS K xr W a (evS Φ (.fset i π f x)) D σ H) : sFld K (tPt K i π) (tE K xr W (evE Φ x)) f D σ H := by
  obtain ⟨ρ, G, φ, r, q⟩ := h
  rw [evS] at q
  refine then_eq r q fun s ρ1 v G1 H1 φ1 f1 eq r1 t1 st1 => ?_
  rw [eq] at q
  simp only [R.bnd_ok] at q
  split at q
  · rename_i t ep
    have nd : atP' ρ1 i π ≠ .dead := fun z => by rw [z] at ep; simp [putFd] at ep
    obtain ⟨π', v0, u, g, p1, p2, p3, p4, p5, pm⟩ := r1.modP nd
    cases el : atP' ρ1 i π with
    | box b fs =>
      cases b with
      | obj c ns =>
        rw [el] at p4 ep
        obtain ⟨b, vs, gs, ex, rfl, hb, hs, rfl, ndp⟩ := p4
        obtain ⟨C, dx, k1, k2, k3, k4, g', k5, k6⟩ := put_fld ep hb hs ndp t1.rel fun a ha z => t1.off a ha ⟨i, p5 a z⟩
        refine ⟨ρ1, G1, φ1, π', v0, .ref b, r1, p1, p2, p3, b, C, dx, _, rfl, k1, k2, k3, k4, ?_⟩
        have ob : own φ1 b := ⟨i, p5 b List.mem_cons_self⟩
        have stw : Stp G1 H1 (fun a => a ∈ b :: (ex ++ gs.flatten) ∨ a ∈ f1) G1 (upd H1 b (.ins C dx (putF f v (ns.zip vs)))) (fun a => a ∈ g') :=
          (Stp.wr (T := fun a => a ∈ b :: (ex ++ gs.flatten) ∨ a ∈ f1) (.inl List.mem_cons_self)).weak fun a z => k6 a z
        obtain ⟨φ', r', st'⟩ := pm (T := fun a => a ∈ f1) (t := t) (g' := g') stw (same_at r1.gh (r1.gno ob)) (tmp_there t1) k5 fun a ha => by
          rcases k6 a ha with z | z
          · exact r1.gno ⟨i, p5 a z⟩
          · exact t1.gn a z
        exact PoS.nx q .refl r' (st1.trans st')
      | _ => rw [el] at ep; simp [putFd] at ep
    | _ => rw [el] at ep; simp [putFd] at ep
  · exact q.elim
end
end VE

/-! VS13: a statement that passes the look is executed so. -/
namespace VE
open PySem L2 PySem.Spec PyProof.Rows

structure Sok (C : Ck) (Φ : Fns) (xr : XR) (sc : Scope) (X : Cx) (W : WX) : Prop where
  toCok : Cok C Φ xr sc X
  cool : C.hot = false
  stk : X.stack = X.env :: X.outer
  frm : X.env.frame = some X.env.locals
  kind : sc.kind = .function
  fn : ∀ x, X.fn x = true
  tk : L2N.Takes X W
  po : PassesOwn (model X.prog X.w) X.A X.env X.xe
section
variable {C : Ck} {Φ : Fns} {xr : XR} {sc : Scope} {X : Cx} {W : WX}
theorem PS.imp {s : Stmt} {t t' : TS} (h : PS X s t) (i : ∀ D σ H, t' D σ H → t D σ H) : PS X s t' := ⟨fun pins s σ H D I q => h.run pins s σ H D I (i D σ H q)⟩
theorem PSs.imp {s : List Stmt} {t t' : TS} (h : PSs X s t) (i : ∀ D σ H, t' D σ H → t D σ H) : PSs X s t' := ⟨fun pins s σ H D I q => h.run pins s σ H D I (i D σ H q)⟩
theorem Sok.nodup (c : Sok C Φ xr sc X W) : X.N.Nodup := by rw [c.toCok.N]; exact c.toCok.nd
theorem Sok.blockK (c : Sok C Φ xr sc X W) : X.env.blockKind = .function := by
  have e := c.kind
  have e2 := c.toCok.sc
  unfold Env.blockKind
  rw [e2, e]
  rfl
theorem Sok.lc (c : Sok C Φ xr sc X W) (x : Str) (h : loc sc x = true) : Loc X.env.scope x ∧ (X.fn x = true ∨ X.env.scope.names.lookup x = some .local) := by
  refine ⟨?_, .inl (c.fn x)⟩
  rw [c.toCok.sc]
  unfold loc at h
  split at h
  · exact .inl (by assumption)
  · exact .inr (by assumption)
  · cases h
theorem held_of {it : It} {ρ ρ1 : List S} {p : List PyData × Option (Nat × S)} {i : Nat} {s : S} (h : evIt Φ it ρ = .ok p ρ1) (hp : p.2 = some (i, s)) : heldI it = some i := by
  have hold : ∀ {a : A} {xs : List PyData} {ρ : List S}, holdO a xs ρ = .ok p ρ1 → ∃ j, a = .pl j ∧ j = i := by
    intro a xs ρ q
    unfold holdO at q
    split at q
    · split at q
      · cases q; cases hp
      · cases q; cases hp; exact ⟨_, rfl, rfl⟩
    · cases q; cases hp
  cases it with
  | rng1 a =>
    rw [evIt] at h
    cases e : evA Φ a ρ with
    | stk => rw [e] at h; cases h
    | exc _ _ _ => rw [e] at h; cases h
    | ok t ρ' =>
      rw [e] at h
      simp only [R.bnd_ok] at h
      split at h
      · split at h
        · cases h; cases hp
        · cases h
      · cases h
  | rng2 a b =>
    rw [evIt] at h
    cases e : evA Φ a ρ with
    | stk => rw [e] at h; cases h
    | exc _ _ _ => rw [e] at h; cases h
    | ok t ρ' =>
      rw [e] at h
      simp only [R.bnd_ok] at h
      cases e2 : evA Φ b ρ' with
      | stk => rw [e2] at h; cases h
      | exc _ _ _ => rw [e2] at h; cases h
      | ok u ρ2 =>
        rw [e2] at h
        simp only [R.bnd_ok] at h
        split at h
        · split at h
          · cases h; cases hp
          · cases h
        · cases h
  | rng3 as =>
    rw [evIt] at h
    cases e : evAs Φ as ρ with
    | stk => rw [e] at h; cases h
    | exc _ _ _ => rw [e] at h; cases h
    | ok t ρ' =>
      rw [e] at h
      simp only [R.bnd_ok] at h
      split at h
      · split at h
        · cases h; cases hp
        · cases h
      · cases h
  | seq a =>
    rw [evIt] at h
    cases e : evA Φ a ρ with
    | stk => rw [e] at h; cases h
    | exc _ _ _ => rw [e] at h; cases h
    | ok t ρ' =>
      rw [e] at h
      simp only [R.bnd_ok] at h
      split at h
      · split at h
        · obtain ⟨j, rfl, rfl⟩ := hold h
          rfl
        · cases h
      · cases h
  | enum a =>
    rw [evIt] at h
    cases e : evA Φ a ρ with
    | stk => rw [e] at h; cases h
    | exc _ _ _ => rw [e] at h; cases h
    | ok t ρ' =>
      rw [e] at h
      simp only [R.bnd_ok] at h
      split at h
      · obtain ⟨j, rfl, rfl⟩ := hold h
        rfl
      · obtain ⟨j, rfl, rfl⟩ := hold h
        rfl
      · cases h
  | keys a =>
    rw [evIt] at h
    cases e : evA Φ a ρ with
    | stk => rw [e] at h; cases h
    | exc _ _ _ => rw [e] at h; cases h
    | ok t ρ' =>
      rw [e] at h
      simp only [R.bnd_ok] at h
      split at h
      · split at h
        · cases h; cases hp
        · cases h
      · cases h
  | seqP j π =>
    rw [evIt] at h
    split at h
    · cases h; cases hp; rfl
    · cases h
  | zipP j π ϖ =>
    rw [evIt] at h
    split at h
    · cases h; cases hp; rfl
    · cases h
  | chars a =>
    rw [evIt] at h
    cases e : evA Φ a ρ with
    | stk => rw [e] at h; cases h
    | exc _ _ _ => rw [e] at h; cases h
    | ok t ρ' =>
      rw [e] at h
      simp only [R.bnd_ok] at h
      split at h
      · cases h; cases hp
      · cases h
  | zip a b =>
    rw [evIt] at h
    cases e : evA Φ a ρ with
    | stk => rw [e] at h; cases h
    | exc _ _ _ => rw [e] at h; cases h
    | ok t ρ' =>
      rw [e] at h
      simp only [R.bnd_ok] at h
      cases e2 : evA Φ b ρ' with
      | stk => rw [e2] at h; cases h
      | exc _ _ _ => rw [e2] at h; cases h
      | ok u ρ2 =>
        rw [e2] at h
        simp only [R.bnd_ok] at h
        split at h
        · split at h
          · cases h; cases hp
          · cases h
        · cases h
theorem ps_comp {t : Tg} {it : It} {d : Option E} {x : E} {e : Expr} {i : Nat} {y : Str} {py spos : Pos} (c : Sok C Φ xr sc X W) (hi : C.N[i]? = some y) (h : ckE C sc (.comp t it d x) e = true) (hw : swB sc y py e = true) :
    PS X (.Assign [.Name y py] e spos) (tAsg (tE X.K xr W (evE Φ (.comp t it d x))) (gName i)) := by
  unfold ckE at h
  split at h
  · rename_i elt gs scope pos
    split at h
    · rename_i tg iter ifs k
      have hw0 := hw
      simp only [swB, Bool.and_eq_true, decide_eq_true_eq] at hw0
      rw [Bool.and_eq_true] at h
      obtain ⟨h, hh⟩ := h
      simp only [Bool.and_eq_true, beq_iff_eq] at h
      obtain ⟨⟨⟨⟨⟨⟨rfl, hb⟩, hit⟩, hs⟩, ht⟩, hd⟩, hx⟩ := h
      have q := ps_setLc (pos := pos) (spos := spos) (py := py) (te := tE X.K xr (fun _ _ _ _ => False) (evE Φ x)) (tt := condT X.K xr Φ d) (g := tTg X.K t) (own := tgX C (tgs t)) (c.toCok.calm c.cool) c.nodup (by rw [c.toCok.N]; exact hi) (by rw [c.toCok.sc]; exact hw0.1.1)
        (by rw [swaps_set c.blockK, c.toCok.sc, hw]) (It_ok it tg iter sc X W c.toCok c.tk hit) (by rw [c.toCok.sc, c.toCok.N]; exact blkOk_by hb)
        (fun s H Ca cl fp => ckTg_ok (X := X.blk s H scope (compEnvC scope cl Ca X.env) fp) (c.toCok.calm c.cool) c.nodup c.toCok.N (lcB_ok c.toCok.sc) ht)
        (fun s H Ca cl fp => C_ok d ifs (relS scope sc) (X.blk s H scope (compEnvC scope cl Ca X.env) fp) (c.toCok.blk s H scope Ca cl fp) hd)
        (fun s H Ca cl fp => E_ok x elt (relS scope sc) (X.blk s H scope (compEnvC scope cl Ca X.env) fp) _ (c.toCok.blk s H scope Ca cl fp) takesB hx) (folded hs)
      rw [tgX_snd] at q
      exact PS.imp q fun D σ H z => by
        obtain ⟨ρ, G, φ, r, z⟩ := z
        exact comp_ok r z
    · cases h
  · cases h
theorem ps_comp2 {t : Tg} {it : It} {d : Option E} {t1 : Tg} {it1 : It} {d1 : Option E} {x : E} {e : Expr} {i : Nat} {y : Str} {py spos : Pos} (c : Sok C Φ xr sc X W) (hi : C.N[i]? = some y) (h : ckE C sc (.comp2 t it d t1 it1 d1 x) e = true) (hw : swB sc y py e = true) :
    PS X (.Assign [.Name y py] e spos) (tAsg (tE X.K xr W (evE Φ (.comp2 t it d t1 it1 d1 x))) (gName i)) := by
  unfold ckE at h
  split at h
  · rename_i elt gs scope pos
    split at h
    · rename_i tg iter ifs k tg1 iter1 ifs1 k1
      have hw0 := hw
      simp only [swB, Bool.and_eq_true, decide_eq_true_eq] at hw0
      rw [Bool.and_eq_true] at h
      obtain ⟨h, hh⟩ := h
      simp only [Bool.and_eq_true, beq_iff_eq] at h
      obtain ⟨⟨⟨⟨⟨⟨⟨⟨⟨⟨⟨rfl, rfl⟩, hb⟩, hit⟩, hs⟩, hs1⟩, ht⟩, hd⟩, hi1⟩, ht1⟩, hd1⟩, hx⟩ := h
      have q := ps_setLc2 (pos := pos) (spos := spos) (py := py) (te := tE X.K xr (fun _ _ _ _ => False) (evE Φ x)) (tt := condT X.K xr Φ d) (g := tTg X.K t) (wi1 := tIt X.K xr (fun _ _ _ _ => False) Φ it1) (tt1 := condT X.K xr Φ d1) (g1 := tTg X.K t1) (own := tgX C (tgs t ++ tgs t1)) (vs1 := tgs t1) (c.toCok.calm c.cool) c.nodup (by rw [c.toCok.N]; exact hi) (by rw [c.toCok.sc]; exact hw0.1.1)
        (by rw [swaps_set c.blockK, c.toCok.sc, hw]) (It_ok it tg iter sc X W c.toCok c.tk hit) (by rw [c.toCok.sc, c.toCok.N]; exact blkOk_by hb) (fun i hi => by rw [tgX_snd]; exact List.mem_append_right _ hi)
          (fun s H Ca cl fp => ckTg_ok (X := X.blk s H scope (compEnvC scope cl Ca X.env) fp) (c.toCok.calm c.cool) c.nodup c.toCok.N (lcB_ok c.toCok.sc) ht)
          (fun s H Ca cl fp => C_ok d ifs (relS scope sc) (X.blk s H scope (compEnvC scope cl Ca X.env) fp) (c.toCok.blk s H scope Ca cl fp) hd)
          (fun s H Ca cl fp => It_ok it1 tg1 iter1 (relS scope sc) (X.blk s H scope (compEnvC scope cl Ca X.env) fp) _ (c.toCok.blk s H scope Ca cl fp) takesB hi1)
          (fun s H Ca cl fp => ckTg_ok (X := X.blk s H scope (compEnvC scope cl Ca X.env) fp) (c.toCok.calm c.cool) c.nodup c.toCok.N (lcB_ok c.toCok.sc) ht1)
          (fun s H Ca cl fp => C_ok d1 ifs1 (relS scope sc) (X.blk s H scope (compEnvC scope cl Ca X.env) fp) (c.toCok.blk s H scope Ca cl fp) hd1)
          (fun s H Ca cl fp => E_ok x elt (relS scope sc) (X.blk s H scope (compEnvC scope cl Ca X.env) fp) _ (c.toCok.blk s H scope Ca cl fp) takesB hx) (folded hs) (fun _ => folded hs1)
      rw [tgX_snd] at q
      exact PS.imp q fun D σ H z => by
        obtain ⟨ρ, G, φ, r, z⟩ := z
        exact comp2_ok r z
    · cases h
  · cases h
theorem augl_ok {a : List Nat} {i : Nat} {x : E} {σ : L2.St} {H : Hp} {D : Ends} (h : tS X.K xr W a (evS Φ (.augl i x)) D σ H) : tAug i (tE X.K xr W (evE Φ x)) rExt2 D σ H := by
  obtain ⟨ρ, G, φ, r, q⟩ := h
  rw [evS] at q
  cases e : slot ρ i with
  | lst xs0 =>
    rw [e] at q
    simp only at q
    obtain ⟨v, hv, q0⟩ := r.at (i := i) (by rw [e]; exact fun z => nomatch z)
    rw [e] at q0
    obtain ⟨l, vs0, rfl, hH0, _, hf0⟩ := q0
    refine ⟨_, hv, ?_⟩
    refine then_ok r q fun s ρ' v G' H' φ' f r' t st q' => ?_
    split at q'
    · rename_i xs ys e4
      split at q'
      · rename_i hlt
        obtain ⟨b, ws, rfl, hb, hd2, rfl⟩ := t.rel
        obtain ⟨w, hw, q2⟩ := r'.at (i := i) (by rw [e4]; exact fun z => nomatch z)
        rw [hv] at hw
        cases hw
        rw [e4] at q2
        obtain ⟨c', us, ec, hH, hdv, hf⟩ := q2
        cases ec
        obtain ⟨st2, sr⟩ := write_lst r' hv (slot_lt (by rw [e4]; exact fun z => nomatch z)) hf (hdv.app hd2)
        refine ⟨l, b, us, ws, rfl, rfl, hH, hb, by rw [hdv.length, hd2.length]; exact of_decide_eq_true hlt, ?_⟩
        have eσ : σ.set i (some (.ref l)) = σ := by
          obtain ⟨hil, hiv⟩ := List.getElem?_eq_some_iff.mp hv
          rw [← hiv, List.set_getElem_self]
        show D.nx (σ.set i (some (.ref l))) _
        rw [eσ]
        exact PoS.nx q' .refl sr ((st.weak fun _ z => .inl z).trans st2)
      · exact q'.elim
    · exact q'.elim
  | val _ => rw [e] at q; exact q.elim
  | dct _ => rw [e] at q; exact q.elim
  | dtt _ => rw [e] at q; exact q.elim
  | box _ _ => rw [e] at q; exact q.elim
  | dead => rw [e] at q; exact q.elim
theorem notLc_swB {e : Expr} {y : Str} {py : Pos} (h : notLc e = true) : swB sc y py e = false := by
  cases e <;> first | rfl | cases h
/-- one value, stored by a name -/
theorem asg_ok {a : List Nat} {i : Nat} {x : E} {σ : L2.St} {H : Hp} {D : Ends} (ha : i ∈ a) (h : tS X.K xr W a (evS Φ (.asg i x)) D σ H) : tAsg (tE X.K xr W (evE Φ x)) (gName i) D σ H := by
  obtain ⟨ρ, G, φ, r, q⟩ := h
  rw [evS] at q
  refine then_ok r q fun s ρ' v G' H' φ' f r' t st q' => ?_
  have r2 := r'.store (i := i) t
  refine PoS.nx q' (Keep.set ha) r2 (st.weak fun b z => ?_)
  rcases own_upf z with y | y
  · split at y
    · exact .inr y
    · cases y
  · exact .inl y
theorem set_lt {i : Nat} {ρ : List S} {s : S} : (ρ.set i s).length = ρ.length := List.length_set ..
/-! ### several names -/
def setsV : List Nat → List V → L2.St → L2.St
  | i :: is, v :: vs, σ => setsV is vs (σ.set i (some v))
  | _, _, σ => σ
theorem Keep.sets {a : List Nat} : ∀ {is : List Nat} {vs : List V} {σ : L2.St}, (∀ i ∈ is, i ∈ a) → Keep a σ (setsV is vs σ)
  | [], _, σ, _ => .refl
  | _ :: _, [], σ, _ => .refl
  | i :: is, v :: vs, σ, h => (Keep.set (h i List.mem_cons_self)).trans (Keep.sets (is := is) fun j hj => h j (List.mem_cons_of_mem _ hj))
theorem sets_S {K : PySem.W.Frag} {G H : Hp} {σ : L2.St} {ρ : List S} {φ : Nat → List Addr} (r : SR K G H ρ σ φ) : ∀ {as : List A} {ts : List (Option S)} {vs : List V} {fs : List Addr}, Ops K G H σ as ts vs fs → ∀ {ss : List S} {is : List Nat} {ρ2 : List S} {σ2 : L2.St} {φ2 : Nat → List Addr},
    resS as ts ρ = some ss → is.length = ss.length → SR K G H ρ2 σ2 φ2 → (∀ b ∈ fs, G b = none ∧ ¬ own φ2 b) → ∃ φ3, SR K G H (sets is ss ρ2) (setsV is vs σ2) φ3 ∧ ∀ b, own φ3 b → own φ2 b ∨ b ∈ fs := by
  intro as ts vs fs o
  induction o with
  | nil =>
    intro ss is ρ2 σ2 φ2 h hl r2 hf
    cases h
    cases is with
    | nil => exact ⟨φ2, r2, fun _ z => .inl z⟩
    | cons _ _ => simp at hl
  | @cons a as t ts v vs f g o os dj ih =>
    intro ss is ρ2 σ2 φ2 h hl r2 hf
    obtain ⟨s, ss', rfl, hs, tm⟩ : ∃ s ss', ss = s :: ss' ∧ resS as ts ρ = some ss' ∧ Tmp K G H s v f φ2 := by
      cases a with
      | pl i =>
        obtain ⟨rfl, hv⟩ := o
        rw [resS] at h
        split at h
        · rename_i d ds e1 e2
          cases h
          obtain ⟨w, hw, q⟩ := r.at (i := i) (by rw [e1]; exact fun z => nomatch z)
          rw [hv] at hw
          cases hw
          rw [e1] at q
          exact ⟨_, _, rfl, e2, ⟨q.1, rfl⟩, (fun _ z => nomatch z), fun _ z => nomatch z⟩
        · cases h
      | e x =>
        obtain ⟨s, rfl, q⟩ := o
        rw [resS] at h
        split at h
        · rename_i ds e2
          cases h
          exact ⟨_, _, rfl, e2, q, fun b hb => (hf b (List.mem_append_left _ hb)).1, fun b hb => (hf b (List.mem_append_left _ hb)).2⟩
        · cases h
    cases is with
    | nil => simp at hl
    | cons i is =>
      have sub : ∀ b, own (upf φ2 i (if i < ρ2.length then f else [])) b → own φ2 b ∨ b ∈ f := fun b z => by
        rcases own_upf z with y | y
        · split at y
          · exact .inr y
          · cases y
        · exact .inl y
      obtain ⟨φ3, r3, o3⟩ := ih (is := is) hs (by simpa using hl) (r2.store (i := i) tm) fun b hb => ⟨(hf b (List.mem_append_right _ hb)).1, fun z => (sub b z).elim (hf b (List.mem_append_right _ hb)).2 fun y => dj b y hb⟩
      refine ⟨φ3, r3, fun b z => ?_⟩
      rcases o3 b z with y | y
      · exact (sub b y).imp id (List.mem_append_left _)
      · exact .inr (List.mem_append_right _ y)
theorem par_ok {a : List Nat} {is : List Nat} {as : List A} {σ : L2.St} {H : Hp} {D : Ends} (ha : ∀ i ∈ is, i ∈ a) (h : tS X.K xr W a (evS Φ (.par is as)) D σ H) {Q : List V → Hp → Prop} (hQ : ∀ vs H', vs.length = as.length → D.nx (setsV is vs σ) H' → Q vs H') : tAs X.K xr W Φ as σ H Q := by
  obtain ⟨ρ, G, φ, r, q⟩ := h
  rw [evS] at q
  refine thens_ok r q fun ts ρ' vs G' H' φ' fs r' o hf st q' => ?_
  split at q'
  · rename_i ss hs
    split at q'
    · rename_i hl
      obtain ⟨φ3, r3, o3⟩ := sets_S r' o hs hl r' hf
      exact hQ vs H' o.len (PoS.nx q' (Keep.sets ha) r3 (st.weak o3))
    · exact q'.elim
  · exact q'.elim
theorem tSets_V {K : PySem.W.Frag} {Q : L2.St → Hp → Prop} {H : Hp} : ∀ {is : List Nat} {vs : List V} {σ : L2.St}, is.length = vs.length → Q (setsV is vs σ) H → tSets K is vs σ H Q
  | [], [], _, _, q => ⟨rfl, q⟩
  | [], _ :: _, _, h, _ => by simp at h
  | _ :: _, [], _, h, _ => by simp at h
  | i :: is, v :: vs, σ, h, q => ⟨v, vs, rfl, tSets_V (is := is) (by simpa using h) q⟩
theorem parT_ok {a : List Nat} {is : List Nat} {as : List A} {σ : L2.St} {H : Hp} {D : Ends} (hl : is.length < 100) (hw : is.length = as.length) (ha : ∀ i ∈ is, i ∈ a) (h : tS X.K xr W a (evS Φ (.par is as)) D σ H) : tAsg (tTup (tAs X.K xr W Φ as)) (gTup X.K is.length (tSets X.K is)) D σ H := by
  have hz : (100 : Nat) ≤ sizeLine := by decide
  obtain ⟨ρ, G, φ, r, q⟩ := h
  rw [evS] at q
  refine thens_ok r q fun ts ρ' vs G' H' φ' fs r' o hf st q' => ?_
  split at q'
  · rename_i ss hs
    split at q'
    · rename_i hl2
      obtain ⟨φ3, r3, o3⟩ := sets_S r' o hs hl2 r' hf
      have ol := o.len
      refine ⟨by omega, fun p hp => ⟨p, vs, rfl, .inl (.inl upd_same), by omega, tSets_V (by omega) ?_⟩⟩
      refine PoS.nx q' (Keep.sets ha) (r3.newH hp) ((st.trans (Stp.newH hp)).weak fun b z => ?_)
      exact .inl (o3 b z)
    · exact q'.elim
  · exact q'.elim
theorem unp_ok {a : List Nat} {is : List Nat} {x : E} {σ : L2.St} {H : Hp} {D : Ends} (ha : ∀ i ∈ is, i ∈ a) (h : tS X.K xr W a (evS Φ (.unp is x)) D σ H) : tAsg (tE X.K xr W (evE Φ x)) (gTup X.K is.length (tSets X.K is)) D σ H := by
  obtain ⟨ρ, G, φ, r, q⟩ := h
  rw [evS] at q
  refine then_ok r q fun s ρ' v G' H' φ' f r' t st q' => ?_
  split at q'
  · rename_i d hd
    split at q'
    · rename_i ds hu
      unfold unpk at hu
      split at hu
      · split at hu
        · rename_i ds' hl
          cases hu
          obtain ⟨p, vs, rfl, h1, h2⟩ := (VW.of t.rel hd).tuple
          refine ⟨p, vs, rfl, Same.seqT r'.gh h1, by rw [h2.length]; exact hl, ?_⟩
          refine sets_ok (by rw [h2.length]; exact hl.symm) h2 r' fun σ' l k _ r2 => ?_
          exact PoS.nx q' ⟨l, fun j hj => k j fun z => hj (ha j z)⟩ r2 (st.weak fun b z => .inl (own_dropF z))
        · cases hu
      · cases hu
    · exact q'.elim
  · exact q'.elim
theorem thens_eq {K : PySem.W.Frag} {a : List Nat} {σ : L2.St} {G H : Hp} {φ : Nat → List Addr} {ρ : List S} {D : Ends} {as : List A} {k : List (Option S) → List S → R F} {Q : List V → Hp → Prop} (r : SR K G H ρ σ φ) (h : PoS K xr W a σ G H φ ((evAs Φ as ρ).bnd k) D)
    (hk : ∀ ts ρ' vs G' H' φ' fs, evAs Φ as ρ = .ok ts ρ' → SR K G' H' ρ' σ φ' → Ops K G' H' σ as ts vs fs → (∀ a ∈ fs, G' a = none ∧ ¬ own φ' a) → Stp G H (own φ) G' H' (fun b => own φ' b ∨ b ∈ fs) → Q vs H') : tAs K xr W Φ as σ H Q := by
  refine ops as ρ G H φ Q r ?_
  cases e : evAs Φ as ρ with
  | stk => rw [e] at h; exact h
  | exc c d ρ' =>
    rw [e] at h
    exact fun G' H' φ' cls dd st r' x => h σ G' H' φ' cls dd .refl st r' x
  | ok ts ρ' => exact fun vs G' H' φ' fs st r' o hf => hk ts ρ' vs G' H' φ' fs e r' o hf st
theorem setit_ok {a : List Nat} {i : Nat} {k : A} {x : E} {σ : L2.St} {H : Hp} {D : Ends} (h : tS X.K xr W a (evS Φ (.setit i k x)) D σ H) : tAsg (tE X.K xr W (evE Φ x)) (gSub (tVar i) (tA X.K xr W Φ k) rSetL) D σ H := by
  obtain ⟨ρ, G, φ, r, q⟩ := h
  rw [evS] at q
  refine then_ok r q fun s ρ1 v G1 H1 φ1 f r1 t1 st1 q1 => ?_
  split at q1
  · rename_i xs0 e0
    obtain ⟨w, hw, q2⟩ := r1.at (i := i) (by rw [e0]; exact fun z => nomatch z)
    refine ⟨w, hw, ?_⟩
    have key : tAs X.K xr W Φ [k] σ H1 (fun vs H2 => match vs with
        | [y] => rSetL w y v H2 fun H3 => D.nx σ H3
        | _ => False) := by
      have q3 : PoS X.K xr W a σ G1 H1 φ1 ((evAs Φ [k] ρ1).bnd fun ts ρ'' => match ts with
          | [t] => (match view s, res k (t.bind view) ρ'', slot ρ'' i with
            | some d, some (.int j), .lst xs => match ixN xs.length j with
              | some n => .ok .nx (ρ''.set i (.lst (xs.set n d)))
              | none => .stk
            | _, _, _ => .stk)
          | _ => .stk) D := by
        have q2 := q1.from (st1.weak fun _ z => .inl z) .refl fun _ z => z
        simp only [evAs]
        cases e1 : evA Φ k ρ1 with
        | stk => rw [e1] at q2; exact q2
        | exc _ _ _ => rw [e1] at q2; exact q2
        | ok t ρ2 => rw [e1] at q2; exact q2
      refine thens_eq r1 q3 fun ts ρ2 vs G2 H2 φ2 fs eq r2 o hf st2 => ?_
      obtain ⟨t, y, g, rfl, rfl, oy, rfl⟩ := o.one
      have q4 := q1
      simp only [evAs] at eq
      cases e1 : evA Φ k ρ1 with
      | stk => rw [e1] at eq; cases eq
      | exc _ _ _ => rw [e1] at eq; cases eq
      | ok t' ρ2' =>
      rw [e1] at eq q4
      simp only [R.bnd_ok] at eq q4
      cases eq
      split at q4
      · rename_i d j xs ev ek es
        have hy := (oy.vw r2 ek).int
        subst hy
        split at q4
        · rename_i n hn
          obtain ⟨p1, p2, p3⟩ := t1.frame st2 t1.off
          have t2 : Tmp X.K G2 H2 s v f φ2 := ⟨p1, p2, fun b hb z => p3 b hb (.inl z)⟩
          obtain ⟨G3, st3, r3, hd3, _⟩ := t2.freeze r2 ev
          obtain ⟨w2, hw2, q5⟩ := r3.at (i := i) (by rw [es]; exact fun z => nomatch z)
          rw [hw] at hw2
          cases hw2
          rw [es] at q5
          obtain ⟨p, us, rfl, hp, hdu, hfu⟩ := q5
          obtain ⟨st4, r4⟩ := write_lst r3 hw (slot_lt (by rw [es]; exact fun z => nomatch z)) hfu (hdu.set hd3 n)
          refine ⟨p, us, j, n, rfl, rfl, hp, by rw [hdu.length]; exact hn, ?_⟩
          have f1 : ∀ b, b ∈ f → ¬ own φ1 b ∧ H1 b ≠ none := fun b hb => ⟨t1.off b hb, by obtain ⟨o, e⟩ := t1.rel.here b hb; rw [e]; exact fun z => nomatch z⟩
          have st2' : Stp G H (own φ) G2 H2 (fun b => own φ2 b ∨ b ∈ f) := (st1.trans (st2.frame f1)).weak fun b z => z.imp .inl id
          exact PoS.nx q4 .refl r4 ((st2'.trans st3).trans st4)
        · exact q4.elim
      · exact q4.elim
    exact key
  · exact q1.elim
/-- d[k] = x, k a tuple -/
theorem setd_ok {a : List Nat} {i : Nat} {k : A} {x : E} {σ : L2.St} {H : Hp} {D : Ends} (h : tS X.K xr W a (evS Φ (.setd i k x)) D σ H) : sDPut (tVar i) (tA X.K xr W Φ k) (tE X.K xr W (evE Φ x)) D σ H := by
  obtain ⟨ρ, G, φ, r, q⟩ := h
  rw [evS] at q
  refine then_ok r q fun s ρ1 v G1 H1 φ1 f r1 t1 st1 q1 => ?_
  split at q1
  · rename_i xs0 e0
    obtain ⟨w, hw, q2⟩ := r1.at (i := i) (by rw [e0]; exact fun z => nomatch z)
    refine ⟨w, hw, ?_⟩
    have key : tAs X.K xr W Φ [k] σ H1 (fun vs H2 => match vs with
        | [y] => ∃ a H4, w = .ref a ∧ DPut H2 a y v H4 ∧ D.nx σ H4
        | _ => False) := by
      have q3 : PoS X.K xr W a σ G1 H1 φ1 ((evAs Φ [k] ρ1).bnd fun ts ρ'' => match ts with
          | [t] => (match view s, resV [k] [t] ρ'', slot ρ'' i with
            | some d, some [.tuple ks], .dtt kvs => match keysL ks with
              | some kk => if kvs.length < sizeLine then .ok .nx (ρ''.set i (.dtt (putT kvs kk d))) else .stk
              | none => .stk
            | _, _, _ => .stk)
          | _ => .stk) D := by
        have q2 := q1.from (st1.weak fun _ z => .inl z) .refl fun _ z => z
        simp only [evAs]
        cases e1 : evA Φ k ρ1 with
        | stk => rw [e1] at q2; exact q2
        | exc _ _ _ => rw [e1] at q2; exact q2
        | ok t ρ2 => rw [e1] at q2; exact q2
      refine thens_eq r1 q3 fun ts ρ2 vs G2 H2 φ2 fs eq r2 o hf st2 => ?_
      have o' := o
      obtain ⟨t, y, g, rfl, rfl, oy, rfl⟩ := o'.one
      have q4 := q1
      simp only [evAs] at eq
      cases e1 : evA Φ k ρ1 with
      | stk => rw [e1] at eq; cases eq
      | exc _ _ _ => rw [e1] at eq; cases eq
      | ok t' ρ2' =>
      rw [e1] at eq q4
      simp only [R.bnd_ok] at eq q4
      cases eq
      split at q4
      · rename_i d ks kvs ev ek es
        split at q4
        · rename_i kk hkk
          split at q4
          · rename_i hz
            obtain ⟨G5, st5, r5, hdk, _⟩ := o.freeze r2 hf ek
            cases hdk with
            | cons p1 p2 =>
              cases p2
              cases p1 with
              | tup g1 g2 =>
                obtain ⟨rfl, rfl⟩ := keysL_dps g2 hkk
                have st25 := st2.trans st5
                obtain ⟨p1, p2, p3⟩ := t1.frame st25 t1.off
                have t2 : Tmp X.K G5 H2 s v f φ2 := ⟨p1, p2, p3⟩
                obtain ⟨G3, st3, r3, hd3, _⟩ := t2.freeze r5 ev
                obtain ⟨w2, hw2, q5⟩ := r3.at (i := i) (by rw [es]; exact fun z => nomatch z)
                rw [hw] at hw2
                cases hw2
                rw [es] at q5
                obtain ⟨p, rfl, hfu, kv, hp, hdu⟩ := q5
                obtain ⟨st4, r4⟩ := write_dtt r3 hw (slot_lt (by rw [es]; exact fun z => nomatch z)) hfu (hdu.put (k := kk) hd3)
                refine ⟨p, _, rfl, .inr ⟨kv, kk, _, hp, rfl, r5.gh _ _ g1, by rw [hdu.length]; exact hz, rfl⟩, ?_⟩
                have f1 : ∀ b, b ∈ f → ¬ own φ1 b ∧ H1 b ≠ none := fun b hb => ⟨t1.off b hb, by obtain ⟨o, e⟩ := t1.rel.here b hb; rw [e]; exact fun z => nomatch z⟩
                have st2' : Stp G H (own φ) G5 H2 (fun b => own φ2 b ∨ b ∈ f) := (st1.trans (st25.frame f1))
                exact PoS.nx q4 .refl r4 ((st2'.trans st3).trans st4)
          · exact q4.elim
        · exact q4.elim
      · exact q4.elim
    exact key
  · exact q1.elim
/-! ### name op= e -/
def rAug (o : Bop) : V → V → Hp → VK → Prop := fun x y H Q => ∃ a b c, x = .int a ∧ y = .int b ∧ opAug o (.int a) (.int b) = some c ∧ Q (.int c) H
theorem pip_aug (o : Bop) : PIp X (srcB o) (rAug o) := by
  intro pins s σ H x y v u Q I rx ry h
  obtain ⟨a, b, c, rfl, rfl, e, q⟩ := h
  cases o with
  | add =>
    cases e
    exact ip_add pins s σ H _ _ v u Q I rx ry ⟨_, _, rfl, rfl, q⟩
  | sub =>
    cases e
    exact ip_sub pins s σ H _ _ v u Q I rx ry ⟨_, _, rfl, rfl, q⟩
  | mul =>
    have e : (if (decide (a.natAbs < 2 ^ 64) || decide (b.natAbs < 2 ^ 64)) = true then some (a * b) else none) = some c := e
    split at e
    · rename_i hc
      cases e
      simp only [Bool.or_eq_true, decide_eq_true_eq] at hc
      rcases hc with hc | hc
      · exact iop_mul pins s σ H _ _ v u Q I rx ry ⟨_, _, rfl, rfl, .inl (by omega), q⟩
      · exact iop_mul pins s σ H _ _ v u Q I rx ry ⟨_, _, rfl, rfl, .inr (by omega), q⟩
    · cases e
  | _ => cases e
theorem aug_ok {a : List Nat} {i : Nat} {o : Bop} {x : A} {σ : L2.St} {H : Hp} {D : Ends} (ha : i ∈ a) (h : tS X.K xr W a (evS Φ (.aug i o x)) D σ H) : tAug i (tA X.K xr W Φ x) (rAug o) D σ H := by
  obtain ⟨ρ, G, φ, r, q⟩ := h
  rw [evS] at q
  split at q
  · rename_i d hd
    obtain ⟨v, hv, q2⟩ := r.at (i := i) (by rw [hd]; exact fun z => nomatch z)
    rw [hd] at q2
    refine ⟨v, hv, ?_⟩
    have q3 : PoS X.K xr W a σ G H φ ((evAs Φ [x] ρ).bnd fun ts ρ' => match ts with
        | [t] => (match res x (t.bind view) ρ' with
          | some d' => match opAug o d d' with
            | some c => .ok .nx (ρ'.set i (.val (.int c)))
            | none => .stk
          | none => .stk)
        | _ => .stk) D := by
      simp only [evAs]
      cases e1 : evA Φ x ρ with
      | stk => rw [e1] at q; exact q
      | exc _ _ _ => rw [e1] at q; exact q
      | ok t ρ2 => rw [e1] at q; exact q
    have key : tAs X.K xr W Φ [x] σ H (fun vs H1 => match vs with
        | [y] => rAug o v y H1 fun z H2 => D.nx (σ.set i (some z)) H2
        | _ => False) := by
      refine thens_ok r q3 fun ts ρ' vs G' H' φ' fs r' op hf st q4 => ?_
      obtain ⟨t, y, g, rfl, rfl, oy, rfl⟩ := op.one
      simp only at q4
      split at q4
      · rename_i d' hd'
        have vy := oy.vw r' hd'
        split at q4
        · rename_i c hc
          obtain ⟨m, n, rfl, rfl⟩ : ∃ m n, d = .int m ∧ d' = .int n := by
            unfold opAug at hc
            split at hc
            · exact ⟨_, _, rfl, rfl⟩
            · exact ⟨_, _, rfl, rfl⟩
            · exact ⟨_, _, rfl, rfl⟩
            · cases hc
          have e1 : v = .int m := by
            have z := q2.1
            cases z
            rfl
          have e2 := vy.int
          subst e1 e2
          refine ⟨m, n, c, rfl, rfl, hc, ?_⟩
          have tm : Tmp X.K G' H' (.val (.int c)) (.int c) [] φ' := ⟨⟨.int c, rfl⟩, (fun _ z => nomatch z), fun _ z => nomatch z⟩
          refine PoS.nx q4 (Keep.set ha) (r'.store (i := i) tm) (st.weak fun b z => ?_)
          rcases own_upf z with y | y
          · split at y <;> cases y
          · exact .inl y
        · exact q4.elim
      · exact q4.elim
    exact key
  · exact q.elim
end
end VE

/-! VS14: the look at statements is right. -/
namespace VE
open PySem L2 PySem.Spec PyProof.Rows
section
variable {C : Ck} {Φ : Fns} {xr : XR} {sc : Scope} {X : Cx} {W : WX}
theorem tup_assign {ts : List Expr} {k : Nat} {p : Pos} {env : Env} : (assignEach [.Tuple ts k p] env).map (·.2) = [assign (.Tuple ts k p) env] := rfl
theorem sole_tup {ts : List Expr} {k : Nat} {p : Pos} {e : Expr} {l : Nat} {env : Env} (h : notLc e = true) : swapsWithSole [.Tuple ts k p] e l env = pure false := by
  unfold swapsWithSole
  exact swaps_not h
theorem sole_sub {o i : Expr} {p : Pos} {e : Expr} {l : Nat} {env : Env} (h : notLc e = true) : swapsWithSole [.Subscript o i p] e l env = pure false := by
  unfold swapsWithSole
  exact swaps_not h
theorem stores_sub {o i e : Expr} {p : Pos} {env : Env} : swappedStores [.Subscript o i p] e env = pure none := by
  cases e <;> rfl
theorem stores_nt {ts : List Expr} {k : Nat} {p : Pos} {e : Expr} {env : Env} (h : ∀ vs k2 p2, e ≠ .Tuple vs k2 p2) : swappedStores [.Tuple ts k p] e env = pure none := by
  cases e <;> first | rfl | exact absurd rfl (h _ _ _)
theorem subAssign {o i : Expr} {pos : Pos} {env : Env} (h : notSlice i = true) (v : Value) : assign (.Subscript o i pos) env v = (do
      let ov ← holding [v] (eval o env)
      let iv ← holding [v, ov] (eval i env)
      standAt pos
      holding [v, ov, iv] (setItem ov iv v)
      release [v, ov, iv] []) := by
  cases i <;> first | rfl | cases h
theorem isLoc_of {line : Nat} {i : Nat} {e : Expr} (h : isLoc sc line C i e = true) : ∃ x pos, e = .Name x pos ∧ C.N[i]? = some x ∧ sc.names.lookup x = some .local ∧ pos.line = line := by
  unfold isLoc at h
  split at h
  · simp only [Bool.and_eq_true, decide_eq_true_eq, beq_iff_eq] at h
    exact ⟨_, _, rfl, h.1.1, h.1.2, h.2⟩
  · cases h
theorem nodup_ne {l : List Str} (hn : l.Nodup) {i j : Nat} {x y : Str} (hi : l[i]? = some x) (hj : l[j]? = some y) (h : i ≠ j) : x ≠ y := by
  intro e
  subst e
  obtain ⟨h1, h2⟩ := List.getElem?_eq_some_iff.mp hi
  obtain ⟨h3, h4⟩ := List.getElem?_eq_some_iff.mp hj
  exact h ((List.getElem_inj hn).mp (h2.trans h4.symm))
theorem Cok.suite (c : Cok C Φ xr sc X) (a : Addr) (pn : List (Addr × Obj)) : Cok (hotC C) Φ xr sc (X.suite a pn) where
  N := c.N
  nd := c.nd
  sc := c.sc
  calm := fun z => nomatch z
  xk := c.xk
  xo := c.xo
  xi := fun _ z => nomatch z
  ve := c.ve
  gd := c.gd
  hu := c.hu
  fns := fun f x n z => by cases f <;> cases z
  ms := fun _ _ _ _ z => nomatch z
  mks := fun _ _ _ z => nomatch z
  hfs := fun i x n z => by cases i <;> cases z
  gls := c.gls
  blt := c.blt
theorem Sok.tr (c : Sok C Φ xr sc X W) {W' : WX} {pn : List (Addr × Obj)} {xe : Value → Shared → Prop} (tk : L2N.Takes (X.tr pn xe) W') (po : PassesOwn (model X.prog X.w) X.A X.env xe) : Sok C Φ xr sc (X.tr pn xe) W' where
  toCok := {
    N := c.toCok.N
    nd := c.toCok.nd
    sc := c.toCok.sc
    calm := c.toCok.calm
    xk := c.toCok.xk
    xo := c.toCok.xo
    xi := c.toCok.xi
    ve := c.toCok.ve
    gd := c.toCok.gd
    hu := c.toCok.hu
    fns := c.toCok.fns
    ms := c.toCok.ms
    mks := c.toCok.mks
    hfs := c.toCok.hfs
    gls := c.toCok.gls
    blt := c.toCok.blt }
  cool := c.cool
  stk := c.stk
  frm := c.frm
  kind := c.kind
  fn := c.fn
  tk := tk
  po := po
abbrev W0 : WX := fun _ _ _ _ => False
theorem takesF {X : Cx} : L2N.Takes X W0 := fun _ _ ⟨_, _, _, _, _, _, _, _, _, _, _, _, _, _, _, _, w⟩ => w.elim
theorem evSs_one {s : St} {ρ : List S} : evSs Φ [s] ρ = evS Φ s ρ := by
  rw [evSs]
  cases evS Φ s ρ with
  | stk => rfl
  | exc _ _ _ => rfl
  | ok f ρ' => cases f <;> simp [evSs]
theorem slot_dead {ρ : List S} {i : Nat} : slot (ρ.set i .dead) i = .dead := by
  by_cases h : i < ρ.length
  · rw [slot_set, if_pos ⟨rfl, h⟩]
  · unfold slot
    rw [List.getD_eq_getElem?_getD, List.getElem?_eq_none (by rw [List.length_set]; omega)]
    rfl
/-- what is wanted of a suite that keeps the error at a in slot i -/
def tErr (K : PySem.W.Frag) (xr : XR) (i : Nat) (a : Addr) (as : List Nat) (ev : List S → R F) : TS := fun D σ H => ∃ ρ G φ oe u, SR K G H ρ σ φ ∧ G a = some (.frz oe u) ∧ CtxO oe ∧ (i < σ.length → σ[i]? = some (some (.ref a))) ∧ PoS K xr W0 as σ G H φ (ev ρ) D
theorem tErr.tS {K : PySem.W.Frag} {i : Nat} {a : Addr} {as : List Nat} {ev : List S → R F} {D : Ends} {σ : L2.St} {H : Hp} (h : tErr K xr i a as ev D σ H) : VE.tS K xr W0 as ev D σ H := by
  obtain ⟨ρ, G, φ, oe, u, r, _, _, _, q⟩ := h
  exact ⟨ρ, G, φ, r, q⟩
/-- a suite -/
theorem U1_ok (c : Sok C Φ xr sc X W) {i : Nat} {us : List St} {ss : List Stmt} (h : ckU1 C sc i us ss = true) (a : Addr) (pn : List (Addr × Obj)) : PSs (CxA X a pn) ss (tErr X.K xr i a (asgSs us) (evSs Φ us)) := by
  unfold ckU1 at h
  have cc := c.toCok.suite a pn
  split at h
  · rename_i j f l y py g q e cpos pos
    simp only [Bool.and_eq_true, decide_eq_true_eq] at h
    obtain ⟨⟨⟨⟨⟨⟨⟨rfl, h300⟩, hf⟩, hi⟩, hl⟩, hg⟩, hst⟩, hn⟩ := h
    obtain ⟨k, ad, fd, ps, F, rm, hm, hk, hb⟩ := c.toCok.hfs _ _ _ hf
    rw [show 300 + (f - 300) = f by omega] at F
    obtain ⟨hgl, hdb⟩ := gl_of cc hg
    have hj : j ∈ asgS (.asg j (.call f [.pl l])) := List.mem_singleton.mpr rfl
    have pe := pe_callGH (X := CxA X a pn) (a := a) (E := fun σ => WEx W0 σ) (p := q) (pos := cpos) F ⟨rm.dp, rm.un⟩ c.toCok.gd rfl hgl hm hk hb (fun σ => L2N.passAt takesF σ) (isNm_ok cc hn) hdb (star1 hst [])
    have p1 := ps_set (X := CxA X a pn) (pos := pos) (pos' := py) (by show X.N.Nodup; exact c.nodup) (by show X.N[j]? = some y; rw [c.toCok.N]; exact hi) (c.lc y hl).1 pe (swaps_not rfl) (.inl (c.fn y))
    refine PSs.imp (pss_one p1) fun D σ H ⟨ρ, G, φ, oe, u, r, ga, cx, _, z⟩ => ?_
    rw [evSs_one] at z
    obtain ⟨ρ2, G2, φ2, r2, z2⟩ := asg_ok hj ⟨ρ, G, φ, r, z⟩
    obtain ⟨v, hv, hsp⟩ := callE_ok r2 z2
    exact ⟨v, hv, ⟨oe, u, r.gh _ _ ga, cx⟩, hsp⟩
  · rename_i j x y py e pos _
    simp only [Bool.and_eq_true, decide_eq_true_eq] at h
    obtain ⟨⟨⟨hi, hl⟩, he⟩, hn⟩ := h
    have hm : j ∈ asgS (.asg j x) := List.mem_singleton.mpr rfl
    have p1 := ps_set (X := CxA X a pn) (pos := pos) (pos' := py) (by show X.N.Nodup; exact c.nodup) (by show X.N[j]? = some y; rw [c.toCok.N]; exact hi) (c.lc y hl).1 (E_ok x e sc (CxA X a pn) W0 cc takesF he) (swaps_not hn) (.inl (c.fn y))
    refine PSs.imp (pss_one p1) fun D σ H z => ?_
    obtain ⟨ρ, G, φ, r, q⟩ := z.tS
    refine asg_ok hm ⟨ρ, G, φ, r, ?_⟩
    rw [evSs_one] at q
    exact q
  · rename_i x e pos
    refine PSs.imp (pss_one (ps_ret (E_ok x e sc (CxA X a pn) W0 cc takesF h))) fun D σ H z => ?_
    obtain ⟨ρ, G, φ, r, q⟩ := z.tS
    rw [evSs_one, evS] at q
    exact then_ok r q fun s ρ' v G' H' φ' f r' t st q' => q' σ G' H' φ' .refl r' v f st t
  · cases h
/-- an error that comes out of a try's body, by its class -/
theorem err_of (c : Cok C Φ xr sc X) {ad : Nat → Addr} (x1 : ∀ c ∈ C.xc, XCls X.K X.mg c (ad c)) {c' : Nat} {o : Option Int} {cls : Value} {dd : Option Addr} {G : Hp} (m : c' ∈ C.xc) (x : xr c' o cls dd G) : cls = .ref (ad c') ∧ ErrF G c' o dd := by
  rw [c.xk] at x
  obtain ⟨Cc, n1, rfl, f1⟩ := x
  have z := (x1 c' m).ns.symm.trans n1
  injection z with z
  injection z with z
  injection z with z
  exact ⟨by rw [z], f1⟩
theorem tryC_ok (c : Sok C Φ xr sc X W) {ad : Nat → Addr} (x1 : ∀ c ∈ C.xc, XCls X.K X.mg c (ad c)) (x2 : ∀ c' ∈ C.xc, ∀ c ∈ C.xc, PySem.W.subIn X.K (.ref (ad c')) (.ref (ad c)) = some (subX c' c)) {b : List St} {k : Nat} {d : PyData} (hk : k ∈ C.xc) {D : Ends} {σ : L2.St} {H : Hp}
    (h : tS X.K xr W (asgS (.tryC b k C.xc d)) (evS Φ (.tryC b k C.xc d)) D σ H) :
    tS X.K xr (wOnly X.K (.ref (ad k)) (fun _ _ _ => tS X.K xr W0 [] (evS Φ (.ret (.cst d)))) W D) (asgSs b) (evSs Φ b) D σ H := by
  obtain ⟨ρ, G, φ, r, q⟩ := h
  refine ⟨ρ, G, φ, r, ?_⟩
  rw [evS] at q
  cases e : evSs Φ b ρ with
  | stk => rw [e] at q; exact q
  | ok f ρ' =>
    rw [e] at q
    exact q
  | exc c' o ρ' =>
    rw [e] at q
    simp only at q
    intro σ' G' H' φ' cls dd kp st r' x
    by_cases m : c' ∈ C.xc
    case neg => rw [if_neg m] at q; exact q.elim
    rw [if_pos m] at q
    obtain ⟨rfl, f1⟩ := err_of c.toCok x1 m x
    have xk := x1 k hk
    refine ⟨subX c' k, PySem.W.exm_ref xk.be xk.hd xk.ty (x2 c' m k hk), fun hb a ha => ?_, fun hb => ?_⟩
    · rw [if_pos hb] at q
      refine ⟨ρ', G', φ', r', ?_⟩
      intro σ2 G2 H2 φ2 k2 r2 v f st2 t2
      exact q σ2 G2 H2 φ2 (kp.trans (k2.mono fun i hi => nomatch hi)) r2 v f (st.trans st2) t2
    · rw [if_neg (by rw [hb]; exact Bool.false_ne_true)] at q
      exact q σ' G' H' φ' _ dd kp st r' x
theorem tryA_ok (c : Sok C Φ xr sc X W) {ad : Nat → Addr} (x1 : ∀ c ∈ C.xc, XCls X.K X.mg c (ad c)) (x2 : ∀ c' ∈ C.xc, ∀ c ∈ C.xc, PySem.W.subIn X.K (.ref (ad c')) (.ref (ad c)) = some (subX c' c)) {b u : List St} {k i : Nat} (hk : k ∈ C.xc) {D : Ends} {σ : L2.St} {H : Hp}
    (h : tS X.K xr W (asgS (.tryA b k C.xc i u)) (evS Φ (.tryA b k C.xc i u)) D σ H) :
    tS X.K xr (wAd X.K (.ref (ad k)) i (fun a => tErr X.K xr i a (asgSs u) (evSs Φ u)) W D) (asgSs b) (evSs Φ b) D σ H := by
  obtain ⟨ρ, G, φ, r, q⟩ := h
  refine ⟨ρ, G, φ, r, ?_⟩
  have hi0 : i ∈ asgS (.tryA b k C.xc i u) := List.mem_cons_self
  have hb0 : ∀ j ∈ asgSs b, j ∈ asgS (.tryA b k C.xc i u) := fun j hj => List.mem_cons_of_mem _ (List.mem_append_left _ hj)
  have hu0 : ∀ j ∈ asgSs u, j ∈ asgS (.tryA b k C.xc i u) := fun j hj => List.mem_cons_of_mem _ (List.mem_append_right _ hj)
  rw [evS] at q
  cases e : evSs Φ b ρ with
  | stk => rw [e] at q; exact q
  | ok f ρ' =>
    rw [e] at q
    exact q.from Stp.refl .refl hb0
  | exc c' o ρ' =>
    rw [e] at q
    simp only at q
    intro σ' G' H' φ' cls dd kp st r' x
    by_cases m : c' ∈ C.xc
    case neg => rw [if_neg m] at q; exact q.elim
    rw [if_pos m] at q
    obtain ⟨rfl, f1⟩ := err_of c.toCok x1 m x
    have xk := x1 k hk
    refine ⟨subX c' k, PySem.W.exm_ref xk.be xk.hd xk.ty (x2 c' m k hk), fun hb a oe ha cx => ?_, fun hb => ?_⟩
    · rw [if_pos hb] at q
      have r1 := r'.newG (o := .frz oe (.ext (ErrP (.ref (ad c')) dd a))) ha
      have gn : G' a = none := r'.gh.free ha
      have dp : DP X.K (upd G' a (.frz oe (.ext (ErrP (.ref (ad c')) dd a)))) (.ref a) (exD c' o) := .err (x1 c' m).ns ⟨_, upd_same⟩ errP (f1.mono (Same.upd_new gn))
      have r2 := r1.store (i := i) (s := .val (exD c' o)) (v := .ref a) (f := []) ⟨⟨dp, rfl⟩, (fun _ z => nomatch z), fun _ z => nomatch z⟩
      rw [upf_nil_if] at r2
      have st1 : Stp G H (own φ) (upd G' a (.frz oe (.ext (ErrP (.ref (ad c')) dd a)))) (upd H' a (.frz oe (.ext (ErrP (.ref (ad c')) dd a)))) (own (upf φ' i [])) :=
        (st.trans (Stp.newG r'.gh ha)).weak fun b hb => (own_upf hb).elim (fun z => nomatch z) id
      refine ⟨ρ'.set i (.val (exD c' o)), _, _, oe, _, r2, upd_same, cx, ?_, ?_⟩
      · intro hi
        exact List.getElem?_set_self (by rw [List.length_set] at hi; exact hi)
      cases eu : evSs Φ u (ρ'.set i (.val (exD c' o))) with
      | stk => rw [eu] at q; exact q.elim
      | exc _ _ _ => rw [eu] at q; exact q.elim
      | ok f ρ2 =>
        rw [eu] at q
        simp only at q
        intro σ2 G2 H2 φ2 k2 r3
        have kk : Keep (asgS (.tryA b k C.xc i u)) σ σ2 := ((kp.mono hb0).trans (Keep.set hi0)).trans (k2.mono hu0)
        have kn : Keep (asgS (.tryA b k C.xc i u)) σ (σ2.set i none) := kk.trans (Keep.set hi0)
        have r4 : SR X.K G2 H2 (ρ2.set i .dead) (σ2.set i none) (upf φ2 i []) := (r3.drop (i := i)).chg (by rw [List.length_set]) fun j hj => by
          refine List.getElem?_set_ne fun z => hj ?_
          subst z
          exact slot_dead
        have wk : ∀ b, own (upf φ2 i []) b → own φ2 b := fun b hb => (own_upf hb).elim (fun z => nomatch z) id
        cases f with
        | nx => exact fun st2 => q _ G2 H2 _ kn r4 ((st1.trans st2).weak wk)
        | brk => exact fun st2 => q _ G2 H2 _ kn r4 ((st1.trans st2).weak wk)
        | cont => exact fun st2 => q _ G2 H2 _ kn r4 ((st1.trans st2).weak wk)
        | ret s => exact fun v f st2 t2 => q _ G2 H2 _ kn r4 v f ((st1.trans st2).weak fun b hb => hb.imp (wk b) id) ⟨t2.rel, t2.gn, fun a ha z => t2.off a ha (wk a z)⟩
    · rw [if_neg (by rw [hb]; exact Bool.false_ne_true)] at q
      exact q σ' G' H' φ' _ dd (kp.mono hb0) st r' x
mutual
theorem S_ok : ∀ (p : St) (s : Stmt) (X : Cx) (W : WX), Sok C Φ xr sc X W → ckS C sc p s = true → PS X s (tS X.K xr W (asgS p) (evS Φ p))
  | .expr x, s, X, W, c, h => by
    unfold ckS at h
    split at h
    · simp only [Bool.and_eq_true] at h
      refine PS.imp (ps_expr (E_ok x _ sc X W c.toCok c.tk h.2) (swaps_not h.1)) fun D σ H ⟨ρ, G, φ, r, q⟩ => ?_
      rw [evS] at q
      exact then_ok r q fun s ρ' v G' H' φ' f r' t st q' => PoS.nx q' .refl r' (st.weak fun _ z => .inl z)
    · cases h
  | .asg i x, s, X, W, c, h => by
    unfold ckS at h
    split at h
    · rename_i y py e pos
      simp only [Bool.and_eq_true, decide_eq_true_eq, Bool.or_eq_true] at h
      obtain ⟨⟨⟨hi, hl⟩, he⟩, hc⟩ := h
      have hm : i ∈ asgS (.asg i x) := List.mem_singleton.mpr rfl
      have hi' : X.N[i]? = some y := by rw [c.toCok.N]; exact hi
      cases hw : swB sc y py e with
      | false =>
        have hs : swapsWith e (some (.Name y py)) pos.line X.env = pure false := by
          rcases hc with hc | hc
          · exact swaps_not hc
          · cases x with
            | comp t it d x =>
              unfold ckE at he
              split at he
              · rw [swaps_set c.blockK, c.toCok.sc, hw]
              · cases he
            | comp2 t it d t1 it1 d1 x =>
              unfold ckE at he
              split at he
              · rw [swaps_set c.blockK, c.toCok.sc, hw]
              · cases he
            | _ => cases hc
        exact PS.imp (ps_set c.nodup hi' (c.lc y hl).1 (E_ok x e sc X W c.toCok c.tk he) hs (.inl (c.fn y))) fun D σ H q => asg_ok hm q
      | true =>
        rcases hc with hc | hc
        · rw [notLc_swB hc] at hw; cases hw
        · cases x with
          | comp t it d x => exact PS.imp (ps_comp c hi he hw) fun D σ H q => asg_ok hm q
          | comp2 t it d t1 it1 d1 x => exact PS.imp (ps_comp2 c hi he hw) fun D σ H q => asg_ok hm q
          | _ => cases hc
    · cases h
  | .par is xs, s, X, W, c, h => by
    unfold ckS at h
    split at h
    · rename_i ts kt pt vs kv pv pos
      split at h
      · rename_i hw
        simp only [Bool.and_eq_true, decide_eq_true_eq] at h
        obtain ⟨⟨hn, ha⟩, hl⟩ := h
        obtain ⟨h1, h2, h3⟩ := ckNms_ok c.nodup c.toCok.N c.lc hn
        obtain ⟨pa, hst, hlen⟩ := As_ok xs vs sc X W c.toCok c.tk ha
        exact PS.imp (ps_asg (pe_tup pa) (pg_tup (c.toCok.calm c.cool) h1 h2 h3) (sole_tup rfl) (stores_none (by rw [c.toCok.sc]; exact hw)) tup_assign) fun D σ H q => parT_ok hl.1 hl.2 (fun i hi => hi) q
      split at h
      · rename_i i j p q u v hneg
        simp only [Bool.and_eq_true, decide_eq_true_eq] at h
        obtain ⟨⟨⟨⟨hij, hp⟩, hq⟩, ha⟩, hs⟩ := h
        obtain ⟨x, px, rfl, hx, hxl, hpx⟩ := isLoc_of hp
        obtain ⟨y, py, rfl, hy, hyl, hpy⟩ := isLoc_of hq
        have hN := c.toCok.N
        have hsc := c.toCok.sc
        refine PS.imp (ps_par (c.toCok.calm c.cool) c.nodup (by rw [hN]; exact hx) (by rw [hN]; exact hy) hij (by rw [hsc]; exact hxl) (by rw [hsc]; exact hyl) (As_ok xs _ sc X W c.toCok c.tk ha).1
          (stores_two c.blockK (by rw [hsc]; exact hxl) (by rw [hsc]; exact hyl) (by rw [hpy, hpx]) (nodup_ne c.toCok.nd hx hy hij) (by rw [hsc]; exact hs)) (sole_tup rfl)) fun D σ H q => ?_
        have hl := (As_ok xs _ sc X W c.toCok c.tk ha).2.2
        match xs, hl with
        | [a, b], _ =>
          refine par_ok (is := [i, j]) (as := [a, b]) (fun i hi => hi) q fun vs H' hl z => ?_
          match vs, hl with
          | [v, w], _ => exact ⟨v, w, rfl, z⟩
      · rename_i i j l p q r u v w hneg
        simp only [Bool.and_eq_true, decide_eq_true_eq] at h
        obtain ⟨⟨⟨⟨⟨⟨⟨hij, hil⟩, hjl⟩, hp⟩, hq⟩, hr⟩, ha⟩, hs⟩ := h
        obtain ⟨x, px, rfl, hx, hxl, hpx⟩ := isLoc_of hp
        obtain ⟨y, py, rfl, hy, hyl, hpy⟩ := isLoc_of hq
        obtain ⟨z, pz, rfl, hz, hzl, hpz⟩ := isLoc_of hr
        have hN := c.toCok.N
        have hsc := c.toCok.sc
        refine PS.imp (ps_par3 (c.toCok.calm c.cool) c.nodup (by rw [hN]; exact hx) (by rw [hN]; exact hy) (by rw [hN]; exact hz) hij hil hjl (by rw [hsc]; exact hxl) (by rw [hsc]; exact hyl) (by rw [hsc]; exact hzl) (As_ok xs _ sc X W c.toCok c.tk ha).1
          (stores_three c.blockK (by rw [hsc]; exact hxl) (by rw [hsc]; exact hyl) (by rw [hsc]; exact hzl) (by rw [hpy, hpx]) (by rw [hpz, hpx]) (nodup_ne c.toCok.nd hx hy hij) (nodup_ne c.toCok.nd hx hz hil) (nodup_ne c.toCok.nd hy hz hjl) (by rw [hsc]; exact hs)) (sole_tup rfl)) fun D σ H q => ?_
        have hl := (As_ok xs _ sc X W c.toCok c.tk ha).2.2
        match xs, hl with
        | [a, b, d], _ =>
          refine par_ok (is := [i, j, l]) (as := [a, b, d]) (fun i hi => hi) q fun vs H' hl z => ?_
          match vs, hl with
          | [u, v, w], _ => exact ⟨u, v, w, rfl, z⟩
      · cases h
    · cases h
  | .unp is x, s, X, W, c, h => by
    unfold ckS at h
    split at h
    · rename_i ts kt pt e pos
      simp only [Bool.and_eq_true] at h
      obtain ⟨⟨⟨hn, he⟩, hl⟩, hw⟩ := h
      obtain ⟨h1, h2, h3⟩ := ckNms_ok c.nodup c.toCok.N c.lc hn
      refine PS.imp (ps_asg (E_ok x e sc X W c.toCok c.tk he) (pg_tup (c.toCok.calm c.cool) h1 h2 h3) (sole_tup hl) ?_ tup_assign) fun D σ H q => unp_ok (fun i hi => hi) q
      split at hw
      · exact stores_none (by rw [c.toCok.sc]; exact hw)
      · rename_i hnt
        exact stores_nt fun vs k2 p2 z => hnt vs k2 p2 z
    · cases h
  | .setit i k x, s, X, W, c, h => by
    unfold ckS at h
    split at h
    · rename_i y py ie ps e pos
      simp only [Bool.and_eq_true] at h
      obtain ⟨⟨⟨⟨hn, hsl⟩, hk⟩, he⟩, hl⟩ := h
      exact PS.imp (ps_asg (E_ok x e sc X W c.toCok c.tk he) (pg_sub (name_ok c.toCok hn) (A_ok k ie sc X W c.toCok c.tk hk) set_list (subAssign hsl)) (sole_sub hl) stores_sub rfl) fun D σ H q => setit_ok q
    · cases h
  | .pset i π k x, s, X, W, c, h => by
    unfold ckS at h
    split at h
    · rename_i o ie ps e pos
      simp only [Bool.and_eq_true] at h
      obtain ⟨⟨⟨⟨hsl, hp⟩, hk⟩, he⟩, hl⟩ := h
      have p1 := ps_asg (pos := pos) (tg := .Subscript o ie ps) (E_ok x e sc X W c.toCok c.tk he) (pg_sub (pl_ok c.toCok π o hp) (U_ok c.toCok k ie hk) set_list (subAssign hsl)) (sole_sub hl) stores_sub rfl
      have p2 := ps_dput (pos := pos) (pos' := ps) (by have := c.toCok.hu; omega) (pl_ok c.toCok π o hp) (U_ok c.toCok k ie hk) (E_ok x e sc X W c.toCok c.tk he) (swaps_not hl)
      exact ⟨fun pins s σ H D I q => (pset_ok q).elim (p1.run pins s σ H D I) (p2.run pins s σ H D I)⟩
    · cases h
  | .fset i π f x, s, X, W, c, h => by
    unfold ckS at h
    split at h
    · rename_i o nm ps e pos
      simp only [Bool.and_eq_true, decide_eq_true_eq] at h
      obtain ⟨⟨⟨rfl, hp⟩, he⟩, hl⟩ := h
      exact PS.imp (ps_fld (pl_ok c.toCok π o hp) (E_ok x e sc X W c.toCok c.tk he) (swaps_not hl)) fun D σ H q => fset_ok q
    · cases h
  | .setd i k x, s, X, W, c, h => by
    unfold ckS at h
    split at h
    · rename_i y py ie ps e pos
      simp only [Bool.and_eq_true] at h
      obtain ⟨⟨⟨hn, hk⟩, he⟩, hl⟩ := h
      exact PS.imp (ps_dput (by have := c.toCok.hu; omega) (name_ok c.toCok hn) (A_ok k ie sc X W c.toCok c.tk hk) (E_ok x e sc X W c.toCok c.tk he) (swaps_not hl)) fun D σ H q => setd_ok q
    · cases h
  | .aug i o a, s, X, W, c, h => by
    unfold ckS at h
    split at h
    · rename_i y py op e pos
      simp only [Bool.and_eq_true, decide_eq_true_eq] at h
      obtain ⟨⟨⟨rfl, hi⟩, hl⟩, ha⟩ := h
      exact PS.imp (ps_aug c.nodup (by rw [c.toCok.N]; exact hi) (c.lc y hl).1 (A_ok a e sc X W c.toCok c.tk ha) (pip_aug o) (.inl (c.fn y))) fun D σ H q => aug_ok (List.mem_singleton.mpr rfl) q
    · cases h
  | .augl i x, s, X, W, c, h => by
    unfold ckS at h
    split at h
    · rename_i y py op e pos
      simp only [Bool.and_eq_true, decide_eq_true_eq] at h
      obtain ⟨⟨⟨rfl, hi⟩, hl⟩, he⟩ := h
      exact PS.imp (ps_aug c.nodup (by rw [c.toCok.N]; exact hi) (c.lc y hl).1 (E_ok x e sc X W c.toCok c.tk he) iop_ext (.inl (c.fn y))) fun D σ H q => augl_ok q
    · cases h
  | .ret x, s, X, W, c, h => by
    unfold ckS at h
    split at h
    · refine PS.imp (ps_ret (E_ok x _ sc X W c.toCok c.tk h)) fun D σ H ⟨ρ, G, φ, r, q⟩ => ?_
      rw [evS] at q
      exact then_ok r q fun s ρ' v G' H' φ' f r' t st q' => q' σ G' H' φ' .refl r' v f st t
    · cases h
  | .retN, s, X, W, c, h => by
    unfold ckS at h
    split at h
    · refine PS.imp ps_retN fun D σ H ⟨ρ, G, φ, r, q⟩ => ?_
      rw [evS] at q
      exact q σ G H φ .refl r .non [] (Stp.refl.weak fun b z => z.elim id fun y => nomatch y) Tmp.non
    · cases h
  | .ite d a b, s, X, W, c, h => by
    unfold ckS at h
    split at h
    · rename_i t p q pos
      simp only [Bool.and_eq_true] at h
      obtain ⟨⟨⟨h1, h2⟩, h3⟩, h4⟩ := h
      refine PS.imp (ps_if (T_ok d t sc X W c.toCok c.tk h1 h2) (Ss_ok a p X W c h3) (Ss_ok b q X W c h4)) fun D σ H ⟨ρ, G, φ, r, z⟩ => ?_
      rw [evS] at z
      refine test_S (a := asgS (.ite d a b)) (D := D) (k := fun k ρ' => if k = true then evSs Φ a ρ' else evSs Φ b ρ') r z fun k ρ' G' H' φ' r' st z' => ?_
      cases k with
      | true =>
        rw [if_pos rfl] at z' ⊢
        exact ⟨ρ', G', φ', r', z'.from Stp.refl .refl fun i hi => List.mem_append_left _ hi⟩
      | false =>
        rw [if_neg Bool.false_ne_true] at z' ⊢
        exact ⟨ρ', G', φ', r', z'.from Stp.refl .refl fun i hi => List.mem_append_right _ hi⟩
    · cases h
  | .for_ t it hd b, s, X, W, c, h => by
    unfold ckS at h
    split at h
    · rename_i tg iter body pos
      simp only [Bool.and_eq_true] at h
      obtain ⟨⟨⟨⟨h1, h2⟩, h3⟩, h4⟩, h5⟩ := h
      refine PS.imp (ps_for c.po (c.toCok.calm c.cool) (It_ok it tg iter sc X W c.toCok c.tk h1) (ckTg_ok (c.toCok.calm c.cool) c.nodup c.toCok.N c.lc h3) (Ss_ok b body X W c h4) (folded h2)) fun D σ H ⟨ρ, G, φ, r, z⟩ => ?_
      refine for_ok (fun i hi => hi) (fun p ρ1 i s e1 e2 e3 => ?_) r z
      have e4 := held_of e1 e3
      rw [e3] at e2
      have e5 : hd = true := by simpa using e2
      rw [e5, e4] at h5
      have e6 : (tgs t ++ asgSs b).contains i = false := by simpa using h5
      intro hm
      have e7 : (tgs t ++ asgSs b).contains i = true := by
        rw [List.contains_iff_mem]
        exact hm
      rw [e6] at e7
      cases e7
    · cases h
  | .while_ n d b, s, X, W, c, h => by
    unfold ckS at h
    split at h
    · simp only [Bool.and_eq_true] at h
      exact PS.imp (ps_while c.po (T_ok d _ sc X W c.toCok c.tk h.1.1 h.1.2) (Ss_ok b _ X W c h.2)) fun D σ H ⟨ρ, G, φ, r, z⟩ => while_ok (fun i hi => hi) r z
    · cases h
  | .brk, s, X, W, c, h => by
    unfold ckS at h
    split at h
    · refine PS.imp ps_break fun D σ H ⟨ρ, G, φ, r, q⟩ => ?_
      rw [evS] at q
      exact q σ G H φ .refl r Stp.refl
    · cases h
  | .cont, s, X, W, c, h => by
    unfold ckS at h
    split at h
    · refine PS.imp ps_continue fun D σ H ⟨ρ, G, φ, r, q⟩ => ?_
      rw [evS] at q
      exact q σ G H φ .refl r Stp.refl
    · cases h
  | .pass, s, X, W, c, h => by
    unfold ckS at h
    split at h
    · refine PS.imp ps_pass fun D σ H ⟨ρ, G, φ, r, q⟩ => ?_
      rw [evS] at q
      exact q σ G H φ .refl r Stp.refl
    · cases h
  | .raise k, s, X, W, c, h => by
    unfold ckS at h
    split at h
    · rename_i x p m j p2 pos pos'
      simp only [Bool.and_eq_true, decide_eq_true_eq] at h
      obtain ⟨⟨⟨rfl, hg⟩, hk⟩, h13⟩ := h
      obtain ⟨hgl, hdb⟩ := gl_of c.toCok hg
      obtain ⟨ad, x1, _⟩ := c.toCok.xo
      have xk := x1 k hk
      refine PS.imp (L2N.ps_raise (c.toCok.calm c.cool) c.tk (L2N.pmk_own PySem.F.excBase_ValueError (xk.new h13) xk.mg xk.kp (raises_own xk.be xk.ty) hgl hdb)) fun D σ H ⟨ρ, G, φ, r, q⟩ => ?_
      rw [evS] at q
      exact q σ G H φ _ _ .refl Stp.refl r (by rw [c.toCok.xk]; exact ⟨_, xk.ns, rfl, .no⟩)
    · cases h
  | .raiseF k a, s, X, W, c, h => by
    unfold ckS at h
    split at h
    · rename_i x p e pos pos'
      simp only [Bool.and_eq_true, decide_eq_true_eq] at h
      obtain ⟨⟨⟨⟨⟨rfl, hg⟩, hk⟩, hi⟩, hs⟩, ha⟩ := h
      obtain ⟨hgl, hdb⟩ := gl_of c.toCok hg
      obtain ⟨ad, x1, _⟩ := c.toCok.xo
      have xk := x1 k hk
      obtain ⟨rm, Cc, fI, st, fd, n1, xi, xt, bd⟩ := c.toCok.xi k hi
      obtain rfl : ad k = Cc := by
        have z := xk.ns.symm.trans n1
        injection z with z
        injection z with z
        injection z with z
      refine PS.imp (L2N.ps_raise (c.toCok.calm c.cool) c.tk (pmk_ini (k := 0) xi xt rm bd hgl xk.mg (A_ok a e sc X W c.toCok c.tk ha) hdb (star1 hs []))) fun D σ H ⟨ρ, G, φ, r, q⟩ => ?_
      rw [evS] at q
      have q' : PoS X.K xr W (asgS (.raiseF k a)) σ G H φ ((evAs Φ [a] ρ).bnd fun ts ρ' => match ress [a] (ts.map (·.bind view)) ρ' with
          | some [.int i] => if decide (i.natAbs.log2 < 1920) then .exc k (some i) ρ' else .stk
          | _ => .stk) D := by
        simp only [evAs]
        cases e1 : evA Φ a ρ with
        | stk => rw [e1] at q; exact q
        | exc _ _ _ => rw [e1] at q; exact q
        | ok t ρ1 =>
          rw [e1] at q
          simp only [R.bnd_ok, List.map_cons, List.map_nil, ress] at q ⊢
          cases e2 : res a (t.bind view) ρ1 with
          | none => rw [e2] at q; exact q
          | some d =>
            rw [e2] at q
            cases d <;> first | exact q.elim | exact q
      refine thens_ok (as := [a]) r q' fun ts ρ1 vs G1 H1 φ1 fs r1 o hf st1 q2 => ?_
      split at q2
      · rename_i i hds
        split at q2
        · rename_i hz
          have hv := o.vws r1 hds
          cases hv with
          | cons v1 v2 =>
            cases v2
            obtain rfl := v1.int
            refine mkO_post (C := _) (f := _) (Q := fun cls d H' => W cls d σ H') (of_decide_eq_true hz) fun d hd => ?_
            have st2 : Stp G H (own φ) (upd G1 d (.xd [(fldX k, .int i)])) (upd H1 d (.xd [(fldX k, .int i)])) (own φ1) := (st1.weak fun _ z => .inl z).trans (Stp.newG r1.gh hd)
            exact q2 σ _ _ φ1 (.ref (ad k)) (some d) .refl st2 (r1.newG hd) (by rw [c.toCok.xk]; exact ⟨_, xk.ns, rfl, .int upd_same⟩)
        · exact q2.elim
      · exact q2.elim
    · cases h
  | .tryC b k cs d, s, X, W, c, h => by
    unfold ckS at h
    split at h
    · rename_i body x np e rp pos' pos
      simp only [Bool.and_eq_true, decide_eq_true_eq] at h
      obtain ⟨⟨⟨⟨⟨rfl, hg⟩, hk⟩, rfl⟩, hd⟩, hb⟩ := h
      obtain ⟨hgl, hdb⟩ := gl_of c.toCok hg
      obtain ⟨ad, x1, x2⟩ := c.toCok.xo
      refine PS.imp (L2N.ps_try_many (tb := fun W' => tS X.K xr W' (asgSs b) (evSs Φ b)) (l := [(.ref (ad k), fun _ _ _ => tS X.K xr W0 [] (evS Φ (.ret (.cst d))))]) c.stk c.frm c.tk (fun W' pn xe tk po => Ss_ok b body (X.tr pn xe) W' (c.tr (pn := pn) (xe := xe) tk po) hb) (.cons ⟨hgl, hdb, .inl (x1 k hk).mg⟩ (fun a oe cls dd pn _ _ => ?_) .nil))
        fun D σ H q => tryC_ok c x1 (fun c' h' c h => (x2 c' h' c h).1) hk q
      refine PSs.imp (pss_one (ps_ret (E_ok (.cst d) e sc (X.suite a ((a, oe) :: pn)) W0 (c.toCok.suite a _) takesF hd))) fun D σ H ⟨ρ, G, φ, r, q⟩ => ?_
      rw [evS] at q
      exact then_ok r q fun s ρ' v G' H' φ' f r' t st q' => q' σ G' H' φ' .refl r' v f st t
    · cases h
  | .tryA b k cs i u, s, X, W, c, h => by
    unfold ckS at h
    split at h
    · rename_i body x np n s0 ss pos' pos
      simp only [Bool.and_eq_true, decide_eq_true_eq] at h
      obtain ⟨⟨⟨⟨⟨⟨⟨rfl, hg⟩, hk⟩, rfl⟩, hi⟩, hl⟩, hu⟩, hb⟩ := h
      obtain ⟨hgl, hdb⟩ := gl_of c.toCok hg
      obtain ⟨ad, x1, x2⟩ := c.toCok.xo
      exact PS.imp (ps_try_ad (tb := fun W' => tS X.K xr W' (asgSs b) (evSs Φ b)) (i := i) c.stk c.frm c.nodup (by rw [c.toCok.N]; exact hi) (by unfold Env.kindOf; rw [c.toCok.sc]; exact hl) ⟨hgl, hdb, .inl (x1 k hk).mg⟩ c.tk
        (fun W' pn xe tk po => Ss_ok b body (X.tr pn xe) W' (c.tr (pn := pn) (xe := xe) tk po) hb) (fun a pn => U1_ok c hu a pn))
        fun D σ H q => tryA_ok c x1 (fun c' h' c h => (x2 c' h' c h).1) hk q
    · cases h
  | .tryR .., s, X, W, c, h => by
    unfold ckS at h
    cases h
  | .never, s, X, W, c, h => PS.imp ps_never fun D σ H ⟨ρ, G, φ, r, q⟩ => by
      rw [evS] at q
      exact q
theorem Ss_ok : ∀ (ps : List St) (ss : List Stmt) (X : Cx) (W : WX), Sok C Φ xr sc X W → ckSs C sc ps ss = true → PSs X ss (tS X.K xr W (asgSs ps) (evSs Φ ps))
  | [], ss, X, W, c, h => by
    unfold ckSs at h
    split at h
    · refine PSs.imp pss_nil fun D σ H ⟨ρ, G, φ, r, q⟩ => ?_
      rw [evSs] at q
      exact q σ G H φ .refl r Stp.refl
    · cases h
  | p :: ps, ss, X, W, c, h => by
    unfold ckSs at h
    split at h
    · rename_i s ss
      simp only [Bool.and_eq_true] at h
      refine PSs.imp (pss_cons (S_ok p s X W c h.1) (Ss_ok ps ss X W c h.2)) fun D σ H ⟨ρ, G, φ, r, q⟩ => ?_
      rw [evSs] at q
      refine ⟨ρ, G, φ, r, ?_⟩
      have hl : ∀ i ∈ asgS p, i ∈ asgSs (p :: ps) := fun i hi => List.mem_append_left _ hi
      have hr : ∀ i ∈ asgSs ps, i ∈ asgSs (p :: ps) := fun i hi => List.mem_append_right _ hi
      cases e : evS Φ p ρ with
      | stk => rw [e] at q; exact q
      | exc d v ρ' =>
        rw [e] at q
        exact fun σ' G' H' φ' cls dd k st r' x => q σ' G' H' φ' cls dd (k.mono hl) st r' x
      | ok f ρ' =>
        rw [e] at q
        simp only [R.bnd_ok] at q
        intro σ' G' H' φ' k r'
        cases f with
        | nx => exact fun st => ⟨ρ', G', φ', r', PoS.from q st (k.mono hl) hr⟩
        | brk => exact q σ' G' H' φ' (k.mono hl) r'
        | cont => exact q σ' G' H' φ' (k.mono hl) r'
        | ret s => exact q σ' G' H' φ' (k.mono hl) r'
    · cases h
end
end
end VE

/-! VS15: a def whose text passes the look keeps the promise of its evaluation. -/
namespace VE
open PySem L2 PySem.Spec PyProof.Rows
section
variable {K : PySem.W.Frag} {xr : XR} {G H : Hp} {φ : Nat → List Addr} {σ σ' : L2.St} {ρ : List S}
theorem slot_none {i : Nat} (h : ρ.length ≤ i) : slot ρ i = .dead := by
  unfold slot
  rw [List.getD_eq_getElem?_getD, List.getElem?_eq_none h]
  rfl
theorem slot_app {ss : List S} {m : Nat} {i : Nat} : slot (ss ++ List.replicate m .dead) i = slot ss i := by
  unfold slot
  rw [List.getD_eq_getElem?_getD, List.getD_eq_getElem?_getD]
  by_cases h : i < ss.length
  · rw [List.getElem?_append_left h]
  · have h' : ss.length ≤ i := Nat.le_of_not_lt h
    rw [List.getElem?_append_right h', List.getElem?_eq_none h']
    rw [List.getElem?_replicate]
    split <;> rfl
theorem SR.ext {ss : List S} {τ : L2.St} {m : Nat} (r : SR K G H ss τ φ) : SR K G H (ss ++ List.replicate m .dead) (τ ++ List.replicate m none) φ where
  len := by rw [List.length_append, List.length_append, List.length_replicate, List.length_replicate, r.len]
  gh := r.gh
  rel i := by
    rw [slot_app]
    refine (r.rel i).imp id fun ⟨v, hv, q⟩ => ⟨v, ?_, q⟩
    rw [List.getElem?_append_left (List.getElem?_eq_some_iff.mp hv).1]
    exact hv
  dj := r.dj
  gn := r.gn
theorem slot_fins {asg : List Nat} {n j : Nat} : slot (fins asg n ρ) j = if j < n ∧ j ∉ asg then slot ρ j else .dead := by
  unfold fins
  by_cases h : j < n
  · have e : slot ((List.range n).map fun j => if j ∈ asg then S.dead else slot ρ j) j = if j ∈ asg then S.dead else slot ρ j := by
      show ((List.range n).map fun j => if j ∈ asg then S.dead else slot ρ j).getD j .dead = _
      rw [List.getD_eq_getElem?_getD, List.getElem?_map, List.getElem?_range h]
      rfl
    rw [e]
    by_cases h2 : j ∈ asg
    · rw [if_pos h2, if_neg fun z => z.2 h2]
    · rw [if_neg h2, if_pos ⟨h, h2⟩]
  · rw [if_neg fun z => h z.1]
    exact slot_none (by simpa using h)
def finφ (asg : List Nat) (n : Nat) (φ : Nat → List Addr) : Nat → List Addr := fun j => if j < n ∧ j ∉ asg then φ j else []
theorem own_finφ {asg : List Nat} {n : Nat} {a : Addr} (h : own (finφ asg n φ) a) : own φ a := by
  obtain ⟨j, hj⟩ := h
  unfold finφ at hj
  split at hj
  · exact ⟨j, hj⟩
  · cases hj
theorem SR.fins {asg : List Nat} {τ : L2.St} {r0 : L2.St} (r : SR K G H ρ σ' φ) (k : Keep asg (τ ++ r0) σ') : SR K G H (VE.fins asg τ.length ρ) τ (finφ asg τ.length φ) where
  len := by simp [VE.fins]
  gh := r.gh
  rel j := by
    rw [slot_fins]
    unfold finφ
    by_cases h : j < τ.length ∧ j ∉ asg
    · rw [if_pos h, if_pos h]
      refine (r.rel j).imp id fun ⟨v, hv, q⟩ => ⟨v, ?_, q⟩
      rw [k.2 j h.2, List.getElem?_append_left h.1] at hv
      exact hv
    · rw [if_neg h, if_neg h]
      exact .inl ⟨rfl, rfl⟩
  dj i j a hi hj := by
    unfold finφ at hi hj
    split at hi
    · split at hj
      · exact r.dj i j a hi hj
      · cases hj
    · cases hi
  gn i a hi := by
    unfold finφ at hi
    split at hi
    · exact r.gn i a hi
    · cases hi
end
section
variable {P : Program} {w : World} {K : PySem.W.Frag} {mg : Str → Option Value} {base : Heap}
/-- the callees by number -/
def Fok (P : Program) (w : World) (K : PySem.W.Frag) (mg : Str → Option Value) (base : Heap) (xr : XR) (k : Nat) (fn : Nat → List S → R S) : Nat → List (Str × Nat) → Prop
  | _, [] => True
  | i, (x, n) :: r => (∃ j a fd ps, FnG P w K mg base (L2N.CX P w) j a fd ps (spOf K xr n (fn i)) ∧ j ≤ k ∧ mg x = some (.ref a) ∧ PySem.W.keepIn K (.ref a) = true ∧ Binds K fd ps []) ∧ Fok P w K mg base xr k fn (i + 1) r
theorem Fok.at {xr : XR} {k : Nat} {fn : Nat → List S → R S} : ∀ {l : List (Str × Nat)} {i f : Nat} {x : Str} {n : Nat}, Fok P w K mg base xr k fn i l → l[f]? = some (x, n) →
    ∃ j a fd ps, FnG P w K mg base (L2N.CX P w) j a fd ps (spOf K xr n (fn (i + f))) ∧ j ≤ k ∧ mg x = some (.ref a) ∧ PySem.W.keepIn K (.ref a) = true ∧ Binds K fd ps []
  | [], _, _, _, _, _, h => by cases h
  | (y, m) :: r, i, 0, x, n, q, h => by cases h; exact q.1
  | (y, m) :: r, i, f + 1, x, n, q, h => by
    have z := Fok.at (l := r) (f := f) q.2 h
    rw [show i + 1 + f = i + (f + 1) by omega] at z
    exact z
/-- the defs that suites call -/
def Hfok (P : Program) (w : World) (K : PySem.W.Frag) (mg : Str → Option Value) (base : Heap) (xr : XR) (k : Nat) (fn : Nat → List S → R S) : Nat → List (Str × Nat) → Prop
  | _, [] => True
  | i, (x, n) :: r => (∃ j a fd ps, FnGH P w K mg base (L2N.CX P w) j a fd ps (spOf K xr n (fn i)) ∧ j ≤ k ∧ mg x = some (.ref a) ∧ PySem.W.keepIn K (.ref a) = true ∧ Binds K fd ps []) ∧ Hfok P w K mg base xr k fn (i + 1) r
theorem Hfok.at {xr : XR} {k : Nat} {fn : Nat → List S → R S} : ∀ {l : List (Str × Nat)} {i f : Nat} {x : Str} {n : Nat}, Hfok P w K mg base xr k fn i l → l[f]? = some (x, n) →
    ∃ j a fd ps, FnGH P w K mg base (L2N.CX P w) j a fd ps (spOf K xr n (fn (i + f))) ∧ j ≤ k ∧ mg x = some (.ref a) ∧ PySem.W.keepIn K (.ref a) = true ∧ Binds K fd ps []
  | [], _, _, _, _, _, h => by cases h
  | (y, m) :: r, i, 0, x, n, q, h => by cases h; exact q.1
  | (y, m) :: r, i, f + 1, x, n, q, h => by
    have z := Hfok.at (l := r) (f := f) q.2 h
    rw [show i + 1 + f = i + (f + 1) by omega] at z
    exact z
/-- such a def by its name -/
def Hdk (P : Program) (w : World) (K : PySem.W.Frag) (mg : Str → Option Value) (base : Heap) (xr : XR) (x : Str) (n k : Nat) (sem : List S → R S) : Prop :=
  ∃ a fd ps, FnGH P w K mg base (L2N.CX P w) k a fd ps (spOf K xr n sem) ∧ mg x = some (.ref a) ∧ PySem.W.keepIn K (.ref a) = true ∧ Binds K fd ps []
theorem Hfok.nil {xr : XR} {k i : Nat} {fn : Nat → List S → R S} : Hfok P w K mg base xr k fn i [] := trivial
theorem Hfok.cons {xr : XR} {k i j n : Nat} {fn : Nat → List S → R S} {x : Str} {r : List (Str × Nat)} {sem : List S → R S} (d : Hdk P w K mg base xr x n j sem) (hj : j ≤ k) (e : fn i = sem) (q : Hfok P w K mg base xr k fn (i + 1) r) : Hfok P w K mg base xr k fn i ((x, n) :: r) := by
  obtain ⟨a, fd, ps, h1, h2, h3, h4⟩ := d
  subst e
  exact ⟨⟨j, a, fd, ps, h1, hj, h2, h3, h4⟩, q⟩
/-- the constants by number -/
def Gok (K : PySem.W.Frag) (mg : Str → Option Value) (gv : Nat → PyData) : Nat → List Str → Prop
  | _, [] => True
  | i, x :: r => (∃ u v, mg x = some u ∧ L2.RelV v u ∧ ∀ G, DP K G v (gv i)) ∧ Gok K mg gv (i + 1) r
theorem Gok.at {gv : Nat → PyData} : ∀ {l : List Str} {i g : Nat} {x : Str}, Gok K mg gv i l → l[g]? = some x → ∃ u v, mg x = some u ∧ L2.RelV v u ∧ ∀ G, DP K G v (gv (i + g))
  | [], _, _, _, _, h => by cases h
  | y :: r, i, 0, x, q, h => by cases h; exact q.1
  | y :: r, i, g + 1, x, q, h => by
    have z := Gok.at (l := r) (g := g) q.2 h
    rw [show i + 1 + g = i + (g + 1) by omega] at z
    exact z
/-- the methods, the classes that are made -/
def Mok (P : Program) (w : World) (K : PySem.W.Frag) (mg : Str → Option Value) (base : Heap) (xr : XR) (k : Nat) (fn : Nat → List S → R S) : List (Str × Str × Nat × Nat) → Prop
  | [] => True
  | (c, m, f, n) :: r => (∃ j a fd ps Cc, FnG P w K mg base (L2N.CX P w) j a fd ps (spOf K xr n (fn f)) ∧ j ≤ k ∧ PySem.W.nsIn K mainGlobals c = some (some (.ref Cc)) ∧ Cls K Cc ∧ Meth K Cc m a ∧ Binds K fd ps []) ∧ Mok P w K mg base xr k fn r
theorem Mok.at {xr : XR} {k : Nat} {fn : Nat → List S → R S} : ∀ {l : List (Str × Str × Nat × Nat)} {c m : Str} {f n : Nat}, Mok P w K mg base xr k fn l → (c, m, f, n) ∈ l →
    ∃ j a fd ps Cc, FnG P w K mg base (L2N.CX P w) j a fd ps (spOf K xr n (fn f)) ∧ j ≤ k ∧ PySem.W.nsIn K mainGlobals c = some (some (.ref Cc)) ∧ Cls K Cc ∧ Meth K Cc m a ∧ Binds K fd ps []
  | [], _, _, _, _, _, h => nomatch h
  | (c', m', f', n') :: r, c, m, f, n, q, h => by
    rcases List.mem_cons.mp h with e | h
    · cases e; exact q.1
    · exact Mok.at q.2 h
def Kok (P : Program) (w : World) (K : PySem.W.Frag) (mg : Str → Option Value) (base : Heap) (xr : XR) (k : Nat) (fn : Nat → List S → R S) : List (Str × Nat × Nat) → Prop
  | [] => True
  | (c, f, n) :: r => (∃ j a fd ps Cc, FnG P w K mg base (L2N.CX P w) j a fd ps (spOf K xr n (fn f)) ∧ j + 1 ≤ k ∧ ObjC K c Cc ∧ Mk K Cc a ∧ mg c = some (.ref Cc) ∧ Binds K fd ps []) ∧ Kok P w K mg base xr k fn r
theorem Kok.at {xr : XR} {k : Nat} {fn : Nat → List S → R S} : ∀ {l : List (Str × Nat × Nat)} {c : Str} {f n : Nat}, Kok P w K mg base xr k fn l → (c, f, n) ∈ l →
    ∃ j a fd ps Cc, FnG P w K mg base (L2N.CX P w) j a fd ps (spOf K xr n (fn f)) ∧ j + 1 ≤ k ∧ ObjC K c Cc ∧ Mk K Cc a ∧ mg c = some (.ref Cc) ∧ Binds K fd ps []
  | [], _, _, _, _, h => nomatch h
  | (c', f', n') :: r, c, f, n, q, h => by
    rcases List.mem_cons.mp h with e | h
    · cases e; exact q.1
    · exact Kok.at q.2 h
/-- the classes of errors with a field that are made -/
def XiOk (P : Program) (K : PySem.W.Frag) (mg : Str → Option Value) (k : Nat) (xi : List Nat) : Prop := ∀ c ∈ xi, 2 ≤ k ∧ XiC P K mg c
theorem XiOk.nil {k : Nat} : XiOk P K mg k [] := fun _ z => nomatch z
theorem XiOk.cons {k c : Nat} {r : List Nat} (h : XiC P K mg c) (h2 : 2 ≤ k) (q : XiOk P K mg k r) : XiOk P K mg k (c :: r) := fun x hx => by
  rcases List.mem_cons.mp hx with rfl | hx
  · exact ⟨h2, h⟩
  · exact q x hx
def bltNames : List String := ["len", "repr", "min", "max", "list", "isinstance", "int", "tuple", "range", "enumerate", "sum", "all", "any", "str", "bool", "sorted", "set", "dict", "zip"]
theorem def_ok {xr : XR} {Φ : Fns} {x qual : Str} {st : Stmt} {f : Addr} {fd : FuncData} {N ps : List Str} {fns : List (Str × Nat)} {gls : List Str} {ms : List (Str × Str × Nat × Nat)} {mks : List (Str × Nat × Nat)} {xc xi : List Nat} {hfl : List (Str × Nat)} {body : List St} {k : Nat} (F : L2.Fun K x qual st f fd) (Sc : FnScope N ps (defScope st))
    (hf : Fok P w K mg base xr k Φ.fn 0 fns) (hg : Gok K mg Φ.gl 0 gls) (hM : Mok P w K mg base xr k Φ.fn ms) (hK : Kok P w K mg base xr k Φ.fn mks) (hX : XOk K mg xc) (hI : XiOk P K mg k xi) (hH : Hfok P w K mg base xr k Φ.fn 300 hfl) (hx : xr = xrK K) (hb : ∀ x ∈ bltNames, mg (Str.ofString x) = none) (hv : mg (Str.ofString "ValueError") = none) (hk : ckSs ⟨N, fns, gls, ms, mks, xc, xi, false, hfl⟩ (defScope st) body (defBody st) = true) :
    FnG P w K mg base (L2N.CX P w) (k + 1) f fd ps (spOf K xr ps.length (evDef Φ ps.length (N.length - ps.length) (asgSs body) body)) := by
  refine Fun.okG F Sc (fun vs H Q E h => h.1) fun cdv A outer s H vs Q E hr hgd hsp => ?_
  obtain ⟨hl, ss, G, φ, hss, r, h⟩ := hsp
  have sok : Sok ⟨N, fns, gls, ms, mks, xc, xi, false, hfl⟩ Φ xr (defScope st) (cxOf (L2N.CX P w) P w K mg base N qual (defScope st) f cdv A outer s H E) (fun cls dd _ H' => E cls dd H') := {
    toCok := {
      N := rfl
      nd := Sc.nd
      sc := rfl
      calm := fun _ => rfl
      xk := hx
      xo := hX
      xi := fun c hc => by
        obtain ⟨h2, q⟩ := hI c hc
        exact ⟨hr.mono h2, q⟩
      ve := hv
      gd := hgd
      hu := by have := hr.un; show (A.deeper (envOfC qual (defScope st) s.heap.objs.size f cdv)).units + 70 < cLine; omega
      fns := fun f x n e => by
        obtain ⟨j, a, fd, ps, h1, h2, h3, h4, h5⟩ := hf.at e
        rw [Nat.zero_add] at h1
        exact ⟨j, a, fd, ps, h1, hr.mono h2, h3, h4, h5⟩
      ms := fun c m f n e => by
        obtain ⟨j, a, fd, ps, Cc, h1, h2, h3, h4, h5, h6⟩ := hM.at e
        exact ⟨j, a, fd, ps, Cc, h1, hr.mono h2, h3, h4, h5, h6⟩
      mks := fun c f n e => by
        obtain ⟨j, a, fd, ps, Cc, h1, h2, h3, h4, h5, h6⟩ := hK.at e
        exact ⟨j, a, fd, ps, Cc, h1, hr.mono h2, h3, h4, h5, h6⟩
      hfs := fun i x n e => by
        obtain ⟨j, a, fd, ps, h1, h2, h3, h4, h5⟩ := hH.at e
        exact ⟨j, a, fd, ps, h1, L2H.roomH_of (hr.mono h2), h3, h4, h5⟩
      gls := fun g x e => by
        obtain ⟨u, v, h1, h2, h3⟩ := hg.at e
        rw [Nat.zero_add] at h3
        exact ⟨u, v, h1, h2, h3⟩
      blt := hb }
    cool := rfl
    stk := rfl
    frm := rfl
    kind := Sc.kind
    fn := fun _ => rfl
    tk := L2N.takes_of rfl rfl rfl rfl
    po := passes_of rfl }
  refine ⟨_, Ss_ok body (defBody st) _ _ sok hk, ss ++ List.replicate (N.length - ps.length) .dead, G, φ, ?_, ?_⟩
  · have z := r.ext (m := N.length - ps.length)
    unfold L2.start
    rw [hl]
    exact z
  · have eσ : L2.start N vs = vs.map some ++ List.replicate (N.length - vs.length) none := rfl
    have en : (vs.map some).length = ps.length := by rw [List.length_map]; exact hl
    rw [evDef, if_pos hss] at h
    cases e : evSs Φ body (ss ++ List.replicate (N.length - ps.length) .dead) with
    | stk => rw [e] at h; exact h
    | exc c d ρ =>
      rw [e] at h
      intro σ' G' H' φ' cls dd kp st' r' x'
      rw [eσ] at kp
      have z := r'.fins kp
      rw [en] at z
      exact h G' H' _ cls dd (st'.weak fun b => own_finφ) z x'
    | ok g ρ =>
      rw [e] at h
      intro σ' G' H' φ' kp r'
      rw [eσ] at kp
      have z := r'.fins kp
      rw [en] at z
      cases g with
      | nx =>
        intro st'
        exact h .non G' H' _ [] (st'.weak fun b y => y.elim own_finφ fun y => nomatch y) z Tmp.non
      | brk => exact h.elim
      | cont => exact h.elim
      | ret s =>
        intro v f' st' t
        exact h v G' H' _ f' (st'.weak fun b y => y.imp own_finφ id) z ⟨t.rel, t.gn, fun a ha y => t.off a ha (own_finφ y)⟩
/-- a def of the module keeps its promise -/
def Dok (P : Program) (w : World) (K : PySem.W.Frag) (mg : Str → Option Value) (base : Heap) (xr : XR) (x : Str) (n k : Nat) (sem : List S → R S) : Prop :=
  ∃ a fd ps, FnG P w K mg base (L2N.CX P w) k a fd ps (spOf K xr n sem) ∧ mg x = some (.ref a) ∧ PySem.W.keepIn K (.ref a) = true ∧ Binds K fd ps []
theorem Fok.nil {xr : XR} {k i : Nat} {fn : Nat → List S → R S} : Fok P w K mg base xr k fn i [] := trivial
theorem Fok.cons {xr : XR} {k i j n : Nat} {fn : Nat → List S → R S} {x : Str} {r : List (Str × Nat)} {sem : List S → R S} (d : Dok P w K mg base xr x n j sem) (hj : j ≤ k) (e : fn i = sem) (q : Fok P w K mg base xr k fn (i + 1) r) : Fok P w K mg base xr k fn i ((x, n) :: r) := by
  obtain ⟨a, fd, ps, h1, h2, h3, h4⟩ := d
  subst e
  exact ⟨⟨j, a, fd, ps, h1, hj, h2, h3, h4⟩, q⟩
/-- a method of a class keeps its promise -/
def Mdk (P : Program) (w : World) (K : PySem.W.Frag) (mg : Str → Option Value) (base : Heap) (xr : XR) (c m : Str) (n k : Nat) (sem : List S → R S) : Prop :=
  ∃ a fd ps Cc, FnG P w K mg base (L2N.CX P w) k a fd ps (spOf K xr n sem) ∧ PySem.W.nsIn K mainGlobals c = some (some (.ref Cc)) ∧ Cls K Cc ∧ Meth K Cc m a ∧ Binds K fd ps []
/-- .. a class that is made -/
def Mkk (P : Program) (w : World) (K : PySem.W.Frag) (mg : Str → Option Value) (base : Heap) (xr : XR) (c : Str) (n k : Nat) (sem : List S → R S) : Prop :=
  ∃ a fd ps Cc, FnG P w K mg base (L2N.CX P w) k a fd ps (spOf K xr n sem) ∧ ObjC K c Cc ∧ Mk K Cc a ∧ mg c = some (.ref Cc) ∧ Binds K fd ps []
theorem Mok.nil {xr : XR} {k : Nat} {fn : Nat → List S → R S} : Mok P w K mg base xr k fn [] := trivial
theorem Kok.nil {xr : XR} {k : Nat} {fn : Nat → List S → R S} : Kok P w K mg base xr k fn [] := trivial
theorem Mok.cons {xr : XR} {k j n f : Nat} {fn : Nat → List S → R S} {c m : Str} {r : List (Str × Str × Nat × Nat)} {sem : List S → R S} (d : Mdk P w K mg base xr c m n j sem) (hj : j ≤ k) (e : fn f = sem) (q : Mok P w K mg base xr k fn r) : Mok P w K mg base xr k fn ((c, m, f, n) :: r) := by
  obtain ⟨a, fd, ps, Cc, h1, h2⟩ := d
  subst e
  exact ⟨⟨j, a, fd, ps, Cc, h1, hj, h2⟩, q⟩
theorem Kok.cons {xr : XR} {k j n f : Nat} {fn : Nat → List S → R S} {c : Str} {r : List (Str × Nat × Nat)} {sem : List S → R S} (d : Mkk P w K mg base xr c n j sem) (hj : j + 1 ≤ k) (e : fn f = sem) (q : Kok P w K mg base xr k fn r) : Kok P w K mg base xr k fn ((c, f, n) :: r) := by
  obtain ⟨a, fd, ps, Cc, h1, h2⟩ := d
  subst e
  exact ⟨⟨j, a, fd, ps, Cc, h1, hj, h2⟩, q⟩
theorem Gok.nil {i : Nat} {gv : Nat → PyData} : Gok K mg gv i [] := trivial
theorem Gok.int {i t : Nat} {n : Int} {gv : Nat → PyData} {x : Str} {r : List Str} (h : mg x = some (.int n t)) (e : gv i = .int n) (q : Gok K mg gv (i + 1) r) : Gok K mg gv i (x :: r) := by
  refine ⟨⟨_, .int n, h, ⟨_, rfl⟩, fun G => ?_⟩, q⟩
  rw [e]
  exact .int n
theorem Gok.str {i t : Nat} {n : Str} {gv : Nat → PyData} {x : Str} {r : List Str} (h : mg x = some (.str n t)) (e : gv i = .str n) (q : Gok K mg gv (i + 1) r) : Gok K mg gv i (x :: r) := by
  refine ⟨⟨_, .str n, h, ⟨_, rfl⟩, fun G => ?_⟩, q⟩
  rw [e]
  exact .str n
theorem def_Dok {xr : XR} {Φ : Fns} {x qual : Str} {st : Stmt} {f : Addr} {fd : FuncData} {N ps : List Str} {fns : List (Str × Nat)} {gls : List Str} {ms : List (Str × Str × Nat × Nat)} {mks : List (Str × Nat × Nat)} {xc xi : List Nat} {hfl : List (Str × Nat)} {body : List VE.St} {k : Nat} {sem : List S → R S} (F : L2.Fun K x qual st f fd) (hm : mg x = some (.ref f)) (b : Binds K fd ps []) (Sc : FnScope N ps (defScope st))
    (hf : Fok P w K mg base xr k Φ.fn 0 fns) (hg : Gok K mg Φ.gl 0 gls) (hM : Mok P w K mg base xr k Φ.fn ms) (hK : Kok P w K mg base xr k Φ.fn mks) (hX : XOk K mg xc) (hI : XiOk P K mg k xi) (hH : Hfok P w K mg base xr k Φ.fn 300 hfl) (hx : xr = xrK K) (hb : ∀ x ∈ bltNames, mg (Str.ofString x) = none) (hv : mg (Str.ofString "ValueError") = none) (hk : ckSs ⟨N, fns, gls, ms, mks, xc, xi, false, hfl⟩ (defScope st) body (defBody st) = true)
    (e : sem = evDef Φ ps.length (N.length - ps.length) (asgSs body) body) : Dok P w K mg base xr x ps.length (k + 1) sem := by
  subst e
  exact ⟨f, fd, ps, def_ok F Sc hf hg hM hK hX hI hH hx hb hv hk, hm, F.kp, b⟩
theorem def_okE {xr : XR} {Φ : Fns} {x qual : Str} {st : Stmt} {f : Addr} {fd : FuncData} {N ps : List Str} {fns : List (Str × Nat)} {gls : List Str} {ms : List (Str × Str × Nat × Nat)} {mks : List (Str × Nat × Nat)} {xc xi : List Nat} {hfl : List (Str × Nat)} {body : List VE.St} {k n : Nat} {sem : List S → R S} (F : L2.Fun K x qual st f fd) (Sc : FnScope N ps (defScope st))
    (hf : Fok P w K mg base xr k Φ.fn 0 fns) (hg : Gok K mg Φ.gl 0 gls) (hM : Mok P w K mg base xr k Φ.fn ms) (hK : Kok P w K mg base xr k Φ.fn mks) (hX : XOk K mg xc) (hI : XiOk P K mg k xi) (hH : Hfok P w K mg base xr k Φ.fn 300 hfl) (hx : xr = xrK K) (hb : ∀ x ∈ bltNames, mg (Str.ofString x) = none) (hv : mg (Str.ofString "ValueError") = none) (hk : ckSs ⟨N, fns, gls, ms, mks, xc, xi, false, hfl⟩ (defScope st) body (defBody st) = true)
    (e : sem = evDef Φ ps.length (N.length - ps.length) (asgSs body) body) (en : ps.length = n) : FnG P w K mg base (L2N.CX P w) (k + 1) f fd ps (spOf K xr n sem) := by
  subst e en
  exact def_ok F Sc hf hg hM hK hX hI hH hx hb hv hk
end
end VE

/-! VO: defs that open a container that a parameter owns. -/
namespace VE
open PySem L2 PySem.Spec PyProof.Rows
/-- what is held aside while a box is open -/
structure Opn (K : PySem.W.Frag) (G H : Hp) (i : Nat) (ops : List (Pk × Nat)) (b : Bx) (fs : List S) (σ : L2.St) (φ : Nat → List Addr) (a : Addr) (vs : List V) (gs : List (List Addr)) (ex : List Addr) : Prop where
  at_ : σ[i]? = some (some (.ref a))
  box : BoxAt K H b a vs ex
  rel : RelSs K G H fs vs gs
  nd : (a :: (ex ++ gs.flatten)).Nodup
  gn : ∀ c ∈ a :: (ex ++ gs.flatten), G c = none
  off : ∀ c ∈ a :: (ex ++ gs.flatten), ¬ own φ c
  lk : ∀ p ∈ ops, ∃ k u, child b fs.length p.1 = some k ∧ vs[k]? = some u ∧ σ[p.2]? = some (some u)
section
variable {K : PySem.W.Frag} {G H G' H' : Hp} {i : Nat} {ops : List (Pk × Nat)} {b : Bx} {fs : List S} {σ σ' : L2.St} {φ φ' : Nat → List Addr} {a : Addr} {vs : List V} {gs : List (List Addr)} {ex : List Addr} {ρ : List S}
theorem Opn.here (h : Opn K G H i ops b fs σ φ a vs gs ex) : ∀ c ∈ a :: (ex ++ gs.flatten), ∃ o, H c = some o ∧ ∀ xs, o ≠ .tup xs := fun c hc => by
  rcases List.mem_cons.mp hc with rfl | hc
  · exact h.box.here _ List.mem_cons_self
  · rcases List.mem_append.mp hc with hc | hc
    · exact h.box.here _ (List.mem_cons_of_mem _ hc)
    · obtain ⟨g, hg, hc⟩ := List.mem_flatten.mp hc
      exact h.rel.hereT g hg c hc
theorem Opn.step {as : List Nat} {F' : Addr → Prop} (h : Opn K G H i ops b fs σ φ a vs gs ex) (st : Stp G H (own φ) G' H' F') (hF : ∀ c, own φ' c → F' c) (k : Keep as σ σ') (hi : i ∉ as) (ho : ∀ p ∈ ops, p.2 ∉ as) :
    Opn K G' H' i ops b fs σ' φ' a vs gs ex ∧ ∀ c ∈ a :: (ex ++ gs.flatten), ¬ F' c := by
  have nF : ∀ c ∈ a :: (ex ++ gs.flatten), ¬ F' c := fun c hc z => by
    rcases st.sub c z with y | y
    · exact h.off c hc y
    · obtain ⟨o, e, _⟩ := h.here c hc
      rw [y] at e; cases e
  have inF : ∀ c ∈ a :: ex, c ∈ a :: (ex ++ gs.flatten) := fun c hc => by
    rcases List.mem_cons.mp hc with rfl | hc
    · exact List.mem_cons_self
    · exact List.mem_cons_of_mem _ (List.mem_append_left _ hc)
  refine ⟨⟨by rw [k.2 i hi]; exact h.at_, h.box.mono fun c hc o e => st.keep c o e (h.off c (inF c hc)), h.rel.mono st.gg fun g hg c hc o e => st.keep c o e (h.off c ?_), h.nd, fun c hc => ?_, fun c hc z => nF c hc (hF c z), fun p hp => ?_⟩, nF⟩
  · exact List.mem_cons_of_mem _ (List.mem_append_right _ (List.mem_flatten.mpr ⟨g, hg, hc⟩))
  · cases e : G' c with
    | none => rfl
    | some o =>
      rcases st.gnew c (h.gn c hc) (by rw [e]; exact fun z => nomatch z) with y | y
      · exact absurd y (h.off c hc)
      · obtain ⟨o, e, n⟩ := h.here c hc
        rcases y with y | ⟨xs, y⟩
        · rw [y] at e; cases e
        · rw [y] at e; cases e; exact absurd rfl (n xs)
  · obtain ⟨k', u, h1, h2, h3⟩ := h.lk p hp
    exact ⟨k', u, h1, h2, by rw [k.2 _ (ho p hp)]; exact h3⟩
/-- a child that was taken out is put back -/
theorem fill {k : Pk} {j : Nat} {t : S} {u : V} {g' : List Addr} (hl : fs.length = vs.length) (c : child b fs.length k = some j) (hd : getS (.box b fs) [k] = .dead) (hu : vs[j]? = some u)
    (hb : BoxAt K H b a vs ex) (rs : RelSs K G H fs vs gs) (nd : (a :: (ex ++ gs.flatten)).Nodup) (rt : RelS K G H t u g') (off : ∀ c ∈ g', c ∉ a :: (ex ++ gs.flatten)) :
    ∃ gs', setS (.box b fs) [k] t = .box b (fs.set j t) ∧ RelSs K G H (fs.set j t) vs gs' ∧ (a :: (ex ++ gs'.flatten)).Nodup ∧ ∀ c, c ∈ a :: (ex ++ gs'.flatten) ↔ c ∈ a :: (ex ++ gs.flatten) ∨ c ∈ g' := by
  have hj : j < fs.length := child_lt hb hl.symm c
  obtain ⟨u', g, e1, e2, r1⟩ := rs.get hj
  have hdead : fs.getD j .dead = .dead := by
    have z := hd
    simp only [getS, c] at z
    exact z
  rw [hdead] at r1
  have g0 : g = [] := r1
  subst g0
  have nd0 := nd
  rw [List.nodup_cons, List.nodup_append] at nd0
  obtain ⟨n1, n2, n3, n4⟩ := nd0
  obtain ⟨m1, m2⟩ := flat_set e2 n3 rt.nodup fun c hc hm => absurd (List.mem_cons_of_mem _ (List.mem_append_right _ hm)) (off c hc)
  have m3 : ∀ c, c ∈ (gs.set j g').flatten ↔ c ∈ gs.flatten ∨ c ∈ g' := fun c => by
    rw [m2 c]
    constructor
    · rintro (⟨q, _⟩ | q)
      · exact .inl q
      · exact .inr q
    · rintro (q | q)
      · exact .inl ⟨q, fun z => nomatch z⟩
      · exact .inr q
  refine ⟨gs.set j g', by simp [setS, c], RelSs.set rs hu rt, ?_, fun c => ?_⟩
  · rw [List.nodup_cons, List.nodup_append]
    refine ⟨fun z => ?_, n2, m1, fun x hx y hy z => ?_⟩
    · rcases List.mem_append.mp z with z | z
      · exact n1 (List.mem_append_left _ z)
      · rcases (m3 _).mp z with z | z
        · exact n1 (List.mem_append_right _ z)
        · exact off _ z List.mem_cons_self
    · subst z
      rcases (m3 _).mp hy with z | z
      · exact n4 x hx x z rfl
      · exact off _ z (List.mem_cons_of_mem _ (List.mem_append_left _ hx))
  · simp only [List.mem_cons, List.mem_append, m3 c]
    constructor
    · rintro (q | q | q | q)
      · exact .inl (.inl q)
      · exact .inl (.inr (.inl q))
      · exact .inl (.inr (.inr q))
      · exact .inr q
    · rintro ((q | q | q) | q)
      · exact .inl q
      · exact .inr (.inl q)
      · exact .inr (.inr (.inl q))
      · exact .inr (.inr (.inr q))
/-- the opened children are dead in what is held aside, and no two are one -/
def Gone (b : Bx) (fs : List S) (ops : List (Pk × Nat)) : Prop := (∀ p ∈ ops, getS (.box b fs) [p.1] = .dead) ∧ ops.Pairwise fun p q => child b fs.length p.1 ≠ child b fs.length q.1
theorem getS_one {k : Pk} {kk : Nat} (c : child b fs.length k = some kk) : getS (.box b fs) [k] = fs.getD kk .dead := by simp [getS, c]
theorem clos_ok : ∀ (ops : List (Pk × Nat)) {ρ : List S} {φ : Nat → List Addr} {fs : List S} {gs : List (List Addr)}, Gone b fs ops → SR K G H ρ σ φ → Opn K G H i ops b fs σ φ a vs gs ex → fs.length = vs.length →
    ∃ φ', SR K G H ((closP ops (.box b fs) ρ).2.set i (closP ops (.box b fs) ρ).1) σ φ' ∧ ∀ c, own φ' c → own φ c ∨ c ∈ a :: (ex ++ gs.flatten)
  | [], ρ, φ, fs, gs, _, r, o, _ => by
    show ∃ φ', SR K G H (ρ.set i (.box b fs)) σ φ' ∧ _
    refine ⟨_, r.back (s := .box b fs) (f := a :: (ex ++ gs.flatten)) ⟨⟨a, vs, gs, ex, rfl, o.box, o.rel, rfl, o.nd⟩, o.gn, o.off⟩ o.at_, fun c hc => ?_⟩
    rcases own_upf hc with y | y
    · split at y
      · exact .inr y
      · cases y
    · exact .inl y
  | (k, j) :: ops, ρ, φ, fs, gs, gd, r, o, hl => by
    obtain ⟨kk, u, h1, h2, h3⟩ := o.lk (k, j) List.mem_cons_self
    have rj : RelS K G H (slot ρ j) u (φ j) := by
      rcases r.rel j with ⟨e1, e2⟩ | ⟨w, e1, e2⟩
      · rw [e1, e2]; exact rfl
      · rw [h3] at e1
        cases e1
        exact e2
    have ofj : ∀ c ∈ φ j, c ∉ a :: (ex ++ gs.flatten) := fun c hc z => o.off c z ⟨j, hc⟩
    obtain ⟨gs', q1, q2, q3, q4⟩ := fill hl h1 (gd.1 _ List.mem_cons_self) h2 o.box o.rel o.nd rj ofj
    have r' := r.drop (i := j)
    have own' : ∀ c, own (upf φ j []) c → own φ c ∧ c ∉ φ j := fun c ⟨m, hm⟩ => by
      by_cases e : m = j
      · rw [e, upf_same] at hm; cases hm
      · rw [upf_ne e] at hm
        exact ⟨⟨m, hm⟩, fun z => e (r.dj m j c hm z)⟩
    have o' : Opn K G H i ops b (fs.set kk (slot ρ j)) σ (upf φ j []) a vs gs' ex := by
      refine ⟨o.at_, o.box, q2, q3, fun c hc => ?_, fun c hc z => ?_, fun p hp => ?_⟩
      · rcases (q4 c).mp hc with y | y
        · exact o.gn c y
        · exact r.gno ⟨j, y⟩
      · obtain ⟨z1, z2⟩ := own' c z
        rcases (q4 c).mp hc with y | y
        · exact o.off c y z1
        · exact z2 y
      · obtain ⟨k', u', g1, g2, g3⟩ := o.lk p (List.mem_cons_of_mem _ hp)
        exact ⟨k', u', by rw [List.length_set]; exact g1, g2, g3⟩
    have pw := List.pairwise_cons.mp gd.2
    have gd' : Gone b (fs.set kk (slot ρ j)) ops := by
      refine ⟨fun p hp => ?_, by rw [List.length_set]; exact pw.2⟩
      obtain ⟨k', u', g1, g2, g3⟩ := o.lk p (List.mem_cons_of_mem _ hp)
      have ne : kk ≠ k' := fun z => pw.1 p hp (by rw [h1, g1, z])
      have d := gd.1 p (List.mem_cons_of_mem _ hp)
      rw [getS_one g1] at d
      rw [getS_one (by rw [List.length_set]; exact g1)]
      rw [List.getD_eq_getElem?_getD] at d ⊢
      rw [List.getElem?_set_ne ne]
      exact d
    obtain ⟨φ', z1, z2⟩ := clos_ok ops gd' r' o' (by rw [List.length_set]; exact hl)
    refine ⟨φ', ?_, fun c hc => ?_⟩
    · rw [closP, q1]; exact z1
    · rcases z2 c hc with y | y
      · exact .inl (own' c y).1
      · rcases (q4 c).mp y with y | y
        · exact .inr y
        · exact .inl ⟨j, y⟩
theorem open_ok : ∀ (ops ops0 : List (Pk × Nat)) {ρ : List S} {σ : L2.St} {φ : Nat → List Addr} {fs : List S} {gs : List (List Addr)}, SR K G H ρ σ φ → Opn K G H i ops0 b fs σ φ a vs gs ex → fs.length = vs.length → opnOk ops (.box b fs) = true →
    (i :: (ops0 ++ ops).map (·.2)).Nodup → (∀ p ∈ ops, p.2 < ρ.length) → Gone b fs ops0 →
    ∃ us fs' gs' φ', us.length = ops.length ∧ (∀ (m : Nat) (p : Pk × Nat), ops[m]? = some p → ∃ k, child b vs.length p.1 = some k ∧ us[m]? = vs[k]?) ∧ (opnP ops (.box b fs) ρ).1 = .box b fs' ∧ fs'.length = vs.length ∧
      SR K G H (opnP ops (.box b fs) ρ).2 (setsV (ops.map (·.2)) us σ) φ' ∧ Opn K G H i (ops0 ++ ops) b fs' (setsV (ops.map (·.2)) us σ) φ' a vs gs' ex ∧ Gone b fs' (ops0 ++ ops) ∧
      ∀ c, own φ' c ∨ c ∈ a :: (ex ++ gs'.flatten) → own φ c ∨ c ∈ a :: (ex ++ gs.flatten)
  | [], ops0, ρ, σ, φ, fs, gs, r, o, hl, _, _, _, gd => by
    refine ⟨[], fs, gs, φ, rfl, (fun m p h => by cases m <;> cases h), rfl, hl, r, ?_, ?_, fun _ z => z⟩
    · rw [List.append_nil]; exact o
    · rw [List.append_nil]; exact gd
  | (k, j) :: ops, ops0, ρ, σ, φ, fs, gs, r, o, hl, ok, nd, hlt, gd => by
    simp only [opnOk, Bool.and_eq_true] at ok
    obtain ⟨lv, ok⟩ := ok
    cases hc : child b fs.length k with
    | none =>
      simp only [getS, hc] at lv
      cases lv
    | some kk =>
      have hkk : kk < fs.length := child_lt o.box hl.symm hc
      obtain ⟨u, g, e1, e2, ru⟩ := o.rel.get hkk
      have es : setS (.box b fs) [k] .dead = .box b (fs.set kk .dead) := by simp [setS, hc]
      have eg := getS_one hc
      rw [es] at ok
      have gm : ∀ c ∈ g, c ∈ gs.flatten := fun c hc' => List.mem_flatten.mpr ⟨g, List.mem_of_getElem? e2, hc'⟩
      have gF : ∀ c ∈ g, c ∈ a :: (ex ++ gs.flatten) := fun c hc' => List.mem_cons_of_mem _ (List.mem_append_right _ (gm c hc'))
      have nd0 := o.nd
      rw [List.nodup_cons, List.nodup_append] at nd0
      obtain ⟨n1, n2, n3, n4⟩ := nd0
      obtain ⟨m1, m2⟩ := flat_set (g' := []) e2 n3 List.nodup_nil fun c hc' => nomatch hc'
      have m3 : ∀ c, c ∈ (gs.set kk []).flatten ↔ c ∈ gs.flatten ∧ c ∉ g := fun c => by
        rw [m2 c]
        exact ⟨fun z => z.elim id (fun y => nomatch y), .inl⟩
      have tm : Tmp K G H (fs.getD kk .dead) u g φ := ⟨ru, fun c hc' => o.gn c (gF c hc'), fun c hc' => o.off c (gF c hc')⟩
      have hj : j < ρ.length := hlt (k, j) List.mem_cons_self
      have r1 := r.store (i := j) tm
      rw [if_pos hj] at r1
      have hn := nd
      rw [List.map_append, List.map_cons] at hn
      have hij : i ≠ j := fun z => (List.nodup_cons.mp hn).1 (by rw [z]; simp)
      have hjo : ∀ p ∈ ops0, j ≠ p.2 := fun p hp z => by
        have h2 := (List.nodup_append.mp (List.nodup_cons.mp hn).2).2.2
        exact h2 p.2 (List.mem_map.mpr ⟨p, hp, rfl⟩) j List.mem_cons_self z.symm
      have F' : ∀ c, c ∈ a :: (ex ++ (gs.set kk []).flatten) → c ∈ a :: (ex ++ gs.flatten) ∧ c ∉ g := fun c hc' => by
        rcases List.mem_cons.mp hc' with rfl | hc'
        · exact ⟨List.mem_cons_self, fun z => n1 (List.mem_append_right _ (gm _ z))⟩
        · rcases List.mem_append.mp hc' with y | y
          · exact ⟨List.mem_cons_of_mem _ (List.mem_append_left _ y), fun z => n4 c y c (gm c z) rfl⟩
          · exact ⟨List.mem_cons_of_mem _ (List.mem_append_right _ ((m3 c).mp y).1), ((m3 c).mp y).2⟩
      have o1 : Opn K G H i (ops0 ++ [(k, j)]) b (fs.set kk .dead) (σ.set j (some u)) (upf φ j g) a vs (gs.set kk []) ex := by
        refine ⟨by rw [List.getElem?_set_ne (Ne.symm hij)]; exact o.at_, o.box, RelSs.set o.rel e1 rfl, ?_, fun c hc' => o.gn c (F' c hc').1, fun c hc' z => ?_, fun p hp => ?_⟩
        · rw [List.nodup_cons, List.nodup_append]
          refine ⟨fun z => ?_, n2, m1, fun x hx y hy z => ?_⟩
          · rcases List.mem_append.mp z with z | z
            · exact n1 (List.mem_append_left _ z)
            · exact n1 (List.mem_append_right _ ((m3 _).mp z).1)
          · exact n4 x hx y ((m3 y).mp hy).1 z
        · rcases own_upf z with y | y
          · exact (F' c hc').2 y
          · exact o.off c (F' c hc').1 y
        · rw [List.length_set]
          rcases List.mem_append.mp hp with hp | hp
          · obtain ⟨k', u', g1, g2, g3⟩ := o.lk p hp
            exact ⟨k', u', g1, g2, by rw [List.getElem?_set_ne (hjo p hp)]; exact g3⟩
          · obtain rfl := List.mem_singleton.mp hp
            exact ⟨kk, u, hc, e1, by rw [List.getElem?_set_self (by rw [← r.len]; exact hj)]⟩
      have gd1 : Gone b (fs.set kk .dead) (ops0 ++ [(k, j)]) := by
        refine ⟨fun p hp => ?_, ?_⟩
        · rcases List.mem_append.mp hp with hp | hp
          · obtain ⟨k', u', g1, g2, g3⟩ := o.lk p hp
            have d := gd.1 p hp
            rw [getS_one g1, List.getD_eq_getElem?_getD] at d
            rw [getS_one (by rw [List.length_set]; exact g1), List.getD_eq_getElem?_getD]
            by_cases e : kk = k'
            · subst e
              rw [List.getElem?_set_self hkk]; rfl
            · rw [List.getElem?_set_ne e]; exact d
          · obtain rfl := List.mem_singleton.mp hp
            rw [getS_one (by rw [List.length_set]; exact hc), List.getD_eq_getElem?_getD, List.getElem?_set_self hkk]; rfl
        · rw [List.pairwise_append, List.length_set]
          refine ⟨gd.2, List.pairwise_singleton _ _, fun p hp q hq => ?_⟩
          obtain rfl := List.mem_singleton.mp hq
          intro z
          have d := gd.1 p hp
          rw [getS_one (z.trans hc)] at d
          rw [eg, d] at lv
          cases lv
      obtain ⟨us, fs', gs', φ', z1, z2, z3, z4, z5, z6, z7, z8⟩ := open_ok ops (ops0 ++ [(k, j)]) r1 o1 (by rw [List.length_set]; exact hl) ok (by rw [List.append_assoc]; exact nd) (fun p hp => by rw [List.length_set]; exact hlt p (List.mem_cons_of_mem _ hp)) gd1
      have ep : opnP ((k, j) :: ops) (.box b fs) ρ = opnP ops (.box b (fs.set kk .dead)) (ρ.set j (fs.getD kk .dead)) := by rw [opnP, es, eg]
      rw [List.append_assoc] at z6 z7
      refine ⟨u :: us, fs', gs', φ', by rw [List.length_cons, List.length_cons, z1], fun m p hm => ?_, by rw [ep]; exact z3, z4, by rw [ep]; exact z5, z6, z7, fun c hc' => ?_⟩
      · cases m with
        | zero =>
          cases hm
          exact ⟨kk, by rw [← hl]; exact hc, e1.symm⟩
        | succ m => exact z2 m p (by simpa using hm)
      · rcases z8 c hc' with y | y
        · rcases own_upf y with y | y
          · exact .inr (gF c y)
          · exact .inl y
        · exact .inr (F' c y).1
/-- the box is whole again -/
theorem close_ok {as A : List Nat} {σs : L2.St} {Gs Hs : Hp} {φs : Nat → List Addr} (gd : Gone b fs ops) (o : Opn K G H i ops b fs σ φ a vs gs ex) (k0 : Keep A σs σ) (s0 : Stp Gs Hs (own φs) G H (fun c => own φ c ∨ c ∈ a :: (ex ++ gs.flatten)))
    (k : Keep as σ σ') (st : Stp G H (own φ) G' H' (own φ')) (r : SR K G' H' ρ σ' φ') (hi : i ∉ as) (ho : ∀ p ∈ ops, p.2 ∉ as) (hA : ∀ j ∈ as, j ∈ A) :
    Opn K G' H' i ops b fs σ' φ' a vs gs ex ∧ Keep A σs σ' ∧ Stp Gs Hs (own φs) G' H' (fun c => own φ' c ∨ c ∈ a :: (ex ++ gs.flatten)) ∧
      ∃ φ2, SR K G' H' (clos i ops (.box b fs) ρ) σ' φ2 ∧ Stp Gs Hs (own φs) G' H' (own φ2) ∧ ∀ c, own φ2 c → own φ' c ∨ c ∈ a :: (ex ++ gs.flatten) := by
  obtain ⟨o', _⟩ := o.step st (φ' := φ') (fun _ z => z) k hi ho
  have s1 := s0.trans (st.frame (T := fun c => c ∈ a :: (ex ++ gs.flatten)) fun c hc => ⟨o.off c hc, by
    obtain ⟨u, hu, _⟩ := o.here c hc
    rw [hu]; exact fun z => nomatch z⟩)
  obtain ⟨φ2, r2, h2⟩ := clos_ok ops gd r o' o'.rel.len.1.symm
  exact ⟨o', k0.trans (k.mono hA), s1, φ2, r2, s1.weak h2, h2⟩
def hitF (r : R F) : R F := match r with
  | .ok .nx _ => .stk
  | z => z
def nxP (K : PySem.W.Frag) (xr : XR) (W : WX) (A : List Nat) (σs : L2.St) (Gs Hs : Hp) (φs : Nat → List Addr) (D : Ends) (G H : Hp) (φ : Nat → List Addr) (σ : L2.St) (ev : List S → R F) : L2.St → Hp → Prop := fun σ' H' =>
  ∃ ρ' G' φ', SR K G' H' ρ' σ' φ' ∧ Keep [] σ σ' ∧ Stp G H (own φ) G' H' (own φ') ∧ PoS K xr W A σs Gs Hs φs (ev ρ') D
def tO (K : PySem.W.Frag) (xr : XR) (W : WX) (Φ : Fns) (A : List Nat) (i : Nat) (ops : List (Pk × Nat)) (b : Bx) (fs : List S) (body : List OSt) : TS := fun D σ H =>
  ∃ ρ G φ a vs gs ex σs Gs Hs φs, SR K G H ρ σ φ ∧ Opn K G H i ops b fs σ φ a vs gs ex ∧ Keep A σs σ ∧ Stp Gs Hs (own φs) G H (fun c => own φ c ∨ c ∈ a :: (ex ++ gs.flatten)) ∧ PoS K xr W A σs Gs Hs φs (evO Φ i ops (.box b fs) body ρ) D
end
def asgO : List OSt → List Nat
  | [] => []
  | .pl s :: r => asgS s ++ asgO r
  | .iret _ b :: r => asgSs b ++ asgO r
  | .clo b :: _ => asgSs b
def ckO (C : Ck) (sc : Scope) : List OSt → List Stmt → Bool
  | [], ss => ss.isEmpty
  | .pl p :: r, s :: ss => ckS C sc p s && ckO C sc r ss
  | .iret c b :: r, s :: ss => match s with
    | .If t p q _ => ckE C sc c t && notIf t && ckSs C sc b p && q.isEmpty && ckO C sc r ss
    | _ => false
  | .clo b :: _, ss => ckSs C sc b ss
  | _, _ => false
section
variable {C : Ck} {Φ : Fns} {xr : XR} {sc : Scope} {X : Cx} {W : WX} {i : Nat} {ops : List (Pk × Nat)} {b : Bx} {fs : List S} {A : List Nat}
theorem O_ok (gd : Gone b fs ops) : ∀ (body : List OSt) (ss : List Stmt), Sok C Φ xr sc X W → ckO C sc body ss = true → (∀ j ∈ asgO body, j ∈ A) → i ∉ asgO body → (∀ p ∈ ops, p.2 ∉ asgO body) → PSs X ss (tO X.K xr W Φ A i ops b fs body)
  | [], ss, c, h, hA, hi, ho => by
    have e : ss = [] := List.isEmpty_iff.mp h
    subst e
    refine PSs.imp pss_nil fun D σ H ⟨ρ, G, φ, a, vs, gs, ex, σs, Gs, Hs, φs, r, o, k0, s0, q⟩ => ?_
    obtain ⟨_, k1, _, φ2, r2, s2, _⟩ := close_ok (as := []) gd o k0 s0 .refl Stp.refl r (fun z => nomatch z) (fun _ _ z => nomatch z) (fun _ z => nomatch z)
    rw [evO] at q
    exact q σ G H φ2 k1 r2 s2
  | .pl p :: r, [], c, h, _, _, _ => by simp [ckO] at h
  | .iret d u :: r, [], c, h, _, _, _ => by simp [ckO] at h
  | .pl p :: r, s :: ss, c, h, hA, hi, ho => by
    simp only [ckO, Bool.and_eq_true] at h
    have hi1 : i ∉ asgS p := fun z => hi (List.mem_append_left _ z)
    have ho1 : ∀ q ∈ ops, q.2 ∉ asgS p := fun q hq z => ho q hq (List.mem_append_left _ z)
    have hA1 : ∀ j ∈ asgS p, j ∈ A := fun j z => hA j (List.mem_append_left _ z)
    have ih := O_ok gd r ss c h.2 (fun j z => hA j (List.mem_append_right _ z)) (fun z => hi (List.mem_append_right _ z)) (fun q hq z => ho q hq (List.mem_append_right _ z))
    refine PSs.imp (pss_cons (S_ok p s X W c h.1) ih) fun D σ H ⟨ρ, G, φ, a, vs, gs, ex, σs, Gs, Hs, φs, r0, o, k0, s0, q⟩ => ?_
    refine ⟨ρ, G, φ, r0, ?_⟩
    rw [evO] at q
    cases e : evS Φ p ρ with
    | stk => rw [e] at q; exact q
    | exc d v ρ' =>
      rw [e] at q
      intro σ' G' H' φ' cls dd k st r' x
      obtain ⟨_, k1, _, φ2, r2, s2, _⟩ := close_ok gd o k0 s0 k st r' hi1 ho1 hA1
      exact q σ' G' H' φ2 cls dd k1 s2 r2 x
    | ok f ρ' =>
      rw [e] at q
      intro σ' G' H' φ' k r'
      cases f with
      | nx =>
        intro st
        obtain ⟨o', k1, s1, _⟩ := close_ok gd o k0 s0 k st r' hi1 ho1 hA1
        exact ⟨ρ', G', φ', a, vs, gs, ex, σs, Gs, Hs, φs, r', o', k1, s1, q⟩
      | brk =>
        intro st
        obtain ⟨_, k1, _, φ2, r2, s2, _⟩ := close_ok gd o k0 s0 k st r' hi1 ho1 hA1
        exact q σ' G' H' φ2 k1 r2 s2
      | cont =>
        intro st
        obtain ⟨_, k1, _, φ2, r2, s2, _⟩ := close_ok gd o k0 s0 k st r' hi1 ho1 hA1
        exact q σ' G' H' φ2 k1 r2 s2
      | ret s =>
        intro v f st t
        obtain ⟨o', nF⟩ := o.step st (φ' := φ') (fun _ z => .inl z) k hi1 ho1
        have s1 := s0.trans (st.frame (T := fun c => c ∈ a :: (ex ++ gs.flatten)) fun c hc => ⟨o.off c hc, by
          obtain ⟨u, hu, _⟩ := o.here c hc
          rw [hu]; exact fun z => nomatch z⟩)
        obtain ⟨φ2, r2, h2⟩ := clos_ok ops gd r' o' o'.rel.len.1.symm
        refine q σ' G' H' φ2 (k0.trans (k.mono hA1)) r2 v f (s1.weak fun c hc => ?_) ⟨t.rel, t.gn, fun c hc z => ?_⟩
        · rcases hc with hc | hc
          · exact (h2 c hc).imp .inl id
          · exact .inl (.inr hc)
        · rcases h2 c z with y | y
          · exact t.off c hc y
          · exact nF c y (.inr hc)
  | .iret d u :: r, s :: ss, c, h, hA, hi, ho => by
    unfold ckO at h
    split at h
    · rename_i t p q pos
      simp only [Bool.and_eq_true] at h
      obtain ⟨⟨⟨⟨h1, h2⟩, h3⟩, h4⟩, h5⟩ := h
      have e : q = [] := List.isEmpty_iff.mp h4
      subst e
      have ih := O_ok gd r ss c h5 (fun j z => hA j (List.mem_append_right _ z)) (fun z => hi (List.mem_append_right _ z)) (fun q hq z => ho q hq (List.mem_append_right _ z))
      have hu : ∀ j ∈ asgSs u, j ∈ A := fun j z => hA j (List.mem_append_left _ z)
      refine PSs.imp (pss_cons (ps_if (T_ok d t sc X W c.toCok c.tk h1 h2) (Ss_ok u p X W c h3) pss_nil) ih) fun D σ H ⟨ρ, G, φ, a, vs, gs, ex, σs, Gs, Hs, φs, r0, o, k0, s0, q⟩ => ?_
      rw [evO] at q
      refine test_S (a := []) (σ := σ) (D := ⟨nxP X.K xr W A σs Gs Hs φs D G H φ σ (fun ρ' => hitF (evSs Φ u (clos i ops (.box b fs) ρ'))), fun _ _ => False, nxP X.K xr W A σs Gs Hs φs D G H φ σ (evO Φ i ops (.box b fs) r), fun _ _ => False⟩)
        (k := fun z ρ' => .ok (if z = true then .nx else .brk) ρ') r0 ?_ fun z ρ' G' H' φ' r' st hz => ?_
      · cases e : evE Φ d ρ with
        | stk => rw [e] at q; exact q
        | exc d' v ρ' =>
          rw [e] at q
          intro σ' G' H' φ' cls dd k st r' x
          obtain ⟨_, k1, _, φ2, r2, s2, _⟩ := close_ok gd o k0 s0 k st r' (fun z => nomatch z) (fun _ _ z => nomatch z) (fun _ z => nomatch z)
          exact q σ' G' H' φ2 cls dd k1 s2 r2 x
        | ok v ρ' =>
          rw [e] at q
          simp only [R.bnd_ok] at q ⊢
          cases e2 : toBool v with
          | none => rw [e2] at q; exact q
          | some z =>
            rw [e2] at q
            cases z with
            | true => exact fun σ' G' H' φ' k r' st => ⟨ρ', G', φ', r', k, st, q⟩
            | false => exact fun σ' G' H' φ' k r' st => ⟨ρ', G', φ', r', k, st, q⟩
      · cases z with
        | true =>
          obtain ⟨ρ2, G2, φ2, r2, k2, st2, q2⟩ := hz σ G' H' φ' .refl r' Stp.refl
          rw [if_pos rfl]
          obtain ⟨_, k1, _, φ3, r3, s3, _⟩ := close_ok gd o k0 s0 k2 st2 r2 (fun z => nomatch z) (fun _ _ z => nomatch z) (fun _ z => nomatch z)
          refine ⟨_, G2, φ3, r3, ?_⟩
          have q2 : PoS X.K xr W A σs Gs Hs φs (hitF (evSs Φ u (clos i ops (.box b fs) ρ2))) D := q2
          cases eb : evSs Φ u (clos i ops (.box b fs) ρ2) with
          | stk => rw [eb] at q2; exact q2
          | exc _ _ _ =>
            rw [eb] at q2
            exact PoS.from (D := D) q2 s3 k1 hu
          | ok f ρ4 =>
            rw [eb] at q2
            cases f with
            | nx => exact q2.elim
            | brk => exact PoS.from (D := D) q2 s3 k1 hu
            | cont => exact PoS.from (D := D) q2 s3 k1 hu
            | ret s => exact PoS.from (D := D) q2 s3 k1 hu
        | false =>
          obtain ⟨ρ2, G2, φ2, r2, k2, st2, q2⟩ := hz σ G' H' φ' .refl r' Stp.refl
          rw [if_neg Bool.false_ne_true]
          obtain ⟨o', k1, s1, _⟩ := close_ok gd o k0 s0 k2 st2 r2 (fun z => nomatch z) (fun _ _ z => nomatch z) (fun _ z => nomatch z)
          exact ⟨ρ2, G2, φ2, a, vs, gs, ex, σs, Gs, Hs, φs, r2, o', k1, s1, q2⟩
    · cases h
  | .clo u :: r, ss, c, h, hA, hi, ho => by
    have h : ckSs C sc u ss = true := by
      unfold ckO at h
      exact h
    refine PSs.imp (Ss_ok u ss X W c h) fun D σ H ⟨ρ, G, φ, a, vs, gs, ex, σs, Gs, Hs, φs, r0, o, k0, s0, q⟩ => ?_
    rw [evO] at q
    obtain ⟨_, k1, _, φ2, r2, s2, _⟩ := close_ok (as := []) gd o k0 s0 .refl Stp.refl r0 (fun z => nomatch z) (fun _ _ z => nomatch z) (fun _ z => nomatch z)
    exact ⟨_, G, φ2, r2, q.from s2 k1 hA⟩
/-! ### the first row -/
def pxOf : Pk → Px
  | .fld f => .fld f
  | .key d => .key d
def ckOps (C : Ck) (sc : Scope) (i : Nat) : List (Pk × Nat) → List Expr → Bool
  | [], [] => true
  | (k, _) :: r, e :: es => ckP C sc i [pxOf k] e && notStar e && ckOps C sc i r es
  | _, _ => false
def ckOw (C : Ck) (sc : Scope) (i : Nat) (ops : List (Pk × Nat)) : Ow → Stmt → Bool
  | .all, .Assign [.Tuple ts _ _] (.Name x _) _ => ckNms C (loc sc) (ops.map (·.2)) ts && nameOk C sc i x
  | .some, .Assign [.Name y _] e _ => match ops with
    | [(k, j)] => decide (C.N[j]? = some y) && loc sc y && ckP C sc i [pxOf k] e && notLc e
    | _ => false
  | .some, .Assign [.Tuple [p, q] _ _] (.Tuple [u, v] _ _) _ => match ops with
    | [(k, j), (k', j')] => decide (j ≠ j') && isLoc sc (lineOf [p, q]) C j p && isLoc sc (lineOf [p, q]) C j' q && ckOps C sc i [(k, j), (k', j')] [u, v] && swSome sc [p, q] [u, v]
    | _ => false
  | _, _ => false
/-- what the first row does -/
def tOw (K : PySem.W.Frag) (i : Nat) (ops : List (Pk × Nat)) (w : Ow) : TS := fun D σ H => ∃ ρ G φ b fs a vs gs ex us, SR K G H ρ σ φ ∧ slot ρ i = .box b fs ∧ opnLen w ops (.box b fs) = true ∧ σ[i]? = some (some (.ref a)) ∧ BoxAt K H b a vs ex ∧ RelSs K G H fs vs gs ∧ us.length = ops.length ∧
  (∀ (m : Nat) (p : Pk × Nat), ops[m]? = some p → ∃ k, child b vs.length p.1 = some k ∧ us[m]? = vs[k]?) ∧ D.nx (setsV (ops.map (·.2)) us σ) H
theorem pth_one {ρ : List S} {k : Pk} : pthR ρ [pxOf k] = some [k] := by
  cases k <;> rfl
theorem ptr_one {K : PySem.W.Frag} {H : Hp} {a : Addr} {vs : List V} {ex : List Addr} {k : Pk} {j : Nat} {u : V} (hb : BoxAt K H b a vs ex) (c : child b vs.length k = some j) (e : vs[j]? = some u) : Ptr K H (.ref a) [k] u := .cons hb c e .nil
theorem ow_ok {w : Ow} {s : Stmt} (c : Sok C Φ xr sc X W) (h : ckOw C sc i ops w s = true) : PS X s (tOw X.K i ops w) := by
  unfold ckOw at h
  split at h
  · rename_i ts kt pt x px pos
    simp only [Bool.and_eq_true] at h
    obtain ⟨h1, h2, h3⟩ := ckNms_ok c.nodup c.toCok.N c.lc h.1
    refine PS.imp (ps_asg (name_ok c.toCok h.2) (pg_unl (c.toCok.calm c.cool) h1 h2 h3) (sole_tup rfl) (stores_nt fun vs k2 p2 z => nomatch z) tup_assign) fun D σ H ⟨ρ, G, φ, b, fs, a, vs, gs, ex, us, r, es, ol, ha, hb, rs, hl, hu, q⟩ => ?_
    cases b with
    | obj _ _ => cases ol
    | dK _ => cases ol
    | dT _ => cases ol
    | lst =>
      simp only [opnLen, Bool.and_eq_true, decide_eq_true_eq] at ol
      have lv : vs.length = ops.length := by rw [rs.len.1, ol.1]
      have e : us = vs := by
        refine List.ext_getElem? fun m => ?_
        by_cases hm : m < ops.length
        · obtain ⟨k, h1, h2⟩ := hu m ops[m] (List.getElem?_eq_getElem hm)
          have e2 : (ops.map (·.1.num))[m]? = some (some (m : Int)) := by
            rw [ol.2, List.getElem?_map, List.getElem?_range hm]; rfl
          rw [List.getElem?_map, List.getElem?_eq_getElem hm] at e2
          have e3 : ops[m].1.num = some (m : Int) := by simpa using e2
          cases e4 : ops[m].1 with
          | fld _ => rw [e4] at e3; cases e3
          | key d =>
            rw [e4] at e3 h1
            cases d with
            | int z =>
              obtain rfl : z = (m : Int) := by simpa [Pk.num] using e3
              have e5 : child .lst vs.length (.key (.int (m : Int))) = some m := by
                have : (m : Int) < vs.length := by omega
                simp [child, ixN]
                omega
              rw [e5] at h1
              cases h1
              exact h2
            | _ => cases e3
        · rw [List.getElem?_eq_none (by omega), List.getElem?_eq_none (by omega)]
      refine ⟨_, ha, a, vs, rfl, .inl (.inl hb.1), by rw [lv, List.length_map], ?_⟩
      rw [← e]
      exact tSets_V (by rw [List.length_map, hl]) q
  · rename_i y py e pos
    split at h
    · rename_i k j
      simp only [Bool.and_eq_true, decide_eq_true_eq] at h
      obtain ⟨⟨⟨hi, hl⟩, hp⟩, hn⟩ := h
      refine PS.imp (ps_set c.nodup (by rw [c.toCok.N]; exact hi) (c.lc y hl).1 (pl_ok c.toCok [pxOf k] e hp) (swaps_not hn) (.inl (c.fn y))) fun D σ H ⟨ρ, G, φ, b, fs, a, vs, gs, ex, us, r, es, ol, ha, hb, rs, hl, hu, q⟩ => ?_
      match us, hl with
      | [u], _ =>
        obtain ⟨kk, h1, h2⟩ := hu 0 _ rfl
        exact ⟨ρ, G, φ, [k], _, u, r, pth_one, ha, ptr_one hb h1 h2.symm, q⟩
    · cases h
  · rename_i p q pt1 pt2 u v kv pv pos
    split at h
    · rename_i k j k' j'
      simp only [Bool.and_eq_true, decide_eq_true_eq, ckOps, Bool.and_true] at h
      obtain ⟨⟨⟨⟨hij, hp⟩, hq⟩, ⟨⟨hu1, hu2⟩, hv1, hv2⟩⟩, hs⟩ := h
      obtain ⟨x, px, rfl, hx, hxl, hpx⟩ := isLoc_of hp
      obtain ⟨y, py, rfl, hy, hyl, hpy⟩ := isLoc_of hq
      have hN := c.toCok.N
      have hsc := c.toCok.sc
      have pa := pa_cons (pl_ok c.toCok [pxOf k] u hu1) (pa_cons (pl_ok c.toCok [pxOf k'] v hv1) pa_nil (star1 hv2 [])) (star1 hu2 [v])
      refine PS.imp (ps_par (c.toCok.calm c.cool) c.nodup (by rw [hN]; exact hx) (by rw [hN]; exact hy) hij (by rw [hsc]; exact hxl) (by rw [hsc]; exact hyl) pa
        (stores_two c.blockK (by rw [hsc]; exact hxl) (by rw [hsc]; exact hyl) (by rw [hpy, hpx]) (nodup_ne c.toCok.nd hx hy hij) (by rw [hsc]; exact hs)) (sole_tup rfl)) fun D σ H ⟨ρ, G, φ, b, fs, a, vs, gs, ex, us, r, es, ol, ha, hb, rs, hl, hu, q⟩ => ?_
      match us, hl with
      | [u0, u1], _ =>
        obtain ⟨kk, h1, h2⟩ := hu 0 _ rfl
        obtain ⟨kk', h3, h4⟩ := hu 1 _ rfl
        exact ⟨ρ, G, φ, [k], _, u0, r, pth_one, ha, ptr_one hb h1 h2.symm, ρ, G, φ, [k'], _, u1, r, pth_one, ha, ptr_one hb h3 h4.symm, u0, u1, rfl, q⟩
    · cases h
  · cases h
end
theorem opnP_fst : ∀ {ops : List (Pk × Nat)} {s : S} {ρ ρ' : List S}, (opnP ops s ρ).1 = (opnP ops s ρ').1
  | [], _, _, _ => rfl
  | (_, _) :: r, _, _, _ => opnP_fst (ops := r)
theorem opnP_len : ∀ {ops : List (Pk × Nat)} {s : S} {ρ : List S}, (opnP ops s ρ).2.length = ρ.length
  | [], _, _ => rfl
  | (_, _) :: r, _, _ => (opnP_len (ops := r)).trans (List.length_set ..)
def ckU' (C : Ck) (sc : Scope) (i : Nat) (ops : List (Pk × Nat)) (w : Ow) (body : List OSt) : List Stmt → Bool
  | s :: ss => ckOw C sc i ops w s && ckO C sc body ss && decide ((i :: ops.map (·.2)).Nodup) && !(asgO body).contains i && (ops.all fun p => !(asgO body).contains p.2 && decide (p.2 < C.N.length)) && !ops.isEmpty
  | [] => false
section
variable {P : Program} {w : World} {K : PySem.W.Frag} {mg : Str → Option Value} {base : Heap}
theorem def_okU {xr : XR} {Φ : Fns} {x qual : Str} {st : Stmt} {f : Addr} {fd : FuncData} {N ps : List Str} {fns : List (Str × Nat)} {gls : List Str} {ms : List (Str × Str × Nat × Nat)} {mks : List (Str × Nat × Nat)} {xc xi : List Nat} {hfl : List (Str × Nat)} {ow : Ow} {io : Nat} {ops : List (Pk × Nat)} {body : List OSt} {k : Nat} (F : L2.Fun K x qual st f fd) (Sc : FnScope N ps (defScope st))
    (hf : Fok P w K mg base xr k Φ.fn 0 fns) (hg : Gok K mg Φ.gl 0 gls) (hM : Mok P w K mg base xr k Φ.fn ms) (hK : Kok P w K mg base xr k Φ.fn mks) (hX : XOk K mg xc) (hI : XiOk P K mg k xi) (hH : Hfok P w K mg base xr k Φ.fn 300 hfl) (hx : xr = xrK K) (hb : ∀ x ∈ bltNames, mg (Str.ofString x) = none) (hv : mg (Str.ofString "ValueError") = none) (hk : ckU' ⟨N, fns, gls, ms, mks, xc, xi, false, hfl⟩ (defScope st) io ops ow body (defBody st) = true) :
    FnG P w K mg base (L2N.CX P w) (k + 1) f fd ps (spOf K xr ps.length (evDefU Φ ps.length (N.length - ps.length) (ops.map (·.2) ++ asgO body) ow io ops body)) := by
  refine Fun.okG F Sc (fun vs H Q E h => h.1) fun cdv A outer s H vs Q E hr hgd hsp => ?_
  obtain ⟨hl, ss, G, φ, hss, r, h⟩ := hsp
  have sok : Sok ⟨N, fns, gls, ms, mks, xc, xi, false, hfl⟩ Φ xr (defScope st) (cxOf (L2N.CX P w) P w K mg base N qual (defScope st) f cdv A outer s H E) (fun cls dd _ H' => E cls dd H') := {
    toCok := {
      N := rfl
      nd := Sc.nd
      sc := rfl
      calm := fun _ => rfl
      xk := hx
      xo := hX
      xi := fun c hc => by
        obtain ⟨h2, q⟩ := hI c hc
        exact ⟨hr.mono h2, q⟩
      ve := hv
      gd := hgd
      hu := by have := hr.un; show (A.deeper (envOfC qual (defScope st) s.heap.objs.size f cdv)).units + 70 < cLine; omega
      fns := fun f x n e => by
        obtain ⟨j, a, fd, ps, h1, h2, h3, h4, h5⟩ := hf.at e
        rw [Nat.zero_add] at h1
        exact ⟨j, a, fd, ps, h1, hr.mono h2, h3, h4, h5⟩
      ms := fun c m f n e => by
        obtain ⟨j, a, fd, ps, Cc, h1, h2, h3, h4, h5, h6⟩ := hM.at e
        exact ⟨j, a, fd, ps, Cc, h1, hr.mono h2, h3, h4, h5, h6⟩
      mks := fun c f n e => by
        obtain ⟨j, a, fd, ps, Cc, h1, h2, h3, h4, h5, h6⟩ := hK.at e
        exact ⟨j, a, fd, ps, Cc, h1, hr.mono h2, h3, h4, h5, h6⟩
      hfs := fun i x n e => by
        obtain ⟨j, a, fd, ps, h1, h2, h3, h4, h5⟩ := hH.at e
        exact ⟨j, a, fd, ps, h1, L2H.roomH_of (hr.mono h2), h3, h4, h5⟩
      gls := fun g x e => by
        obtain ⟨u, v, h1, h2, h3⟩ := hg.at e
        rw [Nat.zero_add] at h3
        exact ⟨u, v, h1, h2, h3⟩
      blt := hb }
    cool := rfl
    stk := rfl
    frm := rfl
    kind := Sc.kind
    fn := fun _ => rfl
    tk := L2N.takes_of rfl rfl rfl rfl
    po := passes_of rfl }
  rw [evDefU, if_pos hss] at h
  by_cases hok : (opnOk ops (slot ss io) && opnLen ow ops (slot ss io)) = true
  case neg => rw [if_neg hok] at h; exact h.elim
  rw [if_pos hok] at h
  simp only [Bool.and_eq_true] at hok
  obtain ⟨hok, hlen⟩ := hok
  obtain ⟨s0, rest, eb⟩ : ∃ s0 rest, defBody st = s0 :: rest := by
    cases e : defBody st with
    | nil => rw [e] at hk; cases hk
    | cons s0 rest => exact ⟨s0, rest, rfl⟩
  rw [eb] at hk ⊢
  simp only [ckU', Bool.and_eq_true, decide_eq_true_eq, Bool.not_eq_true', List.all_eq_true] at hk
  obtain ⟨⟨⟨⟨⟨k1, k2⟩, k3⟩, k4⟩, k5⟩, k6⟩ := hk
  have k4' : io ∉ asgO body := fun z => by
    have := List.contains_iff_mem.mpr z
    rw [k4] at this; cases this
  have k5' : ∀ p ∈ ops, p.2 ∉ asgO body := fun p hp z => by
    have := List.contains_iff_mem.mpr z
    rw [(k5 p hp).1] at this; cases this
  have eσ : L2.start N vs = vs.map some ++ List.replicate (N.length - vs.length) none := rfl
  have en : (vs.map some).length = ps.length := by rw [List.length_map]; exact hl
  have rx : SR K G H (ss ++ List.replicate (N.length - ps.length) .dead) (L2.start N vs) φ := by
    have z := r.ext (m := N.length - ps.length)
    unfold L2.start
    rw [hl]
    exact z
  have esl : slot (ss ++ List.replicate (N.length - ps.length) .dead) io = slot ss io := slot_app
  have lenx : (ss ++ List.replicate (N.length - ps.length) S.dead).length = N.length := by
    rw [List.length_append, List.length_replicate, hss]
    have : ps.length ≤ N.length := by have := congrArg List.length Sc.pre; rw [List.length_take] at this; omega
    omega
  generalize hρ : ss ++ List.replicate (N.length - ps.length) S.dead = ρ at rx esl h lenx
  -- the box
  have hbox : ∃ b fs, slot ss io = .box b fs := by
    cases ops with
    | nil => cases k6
    | cons p ops =>
      obtain ⟨k, j⟩ := p
      simp only [opnOk, Bool.and_eq_true] at hok
      cases e : slot ss io with
      | box b fs => exact ⟨b, fs, rfl⟩
      | _ => rw [e] at hok; simp [getS, live] at hok
  obtain ⟨b, fs, ebox⟩ := hbox
  rw [ebox] at hok hlen h
  rw [ebox] at esl
  obtain ⟨v0, hv0, q0⟩ := rx.at (i := io) (by rw [esl]; exact fun z => nomatch z)
  rw [esl] at q0
  have tm0 := rx.tmp (i := io) (v := v0) (by rw [esl]; exact q0)
  obtain ⟨a, vs', gs, ex, rfl, hb0, rs0, ef, nd0⟩ := q0
  have r1 := rx.drop (i := io)
  have o0 : Opn K G H io [] b fs (L2.start N vs) (upf φ io []) a vs' gs ex := ⟨hv0, hb0, rs0, by rw [← ef]; exact nd0, fun c hc => rx.gn io c (by rw [ef]; exact hc), fun c hc => tm0.off c (by rw [ef]; exact hc), fun p hp => nomatch hp⟩
  obtain ⟨us, fs', gs', φ', z1, z2, z3, z4, z5, z6, z7, z8⟩ := open_ok ops [] r1 o0 rs0.len.1.symm hok (by rw [List.nil_append]; exact k3) (fun p hp => by rw [List.length_set, lenx]; exact (k5 p hp).2) ⟨(fun p hp => nomatch hp), .nil⟩
  rw [List.nil_append] at z6 z7
  have own0 : ∀ c, own (upf φ io []) c ∨ c ∈ a :: (ex ++ gs.flatten) → own φ c := fun c hc => by
    rcases hc with hc | hc
    · exact (own_upf hc).elim (fun z => nomatch z) id
    · exact ⟨io, by rw [ef]; exact hc⟩
  refine ⟨_, pss_cons (ow_ok (i := io) (ops := ops) sok k1) (O_ok (A := ops.map (·.2) ++ asgO body) (b := b) (fs := fs') z7 body rest sok k2 (fun j hj => List.mem_append_right _ hj) k4' k5'), ?_⟩
  refine ⟨ρ, G, φ, b, fs, a, vs', gs, ex, us, rx, esl, hlen, hv0, hb0, rs0, z1, z2, ?_⟩
  refine ⟨_, G, φ', a, vs', gs', ex, L2.start N vs, G, H, φ, z5, z6, Keep.sets fun j hj => List.mem_append_left _ hj, Stp.refl.weak fun c hc => own0 c (z8 c hc), ?_⟩
  rw [opnP_fst (ρ' := ρ.set io .dead), z3] at h
  cases e : evO Φ io ops (.box b fs') body (opnP ops (.box b fs) (ρ.set io .dead)).2 with
  | stk => rw [e] at h; exact h
  | exc c d ρ' =>
    rw [e] at h
    intro σ' G' H' φ' cls dd kp st' r' x'
    rw [eσ] at kp
    have z := r'.fins kp
    rw [en] at z
    exact h G' H' _ cls dd (st'.weak fun b => own_finφ) z x'
  | ok g ρ' =>
    rw [e] at h
    intro σ' G' H' φ' kp r'
    rw [eσ] at kp
    have z := r'.fins kp
    rw [en] at z
    cases g with
    | nx =>
      intro st'
      exact h .non G' H' _ [] (st'.weak fun b y => y.elim own_finφ fun y => nomatch y) z Tmp.non
    | brk => exact h.elim
    | cont => exact h.elim
    | ret s =>
      intro v f' st' t
      exact h v G' H' _ f' (st'.weak fun b y => y.imp own_finφ id) z ⟨t.rel, t.gn, fun a ha y => t.off a ha (own_finφ y)⟩
theorem def_DokU {xr : XR} {Φ : Fns} {x qual : Str} {st : Stmt} {f : Addr} {fd : FuncData} {N ps : List Str} {fns : List (Str × Nat)} {gls : List Str} {ms : List (Str × Str × Nat × Nat)} {mks : List (Str × Nat × Nat)} {xc xi : List Nat} {hfl : List (Str × Nat)} {ow : Ow} {io : Nat} {ops : List (Pk × Nat)} {body : List OSt} {k : Nat} {sem : List S → R S} (F : L2.Fun K x qual st f fd) (hm : mg x = some (.ref f)) (b : Binds K fd ps []) (Sc : FnScope N ps (defScope st))
    (hf : Fok P w K mg base xr k Φ.fn 0 fns) (hg : Gok K mg Φ.gl 0 gls) (hM : Mok P w K mg base xr k Φ.fn ms) (hK : Kok P w K mg base xr k Φ.fn mks) (hX : XOk K mg xc) (hI : XiOk P K mg k xi) (hH : Hfok P w K mg base xr k Φ.fn 300 hfl) (hx : xr = xrK K) (hb : ∀ x ∈ bltNames, mg (Str.ofString x) = none) (hv : mg (Str.ofString "ValueError") = none) (hk : ckU' ⟨N, fns, gls, ms, mks, xc, xi, false, hfl⟩ (defScope st) io ops ow body (defBody st) = true)
    (e : sem = evDefU Φ ps.length (N.length - ps.length) (ops.map (·.2) ++ asgO body) ow io ops body) : Dok P w K mg base xr x ps.length (k + 1) sem := by
  subst e
  exact ⟨f, fd, ps, def_okU F Sc hf hg hM hK hX hI hH hx hb hv hk, hm, F.kp, b⟩
end
end VE

/-! VHe: a def that is called while an error is handled keeps the promise of its evaluation. -/
namespace VE
open PySem L2 PySem.Spec PyProof.Rows
/-- [x for t in a name if d] -/
def ckCH (C : Ck) (sc : Scope) (t : Tg) (l : Nat) (d : Option E) (x : E) : Expr → Bool
  | .ListComp elt gs scope _ => match gs with
    | [⟨tg, iter, ifs, k⟩] => (k == 0) && blkC C.N sc scope (tgX C (tgs t)) && isNm C sc l iter && notSet iter && ckTg C (lcB scope sc) t tg && ckC C (relS scope sc) d ifs && ckE C (relS scope sc) x elt
    | _ => false
  | _ => false
mutual
def ckH (C : Ck) (sc : Scope) : St → Stmt → Bool
  | .asg i x, s => match x with
    | .comp t (.seq (.pl l)) d z => match s with
      | .Assign [.Name y py] e _ => decide (C.N[i]? = some y) && loc sc y && swB sc y py e && ckCH C sc t l d z e
      | _ => false
    | x => match s with
      | .Assign [.Name y py] e _ => decide (C.N[i]? = some y) && loc sc y && ckE C sc x e && notLc e
      | _ => false
  | .ret x, s => match s with
    | .Return (some e) _ => ckE C sc x e
    | _ => false
  | .ite c a b, s => match s with
    | .If t p q _ => ckE C sc c t && notIf t && ckHs C sc a p && ckHs C sc b q
    | _ => false
  | _, _ => false
def ckHs (C : Ck) (sc : Scope) : List St → List Stmt → Bool
  | [], ss => ss.isEmpty
  | p :: ps, ss => match ss with
    | s :: ss => ckH C sc p s && ckHs C sc ps ss
    | [] => false
end
structure Hk (C : Ck) (Φ : Fns) (xr : XR) (sc : Scope) (X : Cx) (W : WX) : Prop where
  toCok : Cok C Φ xr sc X
  hot : HotG X
  kind : sc.kind = .function
  fn : ∀ x, X.fn x = true
  tk : L2N.Takes X W
section
variable {C : Ck} {Φ : Fns} {xr : XR} {sc : Scope} {X : Cx} {W : WX}
theorem Hk.nodup (c : Hk C Φ xr sc X W) : X.N.Nodup := by rw [c.toCok.N]; exact c.toCok.nd
theorem Hk.blockK (c : Hk C Φ xr sc X W) : X.env.blockKind = .function := by
  have e := c.kind
  have e2 := c.toCok.sc
  unfold Env.blockKind
  rw [e2, e]
  rfl
theorem Hk.lc (c : Hk C Φ xr sc X W) (x : Str) (h : loc sc x = true) : Loc X.env.scope x ∧ (X.fn x = true ∨ X.env.scope.names.lookup x = some .local) := by
  refine ⟨?_, .inl (c.fn x)⟩
  rw [c.toCok.sc]
  unfold loc at h
  split at h
  · exact .inl (by assumption)
  · exact .inr (by assumption)
  · cases h
theorem ckTgG_ok {lc : Str → Bool} (g : HotG X) (hN : X.N.Nodup) (eN : X.N = C.N) (hl : ∀ x, lc x = true → Loc X.env.scope x ∧ (X.fn x = true ∨ X.env.scope.names.lookup x = some .local)) : ∀ {t : Tg} {e : Expr}, ckTg C lc t e = true → PG X e (tTg X.K t)
  | .nm i, e, h => ckNm_ok hN eN hl h
  | .tp is, e, h => by
    unfold ckTg at h
    split at h
    · rename_i hh
      cases hh
    · rename_i hh
      cases hh
      obtain ⟨h1, h2, h3⟩ := ckNms_ok hN eN hl h
      exact pg_tupG g h1 h2 h3
    · cases h
theorem compG_ok {t : Tg} {l : Nat} {d : Option E} {x : E} {e : Expr} {i : Nat} {y : Str} {py spos : Pos} (c : Hk C Φ xr sc X W) (hi : C.N[i]? = some y) (h : ckCH C sc t l d x e = true) (hw : swB sc y py e = true) :
    PS X (.Assign [.Name y py] e spos) (tAsg (tE X.K xr W (evE Φ (.comp t (.seq (.pl l)) d x))) (gName i)) := by
  unfold ckCH at h
  split at h
  · rename_i elt gs scope pos
    split at h
    · rename_i tg iter ifs k
      have hw0 := hw
      simp only [swB, Bool.and_eq_true, decide_eq_true_eq] at hw0
      simp only [Bool.and_eq_true, beq_iff_eq] at h
      obtain ⟨⟨⟨⟨⟨⟨rfl, hb⟩, hit⟩, hs⟩, ht⟩, hd⟩, hx⟩ := h
      have q := ps_lcG (pos := pos) (spos := spos) (py := py) (tl := tVar l) (te := tE X.K xr (fun _ _ _ _ => False) (evE Φ x)) (tt := condT X.K xr Φ d) (g := tTg X.K t) (own := tgX C (tgs t)) c.hot c.nodup (by rw [c.toCok.N]; exact hi) (by rw [c.toCok.sc]; exact hw0.1.1)
        (by rw [swaps_set c.blockK, c.toCok.sc, hw]) (isNm_ok c.toCok hit) (by rw [c.toCok.sc, c.toCok.N]; exact blkOk_by hb)
        (fun s H Ca cl fp g => ckTgG_ok (X := X.blk s H scope (compEnvC scope cl Ca X.env) fp) g c.nodup c.toCok.N (lcB_ok c.toCok.sc) ht)
        (fun s H Ca cl fp => C_ok d ifs (relS scope sc) (X.blk s H scope (compEnvC scope cl Ca X.env) fp) (c.toCok.blk s H scope Ca cl fp) hd)
        (fun s H Ca cl fp => E_ok x elt (relS scope sc) (X.blk s H scope (compEnvC scope cl Ca X.env) fp) _ (c.toCok.blk s H scope Ca cl fp) takesB hx) (folded hs)
      rw [tgX_snd] at q
      exact PS.imp q fun D σ H z => by
        obtain ⟨ρ, G, φ, r, z⟩ := z
        exact comp_ok r z
    · cases h
  · cases h
mutual
theorem H_ok : ∀ (p : St) (s : Stmt) (X : Cx) (W : WX), Hk C Φ xr sc X W → ckH C sc p s = true → PS X s (tS X.K xr W (asgS p) (evS Φ p))
  | .asg i x, s, X, W, c, h => by
    have hm : i ∈ asgS (.asg i x) := List.mem_singleton.mpr rfl
    unfold ckH at h
    split at h
    · split at h
      · simp only [Bool.and_eq_true, decide_eq_true_eq] at h
        exact PS.imp (compG_ok c h.1.1.1 h.2 h.1.2) fun D σ H q => asg_ok hm q
      · cases h
    · split at h
      · simp only [Bool.and_eq_true, decide_eq_true_eq] at h
        obtain ⟨⟨⟨hi, hl⟩, he⟩, hn⟩ := h
        exact PS.imp (ps_set c.nodup (by rw [c.toCok.N]; exact hi) (c.lc _ hl).1 (E_ok x _ sc X W c.toCok c.tk he) (swaps_not hn) (.inl (c.fn _))) fun D σ H q => asg_ok hm q
      · cases h
  | .ret x, s, X, W, c, h => by
    unfold ckH at h
    split at h
    · refine PS.imp (ps_ret (E_ok x _ sc X W c.toCok c.tk h)) fun D σ H ⟨ρ, G, φ, r, q⟩ => ?_
      rw [evS] at q
      exact then_ok r q fun s ρ' v G' H' φ' f r' t st q' => q' σ G' H' φ' .refl r' v f st t
    · cases h
  | .ite d a b, s, X, W, c, h => by
    unfold ckH at h
    split at h
    · rename_i t p q pos
      simp only [Bool.and_eq_true] at h
      obtain ⟨⟨⟨h1, h2⟩, h3⟩, h4⟩ := h
      refine PS.imp (ps_if (T_ok d t sc X W c.toCok c.tk h1 h2) (Hs_ok a p X W c h3) (Hs_ok b q X W c h4)) fun D σ H ⟨ρ, G, φ, r, z⟩ => ?_
      rw [evS] at z
      refine test_S (a := asgS (.ite d a b)) (D := D) (k := fun k ρ' => if k = true then evSs Φ a ρ' else evSs Φ b ρ') r z fun k ρ' G' H' φ' r' st z' => ?_
      cases k with
      | true =>
        rw [if_pos rfl] at z' ⊢
        exact ⟨ρ', G', φ', r', z'.from Stp.refl .refl fun i hi => List.mem_append_left _ hi⟩
      | false =>
        rw [if_neg Bool.false_ne_true] at z' ⊢
        exact ⟨ρ', G', φ', r', z'.from Stp.refl .refl fun i hi => List.mem_append_right _ hi⟩
    · cases h
  | .expr _, s, X, W, c, h => by unfold ckH at h; cases h
  | .par _ _, s, X, W, c, h => by unfold ckH at h; cases h
  | .unp _ _, s, X, W, c, h => by unfold ckH at h; cases h
  | .setit _ _ _, s, X, W, c, h => by unfold ckH at h; cases h
  | .pset _ _ _ _, s, X, W, c, h => by unfold ckH at h; cases h
  | .fset _ _ _ _, s, X, W, c, h => by unfold ckH at h; cases h
  | .setd _ _ _, s, X, W, c, h => by unfold ckH at h; cases h
  | .aug _ _ _, s, X, W, c, h => by unfold ckH at h; cases h
  | .augl _ _, s, X, W, c, h => by unfold ckH at h; cases h
  | .retN, s, X, W, c, h => by unfold ckH at h; cases h
  | .for_ _ _ _ _, s, X, W, c, h => by unfold ckH at h; cases h
  | .while_ _ _ _, s, X, W, c, h => by unfold ckH at h; cases h
  | .brk, s, X, W, c, h => by unfold ckH at h; cases h
  | .cont, s, X, W, c, h => by unfold ckH at h; cases h
  | .pass, s, X, W, c, h => by unfold ckH at h; cases h
  | .raise _, s, X, W, c, h => by unfold ckH at h; cases h
  | .raiseF _ _, s, X, W, c, h => by unfold ckH at h; cases h
  | .tryC _ _ _ _, s, X, W, c, h => by unfold ckH at h; cases h
  | .tryR _ _ _ _, s, X, W, c, h => by unfold ckH at h; cases h
  | .tryA _ _ _ _ _, s, X, W, c, h => by unfold ckH at h; cases h
  | .never, s, X, W, c, h => by unfold ckH at h; cases h
theorem Hs_ok : ∀ (ps : List St) (ss : List Stmt) (X : Cx) (W : WX), Hk C Φ xr sc X W → ckHs C sc ps ss = true → PSs X ss (tS X.K xr W (asgSs ps) (evSs Φ ps))
  | [], ss, X, W, c, h => by
    unfold ckHs at h
    have e := List.isEmpty_iff.mp h
    subst e
    refine PSs.imp pss_nil fun D σ H ⟨ρ, G, φ, r, q⟩ => ?_
    rw [evSs] at q
    exact q σ G H φ .refl r Stp.refl
  | p :: ps, ss, X, W, c, h => by
    unfold ckHs at h
    split at h
    · rename_i s ss
      simp only [Bool.and_eq_true] at h
      refine PSs.imp (pss_cons (H_ok p s X W c h.1) (Hs_ok ps ss X W c h.2)) fun D σ H ⟨ρ, G, φ, r, q⟩ => ?_
      rw [evSs] at q
      refine ⟨ρ, G, φ, r, ?_⟩
      have hl : ∀ i ∈ asgS p, i ∈ asgSs (p :: ps) := fun i hi => List.mem_append_left _ hi
      have hr : ∀ i ∈ asgSs ps, i ∈ asgSs (p :: ps) := fun i hi => List.mem_append_right _ hi
      cases e : evS Φ p ρ with
      | stk => rw [e] at q; exact q
      | exc d v ρ' =>
        rw [e] at q
        exact fun σ' G' H' φ' cls dd k st r' x => q σ' G' H' φ' cls dd (k.mono hl) st r' x
      | ok f ρ' =>
        rw [e] at q
        simp only [R.bnd_ok] at q
        intro σ' G' H' φ' k r'
        cases f with
        | nx => exact fun st => ⟨ρ', G', φ', r', PoS.from q st (k.mono hl) hr⟩
        | brk => exact q σ' G' H' φ' (k.mono hl) r'
        | cont => exact q σ' G' H' φ' (k.mono hl) r'
        | ret s => exact q σ' G' H' φ' (k.mono hl) r'
    · cases h
end
end
section
variable {P : Program} {w : World} {K : PySem.W.Frag} {mg : Str → Option Value} {base : Heap}
theorem def_Hdk {xr : XR} {Φ : Fns} {x qual : Str} {st : Stmt} {f : Addr} {fd : FuncData} {N ps : List Str} {gls : List Str} {xc : List Nat} {body : List VE.St} {k : Nat} {sem : List S → R S} (F : L2.Fun K x qual st f fd) (hm : mg x = some (.ref f)) (b : Binds K fd ps []) (Sc : FnScope N ps (defScope st))
    (hg : Gok K mg Φ.gl 0 gls) (hX : XOk K mg xc) (hx : xr = xrK K) (hb : ∀ x ∈ bltNames, mg (Str.ofString x) = none) (hv : mg (Str.ofString "ValueError") = none) (hk : ckHs ⟨N, [], gls, [], [], xc, [], true, []⟩ (defScope st) body (defBody st) = true)
    (e : sem = evDef Φ ps.length (N.length - ps.length) (asgSs body) body) : Hdk P w K mg base xr x ps.length (k + 1) sem := by
  subst e
  refine ⟨f, fd, ps, Fun.okGH F Sc (fun vs H Q E h => h.1) fun cdv A outer s H vs Q E hr hgd hot hsp => ?_, hm, F.kp, b⟩
  obtain ⟨hl, ss, G, φ, hss, r, h⟩ := hsp
  have hkk : Hk ⟨N, [], gls, [], [], xc, [], true, []⟩ Φ xr (defScope st) (cxG (L2N.CX P w) P w K mg base N qual (defScope st) f cdv A outer s H E) (fun cls dd _ H' => E cls dd H') := {
    toCok := {
      N := rfl
      nd := Sc.nd
      sc := rfl
      calm := fun z => nomatch z
      xk := hx
      xo := hX
      xi := fun _ z => nomatch z
      ve := hv
      gd := hgd
      hu := by have := hr.un; show (A.deeper (envOfC qual (defScope st) s.heap.objs.size f cdv)).units + 70 < cLine; omega
      fns := fun f x n z => by cases f <;> cases z
      ms := fun _ _ _ _ z => nomatch z
      mks := fun _ _ _ z => nomatch z
      hfs := fun i x n z => by cases i <;> cases z
      gls := fun g x e => by
        obtain ⟨u, v, h1, h2, h3⟩ := hg.at e
        rw [Nat.zero_add] at h3
        exact ⟨u, v, h1, h2, h3⟩
      blt := hb }
    hot := hot
    kind := Sc.kind
    fn := fun _ => rfl
    tk := L2N.takes_of rfl rfl rfl rfl }
  refine ⟨_, Hs_ok body (defBody st) _ _ hkk hk, ss ++ List.replicate (N.length - ps.length) .dead, G, φ, ?_, ?_⟩
  · have z := r.ext (m := N.length - ps.length)
    unfold L2.start
    rw [hl]
    exact z
  · have eσ : L2.start N vs = vs.map some ++ List.replicate (N.length - vs.length) none := rfl
    have en : (vs.map some).length = ps.length := by rw [List.length_map]; exact hl
    rw [evDef, if_pos hss] at h
    cases e : evSs Φ body (ss ++ List.replicate (N.length - ps.length) .dead) with
    | stk => rw [e] at h; exact h
    | exc c d ρ =>
      rw [e] at h
      intro σ' G' H' φ' cls dd kp st' r' x'
      rw [eσ] at kp
      have z := r'.fins kp
      rw [en] at z
      exact h G' H' _ cls dd (st'.weak fun b => own_finφ) z x'
    | ok g ρ =>
      rw [e] at h
      intro σ' G' H' φ' kp r'
      rw [eσ] at kp
      have z := r'.fins kp
      rw [en] at z
      cases g with
      | nx =>
        intro st'
        exact h .non G' H' _ [] (st'.weak fun b y => y.elim own_finφ fun y => nomatch y) z Tmp.non
      | brk => exact h.elim
      | cont => exact h.elim
      | ret s =>
        intro v f' st' t
        exact h v G' H' _ f' (st'.weak fun b y => y.imp own_finφ id) z ⟨t.rel, t.gn, fun a ha y => t.off a ha (own_finφ y)⟩
end
end VE

/-! VS16: the law's call. -/
namespace VE
open PySem L2 PySem.Spec PyProof.Rows
section
variable {P : Program} {w : World} {K : PySem.W.Frag} {mg mb : Str → Option Value} {k : Nat} {fa p : Addr} {fd : FuncData} {x : Str} {sem : List S → R S} {t : Shared} {us : List Value} {zs : List Int}
abbrev scrO (us : List Value) : Obj := { cls := .type "list", data := .seq us.toArray }
/-- the list of the script, if it is tracked at all -/
def HpS (K : PySem.W.Frag) (p : Addr) (us : List Value) (zs : List Int) : Hp := fun b => if b = p ∧ (K.lookup p).isNone = true then some (.frz (scrO us) (.lst (zs.map V.int))) else none
theorem HpS_some {b : Addr} {u : HO} (h : HpS K p us zs b = some u) : b = p ∧ K.lookup p = none ∧ u = .frz (scrO us) (.lst (zs.map V.int)) := by
  unfold HpS at h
  split at h
  · rename_i q
    cases h
    exact ⟨q.1, Option.isNone_iff_eq_none.mp q.2, rfl⟩
  · cases h
theorem HpS_none {b : Addr} (h : b ≠ p) : HpS K p us zs b = none := if_neg fun q => h q.1
theorem HpS_list (kin : K.In t.heap) (hp : t.heap.get? p = some (scrO us)) (hz : IntsAre us zs) (hn : zs.length ≤ sizeLine) : SqL K (HpS K p us zs) p (zs.map V.int) := by
  cases e : K.lookup p with
  | none =>
    have q : HpS K p us zs p = some (.frz (scrO us) (.lst (zs.map V.int))) := if_pos ⟨rfl, by rw [e]; rfl⟩
    exact .inl (.inr ⟨_, q⟩)
  | some o =>
    have e2 := kin p o e
    rw [hp] at e2
    cases e2
    exact .inr ⟨_, us.toArray, _, e, rfl, rfl, rfl, by rw [List.size_toArray, hz.length]; exact hn, by simpa using vals_ints hz⟩
theorem HpS_ok (hp : t.heap.get? p = some (scrO us)) (hz : IntsAre us zs) (hn : zs.length ≤ sizeLine) : HOk P w (HpS K p us zs) t.heap := by
  intro b u h
  obtain ⟨rfl, _, rfl⟩ := HpS_some h
  exact ⟨hp, by rw [List.length_map]; exact hn, us, _, vals_ints hz, hp⟩
/-- what is in the heap and no list stands in what the proof knows beforehand -/
theorem hid_of {b : Addr} {o : Obj} (hp : t.heap.get? p = some (scrO us)) (e : t.heap.get? b = some o) (h : (∀ es ep, o.data = .dict es ep → False) → K.lookup b ≠ none) : (hidT t.heap (HpS K p us zs)).get? b = some o := by
  refine hidT_get e ?_
  cases q : HpS K p us zs b with
  | none => rfl
  | some u =>
    obtain ⟨rfl, hk, _⟩ := HpS_some q
    rw [hp] at e
    cases e
    exact absurd hk (h fun es ep z => nomatch z)
theorem hid_ns {b : Addr} {m : Str → Option Value} (hp : t.heap.get? p = some (scrO us)) (h : t.heap.Ns b m) : (hidT t.heap (HpS K p us zs)).Ns b m := by
  obtain ⟨o, es, ep, e, d, r⟩ := h
  exact ⟨o, es, ep, hid_of hp e fun z => (z es ep d).elim, d, r⟩
theorem lawG (kin : K.In t.heap) (nsm : t.heap.Ns mainGlobals mg) (nsb : t.heap.Ns builtinsNs mb) (boot : ∀ y : Str, y ≠ "__name__" → mb y = bootBuiltins y) (free : t.heap.NoLimit) (gens : t.gens = #[])
    (hp : t.heap.get? p = some (scrO us)) (hz : IntsAre us zs) (hn : zs.length ≤ sizeLine) (room : Room k callerA) (F : ∀ base : Heap, K.In base → base.Ns mainGlobals mg → FnG P w K mg base (L2N.CX P w) k fa fd [x] (spOf K (xrK K) 1 sem))
    (bind : ∀ (s : Shared) (u : Value), BindsTo s fd ⟨[u], []⟩ [(x, u)]) (law : ∃ ρ, sem [.val (.list (zs.map .int))] = .ok (.val (.bool true)) ρ) :
    codeAny (model P w) callerA (.call (.ref fa) ⟨[.ref p], []⟩) (fun r t' => r = .ok (.ret (.bool true)) ∧ OldK t.heap t'.heap ∧ t'.os = t.os ∧ AllBare t'.gens) t := by
  have inb : K.In (hidT t.heap (HpS K p us zs)) := fun b o e => hid_of hp (kin b o e) fun _ z => by rw [z] at e; cases e
  have md : Mod K mg (hidT t.heap (HpS K p us zs)) := by
    refine ⟨inb, hid_ns hp nsm, ⟨mb, hid_ns hp nsb, boot⟩, ?_⟩
    obtain ⟨m, h1, h2⟩ := free
    exact ⟨m, hid_ns hp h1, h2⟩
  have hL : SqL K (HpS K p us zs) p (zs.map V.int) := HpS_list kin hp hz hn
  have dps : ∀ zs : List Int, DPs K (HpS K p us zs) (zs.map V.int) (zs.map .int) := fun l => by
    have : ∀ (G : Hp) (l : List Int), DPs K G (l.map V.int) (l.map .int) := fun G l => by
      induction l with
      | nil => exact .nil
      | cons i l ih => exact .cons (.int i) ih
    exact this _ l
  have st0 : spOf K (xrK K) 1 sem [.ref p] (HpS K p us zs) (fun v _ => v = .bl true) (fun _ _ _ => False) := by
    refine ⟨rfl, [.val (.list (zs.map .int))], HpS K p us zs, fun _ => [], rfl, ?_, ?_⟩
    · refine ⟨rfl, Same.refl _, fun i => ?_, (fun _ _ _ z => nomatch z), fun _ _ z => nomatch z⟩
      cases i with
      | zero => exact .inr ⟨_, rfl, .lst hL (dps zs), rfl⟩
      | succ i => exact .inl ⟨by cases i <;> rfl, rfl⟩
    · obtain ⟨ρ, e⟩ := law
      rw [e]
      intro v G' H' φ' f _ _ tm
      have q := tm.rel.1
      cases q
      rfl
  have e0 : Env0 P w K mg (hidT t.heap (HpS K p us zs)) callerA [] t (HpS K p us zs) := by
    refine ⟨rfl, md, fun b o e => of_hidT e, Nat.le_of_eq (hidT_size _ _), trivial, ?_, HpS_ok hp hz hn, .of_eq gens⟩
    intro b hb
    cases hb
  refine codeAny_mono ((F _ inb (hid_ns hp nsm)).go callerA [] t _ ⟨[.ref p], []⟩ [.ref p] [.ref p] _ _ room rfl e0 (bind t _) (.cons rfl .nil) st0) ?_
  intro r t' h
  match r, h with
  | .error e, h =>
    obtain ⟨_, _, _, _, _, _, _, _, _, _, _, _, z⟩ := h
    exact z.elim
  | .ok (.ret u), h =>
    obtain ⟨v, H', os, bare, un, ok', rv, rfl⟩ := h
    have eu : u = Value.bool true := rv
    subst eu
    refine ⟨rfl, OldK.of_keep fun b o e => ?_, os, bare⟩
    cases q : HpS K p us zs b with
    | none => exact un.keep b o e q (fun z => nomatch z) (fun z => nomatch z)
    | some y =>
      obtain ⟨rfl, _, rfl⟩ := HpS_some q
      obtain ⟨e2, _⟩ := ok' _ _ (un.frzs _ _ _ q)
      rw [hp] at e
      cases e
      exact e2
end
/-- the goal that the head leaves, from the law's evaluation -/
theorem walkG {l : PySem.W.OpenLaw} {n k : Nat} {q : Program} {loose : List Str} {XP : (Str → Option Value) → Heap → Prop} {YP : World → Heap → Prop} {d : DefRec} {K : Params → PySem.W.Frag} {x : Str} {sem : List S → R S}
    (most : l.most = some n) (small : n ≤ sizeLine) (dflt : d.params.defaults = []) (room : Room k callerA) (known : ∀ (w : World) (h : Heap), YP w h → (K w.params).In h)
    (law : ∀ zs : List Int, zs.length ≤ n → ∃ ρ, sem [.val (.list (zs.map .int))] = .ok (.val (.bool true)) ρ)
    (F : ∀ (w : World) (mg : Str → Option Value) (fa : Addr) (h : Heap), (K w.params).In h → h.Ns mainGlobals mg → mg d.name = some (.ref fa) →
      ∃ fd : FuncData, (∀ (s : Shared) (u : Value), BindsTo s fd ⟨[u], []⟩ [(x, u)]) ∧ ∀ base : Heap, (K w.params).In base → base.Ns mainGlobals mg → FnG l.prog w (K w.params) mg base (L2N.CX l.prog w) k fa fd [x] (spOf (K w.params) (xrK (K w.params)) 1 sem)) :
    PySem.W.WalkO q loose XP YP l.row.toRowW d [] (fun f vs => PySem.call f vs) := by
  refine Att.attach_call most dflt ?_
  intro w s t mg mb fa o pm cd doc p us zs G Y _ _ _ hmg hp hz hn hg
  obtain ⟨fd, hb, hF⟩ := F w mg fa _ (known w _ Y) G.T.g hmg
  exact lawG (known w _ Y) G.T.g G.T.b G.T.builtins G.T.nolimit hg hp hz (Nat.le_trans hn small) room hF hb (law zs hn)
end VE

/-! M1: equations for evaluating by simp; loops; draws. -/
namespace VE
open PySem L2
section
variable {Φ : Fns} {ρ : List S} {s : S}
@[simp] theorem slot_zero : slot (s :: ρ) 0 = s := rfl
@[simp] theorem slot_succ {i : Nat} : slot (s :: ρ) (i + 1) = slot ρ i := rfl
@[simp] theorem view_val {d : PyData} : view (.val d) = some d := rfl
@[simp] theorem view_lst {d : List PyData} : view (.lst d) = some (.list d) := rfl
@[simp] theorem view_dct {d : List (PyData × PyData)} : view (.dct d) = some (.dict d) := rfl
@[simp] theorem isVal_dct {d : List (PyData × PyData)} : isVal (.dct d) = false := rfl
@[simp] theorem dctO_none : dctO none = [] := rfl
@[simp] theorem dctO_str {k : Str} {d : PyData} : dctO (some (.inr k, d)) = [(.str k, d)] := rfl
@[simp] theorem dctO_int {k : Int} {d : PyData} : dctO (some (.inl k, d)) = [(.int k, d)] := rfl
@[simp] theorem toBool_bool {b : Bool} : VE.toBool (.val (.bool b)) = some b := rfl
@[simp] theorem isVal_val {d : PyData} : isVal (.val d) = true := rfl
@[simp] theorem isVal_lst {d : List PyData} : isVal (.lst d) = false := rfl
@[simp] theorem bare_val {d : PyData} : bare (.val d) = true := rfl
@[simp] theorem bare_dead : bare .dead = true := rfl
@[simp] theorem bare_lst {d : List PyData} : bare (.lst d) = false := rfl
@[simp] theorem res_pl {i : Nat} {t : Option PyData} : res (.pl i) t ρ = view (slot ρ i) := rfl
@[simp] theorem res_e {x : E} {t : Option PyData} : res (.e x) t ρ = t := rfl
@[simp] theorem fin1_eq {a : A} {t : Option S} {g : PyData → Option S} : fin1 a t ρ g = match res a (t.bind view) ρ with
  | some d => ofO (g d) ρ
  | none => .stk := rfl
@[simp] theorem fin2_eq {a b : A} {t u : Option S} {g : PyData → PyData → Option S} : fin2 a b t u ρ g = match res a (t.bind view) ρ, res b (u.bind view) ρ with
  | some d, some d' => ofO (g d d') ρ
  | _, _ => .stk := rfl
@[simp] theorem ress_nil : ress [] [] ρ = some [] := rfl
@[simp] theorem ress_cons {a : A} {as : List A} {t : Option PyData} {ts : List (Option PyData)} : ress (a :: as) (t :: ts) ρ = match res a t ρ, ress as ts ρ with
    | some d, some ds => some (d :: ds)
    | _, _ => none := rfl
@[simp] theorem resV_nil : resV [] [] ρ = some [] := rfl
@[simp] theorem resV_e {x : E} {as : List A} {s : S} {ts : List (Option S)} : resV (.e x :: as) (some s :: ts) ρ = match view s, resV as ts ρ with
    | some d, some ds => some (d :: ds)
    | _, _ => none := rfl
@[simp] theorem resS_nil : resS [] [] ρ = some [] := rfl
@[simp] theorem resS_e {x : E} {as : List A} {s : S} {ts : List (Option S)} : resS (.e x :: as) (some s :: ts) ρ = match resS as ts ρ with
    | some ds => some (s :: ds)
    | _ => none := rfl
@[simp] theorem lend_nil : lend [] [] ρ = some ([], ρ) := rfl
@[simp] theorem lend_pl {i : Nat} {as : List A} {t : Option S} {ts : List (Option S)} : lend (.pl i :: as) (t :: ts) ρ = match slot ρ i with
    | .dead => none
    | .val d => (lend as ts ρ).map fun (r, ρ') => (.val d :: r, ρ')
    | s => (lend as ts (ρ.set i .dead)).map fun (r, ρ') => (s :: r, ρ') := rfl
@[simp] theorem lend_e {x : E} {as : List A} {s : S} {ts : List (Option S)} : lend (.e x :: as) (some s :: ts) ρ = (lend as ts ρ).map fun (r, ρ') => (s :: r, ρ') := rfl
@[simp] theorem giveBack_nil {ss fs : List S} : giveBack [] ss fs ρ = ρ := rfl
@[simp] theorem giveBack_pl {i : Nat} {as : List A} {f : S} {ss fs : List S} : giveBack (.pl i :: as) (s :: ss) (f :: fs) ρ = giveBack as ss fs (if isVal s then ρ else ρ.set i f) := rfl
@[simp] theorem giveBack_e {x : E} {as : List A} {f : S} {ss fs : List S} : giveBack (.e x :: as) (s :: ss) (f :: fs) ρ = giveBack as ss fs ρ := rfl
@[simp] theorem evA_pl {i : Nat} : evA Φ (.pl i) ρ = match slot ρ i with
    | .dead => .stk
    | _ => .ok none ρ := by rw [evA] <;> rfl
@[simp] theorem evA_e {x : E} : evA Φ (.e x) ρ = (evE Φ x ρ).bnd fun s ρ' => .ok (some s) ρ' := by rw [evA] <;> rfl
@[simp] theorem evAs_nil : evAs Φ [] ρ = .ok [] ρ := by rw [evAs] <;> rfl
@[simp] theorem evAs_cons {a : A} {as : List A} : evAs Φ (a :: as) ρ = (evA Φ a ρ).bnd fun s ρ' => (evAs Φ as ρ').bnd fun ss ρ'' => .ok (s :: ss) ρ'' := by rw [evAs] <;> rfl
@[simp] theorem evBs_one {k : Bool} {x : E} : evBs Φ k [x] ρ = evE Φ x ρ := by rw [evBs] <;> rfl
@[simp] theorem evBs_cons {k : Bool} {x y : E} {r : List E} : evBs Φ k (x :: y :: r) ρ = (evE Φ x ρ).bnd fun s ρ' => match VE.toBool s with
    | some b => if b = k then evBs Φ k (y :: r) ρ' else .ok (.val (.bool b)) ρ'
    | none => .stk := by rw [evBs] <;> rfl
@[simp] theorem evC_none : evC Φ none ρ = .ok true ρ := by rw [evC] <;> rfl
@[simp] theorem evC_some {c : E} : evC Φ (some c) ρ = (evE Φ c ρ).bnd fun s ρ' => ofO (VE.toBool s) ρ' := by rw [evC] <;> rfl
@[simp] theorem evE_rd_val {i : Nat} {m : Bool} : evE Φ (.rd i m) ρ = match slot ρ i with
    | .dead => .stk
    | .val d => .ok (.val d) ρ
    | s => if m then .ok s (ρ.set i .dead) else match view s with
      | some d => .ok (.val d) (ρ.set i (.val d))
      | none => .stk := by rw [evE] <;> rfl
@[simp] theorem evE_cst {d : PyData} : evE Φ (.cst d) ρ = .ok (.val d) ρ := by rw [evE] <;> rfl
@[simp] theorem evE_glob {g : Nat} : evE Φ (.glob g) ρ = .ok (.val (Φ.gl g)) ρ := by rw [evE] <;> rfl
@[simp] theorem evE_bin {o : Bop} {a b : A} : evE Φ (.bin o a b) ρ = (evA Φ a ρ).bnd fun t ρ' => (evA Φ b ρ').bnd fun u ρ'' => fin2 a b t u ρ'' (opB o) := by rw [evE] <;> rfl
@[simp] theorem evE_neg {a : A} : evE Φ (.neg a) ρ = (evA Φ a ρ).bnd fun t ρ' => fin1 a t ρ' opNeg := by rw [evE] <;> rfl
@[simp] theorem evE_not {a : E} : evE Φ (.not a) ρ = (evE Φ a ρ).bnd fun s ρ' => match VE.toBool s with
    | some b => .ok (.val (.bool (!b))) ρ'
    | none => .stk := by rw [evE] <;> rfl
@[simp] theorem evE_cmp {o : Cop} {a b : A} : evE Φ (.cmp o a b) ρ = (evA Φ a ρ).bnd fun t ρ' => (evA Φ b ρ').bnd fun u ρ'' => fin2 a b t u ρ'' (cmpS o) := by rw [evE] <;> rfl
@[simp] theorem evE_chain {o₁ o₂ : Cop} {a b c : A} : evE Φ (.chain o₁ o₂ a b c) ρ = (evA Φ a ρ).bnd fun t ρ' => (evA Φ b ρ').bnd fun u ρ'' => match res a (t.bind view) ρ'', res b (u.bind view) ρ'' with
    | some d, some d' => match opC o₁ d d' with
      | some true => (evA Φ c ρ'').bnd fun z ρ3 => fin2 b c u z ρ3 (cmpS o₂)
      | some false => .ok (.val (.bool false)) ρ''
      | none => .stk
    | _, _ => .stk := by rw [evE] <;> rfl
@[simp] theorem evE_bop {k : Bool} {es : List E} : evE Φ (.bop k es) ρ = evBs Φ k es ρ := by rw [evE] <;> rfl
@[simp] theorem evE_ite {c a b : E} : evE Φ (.ite c a b) ρ = (evE Φ c ρ).bnd fun s ρ' => match VE.toBool s with
    | some true => evE Φ a ρ'
    | some false => evE Φ b ρ'
    | none => .stk := by rw [evE] <;> rfl
@[simp] theorem evE_idx {a b : A} : evE Φ (.idx a b) ρ = (evA Φ a ρ).bnd fun t ρ' => (evA Φ b ρ').bnd fun u ρ'' => fin2 a b t u ρ'' ixS := by rw [evE] <;> rfl
@[simp] theorem evE_slice {k : Sl} {as : List A} : evE Φ (.slice k as) ρ = (evAs Φ as ρ).bnd fun ts ρ' => match ress as (ts.map (·.bind view)) ρ' with
    | some ds => ofO (opSl k ds) ρ'
    | none => .stk := by rw [evE] <;> rfl
@[simp] theorem evE_tup {as : List A} : evE Φ (.tup as) ρ = (evAs Φ as ρ).bnd fun ts ρ' => match resV as ts ρ' with
    | some ds => if decide (ds.length ≤ sizeLine) then .ok (.val (.tuple ds)) ρ' else .stk
    | none => .stk := by rw [evE] <;> rfl
@[simp] theorem evE_lst {as : List A} : evE Φ (.lst as) ρ = (evAs Φ as ρ).bnd fun ts ρ' => match resV as ts ρ' with
    | some ds => if decide (ds.length ≤ sizeLine) then .ok (.lst ds) ρ' else .stk
    | none => .stk := by rw [evE] <;> rfl
@[simp] theorem evE_call {f : Nat} {as : List A} : evE Φ (.call f as) ρ = (evAs Φ as ρ).bnd fun ts ρ' => match lend as ts ρ' with
    | some (ss, ρ'') => match Φ.fn f ss with
      | .stk => .stk
      | .ok s fs => .ok s (giveBack as ss fs ρ'')
      | .exc c d fs => .exc c d (giveBack as ss fs ρ'')
    | none => .stk := by rw [evE] <;> rfl
@[simp] theorem evE_blt {f : Blt} {as : List A} : evE Φ (.blt f as) ρ = (evAs Φ as ρ).bnd fun ts ρ' => match ress as (ts.map (·.bind view)) ρ' with
    | some ds => ofO (opBlt f ds) ρ'
    | none => .stk := by rw [evE] <;> rfl
@[simp] theorem evE_mut {m : Mut} {i : Nat} {as : List A} : evE Φ (.mut m i as) ρ = match slot ρ i with
    | .lst _ => (evAs Φ as ρ).bnd fun ts ρ' => match slot ρ' i, resV as ts ρ' with
      | .lst xs, some ds => match opMut m xs ds with
        | some (d, ys) => .ok (.val d) (ρ'.set i (.lst ys))
        | none => .stk
      | _, _ => .stk
    | _ => .stk := by rw [evE] <;> rfl
@[simp] theorem evE_ext {i : Nat} {x : E} : evE Φ (.ext i x) ρ = match slot ρ i with
    | .lst _ => (evE Φ x ρ).bnd fun s ρ' => match slot ρ' i, s with
      | .lst xs, .lst ys => if decide (xs.length + ys.length ≤ sizeLine) then .ok (.val .none) (ρ'.set i (.lst (xs ++ ys))) else .stk
      | _, _ => .stk
    | _ => .stk := by rw [evE] <;> rfl
@[simp] theorem evE_sm {k : SM} {o x : A} : evE Φ (.sm k o x) ρ = (evA Φ o ρ).bnd fun t ρ' => match res o (t.bind view) ρ' with
    | some (.str a) => (evA Φ x ρ').bnd fun u ρ'' => fin1 x u ρ'' (opSm k a)
    | _ => .stk := by rw [evE] <;> rfl
@[simp] theorem evE_lrg {as : List A} : evE Φ (.lrg as) ρ = (evAs Φ as ρ).bnd fun ts ρ' => match ress as (ts.map (·.bind view)) ρ' with
    | some [.int n] => if rgOk 0 n then .ok (.lst (rng 0 n)) ρ' else .stk
    | some [.int m, .int n] => if rgOk m n then .ok (.lst (rng m n)) ρ' else .stk
    | _ => .stk := by rw [evE] <;> rfl
@[simp] theorem evE_lset {a : A} : evE Φ (.lset a) ρ = (evA Φ a ρ).bnd fun t ρ' => fin1 a t ρ' opSetLen := by rw [evE]
@[simp] theorem evE_sset {a : A} : evE Φ (.sset a) ρ = (evA Φ a ρ).bnd fun t ρ' => fin1 a t ρ' opSset := by rw [evE]
@[simp] theorem evS_expr {x : E} : evS Φ (.expr x) ρ = (evE Φ x ρ).bnd fun _ ρ' => .ok .nx ρ' := by rw [evS] <;> rfl
@[simp] theorem evS_asg {i : Nat} {x : E} : evS Φ (.asg i x) ρ = (evE Φ x ρ).bnd fun s ρ' => .ok .nx (ρ'.set i s) := by rw [evS] <;> rfl
@[simp] theorem evS_par {is : List Nat} {as : List A} : evS Φ (.par is as) ρ = (evAs Φ as ρ).bnd fun ts ρ' => match resS as ts ρ' with
    | some ss => if is.length = ss.length then .ok .nx (sets is ss ρ') else .stk
    | none => .stk := by rw [evS] <;> rfl
@[simp] theorem evS_unp {is : List Nat} {x : E} : evS Φ (.unp is x) ρ = (evE Φ x ρ).bnd fun s ρ' => match view s with
    | some d => match unpk is.length d with
      | some ds => .ok .nx (sets is (ds.map S.val) ρ')
      | none => .stk
    | none => .stk := by rw [evS] <;> rfl
@[simp] theorem evS_setit {i : Nat} {k : A} {x : E} : evS Φ (.setit i k x) ρ = (evE Φ x ρ).bnd fun s ρ' => match slot ρ' i with
    | .lst _ => (evA Φ k ρ').bnd fun t ρ'' => match view s, res k (t.bind view) ρ'', slot ρ'' i with
      | some d, some (.int j), .lst xs => match ixN xs.length j with
        | some n => .ok .nx (ρ''.set i (.lst (xs.set n d)))
        | none => .stk
      | _, _, _ => .stk
    | _ => .stk := by rw [evS] <;> rfl
@[simp] theorem evS_augl {i : Nat} {x : E} : evS Φ (.augl i x) ρ = match slot ρ i with
    | .lst _ => (evE Φ x ρ).bnd fun s ρ' => match slot ρ' i, s with
      | .lst xs, .lst ys => if decide (xs.length + ys.length ≤ sizeLine) then .ok .nx (ρ'.set i (.lst (xs ++ ys))) else .stk
      | _, _ => .stk
    | _ => .stk := by rw [evS] <;> rfl
@[simp] theorem evS_ret {x : E} : evS Φ (.ret x) ρ = (evE Φ x ρ).bnd fun s ρ' => .ok (.ret s) ρ' := by rw [evS] <;> rfl
@[simp] theorem evS_retN : evS Φ .retN ρ = .ok (.ret (.val .none)) ρ := by rw [evS] <;> rfl
@[simp] theorem evS_ite {c : E} {a b : List St} : evS Φ (.ite c a b) ρ = (evE Φ c ρ).bnd fun s ρ' => match VE.toBool s with
    | some true => evSs Φ a ρ'
    | some false => evSs Φ b ρ'
    | none => .stk := by rw [evS] <;> rfl
@[simp] theorem evS_while {n : Nat} {c : E} {b : List St} : evS Φ (.while_ n c b) ρ = whl (evE Φ c) (evSs Φ b) n ρ := by rw [evS] <;> rfl
@[simp] theorem evS_brk : evS Φ .brk ρ = .ok .brk ρ := by rw [evS] <;> rfl
@[simp] theorem evS_cont : evS Φ .cont ρ = .ok .cont ρ := by rw [evS] <;> rfl
@[simp] theorem evS_pass : evS Φ .pass ρ = .ok .nx ρ := by rw [evS] <;> rfl
@[simp] theorem evSs_nil : evSs Φ [] ρ = .ok .nx ρ := by rw [evSs] <;> rfl
@[simp] theorem evSs_cons {s : St} {r : List St} : evSs Φ (s :: r) ρ = (evS Φ s ρ).bnd fun f ρ' => match f with
    | .nx => evSs Φ r ρ'
    | f => .ok f ρ' := by rw [evSs] <;> rfl
@[simp] theorem evS_aug {i : Nat} {o : Bop} {a : A} : evS Φ (.aug i o a) ρ = match slot ρ i with
    | .val d => (evA Φ a ρ).bnd fun t ρ' => match res a (t.bind view) ρ' with
      | some d' => match opAug o d d' with
        | some c => .ok .nx (ρ'.set i (.val (.int c)))
        | none => .stk
      | none => .stk
    | _ => .stk := by rw [evS] <;> rfl
@[simp] theorem opAug_add {a b : Int} : opAug .add (.int a) (.int b) = some (a + b) := rfl
@[simp] theorem opAug_sub {a b : Int} : opAug .sub (.int a) (.int b) = some (a - b) := rfl
@[simp] theorem opAug_mul {a b : Int} : opAug .mul (.int a) (.int b) = if decide (a.natAbs < 2 ^ 64) || decide (b.natAbs < 2 ^ 64) then some (a * b) else none := rfl
@[simp] theorem sets_nil {ss : List S} : sets [] ss ρ = ρ := rfl
@[simp] theorem sets_cons {i : Nat} {is : List Nat} {ss : List S} : sets (i :: is) (s :: ss) ρ = sets is ss (ρ.set i s) := rfl
@[simp] theorem kill_nil : kill [] ρ = ρ := rfl
@[simp] theorem kill_cons {i : Nat} {is : List Nat} : kill (i :: is) ρ = kill is (ρ.set i .dead) := rfl
@[simp] theorem putBack_nil {σ : List S} : putBack σ [] ρ = ρ := rfl
@[simp] theorem putBack_cons {σ : List S} {i : Nat} {is : List Nat} : putBack σ (i :: is) ρ = putBack σ is (ρ.set i (slot σ i)) := rfl
@[simp] theorem tgs_nm {i : Nat} : tgs (.nm i) = [i] := rfl
@[simp] theorem tgs_tp {is : List Nat} : tgs (.tp is) = is := rfl
@[simp] theorem bindT_nm {i : Nat} {d : PyData} : bindT (.nm i) d ρ = some (ρ.set i (.val d)) := rfl
@[simp] theorem bindT_tp {is : List Nat} {ds : List PyData} : bindT (.tp is) (.tuple ds) ρ = if ds.length = is.length then some (sets is (ds.map S.val) ρ) else none := rfl
@[simp] theorem fins_zero {asg : List Nat} : fins asg 0 ρ = [] := rfl
@[simp] theorem fins_succ {asg : List Nat} {n : Nat} : fins asg (n + 1) ρ = fins asg n ρ ++ [if n ∈ asg then .dead else slot ρ n] := by
  unfold fins
  rw [List.range_succ, List.map_append]
  rfl
@[simp] theorem opB_add {a b : Int} : opB .add (.int a) (.int b) = some (.val (.int (a + b))) := rfl
@[simp] theorem opB_sub {a b : Int} : opB .sub (.int a) (.int b) = some (.val (.int (a - b))) := rfl
@[simp] theorem opB_mul {a b : Int} : opB .mul (.int a) (.int b) = if mulOk a b then some (.val (.int (a * b))) else none := rfl
@[simp] theorem opB_fdiv {a b : Int} : opB .fdiv (.int a) (.int b) = if divOk b then some (.val (.int (a / b))) else none := rfl
@[simp] theorem opB_mod {a b : Int} : opB .mod (.int a) (.int b) = if decide (0 < b) then some (.val (.int (a % b))) else none := rfl
@[simp] theorem opB_pow {a b : Int} : opB .pow (.int a) (.int b) = if powOk a b then some (.val (.int (a ^ b.toNat))) else none := rfl
@[simp] theorem opB_lcat {a b : List PyData} : opB .add (.list a) (.list b) = if decide (a.length + b.length ≤ sizeLine) then some (.lst (a ++ b)) else none := rfl
@[simp] theorem opB_lrep {a : List PyData} {k : Int} : opB .mul (.list a) (.int k) = if (decide (0 ≤ k) && decide (k.toNat < 2 ^ 63)) && decide (a.length * k.toNat ≤ sizeLine) then some (.lst (List.replicate k.toNat a).flatten) else none := rfl
@[simp] theorem opNeg_int {a : Int} : opNeg (.int a) = some (.val (.int (-a))) := rfl
@[simp] theorem cmpS_eq {o : Cop} {d e : PyData} : cmpS o d e = (opC o d e).map fun k => .val (.bool k) := rfl
@[simp] theorem ixS_eq {d e : PyData} : ixS d e = (opIx d e).map .val := rfl
@[simp] theorem opIx_list {xs : List PyData} {i : Int} : opIx (.list xs) (.int i) = atI xs i := rfl
@[simp] theorem opIx_tup {xs : List PyData} {i : Int} : opIx (.tuple xs) (.int i) = atI xs i := rfl
@[simp] theorem opC_lt {a b : Int} : opC .lt (.int a) (.int b) = some (decide (a < b)) := rfl
@[simp] theorem opC_le {a b : Int} : opC .le (.int a) (.int b) = some (decide (a ≤ b)) := rfl
@[simp] theorem opC_gt {a b : Int} : opC .gt (.int a) (.int b) = some (decide (b < a)) := rfl
@[simp] theorem opC_ge {a b : Int} : opC .ge (.int a) (.int b) = some (decide (b ≤ a)) := rfl
theorem sh_int {a : Int} : SeqAt.shaped (.int a) = true := rfl
@[simp] theorem opC_eqI {a b : Int} : opC .eq (.int a) (.int b) = some (decide (a = b)) := by
  show (if SeqAt.shaped (.int a) && SeqAt.shaped (.int b) then some (PyData.eqv (.int a) (.int b)) else none) = _
  rw [sh_int, sh_int]
  simp [PyData.eqv]
  by_cases h : a = b <;> simp [h]
@[simp] theorem opC_neI {a b : Int} : opC .ne (.int a) (.int b) = some (decide (a ≠ b)) := by
  show (if SeqAt.shaped (.int a) && SeqAt.shaped (.int b) then some (!PyData.eqv (.int a) (.int b)) else none) = _
  rw [sh_int, sh_int]
  simp [PyData.eqv]
  by_cases h : a = b <;> simp [h]
end
/-- small numbers -/
theorem log2_lt {a : Int} {n : Nat} (hn : 0 < n) (h : -(2 : Int) ^ n < a) (h2 : a < 2 ^ n) : a.natAbs.log2 < n := by
  by_cases e : a.natAbs = 0
  · rw [e]; simpa using hn
  · rw [Nat.log2_lt e]
    have q : ((2 : Int) ^ n) = ((2 ^ n : Nat) : Int) := by simp
    rw [q] at h h2
    omega
end VE
namespace VE
open PySem L2
section
variable {Φ : Fns} {ρ : List S}
@[simp] theorem evIt_rng1 {a : A} : evIt Φ (.rng1 a) ρ = (evA Φ a ρ).bnd fun t ρ' => match res a (t.bind view) ρ' with
    | some (.int n) => if decide (n.natAbs < 2 ^ 60) then .ok (rng 0 n, none) ρ' else .stk
    | _ => .stk := by rw [evIt] <;> rfl
@[simp] theorem evIt_rng2 {a b : A} : evIt Φ (.rng2 a b) ρ = (evA Φ a ρ).bnd fun t ρ' => (evA Φ b ρ').bnd fun u ρ'' => match res a (t.bind view) ρ'', res b (u.bind view) ρ'' with
    | some (.int m), some (.int n) => if decide (m.natAbs < 2 ^ 60 ∧ n.natAbs < 2 ^ 60) then .ok (rng m n, none) ρ'' else .stk
    | _, _ => .stk := by rw [evIt] <;> rfl
@[simp] theorem evIt_rng3 {as : List A} : evIt Φ (.rng3 as) ρ = (evAs Φ as ρ).bnd fun ts ρ' => match ress as (ts.map (·.bind view)) ρ' with
    | some [.int i, .int j, .int k] => if decide (i.natAbs < 2 ^ 60 ∧ j.natAbs < 2 ^ 60 ∧ (0 < k ∧ k < 1000000000 ∨ k = -1)) then .ok (rngC i k (cnt3 i j k), none) ρ' else .stk
    | _ => .stk := by rw [evIt] <;> rfl
@[simp] theorem evE_rev {a : A} : evE Φ (.rev a) ρ = (evA Φ a ρ).bnd fun t ρ' => fin1 a t ρ' opRev := by rw [evE]
@[simp] theorem evE_lm {k : LM} {i : Nat} {x : A} : evE Φ (.lm k i x) ρ = match view (slot ρ i) with
    | some (.list _) => (evA Φ x ρ).bnd fun u ρ' => fin2 (.pl i) x none u ρ' (opLm k)
    | _ => .stk := by rw [evE] <;> rfl
@[simp] theorem evE_dcst {o : Option (Key × PyData)} : evE Φ (.dcst o) ρ = .ok (.dct (dctO o)) ρ := by rw [evE]
@[simp] theorem evIt_seq {a : A} : evIt Φ (.seq a) ρ = (evA Φ a ρ).bnd fun t ρ' => match res a (t.bind view) ρ' with
    | some d => match items d with
      | some xs => holdO a xs ρ'
      | none => .stk
    | none => .stk := by rw [evIt] <;> rfl
@[simp] theorem evIt_chars {a : A} : evIt Φ (.chars a) ρ = (evA Φ a ρ).bnd fun t ρ' => match res a (t.bind view) ρ' with
    | some (.str z) => .ok (chars z, none) ρ'
    | _ => .stk := by rw [evIt] <;> rfl
@[simp] theorem evE_dnewT : evE Φ .dnewT ρ = .ok (.dtt []) ρ := by rw [evE]
@[simp] theorem evE_dispT {k x : A} : evE Φ (.dispT k x) ρ = (evA Φ k ρ).bnd fun t ρ1 => (evA Φ x ρ1).bnd fun u ρ' => match resV [k, x] [t, u] ρ' with
    | some [.tuple ks, d] => if (keysL ks).isSome then .ok (.dtt [(.tuple ks, d)]) ρ' else .stk
    | _ => .stk := by rw [evE] <;> rfl
@[simp] theorem evE_keep {x : E} : evE Φ (.keep x) ρ = (evE Φ x ρ).bnd fun s ρ' => match s with
    | .dtt kvs => .ok (.val (.dict kvs)) ρ'
    | _ => .stk := by rw [evE] <;> rfl
@[simp] theorem evE_deq0 {i : Nat} : evE Φ (.deq0 i) ρ = match slot ρ i with
    | .dtt kvs => .ok (.val (.bool kvs.isEmpty)) ρ
    | .dct kvs => .ok (.val (.bool kvs.isEmpty)) ρ
    | _ => .stk := by rw [evE] <;> rfl
@[simp] theorem evE_csel' {fs : List Nat} {i : Nat} {as : List A} : evE Φ (.csel fs i as) ρ = match slot ρ i with
    | .val (.int k) => match L2.atI fs k with
      | some f => evE Φ (.call f as) ρ
      | none => .stk
    | _ => .stk := evE_csel
@[simp] theorem evE_dix {a b : A} : evE Φ (.dix a b) ρ = (evA Φ a ρ).bnd fun t ρ' => (evA Φ b ρ').bnd fun u ρ'' => fin2 a b t u ρ'' opDix := by rw [evE]
@[simp] theorem evE_dlist {a : A} : evE Φ (.dlist a) ρ = (evA Φ a ρ).bnd fun t ρ' => fin1 a t ρ' opDlist := by rw [evE]
@[simp] theorem evE_dmin {i : Nat} {π : List Px} : evE Φ (.dmin i π) ρ = match atP' ρ i π with
    | .dct kvs => match keysI kvs with
      | some (n :: ns) => .ok (.val (.int (minI n ns))) ρ
      | _ => .stk
    | _ => .stk := by rw [evE] <;> rfl
@[simp] theorem evE_dpop {i : Nat} {π : List Px} {k : U} : evE Φ (.dpop i π k) ρ = match atP' ρ i π, evU ρ k with
    | .dct kvs, some kd => match keyD kd with
      | some kk => match lookK kvs kk with
        | some d => .ok (.val d) (putP ρ i π (.dct (dropD kvs kk)))
        | none => .stk
      | none => .stk
    | _, _ => .stk := by rw [evE] <;> rfl
@[simp] theorem evE_disp1 {k : Key} {x : A} : evE Φ (.disp1 k x) ρ = (evA Φ x ρ).bnd fun t ρ' => match resV [x] [t] ρ' with
    | some [d] => .ok (.dct [(kDat k, d)]) ρ'
    | _ => .stk := by rw [evE] <;> rfl
@[simp] theorem evE_isx {a : A} {cs xs : List Nat} : evE Φ (.isx a cs xs) ρ = (evA Φ a ρ).bnd fun t ρ' => fin1 a t ρ' (opIsx cs xs) := by rw [evE]
@[simp] theorem evE_mkx {c : Nat} {a : A} : evE Φ (.mkx c a) ρ = (evA Φ a ρ).bnd fun t ρ' => fin1 a t ρ' (opMkx c) := by rw [evE]
@[simp] theorem evE_mkf {c : Nat} {a : A} : evE Φ (.mkf c a) ρ = (evA Φ a ρ).bnd fun t ρ' => fin1 a t ρ' (opMkf c) := by rw [evE]
@[simp] theorem evE_efld {c i : Nat} : evE Φ (.efld c i) ρ = match slot ρ i with
    | .val d => match opEfld c d with
      | some d' => .ok (.val d') ρ
      | none => .stk
    | _ => .stk := by rw [evE] <;> rfl
@[simp] theorem evS_raise {c : Nat} : evS Φ (.raise c) ρ = .exc c none ρ := by rw [evS]
@[simp] theorem evS_raiseF {c : Nat} {a : A} : evS Φ (.raiseF c a) ρ = (evA Φ a ρ).bnd fun t ρ' => match res a (t.bind view) ρ' with
    | some (.int i) => if decide (i.natAbs.log2 < 1920) then .exc c (some i) ρ' else .stk
    | _ => .stk := by rw [evS] <;> rfl
theorem evS_tryC {b : List St} {c : Nat} {cs : List Nat} {d : PyData} : evS Φ (.tryC b c cs d) ρ = match evSs Φ b ρ with
    | .exc c' o ρ' => if c' ∈ cs then if subX c' c = true then .ok (.ret (.val d)) ρ' else .exc c' o ρ' else .stk
    | r => r := by rw [evS] <;> rfl
theorem evS_tryA {b u : List St} {c i : Nat} {cs : List Nat} : evS Φ (.tryA b c cs i u) ρ = match evSs Φ b ρ with
    | .exc c' o ρ' => if c' ∈ cs then if subX c' c = true then (match evSs Φ u (ρ'.set i (.val (exD c' o))) with
      | .ok f ρ'' => .ok f (ρ''.set i .dead)
      | _ => .stk) else .exc c' o ρ' else .stk
    | r => r := by rw [evS] <;> rfl
@[simp] theorem unX_exD {c : Nat} {o : Option Int} : unX (exD c o) = some (c, o) := by cases o <;> rfl
@[simp] theorem opIsx_none {cs xs : List Nat} : opIsx cs xs .none = some (.val (.bool false)) := rfl
theorem opIsx_ex {cs xs : List Nat} {c : Nat} {o : Option Int} (h : c ∈ xs) : opIsx cs xs (exD c o) = some (.val (.bool (cs.any fun k => subX c k))) := by
  show (unX (exD c o)).bind _ = _
  rw [unX_exD, Option.bind_some, if_pos h]
@[simp] theorem isNone_exD {c : Nat} {o : Option Int} : isNone (exD c o) = false := rfl
@[simp] theorem evE_dkeys {i : Nat} : evE Φ (.dkeys i) ρ = match slot ρ i with
    | .dtt kvs => .ok (.lst (kvs.map (·.1))) ρ
    | _ => .stk := by rw [evE] <;> rfl
@[simp] theorem evS_setd {i : Nat} {k : A} {x : E} : evS Φ (.setd i k x) ρ = (evE Φ x ρ).bnd fun s ρ' => match slot ρ' i with
    | .dtt _ => (evA Φ k ρ').bnd fun t ρ'' => match view s, resV [k] [t] ρ'', slot ρ'' i with
      | some d, some [.tuple ks], .dtt kvs => match keysL ks with
        | some kk => if kvs.length < sizeLine then .ok .nx (ρ''.set i (.dtt (putT kvs kk d))) else .stk
        | none => .stk
      | _, _, _ => .stk
    | _ => .stk := by rw [evS] <;> rfl
@[simp] theorem evIt_zip {a b : A} : evIt Φ (.zip a b) ρ = (evA Φ a ρ).bnd fun t ρ1 => (evA Φ b ρ1).bnd fun u ρ' => match resV [a, b] [t, u] ρ' with
    | some [d, d'] => match items d, items d' with
      | some xs, some ys => .ok (zipD xs ys, none) ρ'
      | _, _ => .stk
    | _ => .stk := by rw [evIt] <;> rfl
@[simp] theorem evIt_keys {a : A} : evIt Φ (.keys a) ρ = (evA Φ a ρ).bnd fun t ρ' => match res a (t.bind view) ρ' with
    | some (.dict kvs) => if tkey kvs then .ok (kvs.map (·.1), none) ρ' else .stk
    | _ => .stk := by rw [evIt] <;> rfl
@[simp] theorem evIt_enum {a : A} : evIt Φ (.enum a) ρ = (evA Φ a ρ).bnd fun t ρ' => match res a (t.bind view) ρ' with
    | some (.list xs) => holdO a (enumFrom xs) ρ'
    | some (.tuple xs) => holdO a (enumFrom xs) ρ'
    | _ => .stk := by rw [evIt] <;> rfl
@[simp] theorem items_list {xs : List PyData} : items (.list xs) = some xs := rfl
@[simp] theorem items_tuple {xs : List PyData} : items (.tuple xs) = some xs := rfl
@[simp] theorem holdO_pl {i : Nat} {xs : List PyData} : holdO (.pl i) xs ρ = if isVal (slot ρ i) = true then .ok (xs, none) ρ else .ok (xs, some (i, slot ρ i)) (ρ.set i .dead) := rfl
@[simp] theorem holdO_e {x : E} {xs : List PyData} : holdO (.e x) xs ρ = .ok (xs, none) ρ := rfl
@[simp] theorem noExc_ok' {α : Type} {a : α} : noExc (R.ok a ρ) = R.ok a ρ := rfl
@[simp] theorem putH_none : putH none ρ = ρ := rfl
@[simp] theorem putH_some {i : Nat} {s : S} : putH (some (i, s)) ρ = ρ.set i s := rfl
@[simp] theorem finF_ok {h : Option (Nat × S)} {f : F} : finF h (.ok f ρ) = .ok f (putH h ρ) := rfl
@[simp] theorem restore_none {t : Tg} {ρ1 ρ6 : List S} : restore none t ρ1 ρ6 = putBack ρ1 (tgs t) ρ6 := rfl
@[simp] theorem restore_some {t : Tg} {ρ1 ρ6 : List S} {i : Nat} {s : S} : restore (some (i, s)) t ρ1 ρ6 = (putBack ρ1 (tgs t) ρ6).set i s := rfl
@[simp] theorem bodyF_eq {t : Tg} {b : List St} {d : PyData} : bodyF Φ t b d ρ = match bindT t d ρ with
  | some ρ3 => evSs Φ b ρ3
  | none => .stk := rfl
@[simp] theorem turnF_eq {t : Tg} {c : Option E} {x : E} {d : PyData} : turnF Φ t c x d ρ = match bindT t d ρ with
      | some ρ3 => (evC Φ c ρ3).bnd fun k ρ4 => if k = true then (evE Φ x ρ4).bnd fun s ρ5 => match view s with
          | some v => .ok (some v) (kill (tgs t) ρ5)
          | none => .stk
        else .ok none (kill (tgs t) ρ4)
      | none => .stk := rfl
theorem turns_ok {f : PyData → List S → R (Option PyData)} {g : PyData → Option PyData} {ρ : List S} : ∀ (xs acc : List PyData), (∀ x ∈ xs, f x ρ = .ok (g x) ρ) → acc.length + xs.length ≤ sizeLine → turns f xs acc ρ = .ok (acc ++ xs.filterMap g) ρ
  | [], acc, _, _ => by simp [turns]
  | x :: xs, acc, h, hl => by
    rw [turns, h x List.mem_cons_self]
    simp only [R.bnd_ok]
    have hl' : acc.length + (xs.length + 1) ≤ sizeLine := hl
    cases e : g x with
    | none =>
      simp only [List.filterMap_cons, e]
      exact turns_ok xs acc (fun y hy => h y (List.mem_cons_of_mem _ hy)) (by omega)
    | some d =>
      simp only [List.filterMap_cons, e]
      rw [if_pos (by omega), turns_ok xs (acc ++ [d]) (fun y hy => h y (List.mem_cons_of_mem _ hy)) (by rw [List.length_append, List.length_singleton]; omega), List.append_assoc]
      rfl
theorem loop_ok {f : PyData → List S → R F} (I : Nat → List S → Prop) : ∀ (xs : List PyData) (i : Nat) (ρ : List S), I i ρ → (∀ j x ρ, xs[j]? = some x → I (i + j) ρ → ∃ ρ', (f x ρ = .ok .nx ρ' ∨ f x ρ = .ok .cont ρ') ∧ I (i + j + 1) ρ') → ∃ ρ', loop f xs ρ = .ok .nx ρ' ∧ I (i + xs.length) ρ'
  | [], i, ρ, h, _ => ⟨ρ, rfl, h⟩
  | x :: xs, i, ρ, h, hs => by
    obtain ⟨ρ1, e1, h1⟩ := hs 0 x ρ rfl h
    obtain ⟨ρ2, e2, h2⟩ := loop_ok I xs (i + 1) ρ1 h1 fun j y ρ hy hI => by
      have q := hs (j + 1) y ρ hy (by rw [show i + (j + 1) = i + 1 + j by omega]; exact hI)
      rw [show i + (j + 1) + 1 = i + 1 + j + 1 by omega] at q
      exact q
    refine ⟨ρ2, ?_, by rw [List.length_cons, show i + (xs.length + 1) = i + 1 + xs.length by omega]; exact h2⟩
    rw [loop]
    rcases e1 with e1 | e1 <;> rw [e1] <;> exact e2
theorem rng_get {n : Nat} {j : Nat} {x : PyData} (h : (rng 0 (n : Int))[j]? = some x) : j < n ∧ x = .int j := by
  unfold rng at h
  rw [List.getElem?_map] at h
  have e : ((n : Int) - 0).toNat = n := by omega
  rw [e] at h
  by_cases hj : j < n
  · rw [List.getElem?_range hj] at h
    refine ⟨hj, ?_⟩
    simpa using h.symm
  · rw [List.getElem?_eq_none (by simpa using hj)] at h
    cases h
theorem rng_len {n : Nat} : (rng 0 (n : Int)).length = n := by
  unfold rng
  simp
theorem loop_rng {f : PyData → List S → R F} (I : Nat → List S → Prop) (n : Nat) {ρ : List S} (h0 : I 0 ρ) (hs : ∀ i ρ, i < n → I i ρ → ∃ ρ', (f (.int i) ρ = .ok .nx ρ' ∨ f (.int i) ρ = .ok .cont ρ') ∧ I (i + 1) ρ') : ∃ ρ', loop f (rng 0 (n : Int)) ρ = .ok .nx ρ' ∧ I n ρ' := by
  have q := loop_ok (f := f) I (rng 0 (n : Int)) 0 ρ h0 fun j x ρ hx hI => by
    obtain ⟨h1, rfl⟩ := rng_get hx
    rw [Nat.zero_add] at hI ⊢
    exact hs j ρ h1 hI
  rw [rng_len, Nat.zero_add] at q
  exact q
theorem mem_rng {n : Nat} {x : PyData} (h : x ∈ rng 0 (n : Int)) : ∃ i : Nat, i < n ∧ x = .int i := by
  obtain ⟨j, hj⟩ := List.getElem?_of_mem h
  exact ⟨j, (rng_get hj).1, (rng_get hj).2⟩
theorem mulOk_l {a b : Int} (h : a.natAbs < 2 ^ 64) : mulOk a b = true := by
  unfold mulOk
  rw [decide_eq_true h]
  rfl
theorem mulOk_r {a b : Int} (h : b.natAbs < 2 ^ 64) : mulOk a b = true := by
  unfold mulOk
  rw [decide_eq_true h, Bool.or_true, Bool.true_or]
theorem mulOk_b {a b : Int} (ha : -(2 : Int) ^ 1000 < a) (ha2 : a < 2 ^ 1000) (hb : -(2 : Int) ^ 1000 < b) (hb2 : b < 2 ^ 1000) : mulOk a b = true := by
  have h1 := log2_lt (by omega) ha ha2
  have h2 := log2_lt (by omega) hb hb2
  unfold mulOk
  rw [decide_eq_true (p := a.natAbs.log2 + b.natAbs.log2 < 1000000) (by omega), Bool.or_true]
theorem divOk_of {b : Int} (h : 0 < b) (h2 : b < 2 ^ 1000) : divOk b = true := by
  have h1 := log2_lt (n := 1000) (by omega) (show -(2 : Int) ^ 1000 < b by omega) h2
  unfold divOk
  rw [decide_eq_true h, decide_eq_true (p := b.natAbs.log2 < 9000) (by omega)]
  rfl
theorem powOk_of {a b : Int} (h : 0 ≤ b) (h2 : b ≤ 1000) (ha : -(2 : Int) ^ 1000 < a) (ha2 : a < 2 ^ 1000) : powOk a b = true := by
  have h1 := log2_lt (by omega) ha ha2
  unfold powOk
  rw [decide_eq_true h, decide_eq_true (p := b.natAbs ≤ 1000) (by omega), decide_eq_true h1]
  rfl
end
end VE
namespace VE
open PySem L2
theorem repr_int {n : Int} (h : -(2 : Int) ^ 1000 < n) (h2 : n < 2 ^ 1000) : opBlt .repr [.int n] = some (.val (.str (Str.ofString (toString n)))) := by
  have h3 := log2_lt (by omega) h h2
  have e : (PyData.int n).shown = Str.ofString (toString n) := rfl
  have q : (PyData.int n).shown.length ≤ sizeLine := by
    rw [e]
    exact int_text_fits (by omega)
  have s1 : (PyData.int n).showable = true := decide_eq_true (by omega)
  show (if PyData.showable (.int n) && decide ((PyData.int n).shown.length ≤ sizeLine) && decide ((PyData.int n).depth ≤ 60) && !(PyData.int n).hasDict then some (S.val (.str (PyData.int n).shown)) else none) = _
  rw [decide_eq_true q, s1]
  rfl
@[simp] theorem opC_neStr {a b : Str} : opC .ne (.str a) (.str b) = some (!decide (a = b)) := rfl
@[simp] theorem opC_eqStr {a b : Str} : opC .eq (.str a) (.str b) = some (decide (a = b)) := rfl
@[simp] theorem opC_neNil : opC .ne (.list []) (.list []) = some false := by
  decide
@[simp] theorem opC_isB {a b : Bool} : opC .is (.bool a) (.bool b) = some (decide (a = b)) := rfl
@[simp] theorem opC_isnotB {a b : Bool} : opC .isnot (.bool a) (.bool b) = some (!decide (a = b)) := rfl
@[simp] theorem opC_isN {d : PyData} : opC .is d .none = some (VE.isNone d) := by cases d <;> rfl
@[simp] theorem opC_isnotN {d : PyData} : opC .isnot d .none = some (!VE.isNone d) := by cases d <;> rfl
@[simp] theorem opBlt_max2 {a b : Int} : opBlt .max2 [.int a, .int b] = some (.val (.int (if b > a then b else a))) := rfl
@[simp] theorem opBlt_min2 {a b : Int} : opBlt .min2 [.int a, .int b] = some (.val (.int (if b < a then b else a))) := rfl
@[simp] theorem opBlt_len {a : List PyData} : opBlt .len [.list a] = if decide (a.length ≤ sizeLine) then some (.val (.int a.length)) else none := rfl
@[simp] theorem opBlt_lenT {a : List PyData} : opBlt .len [.tuple a] = if decide (a.length ≤ sizeLine) then some (.val (.int a.length)) else none := rfl
@[simp] theorem unpk_tup {n : Nat} {ds : List PyData} : unpk n (.tuple ds) = if ds.length = n then some ds else none := rfl
@[simp] theorem opRev_list {xs : List PyData} : opRev (.list xs) = some (.lst xs.reverse) := rfl
@[simp] theorem opSl_hi {xs : List PyData} {j : Int} : opSl .hi [.list xs, .int j] = some (.lst (cutD xs none (some j))) := rfl
@[simp] theorem opSl_lo {xs : List PyData} {i : Int} : opSl .lo [.list xs, .int i] = some (.lst (cutD xs (some i) none)) := rfl
theorem cutD_sub {xs : List PyData} {lo hi : Option Int} : (cutD xs lo hi).Sublist xs := (List.take_sublist ..).trans (List.drop_sublist ..)
theorem atI_in {α : Type} {xs : List α} {i : Int} (h : 0 ≤ i) (h2 : i < xs.length) : ∃ d ∈ xs, atI xs i = some d := by
  obtain ⟨n, rfl⟩ := Int.eq_ofNat_of_zero_le h
  have hn : n < xs.length := by omega
  exact ⟨xs[n], List.getElem_mem hn, atI_nat (List.getElem?_eq_getElem hn)⟩
end VE

/-! M2: more lemmas for evaluating. -/
namespace VE
open PySem L2
section
variable {Φ : Fns} {ρ : List S}
theorem turns2_ok {f : PyData → List PyData → List S → R (List PyData)} {h : PyData → List PyData} {ρ : List S} : ∀ (xs acc : List PyData), (∀ x ∈ xs, ∀ acc : List PyData, acc.length + (h x).length ≤ sizeLine → f x acc ρ = .ok (acc ++ h x) ρ) → acc.length + (xs.flatMap h).length ≤ sizeLine → turns2 f xs acc ρ = .ok (acc ++ xs.flatMap h) ρ
  | [], acc, _, _ => by simp [turns2]
  | x :: xs, acc, hf, hl => by
    simp only [List.flatMap_cons, List.length_append] at hl
    rw [turns2, hf x List.mem_cons_self acc (by omega)]
    simp only [R.bnd_ok]
    rw [turns2_ok xs _ (fun y hy => hf y (List.mem_cons_of_mem _ hy)) (by rw [List.length_append]; omega), List.flatMap_cons, List.append_assoc]
theorem evSs_app {b : List St} : ∀ (a : List St) {ρ : List S}, evSs Φ (a ++ b) ρ = (evSs Φ a ρ).bnd fun f ρ' => match f with
    | .nx => evSs Φ b ρ'
    | f => .ok f ρ'
  | [], ρ => by simp
  | s :: a, ρ => by
    rw [List.cons_append, evSs_cons, evSs_cons]
    cases evS Φ s ρ with
    | stk => rfl
    | exc c d ρ' => rfl
    | ok f ρ' =>
      simp only [R.bnd_ok]
      cases f with
      | nx => exact evSs_app a
      | _ => rfl
/-- turns that leave nothing out -/
theorem turns_map {f : PyData → List S → R (Option PyData)} {g : PyData → PyData} {ρ : List S} (xs acc : List PyData) (h : ∀ x ∈ xs, f x ρ = .ok (some (g x)) ρ) (hl : acc.length + xs.length ≤ sizeLine) : turns f xs acc ρ = .ok (acc ++ xs.map g) ρ := by
  have q := turns_ok (f := f) (g := fun x => some (g x)) (ρ := ρ) xs acc h hl
  rw [q, List.filterMap_eq_map' ]
/-- turns over items that are data of one kind -/
theorem turns_enc {α : Type} {f : PyData → List S → R (Option PyData)} {ρ : List S} (enc : α → PyData) (P : α → Bool) (h : α → PyData) : ∀ (xs : List α) (acc : List PyData), (∀ x ∈ xs, f (enc x) ρ = .ok (if P x then some (h x) else none) ρ) → acc.length + xs.length ≤ sizeLine → turns f (xs.map enc) acc ρ = .ok (acc ++ (xs.filter P).map h) ρ
  | [], acc, _, _ => by simp [turns]
  | x :: xs, acc, hf, hl => by
    rw [List.length_cons] at hl
    rw [List.map_cons, turns, hf x List.mem_cons_self]
    simp only [R.bnd_ok]
    by_cases hp : P x = true
    · rw [if_pos hp]
      simp only
      rw [if_pos (by omega), turns_enc enc P h xs _ (fun y hy => hf y (List.mem_cons_of_mem _ hy)) (by rw [List.length_append, List.length_singleton]; omega), List.filter_cons, if_pos hp, List.append_assoc]
      rfl
    · rw [if_neg hp]
      simp only
      rw [turns_enc enc P h xs _ (fun y hy => hf y (List.mem_cons_of_mem _ hy)) (by omega), List.filter_cons, if_neg hp]
theorem turns_encM {α : Type} {f : PyData → List S → R (Option PyData)} {ρ : List S} (enc : α → PyData) (h : α → PyData) (xs : List α) (acc : List PyData) (hf : ∀ x ∈ xs, f (enc x) ρ = .ok (some (h x)) ρ) (hl : acc.length + xs.length ≤ sizeLine) : turns f (xs.map enc) acc ρ = .ok (acc ++ xs.map h) ρ := by
  have q := turns_enc (f := f) (ρ := ρ) enc (fun _ => true) h xs acc (fun x hx => by rw [hf x hx]; rfl) hl
  rwa [List.filter_eq_self.mpr (fun _ _ => rfl)] at q
theorem turns2_enc {α : Type} {f : PyData → List PyData → List S → R (List PyData)} {ρ : List S} (enc : α → PyData) (h : α → List PyData) : ∀ (xs : List α) (acc : List PyData), (∀ x ∈ xs, ∀ acc : List PyData, acc.length + (h x).length ≤ sizeLine → f (enc x) acc ρ = .ok (acc ++ h x) ρ) → acc.length + (xs.flatMap h).length ≤ sizeLine → turns2 f (xs.map enc) acc ρ = .ok (acc ++ xs.flatMap h) ρ
  | [], acc, _, _ => by simp [turns2]
  | x :: xs, acc, hf, hl => by
    simp only [List.flatMap_cons, List.length_append] at hl
    rw [List.map_cons, turns2, hf x List.mem_cons_self acc (by omega)]
    simp only [R.bnd_ok]
    rw [turns2_enc enc h xs _ (fun y hy => hf y (List.mem_cons_of_mem _ hy)) (by rw [List.length_append]; omega), List.flatMap_cons, List.append_assoc]
/-- turns that change the names as they go -/
theorem turns_inv {f : PyData → List S → R (Option PyData)} (I : Nat → List PyData → List S → Prop) : ∀ (xs acc : List PyData) (k : Nat) (ρ : List S), I k acc ρ → acc.length + xs.length ≤ sizeLine → (∀ (j : Nat) (x : PyData) (acc : List PyData) (ρ : List S), xs[j]? = some x → I (k + j) acc ρ → ∃ d ρ', f x ρ = .ok (some d) ρ' ∧ I (k + j + 1) (acc ++ [d]) ρ') → ∃ acc' ρ', turns f xs acc ρ = .ok acc' ρ' ∧ I (k + xs.length) acc' ρ'
  | [], acc, k, ρ, h, _, _ => ⟨acc, ρ, rfl, h⟩
  | x :: xs, acc, k, ρ, h, hl, hs => by
    rw [List.length_cons] at hl
    obtain ⟨d, ρ1, e1, h1⟩ := hs 0 x acc ρ rfl h
    obtain ⟨acc2, ρ2, e2, h2⟩ := turns_inv I xs (acc ++ [d]) (k + 1) ρ1 h1 (by rw [List.length_append, List.length_singleton]; omega) fun j y a ρ hy hI => by
      have q := hs (j + 1) y a ρ hy (by rw [show k + (j + 1) = k + 1 + j by omega]; exact hI)
      rw [show k + (j + 1) + 1 = k + 1 + j + 1 by omega] at q
      exact q
    refine ⟨acc2, ρ2, ?_, by rw [List.length_cons, show k + (xs.length + 1) = k + 1 + xs.length by omega]; exact h2⟩
    rw [turns, e1]
    simp only [R.bnd_ok]
    rw [if_pos (by omega)]
    exact e2
theorem rng_map {n : Nat} {g : PyData → PyData} {k : Nat → PyData} (h : ∀ i : Nat, i < n → g (.int (i : Int)) = k i) : (rng 0 (n : Int)).map g = (List.range n).map k := by
  unfold rng
  rw [List.map_map]
  have e : ((n : Int) - 0).toNat = n := by omega
  rw [e]
  refine List.map_congr_left fun i hi => ?_
  show g (.int (0 + (i : Int))) = k i
  rw [Int.zero_add]
  exact h i (List.mem_range.mp hi)
theorem rng_one {n : Nat} : rng 1 (n : Int) = (List.range (n - 1)).map fun (i : Nat) => .int (((i + 1 : Nat) : Int)) := by
  unfold rng
  have e : ((n : Int) - 1).toNat = n - 1 := by omega
  rw [e]
  refine List.map_congr_left fun i _ => ?_
  congr 1
  omega
theorem cut_last {xs : List PyData} : cutD xs none (some (-1)) = xs.dropLast := by
  unfold cutD
  rw [HT.sIx_none]
  have e : HT.sIx xs.length xs.length (some (-1)) = xs.length - 1 := by
    show (if (-1 : Int) < 0 then ((-1 : Int) + (xs.length : Int)).toNat else min (-1 : Int).toNat xs.length) = _
    rw [if_pos (by omega)]
    omega
  rw [e, List.drop_zero, Nat.sub_zero, List.dropLast_eq_take]
theorem cut_lo {xs : List PyData} {i : Nat} (h : i ≤ xs.length) : cutD xs (some (i : Int)) none = xs.drop i := by
  unfold cutD
  rw [HT.sIx_nat, HT.sIx_none, Nat.min_eq_left h]
  rw [List.take_of_length_le]
  rw [List.length_drop]
  exact Nat.le_refl _
theorem cut_hi {xs : List PyData} {i : Nat} (h : i ≤ xs.length) : cutD xs none (some (i : Int)) = xs.take i := by
  unfold cutD
  rw [HT.sIx_nat, HT.sIx_none, Nat.min_eq_left h, List.drop_zero, Nat.sub_zero]
theorem atI_last' {xs : List PyData} {d : PyData} (h : xs.getLast? = some d) : L2.atI xs (-1) = some d := by
  obtain ⟨ys, rfl⟩ := List.getLast?_eq_some_iff.mp h
  exact L2.atI_last ys d
@[simp] theorem opSl_hiT {xs : List PyData} {j : Int} : opSl .hi [.tuple xs, .int j] = some (.val (.tuple (cutD xs none (some j)))) := rfl
@[simp] theorem opSl_loT {xs : List PyData} {j : Int} : opSl .lo [.tuple xs, .int j] = some (.val (.tuple (cutD xs (some j) none))) := rfl
@[simp] theorem opB_tcat {a b : List PyData} : opB .add (.tuple a) (.tuple b) = if decide (a.length + b.length ≤ sizeLine) then some (.val (.tuple (a ++ b))) else none := rfl
end
end VE

/-! M3: equations of places, methods, instances. -/
namespace VE
open PySem L2
section
variable {Φ : Fns} {ρ : List S} {s : S}
@[simp] theorem isVal_box {b : Bx} {fs : List S} : isVal (.box b fs) = false := rfl
@[simp] theorem isVal_dtt {d : List (PyData × PyData)} : isVal (.dtt d) = false := rfl
@[simp] theorem bare_box {b : Bx} {fs : List S} : bare (.box b fs) = false := rfl
@[simp] theorem pthR_nil : pthR ρ [] = some [] := rfl
@[simp] theorem atP_nil {i : Nat} : atP' ρ i [] = slot ρ i := rfl
@[simp] theorem atP_fld {i : Nat} {f : Str} : atP' ρ i [.fld f] = getS (slot ρ i) [.fld f] := rfl
@[simp] theorem atP_key {i : Nat} {c : PyData} : atP' ρ i [.key c] = getS (slot ρ i) [.key c] := rfl
@[simp] theorem putP_nil {i : Nat} : putP ρ i [] s = ρ.set i s := by
  unfold putP
  simp only [pthR_nil]
  cases slot ρ i <;> rfl
@[simp] theorem putP_fld {i : Nat} {f : Str} : putP ρ i [.fld f] s = ρ.set i (setS (slot ρ i) [.fld f] s) := rfl
@[simp] theorem putP_key {i : Nat} {c : PyData} : putP ρ i [.key c] s = ρ.set i (setS (slot ρ i) [.key c] s) := rfl
@[simp] theorem evU_cst {d : PyData} : evU ρ (.cst d) = if simpleC d then some d else none := rfl
@[simp] theorem simpleC_int {i : Int} : simpleC (.int i) = true := rfl
@[simp] theorem simpleC_str {i : Str} : simpleC (.str i) = true := rfl
@[simp] theorem simpleC_bool {i : Bool} : simpleC (.bool i) = true := rfl
@[simp] theorem simpleC_none : simpleC .none = true := rfl
@[simp] theorem evU_nm {i : Nat} : evU ρ (.nm i) = match slot ρ i with
    | .val d => some d
    | _ => none := rfl
@[simp] theorem evU_get {i : Nat} {π ks : List Px} : evU ρ (.get i π ks) = below ρ (atP' ρ i π) ks := rfl
@[simp] theorem evU_len {i : Nat} {π : List Px} : evU ρ (.len i π) = match atP' ρ i π with
    | .lst xs => if decide (xs.length ≤ sizeLine) then some (.int xs.length) else none
    | _ => none := rfl
@[simp] theorem evU_add {a b : U} : evU ρ (.add a b) = match evU ρ a, evU ρ b with
    | some (.int x), some (.int y) => some (.int (x + y))
    | _, _ => none := rfl
@[simp] theorem evU_sub {a b : U} : evU ρ (.sub a b) = match evU ρ a, evU ρ b with
    | some (.int x), some (.int y) => some (.int (x - y))
    | _, _ => none := rfl
@[simp] theorem evU_inD {k : U} {i : Nat} {π : List Px} : evU ρ (.inD k i π) = match evU ρ k, atP' ρ i π with
    | some d, .dtt kvs => match keyT d with
      | some kk => some (.bool (lookT kvs kk).isSome)
      | none => none
    | some d, .dct kvs => match keyD d with
      | some kk => some (.bool (lookK kvs kk).isSome)
      | none => none
    | _, _ => none := rfl
@[simp] theorem evU_dget {i : Nat} {π : List Px} {k z : U} : evU ρ (.dget i π k z) = match evU ρ k, evU ρ z, atP' ρ i π with
    | some d, some e, .dtt kvs => match keyT d with
      | some kk => some ((lookT kvs kk).getD e)
      | none => none
    | some d, some e, .dct kvs => match keyD d with
      | some kk => some ((lookK kvs kk).getD e)
      | none => none
    | _, _, _ => none := rfl
@[simp] theorem keyD_int {i : Int} : keyD (.int i) = some (.inl i) := rfl
@[simp] theorem keyD_str {i : Str} : keyD (.str i) = some (.inr i) := rfl
@[simp] theorem putIt_dct {kvs : List (PyData × PyData)} {k d : PyData} : putIt (.dct kvs) k d = match keyD k with
    | some kk => if kvs.length < sizeLine then some (.dct (putD kvs kk d)) else none
    | none => none := by cases k <;> rfl
@[simp] theorem itemS_dct {kvs : List (PyData × PyData)} {k : PyData} : itemS (.dct kvs) k = match keyD k, keysD kvs with
    | some kk, some _ => lookK kvs kk
    | _, _ => none := by cases k <;> rfl
@[simp] theorem bare_dct {d : List (PyData × PyData)} : bare (.dct d) = false := rfl
@[simp] theorem evUs_nil : evUs ρ [] = some [] := rfl
@[simp] theorem evUs_cons {x : U} {r : List U} : evUs ρ (x :: r) = match evU ρ x, evUs ρ r with
    | some d, some ds => some (d :: ds)
    | _, _ => none := rfl
@[simp] theorem below_nil : below ρ s [] = match s with
    | .val d => some d
    | _ => none := rfl
@[simp] theorem below_one {p : Px} : below ρ s [p] = match keyOf ρ p with
    | some k => itemS s k
    | none => none := rfl
@[simp] theorem below_cons {p q : Px} {r : List Px} : below ρ s (p :: q :: r) = match below ρ s (q :: r), keyOf ρ p with
    | some d, some k => opIx d k
    | _, _ => none := rfl
@[simp] theorem keyOf_key {c : PyData} : keyOf ρ (.key c) = some c := rfl
@[simp] theorem keyOf_nm {i : Nat} : keyOf ρ (.nm i) = match slot ρ i with
    | .val d => some d
    | _ => none := by
  unfold keyOf
  simp only [pkOf]
  cases slot ρ i <;> rfl
@[simp] theorem itemS_val {d k : PyData} : itemS (.val d) k = opIx d k := by cases k <;> rfl
@[simp] theorem itemS_lst {xs : List PyData} {i : Int} : itemS (.lst xs) (.int i) = atI xs i := rfl
@[simp] theorem itemS_dtt {kvs : List (PyData × PyData)} {k : PyData} : itemS (.dtt kvs) k = match keyT k with
    | some kk => lookT kvs kk
    | none => none := by cases k <;> rfl
@[simp] theorem putIt_lst {xs : List PyData} {j : Int} {d : PyData} : putIt (.lst xs) (.int j) d = match ixN xs.length j with
    | some n => some (.lst (xs.set n d))
    | none => none := rfl
@[simp] theorem putIt_dtt {kvs : List (PyData × PyData)} {ks : List PyData} {d : PyData} : putIt (.dtt kvs) (.tuple ks) d = match keysL ks with
    | some kk => if kvs.length < sizeLine then some (.dtt (putT kvs kk d)) else none
    | none => none := rfl
@[simp] theorem evE_u {x : U} : evE Φ (.u x) ρ = match evU ρ x with
    | some d => .ok (.val d) ρ
    | none => .stk := by rw [evE] <;> rfl
@[simp] theorem evE_mutP {m : Mut} {i : Nat} {π : List Px} {xs : List U} : evE Φ (.mutP m i π xs) ρ = match atP' ρ i π, evUs ρ xs with
    | .lst ys, some ds => match opMut m ys ds with
      | some (d, zs) => .ok (.val d) (putP ρ i π (.lst zs))
      | none => .stk
    | _, _ => .stk := by rw [evE] <;> rfl
@[simp] theorem evE_meth {c m : Str} {f : Nat} {x : E} {xs : List U} : evE Φ (.meth c m f x xs) ρ = (evE Φ x ρ).bnd fun s ρ' => match evUs ρ' xs, isObj c m s with
    | some ds, true => match Φ.fn f (s :: ds.map S.val) with
      | .stk => .stk
      | .ok s _ => .ok s ρ'
      | .exc c d _ => .exc c d ρ'
    | _, _ => .stk := by rw [evE] <;> rfl
@[simp] theorem evE_callP {c m : Str} {f i : Nat} {π : List Px} {xs : List U} : evE Φ (.callP c m f i π xs) ρ = match evUs ρ xs, isObj c m (atP' ρ i π) with
    | some ds, true => match Φ.fn f (atP' ρ i π :: ds.map S.val) with
      | .stk => .stk
      | .ok s fs => .ok s (putP ρ i π (slot fs 0))
      | .exc c d fs => .exc c d (putP ρ i π (slot fs 0))
    | _, _ => .stk := by rw [evE] <;> rfl
@[simp] theorem evE_make {c : Str} {f : Nat} {xs : List U} : evE Φ (.make c f xs) ρ = match evUs ρ xs with
    | some ds => match Φ.fn f (.box (.obj c []) [] :: ds.map S.val) with
      | .ok (.val .none) fs => .ok (slot fs 0) ρ
      | .exc c d _ => .exc c d ρ
      | _ => .stk
    | none => .stk := by rw [evE] <;> rfl
@[simp] theorem evEs_nil : evEs Φ [] ρ = .ok [] ρ := by rw [evEs] <;> rfl
@[simp] theorem evEs_cons {x : E} {r : List E} : evEs Φ (x :: r) ρ = (evE Φ x ρ).bnd fun s ρ' => (evEs Φ r ρ').bnd fun ss ρ'' => .ok (s :: ss) ρ'' := by rw [evEs] <;> rfl
@[simp] theorem evE_boxl {as : List A} : evE Φ (.boxl as) ρ = (evAs Φ as ρ).bnd fun ts ρ' => match resS as ts ρ' with
    | some ss => if decide (ss.length ≤ sizeLine) then .ok (.box .lst ss) ρ' else .stk
    | none => .stk := by rw [evE] <;> rfl
@[simp] theorem evE_boxd {ks : List Key} {xs : List E} : evE Φ (.boxd ks xs) ρ = (evEs Φ xs ρ).bnd fun ss ρ' => if decide (ks.length = ss.length) && decide ks.Nodup then .ok (.box (.dK ks) ss) ρ' else .stk := by rw [evE] <;> rfl
@[simp] theorem evIt_seqP {i : Nat} {π : List Px} : evIt Φ (.seqP i π) ρ = match atP' ρ i π, slot ρ i with
    | .lst xs, .box b fs => .ok (xs, some (i, .box b fs)) (ρ.set i .dead)
    | _, _ => .stk := by rw [evIt] <;> rfl
@[simp] theorem evIt_zipP {i : Nat} {π ϖ : List Px} : evIt Φ (.zipP i π ϖ) ρ = match atP' ρ i π, atP' ρ i ϖ, slot ρ i with
    | .lst xs, .lst ys, .box b fs => .ok (zipD xs ys, some (i, .box b fs)) (ρ.set i .dead)
    | _, _, _ => .stk := by rw [evIt] <;> rfl
@[simp] theorem evS_pset {i : Nat} {π : List Px} {k : U} {x : E} : evS Φ (.pset i π k x) ρ = (evE Φ x ρ).bnd fun s ρ' => match view s, evU ρ' k with
    | some d, some kd => match putIt (atP' ρ' i π) kd d with
      | some t => .ok .nx (putP ρ' i π t)
      | none => .stk
    | _, _ => .stk := by rw [evS] <;> rfl
@[simp] theorem evS_fset {i : Nat} {π : List Px} {f : Str} {x : E} : evS Φ (.fset i π f x) ρ = (evE Φ x ρ).bnd fun s ρ' => match putFd (atP' ρ' i π) f s with
    | some t => .ok .nx (putP ρ' i π t)
    | none => .stk := by rw [evS] <;> rfl
end
end VE

/-! NR: data whose repr is a text. -/
namespace VE
open PySem L2 TL
structure Nr (D W : Nat) (d : PyData) : Prop where
  sh : d.showable = true
  lv : d.leavesShort 100 = true
  fl : flatK d = true
  dp : d.depth ≤ D
  wt : d.weight ≤ W
theorem Nr.mono {D W D' W' : Nat} {d : PyData} (h : Nr D W d) (h1 : D ≤ D') (h2 : W ≤ W') : Nr D' W' d := ⟨h.sh, h.lv, h.fl, Nat.le_trans h.dp h1, Nat.le_trans h.wt h2⟩
theorem repr_r {d : PyData} (h : Nr 50 100000 d) : opBlt .repr [d] = some (.val (.str d.shown)) := by
  obtain ⟨h1, h2, h3, h4, h5⟩ := h
  have q := PyData.shown_le 100 (by decide) d h2
  have hs : (16000000 : Nat) ≤ sizeLine := by decide
  show (if PyData.showable d && decide (d.shown.length ≤ sizeLine) && decide (d.depth ≤ 60) && flatK d then some (S.val (.str d.shown)) else none) = _
  rw [h1, h3, decide_eq_true (show d.depth ≤ 60 by omega), decide_eq_true (show d.shown.length ≤ sizeLine by omega)]
  rfl
theorem nr_all {D W : Nat} : ∀ {xs : List PyData}, (∀ x ∈ xs, Nr D W x) → PyData.showableAll xs = true ∧ PyData.leavesShortAll 100 xs = true ∧ flatKs xs = true ∧ PyData.depthAll xs ≤ D ∧ PyData.weightAll xs ≤ (W + 1) * xs.length
  | [], _ => ⟨rfl, rfl, rfl, Nat.zero_le _, Nat.zero_le _⟩
  | x :: xs, h => by
    obtain ⟨a1, a2, a3, a4, a5⟩ := h x List.mem_cons_self
    obtain ⟨b1, b2, b3, b4, b5⟩ := nr_all (xs := xs) fun y hy => h y (List.mem_cons_of_mem _ hy)
    refine ⟨?_, ?_, ?_, ?_, ?_⟩
    · show (x.showable && PyData.showableAll xs) = true
      rw [a1, b1]; rfl
    · show (x.leavesShort 100 && PyData.leavesShortAll 100 xs) = true
      rw [a2, b2]; rfl
    · show (flatK x && flatKs xs) = true
      rw [a3, b3]; rfl
    · exact Nat.max_le.mpr ⟨a4, b4⟩
    · show x.weight + 1 + PyData.weightAll xs ≤ (W + 1) * (xs.length + 1)
      rw [Nat.mul_succ]
      omega
theorem nr_list {D W : Nat} {xs : List PyData} (h : ∀ x ∈ xs, Nr D W x) : Nr (D + 1) ((W + 1) * xs.length) (.list xs) := by
  obtain ⟨b1, b2, b3, b4, b5⟩ := nr_all h
  exact ⟨b1, b2, b3, Nat.succ_le_succ b4, b5⟩
theorem nr_tuple {D W : Nat} {xs : List PyData} (h : ∀ x ∈ xs, Nr D W x) : Nr (D + 1) ((W + 1) * xs.length) (.tuple xs) := by
  obtain ⟨b1, b2, b3, b4, b5⟩ := nr_all h
  exact ⟨b1, b2, b3, Nat.succ_le_succ b4, b5⟩
theorem nr_nat {n : Nat} (h : n < 10 ^ 99) : Nr 0 400 (.int (n : Int)) := by
  have q := log2_lt (a := (n : Int)) (n := 400) (by omega) (by omega) (by
    have : (10 : Nat) ^ 99 ≤ 2 ^ 400 := by decide
    omega)
  refine ⟨decide_eq_true (by omega), ?_, rfl, Nat.le_refl 0, ?_⟩
  · have z := numL_len (n := n) (k := 99) (by omega) h
    have e : (PyData.int (n : Int)).shown = Str.ofString (toString ((n : Nat) : Int)) := rfl
    show decide ((PyData.int (n : Int)).shown.length ≤ 100) = true
    rw [e, len_tl, tl_num]
    exact decide_eq_true (by omega)
  · show (if ((n : Nat) : Int) == 0 then 0 else ((n : Nat) : Int).natAbs.log2 + 1) ≤ 400
    split <;> omega
theorem nr_bool (b : Bool) : Nr 0 400 (.bool b) := by
  cases b
  · exact ⟨by decide, by decide, by decide, by decide, by decide⟩
  · exact ⟨by decide, by decide, by decide, by decide, by decide⟩
theorem nr_none : Nr 0 400 .none := ⟨by decide, by decide, by decide, by decide, by decide⟩
end VE

namespace VEL
open PySem L2 PySem.Spec PyProof.Rows VE
def top (i : Nat) : Stmt := PySem.Challenge.pw_splitnames_k11_errors_of_the_grid.main.body.getD i (.Pass ⟨0, 0, 0, 0⟩)
def g_FARTHEST : PyData := (.int 1000000000000000)
def g_GREATEST_NAME : PyData := (.int 1000000000000000000000000000000)
abbrev XC : List Nat := [0, 1, 2, 3, 4, 5, 6, 7, 8, 9, 10, 11, 12, 13, 14]
/-! _law_urn(script, k): 0 script, 1 k, 2 cell -/
def b__law_urn : List VE.St := [(.asg 2 (.cst (.int 0))), (.ite (.cmp .lt (.pl 1) (.e (.blt .len [(.pl 0)]))) [(.asg 2 (.idx (.pl 0) (.pl 1)))] []), (.ret (.lst [(.e (.blt .max2 [(.e (.cst (.int 0))), (.e (.bin .sub (.pl 2) (.e (.bin .pow (.e (.cst (.int 10))) (.e (.cst (.int 18)))))))])), (.e (.bin .add (.e (.bin .add (.e (.bin .mul (.e (.bin .mod (.pl 2) (.e (.bin .add (.e (.bin .pow (.e (.cst (.int 10))) (.e (.cst (.int 39))))) (.e (.cst (.int 23))))))) (.e (.cst (.int 256))))) (.e (.bin .mul (.e (.cst (.int 41))) (.pl 1))))) (.e (.cst (.int 13))))), (.e (.cst (.int 0)))]))]
theorem a__law_urn : asgSs b__law_urn = [2, 2] := by decide +kernel
def p__law_urn : Fns := ⟨fun i => match i with  | _ => fun _ => .stk, fun i => match i with  | _ => .none⟩
def s__law_urn : List S → R S := evDef p__law_urn 2 1 (asgSs b__law_urn) b__law_urn
theorem u__law_urn (ss : List S) : s__law_urn ss = evDef p__law_urn 2 1 [2, 2] b__law_urn ss := by
  unfold s__law_urn
  rw [a__law_urn]
theorem sc__law_urn : FnScope ["script", "k", "cell"] ["script", "k"] (defScope (top 28)) := ⟨rfl, rfl, rfl, by decide +kernel, rfl, by decide +kernel, by decide +kernel⟩
theorem ck__law_urn : ckSs ⟨["script", "k", "cell"], [], [], [], [], XC, [], false, []⟩ (defScope (top 28)) b__law_urn (defBody (top 28)) = true := by decide +kernel
/-! _law_kind(caught): 0 caught, 1 some, 2 found, 3 word, 4 so -/
def c__law_kind_1 : VE.E := (.rd 4 false)
def x__law_kind_1 : VE.E := (.rd 3 false)
def b__law_kind : List VE.St := [(.asg 1 (.lst [(.e (.tup [(.e (.cst (.str ("count" : Str)))), (.e (.isx (.pl 0) [1] [0, 1, 2, 3, 4, 5, 6, 7, 8, 9, 10, 11, 12, 13, 14]))])), (.e (.tup [(.e (.cst (.str ("schedule" : Str)))), (.e (.isx (.pl 0) [2] [0, 1, 2, 3, 4, 5, 6, 7, 8, 9, 10, 11, 12, 13, 14]))]))])), (.asg 1 (.bin .add (.pl 1) (.e (.lst [(.e (.tup [(.e (.cst (.str ("outcome" : Str)))), (.e (.isx (.pl 0) [3] [0, 1, 2, 3, 4, 5, 6, 7, 8, 9, 10, 11, 12, 13, 14]))])), (.e (.tup [(.e (.cst (.str ("cell" : Str)))), (.e (.isx (.pl 0) [4] [0, 1, 2, 3, 4, 5, 6, 7, 8, 9, 10, 11, 12, 13, 14]))]))])))), (.asg 1 (.bin .add (.pl 1) (.e (.lst [(.e (.tup [(.e (.cst (.str ("name" : Str)))), (.e (.isx (.pl 0) [5] [0, 1, 2, 3, 4, 5, 6, 7, 8, 9, 10, 11, 12, 13, 14]))])), (.e (.tup [(.e (.cst (.str ("names" : Str)))), (.e (.isx (.pl 0) [6] [0, 1, 2, 3, 4, 5, 6, 7, 8, 9, 10, 11, 12, 13, 14]))]))])))), (.asg 1 (.bin .add (.pl 1) (.e (.lst [(.e (.tup [(.e (.cst (.str ("number" : Str)))), (.e (.isx (.pl 0) [7] [0, 1, 2, 3, 4, 5, 6, 7, 8, 9, 10, 11, 12, 13, 14]))])), (.e (.tup [(.e (.cst (.str ("process" : Str)))), (.e (.isx (.pl 0) [8] [0, 1, 2, 3, 4, 5, 6, 7, 8, 9, 10, 11, 12, 13, 14]))]))])))), (.asg 1 (.bin .add (.pl 1) (.e (.lst [(.e (.tup [(.e (.cst (.str ("text" : Str)))), (.e (.isx (.pl 0) [9] [0, 1, 2, 3, 4, 5, 6, 7, 8, 9, 10, 11, 12, 13, 14]))])), (.e (.tup [(.e (.cst (.str ("command" : Str)))), (.e (.isx (.pl 0) [10] [0, 1, 2, 3, 4, 5, 6, 7, 8, 9, 10, 11, 12, 13, 14]))]))])))), (.asg 1 (.bin .add (.pl 1) (.e (.lst [(.e (.tup [(.e (.cst (.str ("run" : Str)))), (.e (.isx (.pl 0) [11] [0, 1, 2, 3, 4, 5, 6, 7, 8, 9, 10, 11, 12, 13, 14]))])), (.e (.tup [(.e (.cst (.str ("undo" : Str)))), (.e (.isx (.pl 0) [12] [0, 1, 2, 3, 4, 5, 6, 7, 8, 9, 10, 11, 12, 13, 14]))]))])))), (.asg 1 (.bin .add (.pl 1) (.e (.lst [(.e (.tup [(.e (.cst (.str ("impossible" : Str)))), (.e (.isx (.pl 0) [13] [0, 1, 2, 3, 4, 5, 6, 7, 8, 9, 10, 11, 12, 13, 14]))])), (.e (.tup [(.e (.cst (.str ("large" : Str)))), (.e (.isx (.pl 0) [14] [0, 1, 2, 3, 4, 5, 6, 7, 8, 9, 10, 11, 12, 13, 14]))]))])))), (.asg 2 (.comp (.tp [3, 4]) (.seq (.pl 1)) (some c__law_kind_1) x__law_kind_1)), (.ite (.bop false [(.not (.isx (.pl 0) [0] [0, 1, 2, 3, 4, 5, 6, 7, 8, 9, 10, 11, 12, 13, 14])), (.not (.isx (.pl 0) [15] [0, 1, 2, 3, 4, 5, 6, 7, 8, 9, 10, 11, 12, 13, 14])), (.cmp .ne (.e (.blt .len [(.pl 2)])) (.e (.cst (.int 1))))]) [(.ret (.cst (.str ("odd" : Str))))] []), (.ret (.idx (.pl 2) (.e (.cst (.int 0)))))]
theorem a__law_kind : asgSs b__law_kind = [1, 1, 1, 1, 1, 1, 1, 2] := by decide +kernel
def p__law_kind : Fns := ⟨fun i => match i with  | _ => fun _ => .stk, fun i => match i with  | _ => .none⟩
def s__law_kind : List S → R S := evDef p__law_kind 1 4 (asgSs b__law_kind) b__law_kind
theorem u__law_kind (ss : List S) : s__law_kind ss = evDef p__law_kind 1 4 [1, 1, 1, 1, 1, 1, 1, 2] b__law_kind ss := by
  unfold s__law_kind
  rw [a__law_kind]
theorem sc__law_kind : FnScope ["caught", "some", "found", "word", "so"] ["caught"] (defScope (top 31)) := ⟨rfl, rfl, rfl, by decide +kernel, rfl, by decide +kernel, by decide +kernel⟩
theorem ck__law_kind : ckSs ⟨["caught", "some", "found", "word", "so"], [], [], [], [], XC, [], false, []⟩ (defScope (top 31)) b__law_kind (defBody (top 31)) = true := by decide +kernel
theorem ckh__law_kind : ckHs ⟨["caught", "some", "found", "word", "so"], [], [], [], [], XC, [], true, []⟩ (defScope (top 31)) b__law_kind (defBody (top 31)) = true := by decide +kernel
/-! _law_errors_right(text): 0 text, 1 some, 2 words, 3 e -/
def x__law_errors_right_1 : VE.E := (.call 0 [(.pl 3)])
def b__law_errors_right : List VE.St := [(.asg 1 (.lst [(.e (.mkx 4 (.pl 0))), (.e (.mkx 10 (.pl 0))), (.e (.mkx 1 (.pl 0))), (.e (.mkx 5 (.pl 0))), (.e (.mkx 6 (.pl 0)))])), (.asg 1 (.bin .add (.pl 1) (.e (.lst [(.e (.mkx 7 (.pl 0))), (.e (.mkx 3 (.pl 0))), (.e (.mkx 8 (.pl 0))), (.e (.mkx 2 (.pl 0)))])))), (.asg 1 (.bin .add (.pl 1) (.e (.lst [(.e (.mkx 9 (.pl 0))), (.e (.mkx 11 (.pl 0))), (.e (.mkx 12 (.pl 0))), (.e (.mkx 13 (.e (.cst (.int 7))))), (.e (.mkx 14 (.e (.cst (.int 5)))))])))), (.asg 2 (.lst [(.e (.cst (.str ("cell" : Str)))), (.e (.cst (.str ("command" : Str)))), (.e (.cst (.str ("count" : Str)))), (.e (.cst (.str ("name" : Str)))), (.e (.cst (.str ("names" : Str)))), (.e (.cst (.str ("number" : Str)))), (.e (.cst (.str ("outcome" : Str)))), (.e (.cst (.str ("process" : Str)))), (.e (.cst (.str ("schedule" : Str)))), (.e (.cst (.str ("text" : Str)))), (.e (.cst (.str ("run" : Str))))])), (.ite (.cmp .ne (.e (.comp (.nm 3) (.seq (.pl 1)) none x__law_errors_right_1)) (.e (.bin .add (.pl 2) (.e (.lst [(.e (.cst (.str ("undo" : Str)))), (.e (.cst (.str ("impossible" : Str)))), (.e (.cst (.str ("large" : Str))))]))))) [(.ret (.cst (.bool false)))] []), (.ite (.bop false [(.cmp .ne (.e (.call 0 [(.e (.mkx 0 (.pl 0)))])) (.e (.cst (.str ("odd" : Str))))), (.not (.isx (.e (.mkx 0 (.pl 0))) [15] [0, 1, 2, 3, 4, 5, 6, 7, 8, 9, 10, 11, 12, 13, 14]))]) [(.ret (.cst (.bool false)))] []), (.ret (.cmp .eq (.e (.blt .repr [(.e (.lst [(.e (.mkf 13 (.e (.cst (.int 7))))), (.e (.mkf 14 (.e (.cst (.int 5)))))]))])) (.e (.blt .repr [(.e (.lst [(.e (.cst (.int 7))), (.e (.cst (.int 5)))]))]))))]
theorem a__law_errors_right : asgSs b__law_errors_right = [1, 1, 1, 2] := by decide +kernel
def p__law_errors_right : Fns := ⟨fun i => match i with | 0 => s__law_kind | _ => fun _ => .stk, fun i => match i with  | _ => .none⟩
def s__law_errors_right : List S → R S := evDef p__law_errors_right 1 3 (asgSs b__law_errors_right) b__law_errors_right
theorem u__law_errors_right (ss : List S) : s__law_errors_right ss = evDef p__law_errors_right 1 3 [1, 1, 1, 2] b__law_errors_right ss := by
  unfold s__law_errors_right
  rw [a__law_errors_right]
theorem sc__law_errors_right : FnScope ["text", "some", "words", "e"] ["text"] (defScope (top 34)) := ⟨rfl, rfl, rfl, by decide +kernel, rfl, by decide +kernel, by decide +kernel⟩
theorem ck__law_errors_right : ckSs ⟨["text", "some", "words", "e"], [("_law_kind", 1)], [], [], [], XC, [13, 14], false, []⟩ (defScope (top 34)) b__law_errors_right (defBody (top 34)) = true := by decide +kernel
/-! _law_dip(urn, size): 0 urn, 1 size, 2 mixed, 3 found -/
def b__law_dip : List VE.St := [(.ite (.cmp .gt (.e (.idx (.pl 0) (.e (.cst (.int 0))))) (.e (.cst (.int 0)))) [(.asg 3 (.bin .mod (.e (.idx (.pl 0) (.e (.cst (.int 0))))) (.pl 1))), (.setit 0 (.e (.cst (.int 0))) (.bin .fdiv (.e (.idx (.pl 0) (.e (.cst (.int 0))))) (.pl 1))), (.ret (.rd 3 true))] []), (.setit 0 (.e (.cst (.int 2))) (.bin .add (.e (.idx (.pl 0) (.e (.cst (.int 2))))) (.e (.cst (.int 1))))), (.asg 2 (.bin .mod (.e (.bin .pow (.e (.bin .add (.e (.idx (.pl 0) (.e (.cst (.int 1))))) (.e (.bin .mul (.e (.cst (.int 3267000013))) (.e (.idx (.pl 0) (.e (.cst (.int 2))))))))) (.e (.cst (.int 3))))) (.e (.bin .add (.e (.bin .pow (.e (.cst (.int 10))) (.e (.cst (.int 44))))) (.e (.cst (.int 31))))))), (.asg 2 (.bin .mod (.e (.bin .add (.e (.bin .mul (.pl 2) (.pl 2))) (.e (.bin .mul (.e (.cst (.int 5754853343))) (.e (.idx (.pl 0) (.e (.cst (.int 2))))))))) (.e (.bin .add (.e (.bin .pow (.e (.cst (.int 10))) (.e (.cst (.int 43))))) (.e (.cst (.int 57))))))), (.ret (.bin .mod (.e (.bin .fdiv (.pl 2) (.e (.cst (.int 433494437))))) (.pl 1)))]
theorem a__law_dip : asgSs b__law_dip = [3, 2, 2] := by decide +kernel
def p__law_dip : Fns := ⟨fun i => match i with  | _ => fun _ => .stk, fun i => match i with  | _ => .none⟩
def s__law_dip : List S → R S := evDef p__law_dip 2 2 (asgSs b__law_dip) b__law_dip
theorem u__law_dip (ss : List S) : s__law_dip ss = evDef p__law_dip 2 2 [3, 2, 2] b__law_dip ss := by
  unfold s__law_dip
  rw [a__law_dip]
theorem sc__law_dip : FnScope ["urn", "size", "mixed", "found"] ["urn", "size"] (defScope (top 29)) := ⟨rfl, rfl, rfl, by decide +kernel, rfl, by decide +kernel, by decide +kernel⟩
theorem ck__law_dip : ckSs ⟨["urn", "size", "mixed", "found"], [], [], [], [], XC, [], false, []⟩ (defScope (top 29)) b__law_dip (defBody (top 29)) = true := by decide +kernel
/-! _law_odd(urn): 0 urn, 1 some -/
def b__law_odd : List VE.St := [(.asg 1 (.lst [(.e (.cst .none)), (.e (.cst (.bool true))), (.e (.cst (.bool false))), (.e (.neg (.e (.cst (.int 1))))), (.e (.cst (.str ("" : Str)))), (.e (.cst (.str ("0" : Str)))), (.e (.cst (.str ("a" : Str)))), (.e (.cst (.str ("0 1" : Str)))), (.e (.tup [])), (.e (.tup [(.e (.cst (.int 0)))])), (.e (.dcst none)), (.e (.lst [])), (.e (.lst [(.e (.cst .none))])), (.e (.lst [(.e (.cst (.bool true)))])), (.e (.lst [(.e (.cst (.int 0)))])), (.e (.lst [(.e (.cst (.int 1))), (.e (.cst (.int 0)))])), (.e (.lst [(.e (.cst (.int 0))), (.e (.cst (.int 0)))])), (.e (.lst [(.e (.neg (.e (.cst (.int 1)))))]))])), (.asg 1 (.bin .add (.pl 1) (.e (.lst [(.e (.tup [(.e (.cst (.int 0))), (.e (.cst (.int 1)))])), (.e (.lst [(.e (.cst (.str ("0" : Str))))])), (.e (.dcst (some ((.inr ("0" : Str)), (.int 0))))), (.e (.lst [(.e (.lst [(.e (.cst (.int 0)))]))])), (.e (.lst [(.e (.cst (.int 0))), (.e (.lst [(.e (.cst (.int 1)))]))])), (.e (.bin .pow (.e (.cst (.int 10))) (.e (.cst (.int 39))))), (.e (.cst (.int 41))), (.e (.cst (.int 0))), (.e (.lst [(.e (.cst (.int 0))), (.e (.cst (.int 1))), (.e (.cst (.int 2)))])), (.e (.cst (.str ("1 0" : Str)))), (.e (.lst [(.e (.bin .pow (.e (.cst (.int 10))) (.e (.cst (.int 39)))))])), (.e (.lst [(.e (.cst (.int 0))), (.e (.cst (.bool true)))]))])))), (.ret (.idx (.pl 1) (.e (.call 0 [(.pl 0), (.e (.blt .len [(.pl 1)]))]))))]
theorem a__law_odd : asgSs b__law_odd = [1, 1] := by decide +kernel
def p__law_odd : Fns := ⟨fun i => match i with | 0 => s__law_dip | _ => fun _ => .stk, fun i => match i with  | _ => .none⟩
def s__law_odd : List S → R S := evDef p__law_odd 1 1 (asgSs b__law_odd) b__law_odd
theorem u__law_odd (ss : List S) : s__law_odd ss = evDef p__law_odd 1 1 [1, 1] b__law_odd ss := by
  unfold s__law_odd
  rw [a__law_odd]
theorem sc__law_odd : FnScope ["urn", "some"] ["urn"] (defScope (top 30)) := ⟨rfl, rfl, rfl, by decide +kernel, rfl, by decide +kernel, by decide +kernel⟩
theorem ck__law_odd : ckSs ⟨["urn", "some"], [("_law_dip", 2)], [], [], [], XC, [], false, []⟩ (defScope (top 30)) b__law_odd (defBody (top 30)) = true := by decide +kernel
/-! _law_value(urn): 0 urn, 1 ends -/
def b__law_value : List VE.St := [(.asg 1 (.lst [(.e (.cst (.int 0))), (.e (.cst (.int 1))), (.e (.neg (.e (.cst (.int 1))))), (.e (.bin .pow (.e (.cst (.int 10))) (.e (.cst (.int 15))))), (.e (.bin .add (.e (.bin .pow (.e (.cst (.int 10))) (.e (.cst (.int 15))))) (.e (.cst (.int 1))))), (.e (.bin .pow (.e (.cst (.int 10))) (.e (.cst (.int 30))))), (.e (.bin .add (.e (.bin .pow (.e (.cst (.int 10))) (.e (.cst (.int 30))))) (.e (.cst (.int 1)))))])), (.asg 1 (.bin .add (.pl 1) (.e (.lst [(.e (.call 0 [(.pl 0), (.e (.bin .pow (.e (.cst (.int 10))) (.e (.cst (.int 15)))))])), (.e (.bin .sub (.e (.cst (.int 0))) (.e (.call 0 [(.pl 0), (.e (.bin .pow (.e (.cst (.int 10))) (.e (.cst (.int 30)))))]))))])))), (.ret (.idx (.e (.lst [(.e (.idx (.pl 1) (.e (.call 0 [(.pl 0), (.e (.cst (.int 9)))])))), (.e (.call 1 [(.pl 0)])), (.e (.idx (.pl 1) (.e (.call 0 [(.pl 0), (.e (.cst (.int 9)))]))))])) (.e (.call 0 [(.pl 0), (.e (.cst (.int 3)))]))))]
theorem a__law_value : asgSs b__law_value = [1, 1] := by decide +kernel
def p__law_value : Fns := ⟨fun i => match i with | 0 => s__law_dip | 1 => s__law_odd | _ => fun _ => .stk, fun i => match i with  | _ => .none⟩
def s__law_value : List S → R S := evDef p__law_value 1 1 (asgSs b__law_value) b__law_value
theorem u__law_value (ss : List S) : s__law_value ss = evDef p__law_value 1 1 [1, 1] b__law_value ss := by
  unfold s__law_value
  rw [a__law_value]
theorem sc__law_value : FnScope ["urn", "ends"] ["urn"] (defScope (top 35)) := ⟨rfl, rfl, rfl, by decide +kernel, rfl, by decide +kernel, by decide +kernel⟩
theorem ck__law_value : ckSs ⟨["urn", "ends"], [("_law_dip", 2), ("_law_odd", 1)], [], [], [], XC, [], false, []⟩ (defScope (top 35)) b__law_value (defBody (top 35)) = true := by decide +kernel
/-! _law_whole(value, least, most): 0 value, 1 least, 2 most -/
def b__law_whole : List VE.St := [(.ret (.bop true [(.blt (.isi .int) [(.pl 0)]), (.not (.blt (.isi .bool) [(.pl 0)])), (.chain .le .le (.pl 1) (.pl 0) (.pl 2))]))]
theorem a__law_whole : asgSs b__law_whole = [] := by decide +kernel
def p__law_whole : Fns := ⟨fun i => match i with  | _ => fun _ => .stk, fun i => match i with  | _ => .none⟩
def s__law_whole : List S → R S := evDef p__law_whole 3 0 (asgSs b__law_whole) b__law_whole
theorem u__law_whole (ss : List S) : s__law_whole ss = evDef p__law_whole 3 0 [] b__law_whole ss := by
  unfold s__law_whole
  rw [a__law_whole]
theorem sc__law_whole : FnScope ["value", "least", "most"] ["value", "least", "most"] (defScope (top 32)) := ⟨rfl, rfl, rfl, by decide +kernel, rfl, by decide +kernel, by decide +kernel⟩
theorem ck__law_whole : ckSs ⟨["value", "least", "most"], [], [], [], [], XC, [], false, []⟩ (defScope (top 32)) b__law_whole (defBody (top 32)) = true := by decide +kernel
/-! is_integer(value, least, most): 0 value, 1 least, 2 most -/
def b_is_integer : List VE.St := [(.ret (.bop true [(.blt (.isi .int) [(.pl 0)]), (.not (.blt (.isi .bool) [(.pl 0)])), (.chain .le .le (.pl 1) (.pl 0) (.pl 2))]))]
theorem a_is_integer : asgSs b_is_integer = [] := by decide +kernel
def p_is_integer : Fns := ⟨fun i => match i with  | _ => fun _ => .stk, fun i => match i with  | _ => .none⟩
def s_is_integer : List S → R S := evDef p_is_integer 3 0 (asgSs b_is_integer) b_is_integer
theorem u_is_integer (ss : List S) : s_is_integer ss = evDef p_is_integer 3 0 [] b_is_integer ss := by
  unfold s_is_integer
  rw [a_is_integer]
theorem sc_is_integer : FnScope ["value", "least", "most"] ["value", "least", "most"] (defScope (top 19)) := ⟨rfl, rfl, rfl, by decide +kernel, rfl, by decide +kernel, by decide +kernel⟩
theorem ck_is_integer : ckSs ⟨["value", "least", "most"], [], [], [], [], XC, [], false, []⟩ (defScope (top 19)) b_is_integer (defBody (top 19)) = true := by decide +kernel
/-! first_name(diagonal): 0 diagonal -/
def b_first_name : List VE.St := [(.ret (.bin .fdiv (.e (.bin .mul (.pl 0) (.e (.bin .add (.pl 0) (.e (.cst (.int 1))))))) (.e (.cst (.int 2)))))]
theorem a_first_name : asgSs b_first_name = [] := by decide +kernel
def p_first_name : Fns := ⟨fun i => match i with  | _ => fun _ => .stk, fun i => match i with  | _ => .none⟩
def s_first_name : List S → R S := evDef p_first_name 1 0 (asgSs b_first_name) b_first_name
theorem u_first_name (ss : List S) : s_first_name ss = evDef p_first_name 1 0 [] b_first_name ss := by
  unfold s_first_name
  rw [a_first_name]
theorem sc_first_name : FnScope ["diagonal"] ["diagonal"] (defScope (top 20)) := ⟨rfl, rfl, rfl, by decide +kernel, rfl, by decide +kernel, by decide +kernel⟩
theorem ck_first_name : ckSs ⟨["diagonal"], [], [], [], [], XC, [], false, []⟩ (defScope (top 20)) b_first_name (defBody (top 20)) = true := by decide +kernel
/-! name_in(right, down): 0 right, 1 down -/
def b_name_in : List VE.St := [(.ret (.bin .add (.e (.call 0 [(.e (.bin .add (.pl 0) (.pl 1)))])) (.pl 0)))]
theorem a_name_in : asgSs b_name_in = [] := by decide +kernel
def p_name_in : Fns := ⟨fun i => match i with | 0 => s_first_name | _ => fun _ => .stk, fun i => match i with  | _ => .none⟩
def s_name_in : List S → R S := evDef p_name_in 2 0 (asgSs b_name_in) b_name_in
theorem u_name_in (ss : List S) : s_name_in ss = evDef p_name_in 2 0 [] b_name_in ss := by
  unfold s_name_in
  rw [a_name_in]
theorem sc_name_in : FnScope ["right", "down"] ["right", "down"] (defScope (top 21)) := ⟨rfl, rfl, rfl, by decide +kernel, rfl, by decide +kernel, by decide +kernel⟩
theorem ck_name_in : ckSs ⟨["right", "down"], [("first_name", 1)], [], [], [], XC, [], false, []⟩ (defScope (top 21)) b_name_in (defBody (top 21)) = true := by decide +kernel
/-! name_of(right, down): 0 right, 1 down, 2 value -/
def l_name_of_1 : List VE.St := [(.ite (.not (.call 0 [(.pl 2), (.e (.cst (.int 0))), (.e (.glob 0))])) [(.raise 4)] [])]
def b_name_of : List VE.St := [(.for_ (.nm 2) (.seq (.e (.tup [(.e (.rd 0 false)), (.e (.rd 1 false))]))) false l_name_of_1), (.ret (.call 1 [(.pl 0), (.pl 1)]))]
theorem a_name_of : asgSs b_name_of = [2] := by decide +kernel
def p_name_of : Fns := ⟨fun i => match i with | 0 => s_is_integer | 1 => s_name_in | _ => fun _ => .stk, fun i => match i with | 0 => g_FARTHEST | _ => .none⟩
def s_name_of : List S → R S := evDef p_name_of 2 1 (asgSs b_name_of) b_name_of
theorem u_name_of (ss : List S) : s_name_of ss = evDef p_name_of 2 1 [2] b_name_of ss := by
  unfold s_name_of
  rw [a_name_of]
theorem sc_name_of : FnScope ["right", "down", "value"] ["right", "down"] (defScope (top 24)) := ⟨rfl, rfl, rfl, by decide +kernel, rfl, by decide +kernel, by decide +kernel⟩
theorem ck_name_of : ckSs ⟨["right", "down", "value"], [("is_integer", 3), ("name_in", 2)], ["FARTHEST"], [], [], XC, [], false, []⟩ (defScope (top 24)) b_name_of (defBody (top 24)) = true := by decide +kernel
/-! diagonal_of(name): 0 name, 1 least, 2 beyond, 3 middle -/
def t_diagonal_of_1 : VE.E := (.cmp .le (.e (.call 0 [(.pl 2)])) (.pl 0))
def l_diagonal_of_1 : List VE.St := [(.aug 2 .mul (.e (.cst (.int 2))))]
def t_diagonal_of_2 : VE.E := (.cmp .gt (.e (.bin .sub (.pl 2) (.pl 1))) (.e (.cst (.int 1))))
def l_diagonal_of_2 : List VE.St := [(.asg 3 (.bin .fdiv (.e (.bin .add (.pl 1) (.pl 2))) (.e (.cst (.int 2))))), (.ite (.cmp .le (.e (.call 0 [(.pl 3)])) (.pl 0)) [(.asg 1 (.rd 3 false))] [(.asg 2 (.rd 3 false))])]
def b_diagonal_of : List VE.St := [(.unp [1, 2] (.tup [(.e (.cst (.int 0))), (.e (.cst (.int 1)))])), (.while_ 4096 t_diagonal_of_1 l_diagonal_of_1), (.while_ 4096 t_diagonal_of_2 l_diagonal_of_2), (.ret (.rd 1 true))]
theorem a_diagonal_of : asgSs b_diagonal_of = [1, 2, 2, 3, 1, 2] := by decide +kernel
def p_diagonal_of : Fns := ⟨fun i => match i with | 0 => s_first_name | _ => fun _ => .stk, fun i => match i with  | _ => .none⟩
def s_diagonal_of : List S → R S := evDef p_diagonal_of 1 3 (asgSs b_diagonal_of) b_diagonal_of
theorem u_diagonal_of (ss : List S) : s_diagonal_of ss = evDef p_diagonal_of 1 3 [1, 2, 2, 3, 1, 2] b_diagonal_of ss := by
  unfold s_diagonal_of
  rw [a_diagonal_of]
theorem sc_diagonal_of : FnScope ["name", "least", "beyond", "middle"] ["name"] (defScope (top 22)) := ⟨rfl, rfl, rfl, by decide +kernel, rfl, by decide +kernel, by decide +kernel⟩
theorem ck_diagonal_of : ckSs ⟨["name", "least", "beyond", "middle"], [("first_name", 1)], [], [], [], XC, [], false, []⟩ (defScope (top 22)) b_diagonal_of (defBody (top 22)) = true := by decide +kernel
/-! cell_in(name): 0 name, 1 diagonal, 2 right -/
def b_cell_in : List VE.St := [(.asg 1 (.call 0 [(.pl 0)])), (.asg 2 (.bin .sub (.pl 0) (.e (.call 1 [(.pl 1)])))), (.ret (.tup [(.e (.rd 2 false)), (.e (.bin .sub (.pl 1) (.pl 2)))]))]
theorem a_cell_in : asgSs b_cell_in = [1, 2] := by decide +kernel
def p_cell_in : Fns := ⟨fun i => match i with | 0 => s_diagonal_of | 1 => s_first_name | _ => fun _ => .stk, fun i => match i with  | _ => .none⟩
def s_cell_in : List S → R S := evDef p_cell_in 1 2 (asgSs b_cell_in) b_cell_in
theorem u_cell_in (ss : List S) : s_cell_in ss = evDef p_cell_in 1 2 [1, 2] b_cell_in ss := by
  unfold s_cell_in
  rw [a_cell_in]
theorem sc_cell_in : FnScope ["name", "diagonal", "right"] ["name"] (defScope (top 23)) := ⟨rfl, rfl, rfl, by decide +kernel, rfl, by decide +kernel, by decide +kernel⟩
theorem ck_cell_in : ckSs ⟨["name", "diagonal", "right"], [("diagonal_of", 1), ("first_name", 1)], [], [], [], XC, [], false, []⟩ (defScope (top 23)) b_cell_in (defBody (top 23)) = true := by decide +kernel
/-! cell_of(name): 0 name -/
def b_cell_of : List VE.St := [(.ite (.not (.call 0 [(.pl 0), (.e (.cst (.int 0))), (.e (.glob 0))])) [(.raise 5)] []), (.ret (.call 1 [(.pl 0)]))]
theorem a_cell_of : asgSs b_cell_of = [] := by decide +kernel
def p_cell_of : Fns := ⟨fun i => match i with | 0 => s_is_integer | 1 => s_cell_in | _ => fun _ => .stk, fun i => match i with | 0 => g_GREATEST_NAME | _ => .none⟩
def s_cell_of : List S → R S := evDef p_cell_of 1 0 (asgSs b_cell_of) b_cell_of
theorem u_cell_of (ss : List S) : s_cell_of ss = evDef p_cell_of 1 0 [] b_cell_of ss := by
  unfold s_cell_of
  rw [a_cell_of]
theorem sc_cell_of : FnScope ["name"] ["name"] (defScope (top 25)) := ⟨rfl, rfl, rfl, by decide +kernel, rfl, by decide +kernel, by decide +kernel⟩
theorem ck_cell_of : ckSs ⟨["name"], [("is_integer", 3), ("cell_in", 1)], ["GREATEST_NAME"], [], [], XC, [], false, []⟩ (defScope (top 25)) b_cell_of (defBody (top 25)) = true := by decide +kernel
/-! most_names(count): 0 count -/
def b_most_names : List VE.St := [(.ite (.not (.call 0 [(.pl 0), (.e (.cst (.int 1))), (.e (.glob 0))])) [(.raise 1)] []), (.ret (.call 1 [(.pl 0)]))]
theorem a_most_names : asgSs b_most_names = [] := by decide +kernel
def p_most_names : Fns := ⟨fun i => match i with | 0 => s_is_integer | 1 => s_first_name | _ => fun _ => .stk, fun i => match i with | 0 => g_FARTHEST | _ => .none⟩
def s_most_names : List S → R S := evDef p_most_names 1 0 (asgSs b_most_names) b_most_names
theorem u_most_names (ss : List S) : s_most_names ss = evDef p_most_names 1 0 [] b_most_names ss := by
  unfold s_most_names
  rw [a_most_names]
theorem sc_most_names : FnScope ["count"] ["count"] (defScope (top 26)) := ⟨rfl, rfl, rfl, by decide +kernel, rfl, by decide +kernel, by decide +kernel⟩
theorem ck_most_names : ckSs ⟨["count"], [("is_integer", 3), ("first_name", 1)], ["FARTHEST"], [], [], XC, [], false, []⟩ (defScope (top 26)) b_most_names (defBody (top 26)) = true := by decide +kernel
/-! _law_raised(door, one, other): 0 door, 1 one, 2 other, 3 e, 4 kept, 5 found -/
def l__law_raised_1 : List VE.St := [(.ite (.cmp .eq (.pl 0) (.e (.cst (.int 0)))) [(.expr (.call 0 [(.pl 1), (.pl 2)]))] [(.ite (.cmp .eq (.pl 0) (.e (.cst (.int 1)))) [(.expr (.call 1 [(.pl 1)]))] [(.expr (.call 2 [(.pl 1)]))])])]
def b__law_raised : List VE.St := [(.par [4, 5] [(.e (.blt .repr [(.e (.lst [(.e (.rd 1 false)), (.e (.rd 2 false))]))])), (.e (.cst (.str ("none" : Str))))]), (.tryA l__law_raised_1 0 [0, 1, 2, 3, 4, 5, 6, 7, 8, 9, 10, 11, 12, 13, 14] 3 [(.asg 5 (.call 300 [.pl 3]))]), (.ret (.ite (.cmp .eq (.e (.blt .repr [(.e (.lst [(.e (.rd 1 false)), (.e (.rd 2 false))]))])) (.pl 4)) (.rd 5 false) (.cst (.str ("changed" : Str)))))]
theorem a__law_raised : asgSs b__law_raised = [4, 5, 3, 5] := by decide +kernel
def p__law_raised : Fns := ⟨fun i => match i with | 0 => s_name_of | 1 => s_cell_of | 2 => s_most_names | 300 => s__law_kind | _ => fun _ => .stk, fun i => match i with  | _ => .none⟩
def s__law_raised : List S → R S := evDef p__law_raised 3 3 (asgSs b__law_raised) b__law_raised
theorem u__law_raised (ss : List S) : s__law_raised ss = evDef p__law_raised 3 3 [4, 5, 3, 5] b__law_raised ss := by
  unfold s__law_raised
  rw [a__law_raised]
theorem sc__law_raised : FnScope ["door", "one", "other", "e", "kept", "found"] ["door", "one", "other"] (defScope (top 33)) := ⟨rfl, rfl, rfl, by decide +kernel, rfl, by decide +kernel, by decide +kernel⟩
theorem ck__law_raised : ckSs ⟨["door", "one", "other", "e", "kept", "found"], [("name_of", 2), ("cell_of", 1), ("most_names", 1)], [], [], [], XC, [], false, [("_law_kind", 1)]⟩ (defScope (top 33)) b__law_raised (defBody (top 33)) = true := by decide +kernel
/-! law(script): 0 script, 1 k, 2 urn, 3 turn, 4 due, 5 one, 6 other, 7 door -/
def x_law_1 : VE.E := (.call 5 [(.pl 7), (.pl 5), (.pl 6)])
def l_law_1 : List VE.St := [(.par [5, 6] [(.e (.call 3 [(.pl 2)])), (.e (.call 3 [(.pl 2)]))]), (.asg 4 (.lst [(.e (.ite (.bop true [(.call 4 [(.pl 5), (.e (.cst (.int 0))), (.e (.bin .pow (.e (.cst (.int 10))) (.e (.cst (.int 15)))))]), (.call 4 [(.pl 6), (.e (.cst (.int 0))), (.e (.bin .pow (.e (.cst (.int 10))) (.e (.cst (.int 15)))))])]) (.cst (.str ("none" : Str))) (.cst (.str ("cell" : Str)))))])), (.expr (.mut .append 4 [(.e (.ite (.call 4 [(.pl 5), (.e (.cst (.int 0))), (.e (.bin .pow (.e (.cst (.int 10))) (.e (.cst (.int 30)))))]) (.cst (.str ("none" : Str))) (.cst (.str ("name" : Str)))))])), (.expr (.mut .append 4 [(.e (.ite (.call 4 [(.pl 5), (.e (.cst (.int 1))), (.e (.bin .pow (.e (.cst (.int 10))) (.e (.cst (.int 15)))))]) (.cst (.str ("none" : Str))) (.cst (.str ("count" : Str)))))])), (.ite (.cmp .ne (.e (.comp (.nm 7) (.rng1 (.e (.cst (.int 3)))) none x_law_1)) (.pl 4)) [(.ret (.cst (.bool false)))] [])]
def l_law_2 : List VE.St := [(.asg 2 (.call 0 [(.pl 0), (.pl 1)])), (.ite (.not (.call 1 [(.e (.idx (.e (.lst [(.e (.cst (.str ("" : Str)))), (.e (.cst (.str ("Text: 5, Aa !" : Str)))), (.e (.cst (.str ("no" : Str)))), (.e (.bin .mul (.e (.cst (.str (" x" : Str)))) (.e (.cst (.int 40)))))])) (.e (.call 2 [(.pl 2), (.e (.cst (.int 4)))]))))])) [(.ret (.cst (.bool false)))] []), (.for_ (.nm 3) (.rng1 (.e (.cst (.int 12)))) false l_law_1)]
def b_law : List VE.St := [(.for_ (.nm 1) (.rng1 (.e (.blt .max2 [(.e (.cst (.int 1))), (.e (.blt .min2 [(.e (.cst (.int 4))), (.e (.bin .add (.e (.blt .len [(.pl 0)])) (.e (.cst (.int 1)))))]))]))) false l_law_2), (.ret (.cmp .eq (.e (.lst [(.e (.call 5 [(.e (.cst (.int 0))), (.e (.cst (.int 0))), (.e (.bin .add (.e (.bin .pow (.e (.cst (.int 10))) (.e (.cst (.int 15))))) (.e (.cst (.int 1)))))])), (.e (.call 5 [(.e (.cst (.int 1))), (.e (.bin .pow (.e (.cst (.int 10))) (.e (.cst (.int 30))))), (.e (.cst .none))]))])) (.e (.lst [(.e (.cst (.str ("cell" : Str)))), (.e (.cst (.str ("none" : Str))))]))))]
theorem a_law : asgSs b_law = [1, 2, 3, 5, 6, 4] := by decide +kernel
def p_law : Fns := ⟨fun i => match i with | 0 => s__law_urn | 1 => s__law_errors_right | 2 => s__law_dip | 3 => s__law_value | 4 => s__law_whole | 5 => s__law_raised | _ => fun _ => .stk, fun i => match i with  | _ => .none⟩
def s_law : List S → R S := evDef p_law 1 7 (asgSs b_law) b_law
theorem u_law (ss : List S) : s_law ss = evDef p_law 1 7 [1, 2, 3, 5, 6, 4] b_law ss := by
  unfold s_law
  rw [a_law]
theorem sc_law : FnScope ["script", "k", "urn", "turn", "due", "one", "other", "door"] ["script"] (defScope (top 36)) := ⟨rfl, rfl, rfl, by decide +kernel, rfl, by decide +kernel, by decide +kernel⟩
theorem ck_law : ckSs ⟨["script", "k", "urn", "turn", "due", "one", "other", "door"], [("_law_urn", 2), ("_law_errors_right", 1), ("_law_dip", 2), ("_law_value", 1), ("_law_whole", 3), ("_law_raised", 3)], [], [], [], XC, [], false, []⟩ (defScope (top 36)) b_law (defBody (top 36)) = true := by decide +kernel
section
variable {P : Program} {w : World} {K : PySem.W.Frag} {mg : Str → Option Value} {base : Heap} {f : Addr} {fd : FuncData}
theorem d__law_urn (F : L2.Fun K "_law_urn" "_law_urn" (top 28) f fd) (hm : mg "_law_urn" = some (.ref f)) (b : Binds K fd ["script", "k"] []) (hb : ∀ x ∈ bltNames, mg (Str.ofString x) = none) (hv : mg (Str.ofString "ValueError") = none) (hX : XOk K mg XC) : Dok P w K mg base (xrK K) "_law_urn" 2 1 s__law_urn :=
  def_Dok (k := 0) (Φ := p__law_urn) F hm b sc__law_urn .nil .nil .nil .nil hX .nil .nil rfl hb hv ck__law_urn rfl
theorem d__law_kind (F : L2.Fun K "_law_kind" "_law_kind" (top 31) f fd) (hm : mg "_law_kind" = some (.ref f)) (b : Binds K fd ["caught"] []) (hb : ∀ x ∈ bltNames, mg (Str.ofString x) = none) (hv : mg (Str.ofString "ValueError") = none) (hX : XOk K mg XC) : Dok P w K mg base (xrK K) "_law_kind" 1 1 s__law_kind :=
  def_Dok (k := 0) (Φ := p__law_kind) F hm b sc__law_kind .nil .nil .nil .nil hX .nil .nil rfl hb hv ck__law_kind rfl
theorem hd__law_kind (F : L2.Fun K "_law_kind" "_law_kind" (top 31) f fd) (hm : mg "_law_kind" = some (.ref f)) (b : Binds K fd ["caught"] []) (hb : ∀ x ∈ bltNames, mg (Str.ofString x) = none) (hv : mg (Str.ofString "ValueError") = none) (hX : XOk K mg XC) : Hdk P w K mg base (xrK K) "_law_kind" 1 1 s__law_kind :=
  def_Hdk (k := 0) (Φ := p__law_kind) F hm b sc__law_kind .nil hX rfl hb hv ckh__law_kind rfl
theorem p__law_errors_right_f0 : p__law_errors_right.fn 0 = s__law_kind := by
  unfold p__law_errors_right
  rfl
theorem d__law_errors_right (F : L2.Fun K "_law_errors_right" "_law_errors_right" (top 34) f fd) (hm : mg "_law_errors_right" = some (.ref f)) (b : Binds K fd ["text"] []) (hb : ∀ x ∈ bltNames, mg (Str.ofString x) = none) (hv : mg (Str.ofString "ValueError") = none) (hX : XOk K mg XC) (h0 : Dok P w K mg base (xrK K) "_law_kind" 1 1 s__law_kind) (x13 : XiC P K mg 13) (x14 : XiC P K mg 14) : Dok P w K mg base (xrK K) "_law_errors_right" 1 3 s__law_errors_right :=
  def_Dok (k := 2) (Φ := p__law_errors_right) F hm b sc__law_errors_right (.cons h0 (by decide) p__law_errors_right_f0 .nil) .nil .nil .nil hX (.cons x13 (by decide) (.cons x14 (by decide) .nil)) .nil rfl hb hv ck__law_errors_right rfl
theorem d__law_dip (F : L2.Fun K "_law_dip" "_law_dip" (top 29) f fd) (hm : mg "_law_dip" = some (.ref f)) (b : Binds K fd ["urn", "size"] []) (hb : ∀ x ∈ bltNames, mg (Str.ofString x) = none) (hv : mg (Str.ofString "ValueError") = none) (hX : XOk K mg XC) : Dok P w K mg base (xrK K) "_law_dip" 2 1 s__law_dip :=
  def_Dok (k := 0) (Φ := p__law_dip) F hm b sc__law_dip .nil .nil .nil .nil hX .nil .nil rfl hb hv ck__law_dip rfl
theorem p__law_odd_f0 : p__law_odd.fn 0 = s__law_dip := by
  unfold p__law_odd
  rfl
theorem d__law_odd (F : L2.Fun K "_law_odd" "_law_odd" (top 30) f fd) (hm : mg "_law_odd" = some (.ref f)) (b : Binds K fd ["urn"] []) (hb : ∀ x ∈ bltNames, mg (Str.ofString x) = none) (hv : mg (Str.ofString "ValueError") = none) (hX : XOk K mg XC) (h0 : Dok P w K mg base (xrK K) "_law_dip" 2 1 s__law_dip) : Dok P w K mg base (xrK K) "_law_odd" 1 2 s__law_odd :=
  def_Dok (k := 1) (Φ := p__law_odd) F hm b sc__law_odd (.cons h0 (by decide) p__law_odd_f0 .nil) .nil .nil .nil hX .nil .nil rfl hb hv ck__law_odd rfl
theorem p__law_value_f0 : p__law_value.fn 0 = s__law_dip := by
  unfold p__law_value
  rfl
theorem p__law_value_f1 : p__law_value.fn 1 = s__law_odd := by
  unfold p__law_value
  rfl
theorem d__law_value (F : L2.Fun K "_law_value" "_law_value" (top 35) f fd) (hm : mg "_law_value" = some (.ref f)) (b : Binds K fd ["urn"] []) (hb : ∀ x ∈ bltNames, mg (Str.ofString x) = none) (hv : mg (Str.ofString "ValueError") = none) (hX : XOk K mg XC) (h0 : Dok P w K mg base (xrK K) "_law_dip" 2 1 s__law_dip) (h1 : Dok P w K mg base (xrK K) "_law_odd" 1 2 s__law_odd) : Dok P w K mg base (xrK K) "_law_value" 1 3 s__law_value :=
  def_Dok (k := 2) (Φ := p__law_value) F hm b sc__law_value (.cons h0 (by decide) p__law_value_f0 (.cons h1 (by decide) p__law_value_f1 .nil)) .nil .nil .nil hX .nil .nil rfl hb hv ck__law_value rfl
theorem d__law_whole (F : L2.Fun K "_law_whole" "_law_whole" (top 32) f fd) (hm : mg "_law_whole" = some (.ref f)) (b : Binds K fd ["value", "least", "most"] []) (hb : ∀ x ∈ bltNames, mg (Str.ofString x) = none) (hv : mg (Str.ofString "ValueError") = none) (hX : XOk K mg XC) : Dok P w K mg base (xrK K) "_law_whole" 3 1 s__law_whole :=
  def_Dok (k := 0) (Φ := p__law_whole) F hm b sc__law_whole .nil .nil .nil .nil hX .nil .nil rfl hb hv ck__law_whole rfl
theorem d_is_integer (F : L2.Fun K "is_integer" "is_integer" (top 19) f fd) (hm : mg "is_integer" = some (.ref f)) (b : Binds K fd ["value", "least", "most"] []) (hb : ∀ x ∈ bltNames, mg (Str.ofString x) = none) (hv : mg (Str.ofString "ValueError") = none) (hX : XOk K mg XC) : Dok P w K mg base (xrK K) "is_integer" 3 1 s_is_integer :=
  def_Dok (k := 0) (Φ := p_is_integer) F hm b sc_is_integer .nil .nil .nil .nil hX .nil .nil rfl hb hv ck_is_integer rfl
theorem d_first_name (F : L2.Fun K "first_name" "first_name" (top 20) f fd) (hm : mg "first_name" = some (.ref f)) (b : Binds K fd ["diagonal"] []) (hb : ∀ x ∈ bltNames, mg (Str.ofString x) = none) (hv : mg (Str.ofString "ValueError") = none) (hX : XOk K mg XC) : Dok P w K mg base (xrK K) "first_name" 1 1 s_first_name :=
  def_Dok (k := 0) (Φ := p_first_name) F hm b sc_first_name .nil .nil .nil .nil hX .nil .nil rfl hb hv ck_first_name rfl
theorem p_name_in_f0 : p_name_in.fn 0 = s_first_name := by
  unfold p_name_in
  rfl
theorem d_name_in (F : L2.Fun K "name_in" "name_in" (top 21) f fd) (hm : mg "name_in" = some (.ref f)) (b : Binds K fd ["right", "down"] []) (hb : ∀ x ∈ bltNames, mg (Str.ofString x) = none) (hv : mg (Str.ofString "ValueError") = none) (hX : XOk K mg XC) (h0 : Dok P w K mg base (xrK K) "first_name" 1 1 s_first_name) : Dok P w K mg base (xrK K) "name_in" 2 2 s_name_in :=
  def_Dok (k := 1) (Φ := p_name_in) F hm b sc_name_in (.cons h0 (by decide) p_name_in_f0 .nil) .nil .nil .nil hX .nil .nil rfl hb hv ck_name_in rfl
theorem p_name_of_f0 : p_name_of.fn 0 = s_is_integer := by
  unfold p_name_of
  rfl
theorem p_name_of_f1 : p_name_of.fn 1 = s_name_in := by
  unfold p_name_of
  rfl
theorem p_name_of_g0 : p_name_of.gl 0 = (.int 1000000000000000) := by
  unfold p_name_of
  rfl
theorem d_name_of (F : L2.Fun K "name_of" "name_of" (top 24) f fd) (hm : mg "name_of" = some (.ref f)) (b : Binds K fd ["right", "down"] []) (hb : ∀ x ∈ bltNames, mg (Str.ofString x) = none) (hv : mg (Str.ofString "ValueError") = none) (hX : XOk K mg XC) (h0 : Dok P w K mg base (xrK K) "is_integer" 3 1 s_is_integer) (h1 : Dok P w K mg base (xrK K) "name_in" 2 2 s_name_in) {t0 : Nat} (g0 : mg "FARTHEST" = some (.int 1000000000000000 t0)) : Dok P w K mg base (xrK K) "name_of" 2 3 s_name_of :=
  def_Dok (k := 2) (Φ := p_name_of) F hm b sc_name_of (.cons h0 (by decide) p_name_of_f0 (.cons h1 (by decide) p_name_of_f1 .nil)) (.int g0 p_name_of_g0 .nil) .nil .nil hX .nil .nil rfl hb hv ck_name_of rfl
theorem p_diagonal_of_f0 : p_diagonal_of.fn 0 = s_first_name := by
  unfold p_diagonal_of
  rfl
theorem d_diagonal_of (F : L2.Fun K "diagonal_of" "diagonal_of" (top 22) f fd) (hm : mg "diagonal_of" = some (.ref f)) (b : Binds K fd ["name"] []) (hb : ∀ x ∈ bltNames, mg (Str.ofString x) = none) (hv : mg (Str.ofString "ValueError") = none) (hX : XOk K mg XC) (h0 : Dok P w K mg base (xrK K) "first_name" 1 1 s_first_name) : Dok P w K mg base (xrK K) "diagonal_of" 1 2 s_diagonal_of :=
  def_Dok (k := 1) (Φ := p_diagonal_of) F hm b sc_diagonal_of (.cons h0 (by decide) p_diagonal_of_f0 .nil) .nil .nil .nil hX .nil .nil rfl hb hv ck_diagonal_of rfl
theorem p_cell_in_f0 : p_cell_in.fn 0 = s_diagonal_of := by
  unfold p_cell_in
  rfl
theorem p_cell_in_f1 : p_cell_in.fn 1 = s_first_name := by
  unfold p_cell_in
  rfl
theorem d_cell_in (F : L2.Fun K "cell_in" "cell_in" (top 23) f fd) (hm : mg "cell_in" = some (.ref f)) (b : Binds K fd ["name"] []) (hb : ∀ x ∈ bltNames, mg (Str.ofString x) = none) (hv : mg (Str.ofString "ValueError") = none) (hX : XOk K mg XC) (h0 : Dok P w K mg base (xrK K) "diagonal_of" 1 2 s_diagonal_of) (h1 : Dok P w K mg base (xrK K) "first_name" 1 1 s_first_name) : Dok P w K mg base (xrK K) "cell_in" 1 3 s_cell_in :=
  def_Dok (k := 2) (Φ := p_cell_in) F hm b sc_cell_in (.cons h0 (by decide) p_cell_in_f0 (.cons h1 (by decide) p_cell_in_f1 .nil)) .nil .nil .nil hX .nil .nil rfl hb hv ck_cell_in rfl
theorem p_cell_of_f0 : p_cell_of.fn 0 = s_is_integer := by
  unfold p_cell_of
  rfl
theorem p_cell_of_f1 : p_cell_of.fn 1 = s_cell_in := by
  unfold p_cell_of
  rfl
theorem p_cell_of_g0 : p_cell_of.gl 0 = (.int 1000000000000000000000000000000) := by
  unfold p_cell_of
  rfl
theorem d_cell_of (F : L2.Fun K "cell_of" "cell_of" (top 25) f fd) (hm : mg "cell_of" = some (.ref f)) (b : Binds K fd ["name"] []) (hb : ∀ x ∈ bltNames, mg (Str.ofString x) = none) (hv : mg (Str.ofString "ValueError") = none) (hX : XOk K mg XC) (h0 : Dok P w K mg base (xrK K) "is_integer" 3 1 s_is_integer) (h1 : Dok P w K mg base (xrK K) "cell_in" 1 3 s_cell_in) {t0 : Nat} (g0 : mg "GREATEST_NAME" = some (.int 1000000000000000000000000000000 t0)) : Dok P w K mg base (xrK K) "cell_of" 1 4 s_cell_of :=
  def_Dok (k := 3) (Φ := p_cell_of) F hm b sc_cell_of (.cons h0 (by decide) p_cell_of_f0 (.cons h1 (by decide) p_cell_of_f1 .nil)) (.int g0 p_cell_of_g0 .nil) .nil .nil hX .nil .nil rfl hb hv ck_cell_of rfl
theorem p_most_names_f0 : p_most_names.fn 0 = s_is_integer := by
  unfold p_most_names
  rfl
theorem p_most_names_f1 : p_most_names.fn 1 = s_first_name := by
  unfold p_most_names
  rfl
theorem p_most_names_g0 : p_most_names.gl 0 = (.int 1000000000000000) := by
  unfold p_most_names
  rfl
theorem d_most_names (F : L2.Fun K "most_names" "most_names" (top 26) f fd) (hm : mg "most_names" = some (.ref f)) (b : Binds K fd ["count"] []) (hb : ∀ x ∈ bltNames, mg (Str.ofString x) = none) (hv : mg (Str.ofString "ValueError") = none) (hX : XOk K mg XC) (h0 : Dok P w K mg base (xrK K) "is_integer" 3 1 s_is_integer) (h1 : Dok P w K mg base (xrK K) "first_name" 1 1 s_first_name) {t0 : Nat} (g0 : mg "FARTHEST" = some (.int 1000000000000000 t0)) : Dok P w K mg base (xrK K) "most_names" 1 2 s_most_names :=
  def_Dok (k := 1) (Φ := p_most_names) F hm b sc_most_names (.cons h0 (by decide) p_most_names_f0 (.cons h1 (by decide) p_most_names_f1 .nil)) (.int g0 p_most_names_g0 .nil) .nil .nil hX .nil .nil rfl hb hv ck_most_names rfl
theorem p__law_raised_f0 : p__law_raised.fn 0 = s_name_of := by
  unfold p__law_raised
  rfl
theorem p__law_raised_f1 : p__law_raised.fn 1 = s_cell_of := by
  unfold p__law_raised
  rfl
theorem p__law_raised_f2 : p__law_raised.fn 2 = s_most_names := by
  unfold p__law_raised
  rfl
theorem p__law_raised_f300 : p__law_raised.fn 300 = s__law_kind := by
  unfold p__law_raised
  rfl
theorem d__law_raised (F : L2.Fun K "_law_raised" "_law_raised" (top 33) f fd) (hm : mg "_law_raised" = some (.ref f)) (b : Binds K fd ["door", "one", "other"] []) (hb : ∀ x ∈ bltNames, mg (Str.ofString x) = none) (hv : mg (Str.ofString "ValueError") = none) (hX : XOk K mg XC) (h0 : Dok P w K mg base (xrK K) "name_of" 2 3 s_name_of) (h1 : Dok P w K mg base (xrK K) "cell_of" 1 4 s_cell_of) (h2 : Dok P w K mg base (xrK K) "most_names" 1 2 s_most_names) (hh0 : Hdk P w K mg base (xrK K) "_law_kind" 1 1 s__law_kind) : Dok P w K mg base (xrK K) "_law_raised" 3 5 s__law_raised :=
  def_Dok (k := 4) (Φ := p__law_raised) F hm b sc__law_raised (.cons h0 (by decide) p__law_raised_f0 (.cons h1 (by decide) p__law_raised_f1 (.cons h2 (by decide) p__law_raised_f2 .nil))) .nil .nil .nil hX .nil (.cons hh0 (by decide) p__law_raised_f300 .nil) rfl hb hv ck__law_raised rfl
theorem p_law_f0 : p_law.fn 0 = s__law_urn := by
  unfold p_law
  rfl
theorem p_law_f1 : p_law.fn 1 = s__law_errors_right := by
  unfold p_law
  rfl
theorem p_law_f2 : p_law.fn 2 = s__law_dip := by
  unfold p_law
  rfl
theorem p_law_f3 : p_law.fn 3 = s__law_value := by
  unfold p_law
  rfl
theorem p_law_f4 : p_law.fn 4 = s__law_whole := by
  unfold p_law
  rfl
theorem p_law_f5 : p_law.fn 5 = s__law_raised := by
  unfold p_law
  rfl
theorem d_law (F : L2.Fun K "law" "law" (top 36) f fd) (hb : ∀ x ∈ bltNames, mg (Str.ofString x) = none) (hv : mg (Str.ofString "ValueError") = none) (hX : XOk K mg XC) (h0 : Dok P w K mg base (xrK K) "_law_urn" 2 1 s__law_urn) (h1 : Dok P w K mg base (xrK K) "_law_errors_right" 1 3 s__law_errors_right) (h2 : Dok P w K mg base (xrK K) "_law_dip" 2 1 s__law_dip) (h3 : Dok P w K mg base (xrK K) "_law_value" 1 3 s__law_value) (h4 : Dok P w K mg base (xrK K) "_law_whole" 3 1 s__law_whole) (h5 : Dok P w K mg base (xrK K) "_law_raised" 3 5 s__law_raised) : FnG P w K mg base (L2N.CX P w) 6 f fd ["script"] (spOf K (xrK K) 1 s_law) :=
  def_okE (k := 5) (Φ := p_law) F sc_law (.cons h0 (by decide) p_law_f0 (.cons h1 (by decide) p_law_f1 (.cons h2 (by decide) p_law_f2 (.cons h3 (by decide) p_law_f3 (.cons h4 (by decide) p_law_f4 (.cons h5 (by decide) p_law_f5 .nil)))))) .nil .nil .nil hX .nil .nil rfl hb hv ck_law rfl rfl
end
end VEL
namespace VEL
open PySem L2 PySem.Spec PyProof.Rows VE TL
theorem whl_ok {c : List S → R S} {b : List S → R F} (I : Nat → List S → Prop) (P : List S → Prop) (step : ∀ m ρ, I m ρ → (∃ ρ', c ρ = .ok (.val (.bool false)) ρ' ∧ P ρ') ∨ (∃ ρ' ρ'' m', c ρ = .ok (.val (.bool true)) ρ' ∧ b ρ' = .ok .nx ρ'' ∧ m' < m ∧ I m' ρ'')) :
    ∀ (m n : Nat) (ρ : List S), m < n → I m ρ → ∃ ρ', whl c b n ρ = .ok .nx ρ' ∧ P ρ' := by
  intro m
  induction m using Nat.strongRecOn with
  | _ m ih =>
    intro n ρ hn hI
    cases n with
    | zero => omega
    | succ n =>
      rw [whl]
      rcases step m ρ hI with ⟨ρ', e, hP⟩ | ⟨ρ', ρ'', m', e, e2, hm, hI'⟩
      · rw [e]
        exact ⟨ρ', rfl, hP⟩
      · rw [e]
        simp only [R.bnd_ok, toBool_bool]
        rw [e2]
        exact ih m' hm n ρ'' (by omega) hI'
theorem d2 : divOk 2 = true := by decide
def tr (s : Int) : Int := s * (s + 1) / 2
theorem tr_succ (s : Int) : tr (s + 1) = tr s + (s + 1) := by
  unfold tr
  have e : (s + 1) * (s + 1 + 1) = s * (s + 1) + (s + 1) * 2 := by
    rw [Int.add_mul, Int.add_mul, Int.mul_add, Int.mul_add, Int.mul_add, Int.mul_add]
    omega
  rw [e, Int.add_mul_ediv_right _ _ (by decide)]
theorem tr_mono {a b : Int} (ha : 0 ≤ a) (h : a ≤ b) : tr a ≤ tr b := by
  unfold tr
  exact Int.ediv_le_ediv (by decide) (Int.mul_le_mul h (by omega) (by omega) (by omega))
theorem tr_nonneg {a : Int} (ha : 0 ≤ a) : 0 ≤ tr a := by
  have q := tr_mono (a := 0) (by omega) ha
  simpa [tr] using q
theorem first_name_ok (d : Int) (h : 0 ≤ d) (h2 : d < 2 ^ 63) : s_first_name [.val (.int d)] = .ok (.val (.int (tr d))) [.val (.int d)] := by
  have m : mulOk d (d + 1) = true := mulOk_l (by omega)
  simp [u_first_name, evDef, b_first_name, m, d2, tr]
theorem diagonal_ok (n : Int) (h : 0 ≤ n) (h2 : n ≤ 10 ^ 30) : ∃ D : Int, s_diagonal_of [.val (.int n)] = .ok (.val (.int D)) [.val (.int n)] ∧ 0 ≤ D ∧ D < 2 ^ 51 ∧ tr D ≤ n ∧ n < tr (D + 1) := by
  obtain ⟨ρ1, e1, j, rfl, hj, hB⟩ := whl_ok (c := evE p_diagonal_of t_diagonal_of_1) (b := evSs p_diagonal_of l_diagonal_of_1) (fun m ρ => ∃ j : Nat, ρ = [.val (.int n), .val (.int 0), .val (.int (2 ^ j)), .dead] ∧ j ≤ 51 ∧ m = 52 - j)
    (fun ρ => ∃ j : Nat, ρ = [.val (.int n), .val (.int 0), .val (.int (2 ^ j)), .dead] ∧ j ≤ 51 ∧ n < tr (2 ^ j)) (by
      rintro m ρ ⟨j, rfl, hj, rfl⟩
      have b1 : (0 : Int) < 2 ^ j := Int.pow_pos (by decide)
      have b2 : (2 : Int) ^ j ≤ 2 ^ 51 := by
        have : (2 : Nat) ^ j ≤ 2 ^ 51 := Nat.pow_le_pow_right (by omega) hj
        exact_mod_cast this
      have f := first_name_ok (2 ^ j) (by omega) (by omega)
      by_cases c : tr (2 ^ j) ≤ n
      · right
        have hj2 : j ≤ 50 := by
          refine Nat.le_of_lt_succ (Nat.lt_of_not_le fun z => ?_)
          have : j = 51 := by omega
          subst this
          have q : tr (2 ^ 51) > 10 ^ 30 := by decide
          omega
        refine ⟨[.val (.int n), .val (.int 0), .val (.int (2 ^ j)), .dead], [.val (.int n), .val (.int 0), .val (.int (2 ^ (j + 1))), .dead], 52 - (j + 1), ?_, ?_, by omega, j + 1, rfl, by omega, rfl⟩
        · simp [t_diagonal_of_1, p_diagonal_of_f0, f, c]
        · simp [l_diagonal_of_1, Int.pow_succ]
      · left
        refine ⟨[.val (.int n), .val (.int 0), .val (.int (2 ^ j)), .dead], ?_, j, rfl, hj, by omega⟩
        simp [t_diagonal_of_1, p_diagonal_of_f0, f, c]) 52 4096 [.val (.int n), .val (.int 0), .val (.int 1), .dead] (by decide) ⟨0, rfl, by omega, rfl⟩
  have b2 : (2 : Int) ^ j ≤ 2 ^ 51 := by
    have : (2 : Nat) ^ j ≤ 2 ^ 51 := Nat.pow_le_pow_right (by omega) hj
    exact_mod_cast this
  have b1 : (0 : Int) < 2 ^ j := Int.pow_pos (by decide)
  obtain ⟨ρ2, e2, l, t, b, rfl, l1, l2, l3, l4, l5⟩ := whl_ok (c := evE p_diagonal_of t_diagonal_of_2) (b := evSs p_diagonal_of l_diagonal_of_2) (fun m ρ => ∃ (l b : Int) (t : S), ρ = [.val (.int n), .val (.int l), .val (.int b), t] ∧ 0 ≤ l ∧ l < b ∧ b ≤ 2 ^ 51 ∧ b - l ≤ 2 ^ m ∧ tr l ≤ n ∧ n < tr b)
    (fun ρ => ∃ (l : Int) (t : S) (b : Int), ρ = [.val (.int n), .val (.int l), .val (.int b), t] ∧ 0 ≤ l ∧ b = l + 1 ∧ b ≤ 2 ^ 51 ∧ tr l ≤ n ∧ n < tr b) (by
      rintro m ρ ⟨l, b, t, rfl, h1, h2, h3, h4, h5, h6⟩
      by_cases c : 1 < b - l
      · right
        obtain ⟨m, rfl⟩ : ∃ m', m = m' + 1 := by
          cases m with
          | zero => simp at h4; omega
          | succ m => exact ⟨m, rfl⟩
        have e : (2 : Int) ^ (m + 1) = 2 ^ m * 2 := Int.pow_succ ..
        have f := first_name_ok ((l + b) / 2) (by omega) (by omega)
        by_cases c2 : tr ((l + b) / 2) ≤ n
        · refine ⟨[.val (.int n), .val (.int l), .val (.int b), t], [.val (.int n), .val (.int ((l + b) / 2)), .val (.int b), .val (.int ((l + b) / 2))], m, ?_, ?_, by omega, (l + b) / 2, b, _, rfl, by omega, by omega, h3, by omega, c2, h6⟩
          · simp [t_diagonal_of_2, c]
          · simp [l_diagonal_of_2, p_diagonal_of_f0, d2, f, c2]
        · refine ⟨[.val (.int n), .val (.int l), .val (.int b), t], [.val (.int n), .val (.int l), .val (.int ((l + b) / 2)), .val (.int ((l + b) / 2))], m, ?_, ?_, by omega, l, (l + b) / 2, _, rfl, by omega, by omega, by omega, by omega, h5, by omega⟩
          · simp [t_diagonal_of_2, c]
          · simp [l_diagonal_of_2, p_diagonal_of_f0, d2, f, c2]
      · left
        refine ⟨[.val (.int n), .val (.int l), .val (.int b), t], ?_, l, t, b, rfl, h1, by omega, h3, h5, h6⟩
        simp [t_diagonal_of_2, c]) 51 4096 [.val (.int n), .val (.int 0), .val (.int (2 ^ j)), .dead] (by decide) ⟨0, 2 ^ j, .dead, rfl, by omega, b1, b2, by omega, by simpa [tr] using h, hB⟩
  subst l2
  refine ⟨l, ?_, l1, by omega, l4, l5⟩
  simp [u_diagonal_of, evDef, b_diagonal_of, e1, e2, sizeLine]
theorem urn_ok (ds : List PyData) (k : Nat) (hk : k < 1000) (hl : ds.length ≤ 63) (hi : ∀ d ∈ ds, ∃ i, d = .int i) : ∃ a b : Int, s__law_urn [.val (.list ds), .val (.int k)] = .ok (.lst [.int a, .int b, .int 0]) [.val (.list ds), .val (.int k)] ∧ 0 ≤ a ∧ 0 ≤ b ∧ b < 2 ^ 150 := by
  have hz : ds.length ≤ sizeLine := by have : (63 : Nat) ≤ sizeLine := by decide
                                       omega
  have p1 : powOk 10 18 = true := by decide
  have p2 : powOk 10 39 = true := by decide
  have m1 : ∀ a : Int, mulOk a 256 = true := fun a => mulOk_r (by decide)
  have m2 : ∀ a : Int, mulOk 41 a = true := fun a => mulOk_l (by decide)
  by_cases h : k < ds.length
  · obtain ⟨i, hi⟩ := hi ds[k] (List.getElem_mem h)
    have e : atI ds (k : Int) = some (.int i) := atI_nat (by rw [List.getElem?_eq_getElem h, hi])
    have hk' : (k : Int) < (ds.length : Int) := by omega
    refine ⟨if i - 10 ^ 18 > 0 then i - 10 ^ 18 else 0, i % (10 ^ 39 + 23) * 256 + 41 * k + 13, ?_, ?_, ?_, ?_⟩
    · simp [u__law_urn, evDef, b__law_urn, hz, hk', e, p1, p2, m1, m2]
      simp [sizeLine]
    · split <;> omega
    · omega
    · omega
  · have hk' : ¬ (k : Int) < (ds.length : Int) := by omega
    refine ⟨0, 41 * k + 13, ?_, ?_, ?_, ?_⟩
    · simp [u__law_urn, evDef, b__law_urn, hz, hk', p1, p2, m1, m2]
      simp [sizeLine]
    · omega
    · omega
    · omega
theorem dip_ok (a b c n : Int) (ha : 0 ≤ a) (hb : 0 ≤ b) (hb2 : b < 2 ^ 150) (hc : 0 ≤ c) (hc2 : c < 2 ^ 40) (hn : 0 < n) (hn2 : n < 2 ^ 200) : ∃ v a' c' : Int, s__law_dip [.lst [.int a, .int b, .int c], .val (.int n)] = .ok (.val (.int v)) [.lst [.int a', .int b, .int c'], .val (.int n)] ∧ 0 ≤ v ∧ v < n ∧ 0 ≤ a' ∧ 0 ≤ c' ∧ c' ≤ c + 1 := by
  have dn : divOk n = true := divOk_of hn (by omega)
  have i0 : ∀ x y z : PyData, atI [x, y, z] 0 = some x := fun _ _ _ => rfl
  have i1 : ∀ x y z : PyData, atI [x, y, z] 1 = some y := fun _ _ _ => rfl
  have i2 : ∀ x y z : PyData, atI [x, y, z] 2 = some z := fun _ _ _ => rfl
  have j0 : ixN 3 0 = some 0 := rfl
  have j2 : ixN 3 2 = some 2 := rfl
  by_cases h : 0 < a
  · refine ⟨a % n, a / n, c, ?_, Int.emod_nonneg _ (by omega), Int.emod_lt_of_pos _ hn, Int.ediv_nonneg ha (by omega), hc, by omega⟩
    simp [u__law_dip, evDef, b__law_dip, i0, i1, i2, j0, j2, h, hn, dn]
  · have m1 : ∀ a : Int, mulOk 3267000013 a = true := fun a => mulOk_l (by decide)
    have m2 : ∀ a : Int, mulOk 5754853343 a = true := fun a => mulOk_l (by decide)
    have p0 : powOk 10 44 = true := by decide
    have p2 : powOk 10 43 = true := by decide
    have p1 : powOk (b + 3267000013 * (c + 1)) 3 = true := powOk_of (by omega) (by omega) (by omega) (by omega)
    have d1 : divOk 433494437 = true := by decide
    have hm : mulOk ((b + 3267000013 * (c + 1)) ^ 3 % (10 ^ 44 + 31)) ((b + 3267000013 * (c + 1)) ^ 3 % (10 ^ 44 + 31)) = true := by
      have h1 := Int.emod_nonneg ((b + 3267000013 * (c + 1)) ^ 3) (show (10 ^ 44 + 31 : Int) ≠ 0 by decide)
      have h2 := Int.emod_lt_of_pos ((b + 3267000013 * (c + 1)) ^ 3) (show (0 : Int) < 10 ^ 44 + 31 by decide)
      exact mulOk_b (by omega) (by omega) (by omega) (by omega)
    simp at hm
    refine ⟨((b + 3267000013 * (c + 1)) ^ 3 % (10 ^ 44 + 31) * ((b + 3267000013 * (c + 1)) ^ 3 % (10 ^ 44 + 31)) + 5754853343 * (c + 1)) % (10 ^ 43 + 57) / 433494437 % n, a, c + 1, ?_, Int.emod_nonneg _ (by omega), Int.emod_lt_of_pos _ hn, ha, by omega, by omega⟩
    simp [u__law_dip, evDef, b__law_dip, i0, i1, i2, j0, j2, h, hn, dn, m1, m2, p0, p1, p2, d1, hm]
end VEL

/-! F2: the errors themselves; values. -/
namespace VEL
open PySem L2 PySem.Spec PyProof.Rows VE TL
theorem errors_ok (T : Str) : s__law_errors_right [.val (.str T)] = .ok (.val (.bool true)) [.val (.str T)] := by kernel_rfl
end VEL

/-! F2: the errors themselves; values. -/
namespace VEL
open PySem L2 PySem.Spec PyProof.Rows VE TL
theorem kind1 : s__law_kind [.val (exD 1 none)] = .ok (.val (.str ("count" : Str))) [.val (exD 1 none)] := by rfl
theorem kind4 : s__law_kind [.val (exD 4 none)] = .ok (.val (.str ("cell" : Str))) [.val (exD 4 none)] := by rfl
theorem kind5 : s__law_kind [.val (exD 5 none)] = .ok (.val (.str ("name" : Str))) [.val (exD 5 none)] := by rfl
theorem nr_int {i : Int} (h : i.natAbs < 10 ^ 90) : Nr 0 400 (.int i) := by
  have q := log2_lt (a := i) (n := 400) (by omega) (by
    have : (10 : Nat) ^ 90 ≤ 2 ^ 400 := by decide
    omega) (by
    have : (10 : Nat) ^ 90 ≤ 2 ^ 400 := by decide
    omega)
  refine ⟨decide_eq_true (by omega), ?_, rfl, Nat.le_refl 0, ?_⟩
  · have z := int_text_length_le10 (a := i) (k := 90) (by decide) h
    have e : (PyData.int i).shown = Str.ofString (toString i) := rfl
    show decide ((PyData.int i).shown.length ≤ 100) = true
    rw [e, PySem.ofString_length]
    exact decide_eq_true (by omega)
  · show (if i == 0 then 0 else i.natAbs.log2 + 1) ≤ 400
    split <;> omega
def whole (a b : Int) : PyData → Bool
  | .int i => decide (a ≤ i) && decide (i ≤ b)
  | _ => false
/-- a value: a number, or what is none -/
structure Vl (d : PyData) : Prop where
  nr : Nr 5 10000 d
  k : (∃ i, d = .int i) ∨ ((∀ a b, whole a b d = false) ∧ ((opBlt (.isi .int) [d] = some (.val (.bool false))) ∨ (opBlt (.isi .int) [d] = some (.val (.bool true)) ∧ opBlt (.isi .bool) [d] = some (.val (.bool true)))))
theorem vl_int {i : Int} (h : i.natAbs < 10 ^ 90) : Vl (.int i) := ⟨(nr_int h).mono (by decide) (by decide), .inl ⟨i, rfl⟩⟩
theorem vl_none : Vl .none := ⟨nr_none.mono (by decide) (by decide), .inr ⟨fun _ _ => rfl, .inl rfl⟩⟩
theorem odd_ok (a b c : Int) (ha : 0 ≤ a) (hb : 0 ≤ b) (hb2 : b < 2 ^ 150) (hc : 0 ≤ c) (hc2 : c < 2 ^ 39) :
    ∃ (d : PyData) (a' c' : Int), s__law_odd [.lst [.int a, .int b, .int c]] = .ok (.val d) [.lst [.int a', .int b, .int c']] ∧ Vl d ∧ 0 ≤ a' ∧ 0 ≤ c' ∧ c' ≤ c + 1 := by
  obtain ⟨v1, a1, c1, e1, q1, r1, s1, t1, w1⟩ := dip_ok a b c 30 ha hb hb2 hc (by omega) (by omega) (by omega)
  have p1 : powOk 10 39 = true := by decide
  obtain ⟨d, hd, ed⟩ := atI_in (xs := [PyData.none, .bool true, .bool false, .int (-1), .str ("" : Str), .str ("0" : Str), .str ("a" : Str), .str ("0 1" : Str), .tuple [], .tuple [.int 0], .dict [], .list [], .list [.none], .list [.bool true], .list [.int 0], .list [.int 1, .int 0], .list [.int 0, .int 0], .list [.int (-1)],
    .tuple [.int 0, .int 1], .list [.str ("0" : Str)], .dict [(.str ("0" : Str), .int 0)], .list [.list [.int 0]], .list [.int 0, .list [.int 1]], .int 1000000000000000000000000000000000000000, .int 41, .int 0, .list [.int 0, .int 1, .int 2], .str ("1 0" : Str), .list [.int 1000000000000000000000000000000000000000], .list [.int 0, .bool true]]) q1 (by simpa using r1)
  refine ⟨d, a1, c1, ?_, ?_, s1, t1, by omega⟩
  · simp [u__law_odd, evDef, b__law_odd, p__law_odd_f0, e1, p1, ed, sizeLine]
  · simp only [List.mem_cons, List.mem_nil_iff, or_false] at hd
    rcases hd with rfl | rfl | rfl | rfl | rfl | rfl | rfl | rfl | rfl | rfl | rfl | rfl | rfl | rfl | rfl | rfl | rfl | rfl | rfl | rfl | rfl | rfl | rfl | rfl | rfl | rfl | rfl | rfl | rfl | rfl
    all_goals first
      | exact vl_int (by decide)
      | exact ⟨⟨by decide +kernel, by decide +kernel, by decide +kernel, by decide +kernel, by decide +kernel⟩, .inr ⟨fun _ _ => rfl, .inl rfl⟩⟩
      | exact ⟨⟨by decide +kernel, by decide +kernel, by decide +kernel, by decide +kernel, by decide +kernel⟩, .inr ⟨fun _ _ => rfl, .inr ⟨rfl, rfl⟩⟩⟩
theorem isint_ok {d : PyData} (hd : Vl d) (a b : Int) : s_is_integer [.val d, .val (.int a), .val (.int b)] = .ok (.val (.bool (whole a b d))) [.val d, .val (.int a), .val (.int b)] := by
  rcases hd.k with ⟨i, rfl⟩ | ⟨w, h | ⟨h, h2⟩⟩
  · have b1 : opBlt (.isi .int) [.int i] = some (.val (.bool true)) := rfl
    have b2 : opBlt (.isi .bool) [.int i] = some (.val (.bool false)) := rfl
    by_cases c1 : a ≤ i
    · by_cases c2 : i ≤ b
      · simp [u_is_integer, evDef, b_is_integer, b1, b2, c1, c2, whole]
      · simp [u_is_integer, evDef, b_is_integer, b1, b2, c1, c2, whole]
    · simp [u_is_integer, evDef, b_is_integer, b1, b2, c1, whole]
  · rw [w]
    simp [u_is_integer, evDef, b_is_integer, h]
  · rw [w]
    simp [u_is_integer, evDef, b_is_integer, h, h2]
theorem lint_ok {d : PyData} (hd : Vl d) (a b : Int) : s__law_whole [.val d, .val (.int a), .val (.int b)] = .ok (.val (.bool (whole a b d))) [.val d, .val (.int a), .val (.int b)] := isint_ok hd a b
theorem whole_int {a b : Int} {d : PyData} (h : whole a b d = true) : ∃ i, d = .int i ∧ a ≤ i ∧ i ≤ b := by
  cases d with
  | int i =>
    simp [whole] at h
    exact ⟨i, rfl, h.1, h.2⟩
  | _ => cases h
theorem name_ok {x y : PyData} (hx : Vl x) (hy : Vl y) : (whole 0 (10 ^ 15) x = true ∧ whole 0 (10 ^ 15) y = true ∧ ∃ s, s_name_of [.val x, .val y] = .ok s [.val x, .val y]) ∨ ((whole 0 (10 ^ 15) x && whole 0 (10 ^ 15) y) = false ∧ s_name_of [.val x, .val y] = .exc 4 none [.val x, .val y]) := by
  have i1 := isint_ok hx 0 (10 ^ 15)
  have i2 := isint_ok hy 0 (10 ^ 15)
  simp at i1 i2
  cases w1 : whole 0 (10 ^ 15) x with
  | false =>
    simp at w1
    rw [w1] at i1
    refine .inr ⟨rfl, ?_⟩
    simp [u_name_of, evDef, b_name_of, evS_for, loop, l_name_of_1, p_name_of_f0, p_name_of_g0, i1, i2, finF, sizeLine]
  | true =>
    cases w2 : whole 0 (10 ^ 15) y with
    | false =>
      simp at w1 w2
      rw [w1] at i1
      rw [w2] at i2
      refine .inr ⟨rfl, ?_⟩
      simp [u_name_of, evDef, b_name_of, evS_for, loop, l_name_of_1, p_name_of_f0, p_name_of_g0, i1, i2, finF, sizeLine]
    | true =>
      obtain ⟨i, rfl, h1, h2⟩ := whole_int w1
      obtain ⟨j, rfl, h3, h4⟩ := whole_int w2
      simp at w1 w2
      rw [w1] at i1
      rw [w2] at i2
      have f := first_name_ok (i + j) (by omega) (by omega)
      have ni : s_name_in [.val (.int i), .val (.int j)] = .ok (.val (.int (tr (i + j) + i))) [.val (.int i), .val (.int j)] := by
        simp [u_name_in, evDef, b_name_in, p_name_in_f0, f]
      refine .inl ⟨rfl, rfl, .val (.int (tr (i + j) + i)), ?_⟩
      simp [u_name_of, evDef, b_name_of, evS_for, loop, l_name_of_1, p_name_of_f0, p_name_of_f1, p_name_of_g0, i1, i2, finF, sizeLine, ni]
theorem cell_ok {x : PyData} (hx : Vl x) : (whole 0 (10 ^ 30) x = true ∧ ∃ s, s_cell_of [.val x] = .ok s [.val x]) ∨ (whole 0 (10 ^ 30) x = false ∧ s_cell_of [.val x] = .exc 5 none [.val x]) := by
  have i1 := isint_ok hx 0 (10 ^ 30)
  simp at i1
  cases w1 : whole 0 (10 ^ 30) x with
  | false =>
    simp at w1
    rw [w1] at i1
    refine .inr ⟨rfl, ?_⟩
    simp [u_cell_of, evDef, b_cell_of, p_cell_of_f0, p_cell_of_g0, i1]
  | true =>
    obtain ⟨i, rfl, h1, h2⟩ := whole_int w1
    simp at w1
    rw [w1] at i1
    obtain ⟨D, e, g1, g2, g3, g4⟩ := diagonal_ok i h1 h2
    have f := first_name_ok D g1 (by omega)
    have ci : ∃ s, s_cell_in [.val (.int i)] = .ok s [.val (.int i)] := ⟨.val (.tuple [.int (i - tr D), .int (D - (i - tr D))]), by
      simp [u_cell_in, evDef, b_cell_in, p_cell_in_f0, p_cell_in_f1, e, f, sizeLine]⟩
    obtain ⟨s, ci⟩ := ci
    refine .inl ⟨rfl, s, ?_⟩
    simp [u_cell_of, evDef, b_cell_of, p_cell_of_f0, p_cell_of_f1, p_cell_of_g0, i1, ci]
theorem most_ok {x : PyData} (hx : Vl x) : (whole 1 (10 ^ 15) x = true ∧ ∃ s, s_most_names [.val x] = .ok s [.val x]) ∨ (whole 1 (10 ^ 15) x = false ∧ s_most_names [.val x] = .exc 1 none [.val x]) := by
  have i1 := isint_ok hx 1 (10 ^ 15)
  simp at i1
  cases w1 : whole 1 (10 ^ 15) x with
  | false =>
    simp at w1
    rw [w1] at i1
    refine .inr ⟨rfl, ?_⟩
    simp [u_most_names, evDef, b_most_names, p_most_names_f0, p_most_names_g0, i1]
  | true =>
    obtain ⟨i, rfl, h1, h2⟩ := whole_int w1
    simp at w1
    rw [w1] at i1
    have f := first_name_ok i (by omega) (by omega)
    refine .inl ⟨rfl, .val (.int (tr i)), ?_⟩
    simp [u_most_names, evDef, b_most_names, p_most_names_f0, p_most_names_f1, p_most_names_g0, i1, f]
end VEL

/-! F3: what is raised; the law. -/
namespace VEL
open PySem L2 PySem.Spec PyProof.Rows VE TL
def w0 (b : Bool) : Str := if b then ("none" : Str) else ("cell" : Str)
def w1 (b : Bool) : Str := if b then ("none" : Str) else ("name" : Str)
def w2 (b : Bool) : Str := if b then ("none" : Str) else ("count" : Str)
theorem repr_two {x y : PyData} (hx : Vl x) (hy : Vl y) : ∃ z, opBlt .repr [.list [x, y]] = some (.val (.str z)) := by
  have q : Nr 6 ((10000 + 1) * [x, y].length) (.list [x, y]) := nr_list fun d hd => by
    simp only [List.mem_cons, List.mem_nil_iff, or_false] at hd
    rcases hd with rfl | rfl
    · exact hx.nr
    · exact hy.nr
  exact ⟨_, repr_r (q.mono (by decide) (by show (10000 + 1) * 2 ≤ 100000; decide))⟩
theorem raised0 {x y : PyData} (hx : Vl x) (hy : Vl y) : s__law_raised [.val (.int 0), .val x, .val y] = .ok (.val (.str (w0 (whole 0 (10 ^ 15) x && whole 0 (10 ^ 15) y)))) [.val (.int 0), .val x, .val y] := by
  obtain ⟨z, rz⟩ := repr_two hx hy
  have s0 : subX 4 0 = true := by decide
  rcases name_ok hx hy with ⟨h1, h2, s, e⟩ | ⟨h, e⟩
  · rw [h1, h2]
    simp [u__law_raised, evDef, b__law_raised, l__law_raised_1, evS_tryA, p__law_raised_f0, p__law_raised_f300, rz, e, w0, sizeLine]
  · rw [h]
    simp [u__law_raised, evDef, b__law_raised, l__law_raised_1, evS_tryA, p__law_raised_f0, p__law_raised_f300, rz, e, w0, s0, kind4, sizeLine]
theorem raised1 {x y : PyData} (hx : Vl x) (hy : Vl y) : s__law_raised [.val (.int 1), .val x, .val y] = .ok (.val (.str (w1 (whole 0 (10 ^ 30) x)))) [.val (.int 1), .val x, .val y] := by
  obtain ⟨z, rz⟩ := repr_two hx hy
  have s0 : subX 5 0 = true := by decide
  rcases cell_ok hx with ⟨h, s, e⟩ | ⟨h, e⟩
  · rw [h]
    simp [u__law_raised, evDef, b__law_raised, l__law_raised_1, evS_tryA, p__law_raised_f1, p__law_raised_f300, rz, e, w1, sizeLine]
  · rw [h]
    simp [u__law_raised, evDef, b__law_raised, l__law_raised_1, evS_tryA, p__law_raised_f1, p__law_raised_f300, rz, e, w1, s0, kind5, sizeLine]
theorem raised2 {x y : PyData} (hx : Vl x) (hy : Vl y) : s__law_raised [.val (.int 2), .val x, .val y] = .ok (.val (.str (w2 (whole 1 (10 ^ 15) x)))) [.val (.int 2), .val x, .val y] := by
  obtain ⟨z, rz⟩ := repr_two hx hy
  have s0 : subX 1 0 = true := by decide
  rcases most_ok hx with ⟨h, s, e⟩ | ⟨h, e⟩
  · rw [h]
    simp [u__law_raised, evDef, b__law_raised, l__law_raised_1, evS_tryA, p__law_raised_f2, p__law_raised_f300, rz, e, w2, sizeLine]
  · rw [h]
    simp [u__law_raised, evDef, b__law_raised, l__law_raised_1, evS_tryA, p__law_raised_f2, p__law_raised_f300, rz, e, w2, s0, kind1, sizeLine]
theorem value_ok (a b c : Int) (ha : 0 ≤ a) (hb : 0 ≤ b) (hb2 : b < 2 ^ 150) (hc : 0 ≤ c) (hc2 : c < 2 ^ 38) :
    ∃ (d : PyData) (a' c' : Int), s__law_value [.lst [.int a, .int b, .int c]] = .ok (.val d) [.lst [.int a', .int b, .int c']] ∧ Vl d ∧ 0 ≤ a' ∧ 0 ≤ c' ∧ c' ≤ c + 6 := by
  obtain ⟨v1, a1, c1, e1, q1, r1, s1, t1, u1⟩ := dip_ok a b c 1000000000000000 ha hb hb2 hc (by omega) (by omega) (by omega)
  obtain ⟨v2, a2, c2, e2, q2, r2, s2, t2, u2⟩ := dip_ok a1 b c1 1000000000000000000000000000000 s1 hb hb2 t1 (by omega) (by omega) (by omega)
  obtain ⟨v3, a3, c3, e3, q3, r3, s3, t3, u3⟩ := dip_ok a2 b c2 9 s2 hb hb2 t2 (by omega) (by omega) (by omega)
  obtain ⟨o, a4, c4, e4, ho, s4, t4, u4⟩ := odd_ok a3 b c3 s3 hb hb2 t3 (by omega)
  obtain ⟨v5, a5, c5, e5, q5, r5, s5, t5, u5⟩ := dip_ok a4 b c4 9 s4 hb hb2 t4 (by omega) (by omega) (by omega)
  obtain ⟨v6, a6, c6, e6, q6, r6, s6, t6, u6⟩ := dip_ok a5 b c5 3 s5 hb hb2 t5 (by omega) (by omega) (by omega)
  have ends : ∀ d ∈ [PyData.int 0, .int 1, .int (-1), .int 1000000000000000, .int 1000000000000001, .int 1000000000000000000000000000000, .int 1000000000000000000000000000001, .int v1, .int (-v2)], Vl d := by
    intro d hd
    simp only [List.mem_cons, List.mem_nil_iff, or_false] at hd
    rcases hd with rfl | rfl | rfl | rfl | rfl | rfl | rfl | rfl | rfl
    all_goals exact vl_int (by omega)
  obtain ⟨d3, hd3, ed3⟩ := atI_in (xs := [PyData.int 0, .int 1, .int (-1), .int 1000000000000000, .int 1000000000000001, .int 1000000000000000000000000000000, .int 1000000000000000000000000000001, .int v1, .int (-v2)]) q3 (by simpa using r3)
  obtain ⟨d5, hd5, ed5⟩ := atI_in (xs := [PyData.int 0, .int 1, .int (-1), .int 1000000000000000, .int 1000000000000001, .int 1000000000000000000000000000000, .int 1000000000000000000000000000001, .int v1, .int (-v2)]) q5 (by simpa using r5)
  obtain ⟨d6, hd6, ed6⟩ := atI_in (xs := [d3, o, d5]) q6 (by simpa using r6)
  have p1 : powOk 10 15 = true := by decide
  have p2 : powOk 10 30 = true := by decide
  refine ⟨d6, a6, c6, ?_, ?_, s6, t6, by omega⟩
  · simp [u__law_value, evDef, b__law_value, p__law_value_f0, p__law_value_f1, e1, e2, e3, e4, e5, e6, ed3, ed5, ed6, p1, p2, sizeLine]
  · simp only [List.mem_cons, List.mem_nil_iff, or_false] at hd6
    rcases hd6 with rfl | rfl | rfl
    · exact ends _ hd3
    · exact ho
    · exact ends _ hd5
theorem same3 (b0 b1 b2 : Bool) : opC .ne (.list [.str (w0 b0), .str (w1 b1), .str (w2 b2)]) (.list [.str (w0 b0), .str (w1 b1), .str (w2 b2)]) = some false := by
  cases b0 <;> cases b1 <;> cases b2 <;> decide +kernel
theorem turn_ok (z0 k t3 t4 t5 t6 : S) (i : Int) (a b c : Int) (ha : 0 ≤ a) (hb : 0 ≤ b) (hb2 : b < 2 ^ 150) (hc : 0 ≤ c) (hc2 : c < 2 ^ 37) :
    ∃ (a' c' : Int) (t4' t5' t6' : S), bodyF p_law (.nm 3) l_law_1 (.int i) [z0, k, .lst [.int a, .int b, .int c], t3, t4, t5, t6, .dead] =
      .ok .nx [z0, k, .lst [.int a', .int b, .int c'], .val (.int i), t4', t5', t6', .dead] ∧ 0 ≤ a' ∧ 0 ≤ c' ∧ c' ≤ c + 12 := by
  obtain ⟨x, a1, c1, e1, hx, s1, t1, u1⟩ := value_ok a b c ha hb hb2 hc (by omega)
  obtain ⟨y, a2, c2, e2, hy, s2, t2, u2⟩ := value_ok a1 b c1 s1 hb hb2 t1 (by omega)
  have p1 : powOk 10 15 = true := by decide
  have p2 : powOk 10 30 = true := by decide
  have g1 := lint_ok hx 0 (10 ^ 15)
  have g2 := lint_ok hy 0 (10 ^ 15)
  have g3 := lint_ok hx 0 (10 ^ 30)
  have g4 := lint_ok hx 1 (10 ^ 15)
  have r0 := raised0 hx hy
  have r1 := raised1 hx hy
  have r2 := raised2 hx hy
  have sm := same3 (whole 0 (10 ^ 15) x && whole 0 (10 ^ 15) y) (whole 0 (10 ^ 30) x) (whole 1 (10 ^ 15) x)
  generalize whole 0 (10 ^ 15) x = f1 at g1 r0 sm
  generalize whole 0 (10 ^ 15) y = f2 at g2 r0 sm
  generalize whole 0 (10 ^ 30) x = f3 at g3 r1 sm
  generalize whole 1 (10 ^ 15) x = f4 at g4 r2 sm
  have t := turns_ok (f := turnF p_law (.nm 7) none x_law_1) (g := fun d => match d with
      | .int 0 => some (.str (w0 (f1 && f2)))
      | .int 1 => some (.str (w1 f3))
      | _ => some (.str (w2 f4))) (ρ := [z0, k, .lst [.int a2, .int b, .int c2], .val (.int i), .lst [.str (w0 (f1 && f2)), .str (w1 f3), .str (w2 f4)], .val x, .val y, .dead]) [PyData.int 0, .int 1, .int 2] [] (by
    intro d hd
    simp only [List.mem_cons, List.mem_nil_iff, or_false] at hd
    rcases hd with rfl | rfl | rfl
    · simp [x_law_1, p_law_f5, r0]
    · simp [x_law_1, p_law_f5, r1]
    · simp [x_law_1, p_law_f5, r2]) (by decide)
  have t' : turns (turnF p_law (.nm 7) none x_law_1) (rng 0 3) [] [z0, k, .lst [.int a2, .int b, .int c2], .val (.int i), .lst [.str (w0 (f1 && f2)), .str (w1 f3), .str (w2 f4)], .val x, .val y, .dead] = .ok [.str (w0 (f1 && f2)), .str (w1 f3), .str (w2 f4)] [z0, k, .lst [.int a2, .int b, .int c2], .val (.int i), .lst [.str (w0 (f1 && f2)), .str (w1 f3), .str (w2 f4)], .val x, .val y, .dead] := t
  simp at g1 g2 g3 g4
  have ap1 : ∀ d e : PyData, opMut .append [d] [e] = some (.none, [d, e]) := fun d e => rfl
  have ap2 : ∀ d e f : PyData, opMut .append [d, e] [f] = some (.none, [d, e, f]) := fun d e f => rfl
  refine ⟨a2, c2, .lst [.str (w0 (f1 && f2)), .str (w1 f3), .str (w2 f4)], .val x, .val y, ?_, s2, t2, by omega⟩
  cases f1 <;> cases f2 <;> cases f3 <;> cases f4 <;>
    (simp [w0, w1, w2] at t' sm ⊢; simp [l_law_1, p_law_f3, p_law_f4, e1, e2, p1, p2, g1, g2, g3, g4, ap1, ap2, evE_comp, t', sm, sizeLine])
end VEL

/-! F4: the law. -/
namespace VEL
open PySem L2 PySem.Spec PyProof.Rows VE TL
theorem mul_x : opB .mul (.str (" x" : Str)) (.int 40) = some (.val (.str (repS (" x" : Str) 40))) := by
  have hs : (200000 : Nat) ≤ sizeLine := by decide
  have l1 : (" x" : Str).length = 2 := by decide +kernel
  have l2 : (repS (" x" : Str) 40).length = 80 := by decide +kernel
  show (if decide ((2 : Int) ≤ 40) && decide ((40 : Int) ≤ 1000) && decide (1 ≤ (" x" : Str).length) && decide ((" x" : Str).length ≤ 1000) && decide ((repS (" x" : Str) 40).length ≤ sizeLine) then some (S.val (.str (repS (" x" : Str) 40))) else none) = _
  rw [l1, l2, decide_eq_true (show 80 ≤ sizeLine by omega)]
  rfl
theorem round_ok (zs : List PyData) (hl : zs.length ≤ 63) (hi : ∀ d ∈ zs, ∃ i, d = .int i) (k : Nat) (hk : k < 1000) (t1 t2 t3 t4 t5 t6 : S) :
    ∃ t2' t3' t4' t5' t6', bodyF p_law (.nm 1) l_law_2 (.int k) [.val (.list zs), t1, t2, t3, t4, t5, t6, .dead] = .ok .nx [.val (.list zs), .val (.int k), t2', t3', t4', t5', t6', .dead] := by
  obtain ⟨a, b, e, h1, h2, h3⟩ := urn_ok zs k hk hl hi
  obtain ⟨v, a1, c1, e1, q1, r1, s1, u1, x1⟩ := dip_ok a b 0 4 h1 h2 h3 (by omega) (by omega) (by omega) (by omega)
  obtain ⟨d, hd, ed⟩ := atI_in (xs := [PyData.str ("" : Str), .str ("Text: 5, Aa !" : Str), .str ("no" : Str), .str (repS (" x" : Str) 40)]) q1 (by simpa using r1)
  obtain ⟨T, rfl⟩ : ∃ T, d = .str T := by
    simp only [List.mem_cons, List.mem_nil_iff, or_false] at hd
    rcases hd with rfl | rfl | rfl | rfl
    all_goals exact ⟨_, rfl⟩
  have er := errors_ok T
  obtain ⟨ρ', e2, a', c', t3', t4', t5', t6', rfl, _⟩ := loop_rng (f := bodyF p_law (.nm 3) l_law_1) (fun i ρ => ∃ (a c : Int) (t3 t4 t5 t6 : S), ρ = [.val (.list zs), .val (.int k), .lst [.int a, .int b, .int c], t3, t4, t5, t6, .dead] ∧ 0 ≤ a ∧ 0 ≤ c ∧ c ≤ 1 + 12 * i) 12 (ρ := [.val (.list zs), .val (.int k), .lst [.int a1, .int b, .int c1], t3, t4, t5, t6, .dead]) ⟨a1, c1, _, _, _, _, rfl, s1, u1, by omega⟩ (by
    rintro i ρ hi ⟨a, c, t3, t4, t5, t6, rfl, g1, g2, g3⟩
    obtain ⟨a', c', t4', t5', t6', e, q1, q2, q3⟩ := turn_ok (.val (.list zs)) (.val (.int k)) t3 t4 t5 t6 i a b c g1 h2 h3 g2 (by omega)
    exact ⟨_, .inl e, a', c', _, _, _, _, rfl, q1, q2, by omega⟩)
  refine ⟨.lst [.int a', .int b, .int c'], t3', t4', t5', t6', ?_⟩
  have e2' : loop (bodyF p_law (.nm 3) l_law_1) (rng 0 12) [.val (.list zs), .val (.int k), .lst [.int a1, .int b, .int c1], t3, t4, t5, t6, .dead] = _ := e2
  have m := mul_x
  generalize repS (" x" : Str) 40 = Y at m ed
  simp [l_law_2, p_law_f0, p_law_f1, p_law_f2, e, e1, ed, er, m, evS_for, e2', sizeLine]
theorem law_core (Φ : Fns) (ds : List PyData) (n : Nat) (t1 t2 t3 t4 t5 t6 : S)
    (hn : (if (1 : Int) < (if (ds.length : Int) + 1 < 4 then (ds.length : Int) + 1 else 4) then (if (ds.length : Int) + 1 < 4 then (ds.length : Int) + 1 else 4) else 1) = (n : Int)) (hn3 : n < 1152921504606846976)
    (e2 : loop (bodyF Φ (.nm 1) l_law_2) (rng 0 (n : Int)) [.val (.list ds), .dead, .dead, .dead, .dead, .dead, .dead, .dead] = .ok .nx [.val (.list ds), t1, t2, t3, t4, t5, t6, .dead]) (hz2 : ds.length ≤ 16777216)
    (r1 : Φ.fn 5 [.val (.int 0), .val (.int 0), .val (.int 1000000000000001)] = .ok (.val (.str ("cell" : Str))) [.val (.int 0), .val (.int 0), .val (.int 1000000000000001)])
    (r2 : Φ.fn 5 [.val (.int 1), .val (.int 1000000000000000000000000000000), .val .none] = .ok (.val (.str ("none" : Str))) [.val (.int 1), .val (.int 1000000000000000000000000000000), .val .none])
    (q : opC .eq (.list [.str ("cell" : Str), .str ("none" : Str)]) (.list [.str ("cell" : Str), .str ("none" : Str)]) = some true) :
    evDef Φ 1 7 [1, 2, 3, 5, 6, 4] b_law [.val (.list ds)] = .ok (.val (.bool true)) [.val (.list ds)] := by
  have p1 : powOk 10 15 = true := by decide
  have p2 : powOk 10 30 = true := by decide
  simp [evDef, b_law, evS_for, hn, hn3, e2, hz2, p1, p2, r1, r2, q, sizeLine]
theorem law_true : ∀ zs : List Int, zs.length ≤ 63 → ∃ ρ, s_law [.val (.list (zs.map .int))] = .ok (.val (.bool true)) ρ := by
  intro zs hz
  have hl : (zs.map PyData.int).length ≤ 63 := by simpa using hz
  have hi : ∀ d ∈ zs.map PyData.int, ∃ i, d = .int i := fun d hd => by
    obtain ⟨i, _, rfl⟩ := List.mem_map.mp hd
    exact ⟨i, rfl⟩
  generalize zs.map PyData.int = ds at hl hi
  obtain ⟨n, hn, hn2⟩ : ∃ n : Nat, (if (1 : Int) < (if (ds.length : Int) + 1 < 4 then (ds.length : Int) + 1 else 4) then (if (ds.length : Int) + 1 < 4 then (ds.length : Int) + 1 else 4) else 1) = (n : Int) ∧ n ≤ 4 := by
    by_cases h : (ds.length : Int) + 1 < 4
    · rw [if_pos h]
      by_cases h2 : (1 : Int) < (ds.length : Int) + 1
      · exact ⟨ds.length + 1, by rw [if_pos h2]; omega, by omega⟩
      · exact ⟨1, by rw [if_neg h2]; rfl, by omega⟩
    · rw [if_neg h]
      exact ⟨4, rfl, by omega⟩
  obtain ⟨ρ', e2, t1, t2, t3, t4, t5, t6, rfl⟩ := loop_rng (f := bodyF p_law (.nm 1) l_law_2) (fun i ρ => ∃ (t1 t2 t3 t4 t5 t6 : S), ρ = [.val (.list ds), t1, t2, t3, t4, t5, t6, .dead]) n (ρ := [.val (.list ds), .dead, .dead, .dead, .dead, .dead, .dead, .dead]) ⟨_, _, _, _, _, _, rfl⟩ (by
    rintro i ρ hi' ⟨t1, t2, t3, t4, t5, t6, rfl⟩
    obtain ⟨t2', t3', t4', t5', t6', e⟩ := round_ok ds hl hi i (by omega) t1 t2 t3 t4 t5 t6
    exact ⟨_, .inl e, _, _, _, _, _, _, rfl⟩)
  have hs : (200000 : Nat) ≤ sizeLine := by decide
  have r1 := raised0 (x := .int 0) (y := .int 1000000000000001) (vl_int (by decide)) (vl_int (by decide))
  have r2 := raised1 (x := .int 1000000000000000000000000000000) (y := .none) (vl_int (by decide)) vl_none
  have f1 : (whole 0 (10 ^ 15) (.int 0) && whole 0 (10 ^ 15) (.int 1000000000000001)) = false := by decide
  have f2 : whole 0 (10 ^ 30) (.int 1000000000000000000000000000000) = true := by decide
  rw [f1] at r1
  rw [f2] at r2
  refine ⟨[.val (.list ds)], ?_⟩
  rw [u_law]
  exact law_core p_law ds n t1 t2 t3 t4 t5 t6 hn (by omega) e2 (by omega) (by rw [p_law_f5]; exact r1) (by rw [p_law_f5]; exact r2) (by decide +kernel)
end VEL

namespace VEL
open PySem L2 PySem.Spec PyProof.Rows VE
theorem all_mk {l : PySem.W.OpenLaw} {w : World} {K : PySem.W.Frag} {h : Heap} {mg : Str → Option Value} {fa : Addr} (X : K.In h) (G : h.Ns mainGlobals mg) (hfa : mg "law" = some (.ref fa))
    {f0 f1 f2 f3 f4 f5 f6 f7 f8 f9 f10 f11 f12 f13 f14 f15 f16 : Addr} {od0 an0 od1 an1 od2 an2 od3 an3 od4 an4 od5 an5 od6 an6 od7 an7 od8 an8 od9 an9 od10 an10 od11 an11 od12 an12 od13 an13 od14 an14 od15 an15 od16 an16 : Option Addr} {sl0 sl1 sl2 sl3 sl4 sl5 sl6 sl7 sl8 sl9 sl10 sl11 sl12 sl13 sl14 sl15 sl16 : Array (Option Value)} {oc0 kV0 dc0 pm0 cd0 ct0 oc1 kV1 dc1 pm1 cd1 ct1 oc2 kV2 dc2 pm2 cd2 ct2 oc3 kV3 dc3 pm3 cd3 ct3 oc4 kV4 dc4 pm4 cd4 ct4 oc5 kV5 dc5 pm5 cd5 ct5 oc6 kV6 dc6 pm6 cd6 ct6 oc7 kV7 dc7 pm7 cd7 ct7 oc8 kV8 dc8 pm8 cd8 ct8 oc9 kV9 dc9 pm9 cd9 ct9 oc10 kV10 dc10 pm10 cd10 ct10 oc11 kV11 dc11 pm11 cd11 ct11 oc12 kV12 dc12 pm12 cd12 ct12 oc13 kV13 dc13 pm13 cd13 ct13 oc14 kV14 dc14 pm14 cd14 ct14 oc15 kV15 dc15 pm15 cd15 ct15 oc16 kV16 dc16 pm16 cd16 ct16 : Value}
    (a0 : PySem.W.nsIn K mainGlobals "_law_urn" = some (some (.ref f0))) (l0 : K.lookup f0 = some ⟨oc0, od0, .func (PySem.W.fnOf "_law_urn" "_law_urn" (defArgs (top 28)) (defBody (top 28)) (defScope (top 28)) .none kV0 dc0 pm0 an0 cd0 ct0), sl0⟩) (c0 : PySem.W.codeIn K cd0 "_law_urn" = true) (k0 : PySem.W.keepIn K (.ref f0) = true)
    (a1 : PySem.W.nsIn K mainGlobals "_law_kind" = some (some (.ref f1))) (l1 : K.lookup f1 = some ⟨oc1, od1, .func (PySem.W.fnOf "_law_kind" "_law_kind" (defArgs (top 31)) (defBody (top 31)) (defScope (top 31)) .none kV1 dc1 pm1 an1 cd1 ct1), sl1⟩) (c1 : PySem.W.codeIn K cd1 "_law_kind" = true) (k1 : PySem.W.keepIn K (.ref f1) = true)
    (a2 : PySem.W.nsIn K mainGlobals "_law_errors_right" = some (some (.ref f2))) (l2 : K.lookup f2 = some ⟨oc2, od2, .func (PySem.W.fnOf "_law_errors_right" "_law_errors_right" (defArgs (top 34)) (defBody (top 34)) (defScope (top 34)) .none kV2 dc2 pm2 an2 cd2 ct2), sl2⟩) (c2 : PySem.W.codeIn K cd2 "_law_errors_right" = true) (k2 : PySem.W.keepIn K (.ref f2) = true)
    (a3 : PySem.W.nsIn K mainGlobals "_law_dip" = some (some (.ref f3))) (l3 : K.lookup f3 = some ⟨oc3, od3, .func (PySem.W.fnOf "_law_dip" "_law_dip" (defArgs (top 29)) (defBody (top 29)) (defScope (top 29)) .none kV3 dc3 pm3 an3 cd3 ct3), sl3⟩) (c3 : PySem.W.codeIn K cd3 "_law_dip" = true) (k3 : PySem.W.keepIn K (.ref f3) = true)
    (a4 : PySem.W.nsIn K mainGlobals "_law_odd" = some (some (.ref f4))) (l4 : K.lookup f4 = some ⟨oc4, od4, .func (PySem.W.fnOf "_law_odd" "_law_odd" (defArgs (top 30)) (defBody (top 30)) (defScope (top 30)) .none kV4 dc4 pm4 an4 cd4 ct4), sl4⟩) (c4 : PySem.W.codeIn K cd4 "_law_odd" = true) (k4 : PySem.W.keepIn K (.ref f4) = true)
    (a5 : PySem.W.nsIn K mainGlobals "_law_value" = some (some (.ref f5))) (l5 : K.lookup f5 = some ⟨oc5, od5, .func (PySem.W.fnOf "_law_value" "_law_value" (defArgs (top 35)) (defBody (top 35)) (defScope (top 35)) .none kV5 dc5 pm5 an5 cd5 ct5), sl5⟩) (c5 : PySem.W.codeIn K cd5 "_law_value" = true) (k5 : PySem.W.keepIn K (.ref f5) = true)
    (a6 : PySem.W.nsIn K mainGlobals "_law_whole" = some (some (.ref f6))) (l6 : K.lookup f6 = some ⟨oc6, od6, .func (PySem.W.fnOf "_law_whole" "_law_whole" (defArgs (top 32)) (defBody (top 32)) (defScope (top 32)) .none kV6 dc6 pm6 an6 cd6 ct6), sl6⟩) (c6 : PySem.W.codeIn K cd6 "_law_whole" = true) (k6 : PySem.W.keepIn K (.ref f6) = true)
    (a7 : PySem.W.nsIn K mainGlobals "is_integer" = some (some (.ref f7))) (l7 : K.lookup f7 = some ⟨oc7, od7, .func (PySem.W.fnOf "is_integer" "is_integer" (defArgs (top 19)) (defBody (top 19)) (defScope (top 19)) .none kV7 dc7 pm7 an7 cd7 ct7), sl7⟩) (c7 : PySem.W.codeIn K cd7 "is_integer" = true) (k7 : PySem.W.keepIn K (.ref f7) = true)
    (a8 : PySem.W.nsIn K mainGlobals "first_name" = some (some (.ref f8))) (l8 : K.lookup f8 = some ⟨oc8, od8, .func (PySem.W.fnOf "first_name" "first_name" (defArgs (top 20)) (defBody (top 20)) (defScope (top 20)) .none kV8 dc8 pm8 an8 cd8 ct8), sl8⟩) (c8 : PySem.W.codeIn K cd8 "first_name" = true) (k8 : PySem.W.keepIn K (.ref f8) = true)
    (a9 : PySem.W.nsIn K mainGlobals "name_in" = some (some (.ref f9))) (l9 : K.lookup f9 = some ⟨oc9, od9, .func (PySem.W.fnOf "name_in" "name_in" (defArgs (top 21)) (defBody (top 21)) (defScope (top 21)) .none kV9 dc9 pm9 an9 cd9 ct9), sl9⟩) (c9 : PySem.W.codeIn K cd9 "name_in" = true) (k9 : PySem.W.keepIn K (.ref f9) = true)
    (a10 : PySem.W.nsIn K mainGlobals "name_of" = some (some (.ref f10))) (l10 : K.lookup f10 = some ⟨oc10, od10, .func (PySem.W.fnOf "name_of" "name_of" (defArgs (top 24)) (defBody (top 24)) (defScope (top 24)) .none kV10 dc10 pm10 an10 cd10 ct10), sl10⟩) (c10 : PySem.W.codeIn K cd10 "name_of" = true) (k10 : PySem.W.keepIn K (.ref f10) = true)
    (a11 : PySem.W.nsIn K mainGlobals "diagonal_of" = some (some (.ref f11))) (l11 : K.lookup f11 = some ⟨oc11, od11, .func (PySem.W.fnOf "diagonal_of" "diagonal_of" (defArgs (top 22)) (defBody (top 22)) (defScope (top 22)) .none kV11 dc11 pm11 an11 cd11 ct11), sl11⟩) (c11 : PySem.W.codeIn K cd11 "diagonal_of" = true) (k11 : PySem.W.keepIn K (.ref f11) = true)
    (a12 : PySem.W.nsIn K mainGlobals "cell_in" = some (some (.ref f12))) (l12 : K.lookup f12 = some ⟨oc12, od12, .func (PySem.W.fnOf "cell_in" "cell_in" (defArgs (top 23)) (defBody (top 23)) (defScope (top 23)) .none kV12 dc12 pm12 an12 cd12 ct12), sl12⟩) (c12 : PySem.W.codeIn K cd12 "cell_in" = true) (k12 : PySem.W.keepIn K (.ref f12) = true)
    (a13 : PySem.W.nsIn K mainGlobals "cell_of" = some (some (.ref f13))) (l13 : K.lookup f13 = some ⟨oc13, od13, .func (PySem.W.fnOf "cell_of" "cell_of" (defArgs (top 25)) (defBody (top 25)) (defScope (top 25)) .none kV13 dc13 pm13 an13 cd13 ct13), sl13⟩) (c13 : PySem.W.codeIn K cd13 "cell_of" = true) (k13 : PySem.W.keepIn K (.ref f13) = true)
    (a14 : PySem.W.nsIn K mainGlobals "most_names" = some (some (.ref f14))) (l14 : K.lookup f14 = some ⟨oc14, od14, .func (PySem.W.fnOf "most_names" "most_names" (defArgs (top 26)) (defBody (top 26)) (defScope (top 26)) .none kV14 dc14 pm14 an14 cd14 ct14), sl14⟩) (c14 : PySem.W.codeIn K cd14 "most_names" = true) (k14 : PySem.W.keepIn K (.ref f14) = true)
    (a15 : PySem.W.nsIn K mainGlobals "_law_raised" = some (some (.ref f15))) (l15 : K.lookup f15 = some ⟨oc15, od15, .func (PySem.W.fnOf "_law_raised" "_law_raised" (defArgs (top 33)) (defBody (top 33)) (defScope (top 33)) .none kV15 dc15 pm15 an15 cd15 ct15), sl15⟩) (c15 : PySem.W.codeIn K cd15 "_law_raised" = true) (k15 : PySem.W.keepIn K (.ref f15) = true)
    (a16 : PySem.W.nsIn K mainGlobals "law" = some (some (.ref f16))) (l16 : K.lookup f16 = some ⟨oc16, od16, .func (PySem.W.fnOf "law" "law" (defArgs (top 36)) (defBody (top 36)) (defScope (top 36)) .none kV16 dc16 pm16 an16 cd16 ct16), sl16⟩) (c16 : PySem.W.codeIn K cd16 "law" = true) (k16 : PySem.W.keepIn K (.ref f16) = true)
    {hX0 : Addr} (xC0 : PySem.W.nsIn K mainGlobals "SplitError" = some (some (.ref hX0))) (xB0 : xclsB K 0 hX0 = true)
    {hX1 : Addr} (xC1 : PySem.W.nsIn K mainGlobals "InvalidCount" = some (some (.ref hX1))) (xB1 : xclsB K 1 hX1 = true)
    {hX2 : Addr} (xC2 : PySem.W.nsIn K mainGlobals "InvalidSchedule" = some (some (.ref hX2))) (xB2 : xclsB K 2 hX2 = true)
    {hX3 : Addr} (xC3 : PySem.W.nsIn K mainGlobals "InvalidOutcome" = some (some (.ref hX3))) (xB3 : xclsB K 3 hX3 = true)
    {hX4 : Addr} (xC4 : PySem.W.nsIn K mainGlobals "InvalidCell" = some (some (.ref hX4))) (xB4 : xclsB K 4 hX4 = true)
    {hX5 : Addr} (xC5 : PySem.W.nsIn K mainGlobals "InvalidName" = some (some (.ref hX5))) (xB5 : xclsB K 5 hX5 = true)
    {hX6 : Addr} (xC6 : PySem.W.nsIn K mainGlobals "InvalidNames" = some (some (.ref hX6))) (xB6 : xclsB K 6 hX6 = true)
    {hX7 : Addr} (xC7 : PySem.W.nsIn K mainGlobals "InvalidNumber" = some (some (.ref hX7))) (xB7 : xclsB K 7 hX7 = true)
    {hX8 : Addr} (xC8 : PySem.W.nsIn K mainGlobals "InvalidProcess" = some (some (.ref hX8))) (xB8 : xclsB K 8 hX8 = true)
    {hX9 : Addr} (xC9 : PySem.W.nsIn K mainGlobals "InvalidText" = some (some (.ref hX9))) (xB9 : xclsB K 9 hX9 = true)
    {hX10 : Addr} (xC10 : PySem.W.nsIn K mainGlobals "InvalidCommand" = some (some (.ref hX10))) (xB10 : xclsB K 10 hX10 = true)
    {hX11 : Addr} (xC11 : PySem.W.nsIn K mainGlobals "NoRun" = some (some (.ref hX11))) (xB11 : xclsB K 11 hX11 = true)
    {hX12 : Addr} (xC12 : PySem.W.nsIn K mainGlobals "NothingToUndo" = some (some (.ref hX12))) (xB12 : xclsB K 12 hX12 = true)
    {hX13 : Addr} (xC13 : PySem.W.nsIn K mainGlobals "Impossible" = some (some (.ref hX13))) (xB13 : xclsB K 13 hX13 = true)
    {hX14 : Addr} (xC14 : PySem.W.nsIn K mainGlobals "TooLarge" = some (some (.ref hX14))) (xB14 : xclsB K 14 hX14 = true)
    (xP : xpairB K [(0, hX0), (1, hX1), (2, hX2), (3, hX3), (4, hX4), (5, hX5), (6, hX6), (7, hX7), (8, hX8), (9, hX9), (10, hX10), (11, hX11), (12, hX12), (13, hX13), (14, hX14)] = true)
    {eN13 eI13 eCC13 eCD13 : Addr} {em13 eq13 : Str} {ebs13 ebm13 esu13 : List Value} {esn13 : List Str} {eab13 : Bool} {eco13 : Option Bool} {edd13 : Option Addr} {ek013 ek113 ek213 ek313 ek513 : Option Value}
    {eoc13 ecl13 eccl13 ekV13 edc13 epm13 ect13 : Value} {eod13 ecld13 ecdd13 ean13 : Option Addr} {eosl13 ecsl13 eccs13 : Array (Option Value)} {evs13 : Array Value} {efile13 : Str} {etf13 : Tok}
    (oX13 : K.lookup hX13 = some (excClassObj em13 eq13 hX13 eN13 ebs13 ebm13 true esn13 esu13 eab13 eco13 edd13 ek013 ek113 ek213 ek313 ek513 "ValueError.__new__")) (rX13 : HandSPX.refsVE ebm13 = true)
    (sX13 : PySem.W.findIn K (.ref hX13) "__setattr__" = some (some (.builtin "object.__setattr__"))) (iX13 : PySem.W.findIn K (.ref hX13) "__init__" = some (some (.ref eI13))) (tX13 : PySem.W.typeIn K (.ref eI13) = some (.type "function"))
    (mX13 : PySem.W.mroIn K hX13 (.ref hX13) = some true) (vX13 : PySem.W.subIn K (.ref hX13) (.type "ValueError") = some true) (nX13 : PySem.W.ks_superIn K hX13 hX13 "__init__" = some (some (.builtin "ValueError.__init__")))
    (lX13 : K.lookup eI13 = some ⟨eoc13, eod13, .func (PySem.W.ksFn "__init__" "Impossible.__init__" (defArgs (inClass (top 14) 0)) (defBody (inClass (top 14) 0)) (defScope (inClass (top 14) 0)) .none ekV13 edc13 epm13 ean13 (.ref eCD13) ect13 eCC13), eosl13⟩) (cX13 : PySem.W.codeIn K (.ref eCD13) "Impossible.__init__" = true)
    (dX13 : K.lookup eCD13 = some ⟨eccl13, ecdd13, .fields evs13, eccs13⟩) (gX13 : evs13[2]? = some (.str efile13 etf13)) (uX13 : ((l.prog.main.file : Str) == efile13) = true) (qX13 : K.lookup eCC13 = some ⟨ecl13, ecld13, .cell (some (.ref hX13)), ecsl13⟩) (tT13 : XTxt (fldX 13) (inClass (top 14) 0))
    {eN14 eI14 eCC14 eCD14 : Addr} {em14 eq14 : Str} {ebs14 ebm14 esu14 : List Value} {esn14 : List Str} {eab14 : Bool} {eco14 : Option Bool} {edd14 : Option Addr} {ek014 ek114 ek214 ek314 ek514 : Option Value}
    {eoc14 ecl14 eccl14 ekV14 edc14 epm14 ect14 : Value} {eod14 ecld14 ecdd14 ean14 : Option Addr} {eosl14 ecsl14 eccs14 : Array (Option Value)} {evs14 : Array Value} {efile14 : Str} {etf14 : Tok}
    (oX14 : K.lookup hX14 = some (excClassObj em14 eq14 hX14 eN14 ebs14 ebm14 true esn14 esu14 eab14 eco14 edd14 ek014 ek114 ek214 ek314 ek514 "ValueError.__new__")) (rX14 : HandSPX.refsVE ebm14 = true)
    (sX14 : PySem.W.findIn K (.ref hX14) "__setattr__" = some (some (.builtin "object.__setattr__"))) (iX14 : PySem.W.findIn K (.ref hX14) "__init__" = some (some (.ref eI14))) (tX14 : PySem.W.typeIn K (.ref eI14) = some (.type "function"))
    (mX14 : PySem.W.mroIn K hX14 (.ref hX14) = some true) (vX14 : PySem.W.subIn K (.ref hX14) (.type "ValueError") = some true) (nX14 : PySem.W.ks_superIn K hX14 hX14 "__init__" = some (some (.builtin "ValueError.__init__")))
    (lX14 : K.lookup eI14 = some ⟨eoc14, eod14, .func (PySem.W.ksFn "__init__" "TooLarge.__init__" (defArgs (inClass (top 15) 0)) (defBody (inClass (top 15) 0)) (defScope (inClass (top 15) 0)) .none ekV14 edc14 epm14 ean14 (.ref eCD14) ect14 eCC14), eosl14⟩) (cX14 : PySem.W.codeIn K (.ref eCD14) "TooLarge.__init__" = true)
    (dX14 : K.lookup eCD14 = some ⟨eccl14, ecdd14, .fields evs14, eccs14⟩) (gX14 : evs14[2]? = some (.str efile14 etf14)) (uX14 : ((l.prog.main.file : Str) == efile14) = true) (qX14 : K.lookup eCC14 = some ⟨ecl14, ecld14, .cell (some (.ref hX14)), ecsl14⟩) (tT14 : XTxt (fldX 14) (inClass (top 15) 0))
    (z_super : PySem.W.nsIn K mainGlobals "super" = some none) (z_opq : PySem.W.nsIn K cStatics "thirdparty.any" = some none) (z_top : (l.prog.main.scope.names.lookup ("super" : Str)).isSome = false)
    (z_ValueError : PySem.W.nsIn K mainGlobals "ValueError" = some none)
    (z_len : PySem.W.nsIn K mainGlobals "len" = some none)
    (z_repr : PySem.W.nsIn K mainGlobals "repr" = some none)
    (z_min : PySem.W.nsIn K mainGlobals "min" = some none)
    (z_max : PySem.W.nsIn K mainGlobals "max" = some none)
    (z_list : PySem.W.nsIn K mainGlobals "list" = some none)
    (z_isinstance : PySem.W.nsIn K mainGlobals "isinstance" = some none)
    (z_int : PySem.W.nsIn K mainGlobals "int" = some none)
    (z_tuple : PySem.W.nsIn K mainGlobals "tuple" = some none)
    (z_range : PySem.W.nsIn K mainGlobals "range" = some none)
    (z_enumerate : PySem.W.nsIn K mainGlobals "enumerate" = some none)
    (z_sum : PySem.W.nsIn K mainGlobals "sum" = some none)
    (z_all : PySem.W.nsIn K mainGlobals "all" = some none)
    (z_any : PySem.W.nsIn K mainGlobals "any" = some none)
    (z_str : PySem.W.nsIn K mainGlobals "str" = some none)
    (z_bool : PySem.W.nsIn K mainGlobals "bool" = some none)
    (z_sorted : PySem.W.nsIn K mainGlobals "sorted" = some none)
    (z_set : PySem.W.nsIn K mainGlobals "set" = some none)
    (z_dict : PySem.W.nsIn K mainGlobals "dict" = some none)
    (z_zip : PySem.W.nsIn K mainGlobals "zip" = some none)
    {tok_FARTHEST : Nat} (g_FARTHEST' : PySem.W.nsIn K mainGlobals "FARTHEST" = some (some (.int 1000000000000000 tok_FARTHEST)))
    {tok_GREATEST_NAME : Nat} (g_GREATEST_NAME' : PySem.W.nsIn K mainGlobals "GREATEST_NAME" = some (some (.int 1000000000000000000000000000000 tok_GREATEST_NAME)))
    : ∃ fd : FuncData, (∀ (s : Shared) (v : Value), BindsTo s fd ⟨[v], []⟩ [("script", v)]) ∧ ∀ base : Heap, K.In base → base.Ns mainGlobals mg → FnG l.prog w K mg base (L2N.CX l.prog w) 6 fa fd ["script"] (spOf K (xrK K) 1 s_law) := by
  have e := hfa.symm.trans (PySem.W.mg_of X G a16)
  cases e
  have hb : ∀ x ∈ bltNames, mg (Str.ofString x) = none := by
    intro x hx
    simp only [bltNames, List.mem_cons, List.mem_nil_iff, or_false] at hx
    rcases hx with rfl | rfl | rfl | rfl | rfl | rfl | rfl | rfl | rfl | rfl | rfl | rfl | rfl | rfl | rfl | rfl | rfl | rfl | rfl
    · exact PySem.W.mg_none_of X G z_len
    · exact PySem.W.mg_none_of X G z_repr
    · exact PySem.W.mg_none_of X G z_min
    · exact PySem.W.mg_none_of X G z_max
    · exact PySem.W.mg_none_of X G z_list
    · exact PySem.W.mg_none_of X G z_isinstance
    · exact PySem.W.mg_none_of X G z_int
    · exact PySem.W.mg_none_of X G z_tuple
    · exact PySem.W.mg_none_of X G z_range
    · exact PySem.W.mg_none_of X G z_enumerate
    · exact PySem.W.mg_none_of X G z_sum
    · exact PySem.W.mg_none_of X G z_all
    · exact PySem.W.mg_none_of X G z_any
    · exact PySem.W.mg_none_of X G z_str
    · exact PySem.W.mg_none_of X G z_bool
    · exact PySem.W.mg_none_of X G z_sorted
    · exact PySem.W.mg_none_of X G z_set
    · exact PySem.W.mg_none_of X G z_dict
    · exact PySem.W.mg_none_of X G z_zip
  have hv : mg (Str.ofString "ValueError") = none := PySem.W.mg_none_of X G z_ValueError
  have hX : XOk K mg XC := xok_of [(0, hX0), (1, hX1), (2, hX2), (3, hX3), (4, hX4), (5, hX5), (6, hX6), (7, hX7), (8, hX8), (9, hX9), (10, hX10), (11, hX11), (12, hX12), (13, hX13), (14, hX14)] (fun p hp => by
    simp only [List.mem_cons, List.mem_nil_iff, or_false] at hp
    rcases hp with rfl | rfl | rfl | rfl | rfl | rfl | rfl | rfl | rfl | rfl | rfl | rfl | rfl | rfl | rfl
    · exact xcls_of xC0 (PySem.W.mg_of X G xC0) xB0
    · exact xcls_of xC1 (PySem.W.mg_of X G xC1) xB1
    · exact xcls_of xC2 (PySem.W.mg_of X G xC2) xB2
    · exact xcls_of xC3 (PySem.W.mg_of X G xC3) xB3
    · exact xcls_of xC4 (PySem.W.mg_of X G xC4) xB4
    · exact xcls_of xC5 (PySem.W.mg_of X G xC5) xB5
    · exact xcls_of xC6 (PySem.W.mg_of X G xC6) xB6
    · exact xcls_of xC7 (PySem.W.mg_of X G xC7) xB7
    · exact xcls_of xC8 (PySem.W.mg_of X G xC8) xB8
    · exact xcls_of xC9 (PySem.W.mg_of X G xC9) xB9
    · exact xcls_of xC10 (PySem.W.mg_of X G xC10) xB10
    · exact xcls_of xC11 (PySem.W.mg_of X G xC11) xB11
    · exact xcls_of xC12 (PySem.W.mg_of X G xC12) xB12
    · exact xcls_of xC13 (PySem.W.mg_of X G xC13) xB13
    · exact xcls_of xC14 (PySem.W.mg_of X G xC14) xB14
    ) xP
  have bX13 := xcls_of (mg := mg) (c := 13) xC13 (PySem.W.mg_of X G xC13) xB13
  have eX13 : XiC l.prog K mg 13 := ⟨hX13, eI13, _, _, xC13, ⟨⟨⟨_, _, _, _, _, _, _, _, _, _, _, _, _, _, _, oX13, rX13⟩, sX13, bX13.be, bX13.ty, bX13.kp⟩, iX13, tX13, bX13.fno.resolve_right (by decide), mX13, vX13, PySem.W.mg_none_of X G z_super, z_opq, nX13, z_top, ⟨eCC13, eCD13, _, _, _, _, _, _, _, _, _, _, _, _, _, _, _, _, _, _, rfl, lX13, cX13, dX13, gX13, uX13, qX13⟩⟩, tT13, Binds.all fun us hl => match us, hl with | [_, _], _ => rfl⟩
  have bX14 := xcls_of (mg := mg) (c := 14) xC14 (PySem.W.mg_of X G xC14) xB14
  have eX14 : XiC l.prog K mg 14 := ⟨hX14, eI14, _, _, xC14, ⟨⟨⟨_, _, _, _, _, _, _, _, _, _, _, _, _, _, _, oX14, rX14⟩, sX14, bX14.be, bX14.ty, bX14.kp⟩, iX14, tX14, bX14.fno.resolve_right (by decide), mX14, vX14, PySem.W.mg_none_of X G z_super, z_opq, nX14, z_top, ⟨eCC14, eCD14, _, _, _, _, _, _, _, _, _, _, _, _, _, _, _, _, _, _, rfl, lX14, cX14, dX14, gX14, uX14, qX14⟩⟩, tT14, Binds.all fun us hl => match us, hl with | [_, _], _ => rfl⟩
  have F0 := fun_mk (st := (top 28)) l0 c0 k0
  have b0 := F0.binds (ps := ["script", "k"]) fun _ _ _ _ _ _ us hl => match us, hl with | [_, _], _ => rfl
  have F1 := fun_mk (st := (top 31)) l1 c1 k1
  have b1 := F1.binds (ps := ["caught"]) fun _ _ _ _ _ _ us hl => match us, hl with | [_], _ => rfl
  have F2 := fun_mk (st := (top 34)) l2 c2 k2
  have b2 := F2.binds (ps := ["text"]) fun _ _ _ _ _ _ us hl => match us, hl with | [_], _ => rfl
  have F3 := fun_mk (st := (top 29)) l3 c3 k3
  have b3 := F3.binds (ps := ["urn", "size"]) fun _ _ _ _ _ _ us hl => match us, hl with | [_, _], _ => rfl
  have F4 := fun_mk (st := (top 30)) l4 c4 k4
  have b4 := F4.binds (ps := ["urn"]) fun _ _ _ _ _ _ us hl => match us, hl with | [_], _ => rfl
  have F5 := fun_mk (st := (top 35)) l5 c5 k5
  have b5 := F5.binds (ps := ["urn"]) fun _ _ _ _ _ _ us hl => match us, hl with | [_], _ => rfl
  have F6 := fun_mk (st := (top 32)) l6 c6 k6
  have b6 := F6.binds (ps := ["value", "least", "most"]) fun _ _ _ _ _ _ us hl => match us, hl with | [_, _, _], _ => rfl
  have F7 := fun_mk (st := (top 19)) l7 c7 k7
  have b7 := F7.binds (ps := ["value", "least", "most"]) fun _ _ _ _ _ _ us hl => match us, hl with | [_, _, _], _ => rfl
  have F8 := fun_mk (st := (top 20)) l8 c8 k8
  have b8 := F8.binds (ps := ["diagonal"]) fun _ _ _ _ _ _ us hl => match us, hl with | [_], _ => rfl
  have F9 := fun_mk (st := (top 21)) l9 c9 k9
  have b9 := F9.binds (ps := ["right", "down"]) fun _ _ _ _ _ _ us hl => match us, hl with | [_, _], _ => rfl
  have F10 := fun_mk (st := (top 24)) l10 c10 k10
  have b10 := F10.binds (ps := ["right", "down"]) fun _ _ _ _ _ _ us hl => match us, hl with | [_, _], _ => rfl
  have F11 := fun_mk (st := (top 22)) l11 c11 k11
  have b11 := F11.binds (ps := ["name"]) fun _ _ _ _ _ _ us hl => match us, hl with | [_], _ => rfl
  have F12 := fun_mk (st := (top 23)) l12 c12 k12
  have b12 := F12.binds (ps := ["name"]) fun _ _ _ _ _ _ us hl => match us, hl with | [_], _ => rfl
  have F13 := fun_mk (st := (top 25)) l13 c13 k13
  have b13 := F13.binds (ps := ["name"]) fun _ _ _ _ _ _ us hl => match us, hl with | [_], _ => rfl
  have F14 := fun_mk (st := (top 26)) l14 c14 k14
  have b14 := F14.binds (ps := ["count"]) fun _ _ _ _ _ _ us hl => match us, hl with | [_], _ => rfl
  have F15 := fun_mk (st := (top 33)) l15 c15 k15
  have b15 := F15.binds (ps := ["door", "one", "other"]) fun _ _ _ _ _ _ us hl => match us, hl with | [_, _, _], _ => rfl
  have F16 := fun_mk (st := (top 36)) l16 c16 k16
  have b16 := F16.binds (ps := ["script"]) fun _ _ _ _ _ _ us hl => match us, hl with | [_], _ => rfl
  refine ⟨PySem.W.fnOf "law" "law" (defArgs (top 36)) (defBody (top 36)) (defScope (top 36)) .none kV16 dc16 pm16 an16 cd16 ct16, fun s v => .of_eq rfl, fun base _ _ => ?_⟩
  have G0 : Dok l.prog w K mg base (xrK K) "_law_urn" 2 1 s__law_urn := d__law_urn F0 (PySem.W.mg_of X G a0) b0 hb hv hX
  have H1 : Hdk l.prog w K mg base (xrK K) "_law_kind" 1 1 s__law_kind := hd__law_kind F1 (PySem.W.mg_of X G a1) b1 hb hv hX
  have G1 : Dok l.prog w K mg base (xrK K) "_law_kind" 1 1 s__law_kind := d__law_kind F1 (PySem.W.mg_of X G a1) b1 hb hv hX
  have G2 : Dok l.prog w K mg base (xrK K) "_law_errors_right" 1 3 s__law_errors_right := d__law_errors_right F2 (PySem.W.mg_of X G a2) b2 hb hv hX G1 eX13 eX14
  have G3 : Dok l.prog w K mg base (xrK K) "_law_dip" 2 1 s__law_dip := d__law_dip F3 (PySem.W.mg_of X G a3) b3 hb hv hX
  have G4 : Dok l.prog w K mg base (xrK K) "_law_odd" 1 2 s__law_odd := d__law_odd F4 (PySem.W.mg_of X G a4) b4 hb hv hX G3
  have G5 : Dok l.prog w K mg base (xrK K) "_law_value" 1 3 s__law_value := d__law_value F5 (PySem.W.mg_of X G a5) b5 hb hv hX G3 G4
  have G6 : Dok l.prog w K mg base (xrK K) "_law_whole" 3 1 s__law_whole := d__law_whole F6 (PySem.W.mg_of X G a6) b6 hb hv hX
  have G7 : Dok l.prog w K mg base (xrK K) "is_integer" 3 1 s_is_integer := d_is_integer F7 (PySem.W.mg_of X G a7) b7 hb hv hX
  have G8 : Dok l.prog w K mg base (xrK K) "first_name" 1 1 s_first_name := d_first_name F8 (PySem.W.mg_of X G a8) b8 hb hv hX
  have G9 : Dok l.prog w K mg base (xrK K) "name_in" 2 2 s_name_in := d_name_in F9 (PySem.W.mg_of X G a9) b9 hb hv hX G8
  have G10 : Dok l.prog w K mg base (xrK K) "name_of" 2 3 s_name_of := d_name_of F10 (PySem.W.mg_of X G a10) b10 hb hv hX G7 G9 (PySem.W.mg_of X G g_FARTHEST')
  have G11 : Dok l.prog w K mg base (xrK K) "diagonal_of" 1 2 s_diagonal_of := d_diagonal_of F11 (PySem.W.mg_of X G a11) b11 hb hv hX G8
  have G12 : Dok l.prog w K mg base (xrK K) "cell_in" 1 3 s_cell_in := d_cell_in F12 (PySem.W.mg_of X G a12) b12 hb hv hX G11 G8
  have G13 : Dok l.prog w K mg base (xrK K) "cell_of" 1 4 s_cell_of := d_cell_of F13 (PySem.W.mg_of X G a13) b13 hb hv hX G7 G12 (PySem.W.mg_of X G g_GREATEST_NAME')
  have G14 : Dok l.prog w K mg base (xrK K) "most_names" 1 2 s_most_names := d_most_names F14 (PySem.W.mg_of X G a14) b14 hb hv hX G7 G8 (PySem.W.mg_of X G g_FARTHEST')
  have G15 : Dok l.prog w K mg base (xrK K) "_law_raised" 3 5 s__law_raised := d__law_raised F15 (PySem.W.mg_of X G a15) b15 hb hv hX G10 G13 G14 H1
  exact d_law F16 hb hv hX G0 G2 G3 G5 G6 G15

end VEL
open PySem PySem.W PyProof.Rows in
set_option maxRecDepth 100000 in
set_option maxHeartbeats 0 in
theorem PySem.Challenge.cw_splitnames_k11_errors_of_the_grid_holds : PySem.Challenge.rw_splitnames_k11_errors_of_the_grid.Holds := by
  w_on; o_law; k_head; (case hw => w_witness2)
  k_fill
  refine VE.walkG (l := PySem.Challenge.rw_splitnames_k11_errors_of_the_grid) (n := 63) (k := 6) (x := "script") (sem := VEL.s_law) rfl (by decide) rfl ⟨rfl, by decide, by decide⟩ (fun w h Y => PySem.W.kIn_of Y) VEL.law_true ?F
  case F =>
    intro w mg fa h KX G hmg
    refine' VEL.all_mk KX G hmg ?a0 ?l0 ?c0 ?k0 ?a1 ?l1 ?c1 ?k1 ?a2 ?l2 ?c2 ?k2 ?a3 ?l3 ?c3 ?k3 ?a4 ?l4 ?c4 ?k4 ?a5 ?l5 ?c5 ?k5 ?a6 ?l6 ?c6 ?k6 ?a7 ?l7 ?c7 ?k7 ?a8 ?l8 ?c8 ?k8 ?a9 ?l9 ?c9 ?k9 ?a10 ?l10 ?c10 ?k10 ?a11 ?l11 ?c11 ?k11 ?a12 ?l12 ?c12 ?k12 ?a13 ?l13 ?c13 ?k13 ?a14 ?l14 ?c14 ?k14 ?a15 ?l15 ?c15 ?k15 ?a16 ?l16 ?c16 ?k16 ?xC0 ?xB0 ?xC1 ?xB1 ?xC2 ?xB2 ?xC3 ?xB3 ?xC4 ?xB4 ?xC5 ?xB5 ?xC6 ?xB6 ?xC7 ?xB7 ?xC8 ?xB8 ?xC9 ?xB9 ?xC10 ?xB10 ?xC11 ?xB11 ?xC12 ?xB12 ?xC13 ?xB13 ?xC14 ?xB14 ?xP ?oX13 ?rX13 ?sX13 ?iX13 ?tX13 ?mX13 ?vX13 ?nX13 ?lX13 ?cX13 ?dX13 ?gX13 ?uX13 ?qX13 ?tT13 ?oX14 ?rX14 ?sX14 ?iX14 ?tX14 ?mX14 ?vX14 ?nX14 ?lX14 ?cX14 ?dX14 ?gX14 ?uX14 ?qX14 ?tT14 ?z_super ?z_opq ?z_top ?z_ValueError ?z_len ?z_repr ?z_min ?z_max ?z_list ?z_isinstance ?z_int ?z_tuple ?z_range ?z_enumerate ?z_sum ?z_all ?z_any ?z_str ?z_bool ?z_sorted ?z_set ?z_dict ?z_zip ?g_FARTHEST' ?g_GREATEST_NAME'
    (case a0 => k_is)
    (case l0 => k_is)
    (case c0 => k_is)
    (case k0 => k_is)
    (case a1 => k_is)
    (case l1 => k_is)
    (case c1 => k_is)
    (case k1 => k_is)
    (case a2 => k_is)
    (case l2 => k_is)
    (case c2 => k_is)
    (case k2 => k_is)
    (case a3 => k_is)
    (case l3 => k_is)
    (case c3 => k_is)
    (case k3 => k_is)
    (case a4 => k_is)
    (case l4 => k_is)
    (case c4 => k_is)
    (case k4 => k_is)
    (case a5 => k_is)
    (case l5 => k_is)
    (case c5 => k_is)
    (case k5 => k_is)
    (case a6 => k_is)
    (case l6 => k_is)
    (case c6 => k_is)
    (case k6 => k_is)
    (case a7 => k_is)
    (case l7 => k_is)
    (case c7 => k_is)
    (case k7 => k_is)
    (case a8 => k_is)
    (case l8 => k_is)
    (case c8 => k_is)
    (case k8 => k_is)
    (case a9 => k_is)
    (case l9 => k_is)
    (case c9 => k_is)
    (case k9 => k_is)
    (case a10 => k_is)
    (case l10 => k_is)
    (case c10 => k_is)
    (case k10 => k_is)
    (case a11 => k_is)
    (case l11 => k_is)
    (case c11 => k_is)
    (case k11 => k_is)
    (case a12 => k_is)
    (case l12 => k_is)
    (case c12 => k_is)
    (case k12 => k_is)
    (case a13 => k_is)
    (case l13 => k_is)
    (case c13 => k_is)
    (case k13 => k_is)
    (case a14 => k_is)
    (case l14 => k_is)
    (case c14 => k_is)
    (case k14 => k_is)
    (case a15 => k_is)
    (case l15 => k_is)
    (case c15 => k_is)
    (case k15 => k_is)
    (case a16 => k_is)
    (case l16 => k_is)
    (case c16 => k_is)
    (case k16 => k_is)
    (case xC0 => k_is)
    (case xB0 => kernel_rfl)
    (case xC1 => k_is)
    (case xB1 => kernel_rfl)
    (case xC2 => k_is)
    (case xB2 => kernel_rfl)
    (case xC3 => k_is)
    (case xB3 => kernel_rfl)
    (case xC4 => k_is)
    (case xB4 => kernel_rfl)
    (case xC5 => k_is)
    (case xB5 => kernel_rfl)
    (case xC6 => k_is)
    (case xB6 => kernel_rfl)
    (case xC7 => k_is)
    (case xB7 => kernel_rfl)
    (case xC8 => k_is)
    (case xB8 => kernel_rfl)
    (case xC9 => k_is)
    (case xB9 => kernel_rfl)
    (case xC10 => k_is)
    (case xB10 => kernel_rfl)
    (case xC11 => k_is)
    (case xB11 => kernel_rfl)
    (case xC12 => k_is)
    (case xB12 => kernel_rfl)
    (case xC13 => k_is)
    (case xB13 => kernel_rfl)
    (case xC14 => k_is)
    (case xB14 => kernel_rfl)
    (case xP => kernel_rfl)
    (case oX13 => k_is)
    (case rX13 => decide +kernel)
    (case sX13 => k_is)
    (case iX13 => k_is)
    (case tX13 => k_is)
    (case mX13 => k_is)
    (case vX13 => k_is)
    (case nX13 => ks_is)
    (case lX13 => k_is)
    (case cX13 => k_is)
    (case dX13 => k_is)
    (case gX13 => rfl)
    (case uX13 => decide +kernel)
    (case qX13 => k_is)
    (case tT13 => exact ⟨⟨_, _, _, _, _, _, _, _, _, _, _, _, _, _, _, 0, rfl, by decide, fun env => ⟨_, rfl⟩⟩, NdefX.nscope_by (by decide +kernel), by decide +kernel, by decide +kernel, by decide +kernel⟩)
    (case oX14 => k_is)
    (case rX14 => decide +kernel)
    (case sX14 => k_is)
    (case iX14 => k_is)
    (case tX14 => k_is)
    (case mX14 => k_is)
    (case vX14 => k_is)
    (case nX14 => ks_is)
    (case lX14 => k_is)
    (case cX14 => k_is)
    (case dX14 => k_is)
    (case gX14 => rfl)
    (case uX14 => decide +kernel)
    (case qX14 => k_is)
    (case tT14 => exact ⟨⟨_, _, _, _, _, _, _, _, _, _, _, _, _, _, _, 0, rfl, by decide, fun env => ⟨_, rfl⟩⟩, NdefX.nscope_by (by decide +kernel), by decide +kernel, by decide +kernel, by decide +kernel⟩)
    (case z_super => k_is)
    (case z_opq => k_is)
    (case z_top => decide +kernel)
    (case z_ValueError => k_is)
    (case z_len => k_is)
    (case z_repr => k_is)
    (case z_min => k_is)
    (case z_max => k_is)
    (case z_list => k_is)
    (case z_isinstance => k_is)
    (case z_int => k_is)
    (case z_tuple => k_is)
    (case z_range => k_is)
    (case z_enumerate => k_is)
    (case z_sum => k_is)
    (case z_all => k_is)
    (case z_any => k_is)
    (case z_str => k_is)
    (case z_bool => k_is)
    (case z_sorted => k_is)
    (case z_set => k_is)
    (case z_dict => k_is)
    (case z_zip => k_is)
    (case g_FARTHEST' => k_is)
    (case g_GREATEST_NAME' => k_is)
#print axioms PySem.Challenge.cw_splitnames_k11_errors_of_the_grid_holds
