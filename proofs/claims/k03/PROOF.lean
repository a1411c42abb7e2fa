import PyProof.Rows.All
import Wide.All
import OpenK.AllK
import Wide.FinOn
import HandS.ForMost
import HandS.ForExc
import HandS.Wide
import HandS.Deep
import HandS.Text
import HandS.Dict
import HandS.SetFor
import HandS.Style
import HandS.SortInts
import HandS.Conv
import HandS.Zip
import HandS.IsInst
import HandS.RaiseMore
import HandS.Iter
import PyProof.RulesMatch
import PySem.Challenge.RW_splitnames_k03_schedules_with_an_outcome
set_option Elab.async false
set_option linter.all false
set_option maxRecDepth 100000
set_option maxHeartbeats 4000000
/-! VE: an evaluator over plain data (value semantics: a list or dict that a name alone holds is owned; what is shared is data). -/
namespace VE
open PySem L2

/-- what a name holds -/
inductive S where
  | val (d : PyData)
  | lst (xs : List PyData)
  | dct (kvs : List (PyData × PyData))
  | dead
/-- how a computation ends: stuck, a value and the names, an exception of the class c (with one kept value) and the names -/
inductive R (α : Type) where
  | stk
  | ok (a : α) (ρ : List S)
  | exc (c : Nat) (d : Option PyData) (ρ : List S)
def R.bnd {α β : Type} (r : R α) (f : α → List S → R β) : R β := match r with
  | .stk => .stk
  | .ok a ρ => f a ρ
  | .exc c d ρ => .exc c d ρ
@[simp] theorem R.bnd_ok {α β : Type} (a : α) (ρ : List S) (f : α → List S → R β) : (R.ok a ρ).bnd f = f a ρ := rfl
@[simp] theorem R.bnd_stk {α β : Type} (f : α → List S → R β) : (R.stk : R α).bnd f = .stk := rfl
@[simp] theorem R.bnd_exc {α β : Type} (c : Nat) (d : Option PyData) (ρ : List S) (f : α → List S → R β) : (R.exc c d ρ : R α).bnd f = .exc c d ρ := rfl
def ofO {α : Type} (o : Option α) (ρ : List S) : R α := match o with
  | some a => .ok a ρ
  | none => .stk
@[simp] theorem ofO_some {α : Type} (a : α) (ρ : List S) : ofO (some a) ρ = .ok a ρ := rfl
@[simp] theorem ofO_none {α : Type} (ρ : List S) : ofO (none : Option α) ρ = .stk := rfl

/-- the data that a name holds -/
def view : S → Option PyData
  | .val d => some d
  | .lst xs => some (.list xs)
  | .dct kvs => some (.dict kvs)
  | .dead => none

/-! ### operations on data -/
inductive Bop where
  | add | sub | mul | fdiv | mod | pow
  deriving DecidableEq
inductive Cop where
  | eq | ne | lt | le | gt | ge | is | isnot | mem | notmem
  deriving DecidableEq

def mulOk (a b : Int) : Bool := (decide (a.natAbs < 2 ^ 64) || decide (b.natAbs < 2 ^ 64)) || decide (a.natAbs.log2 + b.natAbs.log2 < 1000000)
def divOk (b : Int) : Bool := decide (0 < b) && decide (b.natAbs.log2 < 9000)
def powOk (a b : Int) : Bool := decide (0 ≤ b) && decide (b ≤ 1000) && decide (a.natAbs.log2 < 1000)
def repS (a : Str) (k : Int) : Str := ⟨(List.replicate k.toNat a.cps).foldl (· ++ ·) #[]⟩
def opB : Bop → PyData → PyData → Option S
  | .add, .int a, .int b => some (.val (.int (a + b)))
  | .sub, .int a, .int b => some (.val (.int (a - b)))
  | .mul, .int a, .int b => if mulOk a b then some (.val (.int (a * b))) else none
  | .fdiv, .int a, .int b => if divOk b then some (.val (.int (a / b))) else none
  | .mod, .int a, .int b => if decide (0 < b) then some (.val (.int (a % b))) else none
  | .pow, .int a, .int b => if powOk a b then some (.val (.int (a ^ b.toNat))) else none
  | .add, .str a, .str b => if decide (a.length + b.length ≤ sizeLine) then some (.val (.str (a ++ b))) else none
  | .add, .list a, .list b => if decide (a.length + b.length ≤ sizeLine) then some (.lst (a ++ b)) else none
  | .add, .tuple a, .tuple b => if decide (a ≠ [] ∧ b ≠ [] ∧ a.length + b.length ≤ sizeLine) then some (.val (.tuple (a ++ b))) else none
  | .mul, .str a, .int k => if decide (2 ≤ k) && decide (k ≤ 1000) && decide (1 ≤ a.length) && decide (a.length ≤ 1000) && decide ((repS a k).length ≤ sizeLine) then some (.val (.str (repS a k))) else none
  | .mul, .list a, .int k => if (decide (0 ≤ k) && decide (k < 2 ^ 63)) && decide (a.length * k.toNat ≤ sizeLine) then some (.lst (List.replicate k.toNat a).flatten) else none
  | _, _, _ => none
/-- name op= e, ints alone -/
def opAug : Bop → PyData → PyData → Option Int
  | .add, .int a, .int b => some (a + b)
  | .sub, .int a, .int b => some (a - b)
  | .mul, .int a, .int b => if decide (a.natAbs < 2 ^ 64) || decide (b.natAbs < 2 ^ 64) then some (a * b) else none
  | _, _, _ => none
def isNone : PyData → Bool
  | .none => true
  | _ => false
def keyD : PyData → Option Key
  | .int i => some (.inl i)
  | .str z => some (.inr z)
  | _ => none
/-- the keys, all of them ints or texts -/
def keysD : List (PyData × PyData) → Option (List Key)
  | [] => some []
  | (k, _) :: r => match keyD k, keysD r with
    | some k, some ks => some (k :: ks)
    | _, _ => none
/-- is it a key? of a dict that is not empty -/
def inDict (a : PyData) (kvs : List (PyData × PyData)) : Option Bool := match keyD a, keysD kvs with
  | some k, some ks => if ks.isEmpty then none else some (ks.any fun j => decide (j = k))
  | _, _ => none
def opC : Cop → PyData → PyData → Option Bool
  | .eq, .str a, .str b => some (decide (a = b))
  | .ne, .str a, .str b => some (!decide (a = b))
  | .eq, .list xs, .list [] => some xs.isEmpty
  | .eq, a, b => if SeqAt.shaped a && SeqAt.shaped b then some (PyData.eqv a b) else none
  | .ne, a, b => if SeqAt.shaped a && SeqAt.shaped b then some (!PyData.eqv a b) else none
  | .lt, .int a, .int b => some (decide (a < b))
  | .le, .int a, .int b => some (decide (a ≤ b))
  | .gt, .int a, .int b => some (decide (b < a))
  | .ge, .int a, .int b => some (decide (b ≤ a))
  | .is, a, .none => some (isNone a)
  | .isnot, a, .none => some (!isNone a)
  | .mem, .str a, .str z => match a.cps.toList with
    | [c] => some (decide (c ∈ z.cps.toList))
    | _ => none
  | .notmem, .str a, .str z => match a.cps.toList with
    | [c] => some (!decide (c ∈ z.cps.toList))
    | _ => none
  | .mem, a, .list xs => if SeqAt.shaped a && SeqAt.shaped (.list xs) then some (xs.any fun z => PyData.eqv z a) else none
  | .notmem, a, .list xs => if SeqAt.shaped a && SeqAt.shaped (.list xs) then some (!xs.any fun z => PyData.eqv z a) else none
  | .mem, a, .tuple xs => if SeqAt.shaped a && SeqAt.shaped (.tuple xs) then some (xs.any fun z => PyData.eqv z a) else none
  | .notmem, a, .tuple xs => if SeqAt.shaped a && SeqAt.shaped (.tuple xs) then some (!xs.any fun z => PyData.eqv z a) else none
  | .mem, a, .dict kvs => inDict a kvs
  | .notmem, a, .dict kvs => (inDict a kvs).map (!·)
  | _, _, _ => none
/-- the i-th item, as Python counts -/
def atP {α : Type} (xs : List α) (i : Int) : Option α := atI xs i
def opIx : PyData → PyData → Option PyData
  | .list xs, .int i => atI xs i
  | .tuple xs, .int i => atI xs i
  | .str z, .int i => if decide (z.length ≤ sizeLine) then (atI z.cps.toList i).map fun c => .str ⟨#[c]⟩ else none
  | _, _ => none
def cutD (xs : List PyData) (lo hi : Option Int) : List PyData := (xs.drop (HT.sIx xs.length 0 lo)).take (HT.sIx xs.length xs.length hi - HT.sIx xs.length 0 lo)

/-! ### the text -/
/-- built-in types, asked by isinstance -/
inductive Ty where
  | int | bool | str | list | tuple
  deriving DecidableEq
inductive Blt where
  | len | repr | min2 | max2 | list | isi (t : Ty) | int | minL | maxL | sumL | tup | all | any | sorted | str | dict
  deriving DecidableEq
/-- methods that change the list that a name owns -/
inductive Mut where
  | append | pop | reverse | remove
  deriving DecidableEq
/-- methods of lists that leave them as they are -/
inductive LM where
  | count
  deriving DecidableEq
/-- methods of texts -/
inductive SM where
  | join | split
  deriving DecidableEq
/-- which ends of a slice are written -/
inductive Sl where
  | no | lo | hi | both
  deriving DecidableEq
inductive Tg where
  | nm (i : Nat)
  | tp (is : List Nat)
mutual
inductive A where
  /-- a name, borrowed -/
  | pl (i : Nat)
  | e (x : E)
inductive E where
  | rd (i : Nat) (mv : Bool)
  | cst (d : PyData)
  | glob (g : Nat)
  | bin (o : Bop) (a b : A)
  | neg (a : A)
  | not (a : E)
  | cmp (o : Cop) (a b : A)
  | chain (o₁ o₂ : Cop) (a b c : A)
  | bop (isAnd : Bool) (es : List E)
  | ite (c a b : E)
  | idx (a b : A)
  | slice (k : Sl) (as : List A)
  | tup (es : List A)
  | lst (es : List A)
  | call (f : Nat) (as : List A)
  | blt (b : Blt) (as : List A)
  | mut (m : Mut) (i : Nat) (as : List A)
  | ext (i : Nat) (x : E)
  | comp (t : Tg) (it : It) (c : Option E) (x : E)
  /-- a text's method of one operand -/
  | sm (k : SM) (o x : A)
  /-- list(range(..)) -/
  | lrg (as : List A)
  /-- len(set(..)) of ints -/
  | lset (a : A)
  /-- a[::-1] -/
  | rev (a : A)
  /-- a list's method of one operand -/
  | lm (k : LM) (i : Nat) (x : A)
  /-- {}, or {k: c} of constants -/
  | dcst (o : Option (Key × PyData))
  /-- a comprehension of two clauses -/
  | comp2 (t : Tg) (it : It) (c : Option E) (t1 : Tg) (it1 : It) (c1 : Option E) (x : E)
inductive It where
  | rng1 (a : A)
  | rng2 (a b : A)
  | rng3 (as : List A)
  | seq (a : A)
  | enum (a : A)
  | zip (a b : A)
  | chars (a : A)
end
inductive St where
  | expr (x : E)
  | asg (i : Nat) (x : E)
  | par (is : List Nat) (xs : List A)
  | unp (is : List Nat) (x : E)
  | setit (i : Nat) (k : A) (x : E)
  | aug (i : Nat) (o : Bop) (a : A)
  /-- a name's own list += a list -/
  | augl (i : Nat) (x : E)
  | ret (x : E)
  | retN
  | ite (c : E) (a b : List St)
  | for_ (t : Tg) (it : It) (hold : Bool) (b : List St)
  | while_ (n : Nat) (c : E) (b : List St)
  | brk | cont | pass
  | never
/-- how a statement ends -/
inductive F where
  | nx | brk | cont
  | ret (s : S)

/-! ### the evaluator -/
def rgOk (a b : Int) : Bool := decide (-(2 ^ 62) ≤ a) && decide (a < 2 ^ 62) && decide (-(2 ^ 62) ≤ b) && decide (b < 2 ^ 62) && decide ((b - a).toNat ≤ 2 ^ 24)
def ty : Ty → PyData → Bool
  | .int, .int _ => true
  | .int, .bool _ => true
  | .bool, .bool _ => true
  | .str, .str _ => true
  | .list, .list _ => true
  | .tuple, .tuple _ => true
  | _, _ => false
def allInts : List PyData → Option (List Int)
  | [] => some []
  | .int i :: r => (allInts r).map (i :: ·)
  | _ => none
def allBools : List PyData → Option (List Bool)
  | [] => some []
  | .bool i :: r => (allBools r).map (i :: ·)
  | _ => none
def insI (x : Int) : List Int → List Int
  | [] => [x]
  | y :: ys => if decide (x ≤ y) then x :: y :: ys else y :: insI x ys
def dedup (ns : List Int) : List Int := ns.foldl PyProof.Rows.step_dedup []
def isort : List Int → List Int
  | [] => []
  | x :: xs => insI x (isort xs)
def maxI (n : Int) : List Int → Int
  | [] => n
  | x :: xs => maxI (if decide (n < x) then x else n) xs
def minI (n : Int) : List Int → Int
  | [] => n
  | x :: xs => minI (if decide (x < n) then x else n) xs
mutual
def flatK : PyData → Bool
  | .list xs => flatKs xs
  | .tuple xs => flatKs xs
  | .dict kvs => flatKv kvs
  | _ => true
def flatKs : List PyData → Bool
  | [] => true
  | x :: xs => flatK x && flatKs xs
def flatKv : List (PyData × PyData) → Bool
  | [] => true
  | (k, v) :: r => (match k with | .tuple _ => false | _ => true) && flatK v && flatKv r
end
def kDat : Key → PyData
  | .inl i => .int i
  | .inr x => .str x
/-- pairs of a key and a datum, all keys different -/
def pairsK : List PyData → Option (List (Key × PyData))
  | [] => some []
  | .tuple [k, d] :: r => match keyD k, pairsK r with
    | some k, some ps => if ps.any (fun p => decide (p.1 = k)) then none else some ((k, d) :: ps)
    | _, _ => none
  | _ => none
def opDctP : PyData → Option S
  | .list xs => (pairsK xs).map fun ps => .dct (ps.map fun p => (kDat p.1, p.2))
  | _ => none
def opBlt : Blt → List PyData → Option S
  | .len, [.list xs] => if decide (xs.length ≤ sizeLine) then some (.val (.int xs.length)) else none
  | .len, [.tuple xs] => if decide (xs.length ≤ sizeLine) then some (.val (.int xs.length)) else none
  | .len, [.str x] => if decide (x.length ≤ sizeLine) then some (.val (.int x.length)) else none
  | .repr, [d] => if PyData.showable d && decide (d.shown.length ≤ sizeLine) && decide (d.depth ≤ 60) && flatK d then some (.val (.str d.shown)) else none
  | .min2, [.int a, .int b] => some (.val (.int (if b < a then b else a)))
  | .max2, [.int a, .int b] => some (.val (.int (if b > a then b else a)))
  | .list, [.list xs] => if decide (xs.length ≤ sizeLine) then some (.lst xs) else none
  | .list, [.tuple xs] => if decide (xs.length ≤ sizeLine) then some (.lst xs) else none
  | .isi t, [d] => some (.val (.bool (ty t d)))
  | .int, [.int a] => some (.val (.int a))
  | .int, [.str a] => match PySem.intText? a with
    | some n => if decide (a.length ≤ 640) then some (.val (.int n)) else none
    | none => none
  | .int, [.bool a] => some (.val (.int (if a then 1 else 0)))
  | .tup, [.tuple xs] => some (.val (.tuple xs))
  | .tup, [.list xs] => if decide (xs.length ≤ sizeLine) then some (.val (.tuple xs)) else none
  | .sumL, [.list xs] => match allInts xs with
    | some ns => some (.val (.int ns.sum))
    | none => none
  | .maxL, [.list xs] => match allInts xs with
    | some (n :: ns) => some (.val (.int (maxI n ns)))
    | _ => none
  | .minL, [.list xs] => match allInts xs with
    | some (n :: ns) => some (.val (.int (minI n ns)))
    | _ => none
  | .all, [.list xs] => match allBools xs with
    | some bs => some (.val (.bool (bs.all id)))
    | none => none
  | .any, [.list xs] => match allBools xs with
    | some bs => some (.val (.bool (bs.any id)))
    | none => none
  | .sorted, [.list xs] => match allInts xs with
    | some ns => some (.lst ((isort ns).map .int))
    | none => none
  | .str, [.int i] => if decide (i.natAbs.log2 < 1920) then some (.val (.str (Str.ofString (toString i)))) else none
  | .str, [.str a] => some (.val (.str a))
  | .dict, [d] => opDctP d
  | _, _ => none
def opSl : Sl → List PyData → Option S
  | .no, [.list xs] => some (.lst (cutD xs none none))
  | .lo, [.list xs, .int i] => some (.lst (cutD xs (some i) none))
  | .hi, [.list xs, .int j] => some (.lst (cutD xs none (some j)))
  | .both, [.list xs, .int i, .int j] => some (.lst (cutD xs (some i) (some j)))
  | _, _ => none
def opMut : Mut → List PyData → List PyData → Option (PyData × List PyData)
  | .append, xs, [d] => if decide (xs.length < sizeLine) then some (.none, xs ++ [d]) else none
  | .pop, xs, [.int i] => match atI xs i, ixN xs.length i with
    | some d, some j => some (d, xs.eraseIdx j)
    | _, _ => none
  | .pop, xs, [] => match xs.getLast? with
    | some d => some (d, xs.dropLast)
    | none => none
  | .reverse, xs, [] => some (.none, xs.reverse)
  | .remove, xs, [.int k] => match allInts xs with
    | some ns => if decide (ns.idxOf k < ns.length) then some (.none, (ns.eraseIdx (ns.idxOf k)).map .int) else none
    | none => none
  | _, _, _ => none

def allStrs : List PyData → Option (List Str)
  | [] => some []
  | .str i :: r => (allStrs r).map (i :: ·)
  | _ => none
def opSm : SM → Str → PyData → Option S
  | .join, a, .list ys => match allStrs ys with
    | some ss => if decide ((ss.map (·.length)).sum + ss.length * a.length ≤ 16777216) then some (.val (.str (Txt.join a ss))) else none
    | none => none
  | .split, a, .str b => if !(b.length == 0) && decide (a.length + 2 ≤ sizeLine) then some (.lst ((Txt.split a b).map .str)) else none
  | _, _, _ => none
def opLm : LM → PyData → PyData → Option S
  | .count, .list xs, d => if SeqAt.shaped d && SeqAt.shaped (.list xs) then some (.val (.int ((xs.countP fun z => PyData.eqv z d : Nat) : Int))) else none
  | _, _, _ => none
def opRev : PyData → Option S
  | .list xs => some (.lst xs.reverse)
  | _ => none
def dctO : Option (Key × PyData) → List (PyData × PyData)
  | none => []
  | some (k, d) => [(kDat k, d)]
/-- range(a, b, c), c above 0 -/
def rngC (a c : Int) (n : Nat) : List PyData := (List.range n).map fun (i : Nat) => .int (a + (i : Int) * c)
def cntC (a b c : Int) : Nat := ((b - a + c - 1) / c).toNat
def opSetLen : PyData → Option S
  | .list xs => match allInts xs with
    | some ns => if decide (ns.length ≤ 4000) then some (.val (.int (dedup ns).length)) else none
    | none => none
  | _ => none
def slot (ρ : List S) (i : Nat) : S := ρ.getD i .dead
/-- a borrowed name is looked at when all else is evaluated -/
def res (a : A) (t : Option PyData) (ρ : List S) : Option PyData := match a with
  | .pl i => view (slot ρ i)
  | .e _ => t
def ress : List A → List (Option PyData) → List S → Option (List PyData)
  | [], _, _ => some []
  | a :: as, t :: ts, ρ => match res a t ρ, ress as ts ρ with
    | some d, some ds => some (d :: ds)
    | _, _ => none
  | _ :: _, [], _ => none
def fin1 (a : A) (t : Option S) (ρ : List S) (g : PyData → Option S) : R S := match res a (t.bind view) ρ with
  | some d => ofO (g d) ρ
  | none => .stk
def fin2 (a b : A) (t u : Option S) (ρ : List S) (g : PyData → PyData → Option S) : R S := match res a (t.bind view) ρ, res b (u.bind view) ρ with
  | some d, some d' => ofO (g d d') ρ
  | _, _ => .stk
def opNeg : PyData → Option S
  | .int i => some (.val (.int (-i)))
  | _ => none
def cmpS (o : Cop) (d e : PyData) : Option S := (opC o d e).map fun k => .val (.bool k)
def ixS (d e : PyData) : Option S := (opIx d e).map .val
/-- it owns nothing -/
def bare : S → Bool
  | .val _ => true
  | .dead => true
  | _ => false
def isVal : S → Bool
  | .val _ => true
  | _ => false
/-- the operands as data to be kept: a name's value only where it is data -/
def resV : List A → List (Option S) → List S → Option (List PyData)
  | [], _, _ => some []
  | .pl i :: as, _ :: ts, ρ => match slot ρ i, resV as ts ρ with
    | .val d, some ds => some (d :: ds)
    | _, _ => none
  | .e _ :: as, some s :: ts, ρ => match view s, resV as ts ρ with
    | some d, some ds => some (d :: ds)
    | _, _ => none
  | _, _, _ => none
/-- .. as values -/
def resS : List A → List (Option S) → List S → Option (List S)
  | [], _, _ => some []
  | .pl i :: as, _ :: ts, ρ => match slot ρ i, resS as ts ρ with
    | .val d, some ds => some (.val d :: ds)
    | _, _ => none
  | .e _ :: as, some s :: ts, ρ => match resS as ts ρ with
    | some ds => some (s :: ds)
    | _ => none
  | _, _, _ => none
/-- what is walked is held aside while it is walked -/
def holdO (a : A) (xs : List PyData) (ρ : List S) : R (List PyData × Option (Nat × S)) := match a with
  | .pl i => if isVal (slot ρ i) = true then .ok (xs, none) ρ else .ok (xs, some (i, slot ρ i)) (ρ.set i .dead)
  | .e _ => .ok (xs, none) ρ
/-- what is handed to a def: a name's own list is lent -/
def lend : List A → List (Option S) → List S → Option (List S × List S)
  | [], _, ρ => some ([], ρ)
  | .pl i :: as, _ :: ts, ρ => match slot ρ i with
    | .dead => none
    | .val d => (lend as ts ρ).map fun (r, ρ') => (.val d :: r, ρ')
    | s => (lend as ts (ρ.set i .dead)).map fun (r, ρ') => (s :: r, ρ')
  | .e _ :: as, some s :: ts, ρ => (lend as ts ρ).map fun (r, ρ') => (s :: r, ρ')
  | _, _, _ => none
def giveBack : List A → List S → List S → List S → List S
  | .pl i :: as, s :: ss, f :: fs, ρ => giveBack as ss fs (if isVal s then ρ else ρ.set i f)
  | .e _ :: as, _ :: ss, _ :: fs, ρ => giveBack as ss fs ρ
  | _, _, _, ρ => ρ
def sets : List Nat → List S → List S → List S
  | i :: is, s :: ss, ρ => sets is ss (ρ.set i s)
  | _, _, ρ => ρ
def tgs : Tg → List Nat
  | .nm i => [i]
  | .tp is => is
def kill : List Nat → List S → List S
  | [], ρ => ρ
  | i :: is, ρ => kill is (ρ.set i .dead)
def putBack (σ : List S) : List Nat → List S → List S
  | [], ρ => ρ
  | i :: is, ρ => putBack σ is (ρ.set i (slot σ i))
def unpk (n : Nat) : PyData → Option (List PyData)
  | .tuple ds => if ds.length = n then some ds else none
  | _ => none
def bindT : Tg → PyData → List S → Option (List S)
  | .nm i, d, ρ => some (ρ.set i (.val d))
  | .tp is, .tuple ds, ρ => if ds.length = is.length then some (sets is (ds.map S.val) ρ) else none
  | .tp _, _, _ => none
def toBool : S → Option Bool
  | .val (.bool b) => some b
  | _ => none
def items : PyData → Option (List PyData)
  | .list xs => some xs
  | .tuple xs => some xs
  | _ => none
def rng (a b : Int) : List PyData := (List.range (b - a).toNat).map fun (i : Nat) => .int (a + (i : Int))
/-- a text's signs -/
def chars (z : Str) : List PyData := z.cps.toList.map fun c => .str ⟨#[c]⟩
def enumFrom (xs : List PyData) : List PyData := xs.zipIdx.map fun p => .tuple [.int p.2, p.1]
def zipD (xs ys : List PyData) : List PyData := (xs.zip ys).map fun p => .tuple [p.1, p.2]
/-- a comprehension's turns -/
def turns (f : PyData → List S → R (Option PyData)) : List PyData → List PyData → List S → R (List PyData)
  | [], acc, ρ => .ok acc ρ
  | x :: xs, acc, ρ => (f x ρ).bnd fun o ρ' => match o with
    | none => turns f xs acc ρ'
    | some d => if acc.length < sizeLine then turns f xs (acc ++ [d]) ρ' else .stk
/-- .. of the outer clause of two -/
def turns2 (f : PyData → List PyData → List S → R (List PyData)) : List PyData → List PyData → List S → R (List PyData)
  | [], acc, ρ => .ok acc ρ
  | x :: xs, acc, ρ => (f x acc ρ).bnd fun acc' ρ' => turns2 f xs acc' ρ'
def noExc {α : Type} : R α → R α
  | .exc .. => .stk
  | r => r
/-- a loop's turns -/
def loop (f : PyData → List S → R F) : List PyData → List S → R F
  | [], ρ => .ok .nx ρ
  | x :: xs, ρ => (f x ρ).bnd fun r ρ' => match r with
    | .nx => loop f xs ρ'
    | .cont => loop f xs ρ'
    | .brk => .ok .nx ρ'
    | .ret s => .ok (.ret s) ρ'
def whl (c : List S → R S) (b : List S → R F) : Nat → List S → R F
  | 0, _ => .stk
  | n + 1, ρ => (c ρ).bnd fun s ρ' => match toBool s with
    | some true => (b ρ').bnd fun r ρ'' => match r with
      | .nx => whl c b n ρ''
      | .cont => whl c b n ρ''
      | .brk => .ok .nx ρ''
      | .ret s => .ok (.ret s) ρ''
    | some false => .ok .nx ρ'
    | none => .stk

/-- the defs by number, the module's constants by number -/
structure Fns where
  fn : Nat → List S → R S
  gl : Nat → PyData
section
variable (Φ : Fns)
mutual
/-- an operand: its value, where it is not a borrowed name -/
def evA : A → List S → R (Option S)
  | .pl i, ρ => match slot ρ i with
    | .dead => .stk
    | _ => .ok none ρ
  | .e x, ρ => (evE x ρ).bnd fun s ρ' => .ok (some s) ρ'
def evAs : List A → List S → R (List (Option S))
  | [], ρ => .ok [] ρ
  | a :: as, ρ => (evA a ρ).bnd fun s ρ' => (evAs as ρ').bnd fun ss ρ'' => .ok (s :: ss) ρ''
def evBs : Bool → List E → List S → R S
  | _, [], _ => .stk
  | _, [x], ρ => evE x ρ
  | k, x :: y :: r, ρ => (evE x ρ).bnd fun s ρ' => match toBool s with
    | some b => if b = k then evBs k (y :: r) ρ' else .ok (.val (.bool b)) ρ'
    | none => .stk
def evC : Option E → List S → R Bool
  | none, ρ => .ok true ρ
  | some c, ρ => (evE c ρ).bnd fun s ρ' => ofO (toBool s) ρ'
def evIt : It → List S → R (List PyData × Option (Nat × S))
  | .rng1 a, ρ => (evA a ρ).bnd fun t ρ' => match res a (t.bind view) ρ' with
    | some (.int n) => if decide (n.natAbs < 2 ^ 60) then .ok (rng 0 n, none) ρ' else .stk
    | _ => .stk
  | .rng2 a b, ρ => (evA a ρ).bnd fun t ρ' => (evA b ρ').bnd fun u ρ'' => match res a (t.bind view) ρ'', res b (u.bind view) ρ'' with
    | some (.int m), some (.int n) => if decide (m.natAbs < 2 ^ 60 ∧ n.natAbs < 2 ^ 60) then .ok (rng m n, none) ρ'' else .stk
    | _, _ => .stk
  | .rng3 as, ρ => (evAs as ρ).bnd fun ts ρ' => match ress as (ts.map (·.bind view)) ρ' with
    | some [.int i, .int j, .int k] => if decide (i.natAbs < 2 ^ 60 ∧ j.natAbs < 2 ^ 60 ∧ 0 < k ∧ k < 1000000000) then .ok (rngC i k (cntC i j k), none) ρ' else .stk
    | _ => .stk
  | .seq a, ρ => (evA a ρ).bnd fun t ρ' => match res a (t.bind view) ρ' with
    | some d => match items d with
      | some xs => holdO a xs ρ'
      | none => .stk
    | none => .stk
  | .enum a, ρ => (evA a ρ).bnd fun t ρ' => match res a (t.bind view) ρ' with
    | some (.list xs) => holdO a (enumFrom xs) ρ'
    | _ => .stk
  | .zip a b, ρ => .stk
  | .chars a, ρ => (evA a ρ).bnd fun t ρ' => match res a (t.bind view) ρ' with
    | some (.str z) => .ok (chars z, none) ρ'
    | _ => .stk
def evE : E → List S → R S
  | .rd i mv, ρ => match slot ρ i with
    | .dead => .stk
    | .val d => .ok (.val d) ρ
    | s => if mv then .ok s (ρ.set i .dead) else match view s with
      | some d => .ok (.val d) (ρ.set i (.val d))
      | none => .stk
  | .cst d, ρ => .ok (.val d) ρ
  | .glob g, ρ => .ok (.val (Φ.gl g)) ρ
  | .bin o a b, ρ => (evA a ρ).bnd fun t ρ' => (evA b ρ').bnd fun u ρ'' => fin2 a b t u ρ'' (opB o)
  | .neg a, ρ => (evA a ρ).bnd fun t ρ' => fin1 a t ρ' opNeg
  | .not a, ρ => (evE a ρ).bnd fun s ρ' => match toBool s with
    | some b => .ok (.val (.bool (!b))) ρ'
    | none => .stk
  | .cmp o a b, ρ => (evA a ρ).bnd fun t ρ' => (evA b ρ').bnd fun u ρ'' => fin2 a b t u ρ'' (cmpS o)
  | .chain o₁ o₂ a b c, ρ => (evA a ρ).bnd fun t ρ' => (evA b ρ').bnd fun u ρ'' => match res a (t.bind view) ρ'', res b (u.bind view) ρ'' with
    | some d, some d' => match opC o₁ d d' with
      | some true => (evA c ρ'').bnd fun z ρ3 => fin2 b c u z ρ3 (cmpS o₂)
      | some false => .ok (.val (.bool false)) ρ''
      | none => .stk
    | _, _ => .stk
  | .bop k es, ρ => evBs k es ρ
  | .ite c a b, ρ => (evE c ρ).bnd fun s ρ' => match toBool s with
    | some true => evE a ρ'
    | some false => evE b ρ'
    | none => .stk
  | .idx a b, ρ => (evA a ρ).bnd fun t ρ' => (evA b ρ').bnd fun u ρ'' => fin2 a b t u ρ'' ixS
  | .slice k as, ρ => (evAs as ρ).bnd fun ts ρ' => match ress as (ts.map (·.bind view)) ρ' with
    | some ds => ofO (opSl k ds) ρ'
    | none => .stk
  | .tup as, ρ => (evAs as ρ).bnd fun ts ρ' => match resV as ts ρ' with
    | some ds => if decide (ds.length ≤ sizeLine) then .ok (.val (.tuple ds)) ρ' else .stk
    | none => .stk
  | .lst as, ρ => (evAs as ρ).bnd fun ts ρ' => match resV as ts ρ' with
    | some ds => if decide (ds.length ≤ sizeLine) then .ok (.lst ds) ρ' else .stk
    | none => .stk
  | .call f as, ρ => (evAs as ρ).bnd fun ts ρ' => match lend as ts ρ' with
    | some (ss, ρ'') => match Φ.fn f ss with
      | .stk => .stk
      | .ok s fs => .ok s (giveBack as ss fs ρ'')
      | .exc c d fs => .exc c d (giveBack as ss fs ρ'')
    | none => .stk
  | .blt f as, ρ => (evAs as ρ).bnd fun ts ρ' => match ress as (ts.map (·.bind view)) ρ' with
    | some ds => ofO (opBlt f ds) ρ'
    | none => .stk
  | .mut m i as, ρ => match slot ρ i with
    | .lst _ => (evAs as ρ).bnd fun ts ρ' => match slot ρ' i, resV as ts ρ' with
      | .lst xs, some ds => match opMut m xs ds with
        | some (d, ys) => .ok (.val d) (ρ'.set i (.lst ys))
        | none => .stk
      | _, _ => .stk
    | _ => .stk
  | .ext i x, ρ => match slot ρ i with
    | .lst _ => (evE x ρ).bnd fun s ρ' => match slot ρ' i, s with
      | .lst xs, .lst ys => if decide (xs.length + ys.length ≤ sizeLine) then .ok (.val .none) (ρ'.set i (.lst (xs ++ ys))) else .stk
      | _, _ => .stk
    | _ => .stk
  | .sm k o x, ρ => (evA o ρ).bnd fun t ρ' => match res o (t.bind view) ρ' with
    | some (.str a) => (evA x ρ').bnd fun u ρ'' => fin1 x u ρ'' (opSm k a)
    | _ => .stk
  | .lrg as, ρ => (evAs as ρ).bnd fun ts ρ' => match ress as (ts.map (·.bind view)) ρ' with
    | some [.int n] => if rgOk 0 n then .ok (.lst (rng 0 n)) ρ' else .stk
    | some [.int m, .int n] => if rgOk m n then .ok (.lst (rng m n)) ρ' else .stk
    | _ => .stk
  | .lset a, ρ => (evA a ρ).bnd fun t ρ' => fin1 a t ρ' opSetLen
  | .rev a, ρ => (evA a ρ).bnd fun t ρ' => fin1 a t ρ' opRev
  | .lm k i x, ρ => match view (slot ρ i) with
    | some (.list _) => (evA x ρ).bnd fun u ρ' => fin2 (.pl i) x none u ρ' (opLm k)
    | _ => .stk
  | .dcst o, ρ => .ok (.dct (dctO o)) ρ
  | .comp2 t it c t1 it1 c1 x, ρ => noExc ((evIt it ρ).bnd fun p ρ1 => if (tgs t ++ tgs t1).all (fun i => bare (slot ρ1 i)) = true then (turns2 (fun d acc ρ2 => match bindT t d ρ2 with
      | some ρ3 => (evC c ρ3).bnd fun k ρ4 => if k = true then (evIt it1 ρ4).bnd fun p1 ρ5 => if p1.2.isNone = true then (turns (fun d1 ρ6 => match bindT t1 d1 ρ6 with
          | some ρ7 => (evC c1 ρ7).bnd fun k1 ρ8 => if k1 = true then (evE x ρ8).bnd fun s ρ9 => match view s with
              | some v => .ok (some v) (kill (tgs t1) ρ9)
              | none => .stk
            else .ok none (kill (tgs t1) ρ8)
          | none => .stk) p1.1 acc (kill (tgs t1) ρ5)).bnd fun acc' ρ7 => .ok acc' (kill (tgs t ++ tgs t1) ρ7) else .stk
        else .ok acc (kill (tgs t ++ tgs t1) ρ4)
      | none => .stk) p.1 [] (kill (tgs t ++ tgs t1) ρ1)).bnd fun ds ρ6 => .ok (.lst ds) (match p.2 with
        | some (i, s) => (putBack ρ1 (tgs t ++ tgs t1) ρ6).set i s
        | none => putBack ρ1 (tgs t ++ tgs t1) ρ6) else .stk)
  | .comp t it c x, ρ => noExc ((evIt it ρ).bnd fun p ρ1 => if (tgs t).all (fun i => bare (slot ρ1 i)) = true then (turns (fun d ρ2 => match bindT t d ρ2 with
      | some ρ3 => (evC c ρ3).bnd fun k ρ4 => if k = true then (evE x ρ4).bnd fun s ρ5 => match view s with
          | some v => .ok (some v) (kill (tgs t) ρ5)
          | none => .stk
        else .ok none (kill (tgs t) ρ4)
      | none => .stk) p.1 [] (kill (tgs t) ρ1)).bnd fun ds ρ6 => .ok (.lst ds) (match p.2 with
        | some (i, s) => (putBack ρ1 (tgs t) ρ6).set i s
        | none => putBack ρ1 (tgs t) ρ6) else .stk)
end
mutual
def evS : St → List S → R F
  | .expr x, ρ => (evE Φ x ρ).bnd fun _ ρ' => .ok .nx ρ'
  | .asg i x, ρ => (evE Φ x ρ).bnd fun s ρ' => .ok .nx (ρ'.set i s)
  | .par is as, ρ => (evAs Φ as ρ).bnd fun ts ρ' => match resS as ts ρ' with
    | some ss => if is.length = ss.length then .ok .nx (sets is ss ρ') else .stk
    | none => .stk
  | .unp is x, ρ => (evE Φ x ρ).bnd fun s ρ' => match view s with
    | some d => match unpk is.length d with
      | some ds => .ok .nx (sets is (ds.map S.val) ρ')
      | none => .stk
    | none => .stk
  | .setit i k x, ρ => (evE Φ x ρ).bnd fun s ρ' => match slot ρ' i with
    | .lst _ => (evA Φ k ρ').bnd fun t ρ'' => match view s, res k (t.bind view) ρ'', slot ρ'' i with
      | some d, some (.int j), .lst xs => match ixN xs.length j with
        | some n => .ok .nx (ρ''.set i (.lst (xs.set n d)))
        | none => .stk
      | _, _, _ => .stk
    | _ => .stk
  | .aug i o a, ρ => match slot ρ i with
    | .val d => (evA Φ a ρ).bnd fun t ρ' => match res a (t.bind view) ρ' with
      | some d' => match opAug o d d' with
        | some c => .ok .nx (ρ'.set i (.val (.int c)))
        | none => .stk
      | none => .stk
    | _ => .stk
  | .augl i x, ρ => match slot ρ i with
    | .lst _ => (evE Φ x ρ).bnd fun s ρ' => match slot ρ' i, s with
      | .lst xs, .lst ys => if decide (xs.length + ys.length ≤ sizeLine) then .ok .nx (ρ'.set i (.lst (xs ++ ys))) else .stk
      | _, _ => .stk
    | _ => .stk
  | .ret x, ρ => (evE Φ x ρ).bnd fun s ρ' => .ok (.ret s) ρ'
  | .retN, ρ => .ok (.ret (.val .none)) ρ
  | .ite c a b, ρ => (evE Φ c ρ).bnd fun s ρ' => match toBool s with
    | some true => evSs a ρ'
    | some false => evSs b ρ'
    | none => .stk
  | .for_ t it h b, ρ => (evIt Φ it ρ).bnd fun p ρ1 => match p.2 with
    | none => loop (fun d ρ2 => match bindT t d ρ2 with
      | some ρ3 => evSs b ρ3
      | none => .stk) p.1 ρ1
    | some (i, s) => if h = true then (match loop (fun d ρ2 => match bindT t d ρ2 with
        | some ρ3 => evSs b ρ3
        | none => .stk) p.1 ρ1 with
      | .stk => .stk
      | .ok f ρ4 => .ok f (ρ4.set i s)
      | .exc c d ρ4 => .exc c d (ρ4.set i s)) else .stk
  | .while_ n c b, ρ => whl (evE Φ c) (evSs b) n ρ
  | .brk, ρ => .ok .brk ρ
  | .cont, ρ => .ok .cont ρ
  | .pass, ρ => .ok .nx ρ
  | .never, _ => .stk
def evSs : List St → List S → R F
  | [], ρ => .ok .nx ρ
  | s :: r, ρ => (evS s ρ).bnd fun f ρ' => match f with
    | .nx => evSs r ρ'
    | f => .ok f ρ'
end
end
/-- the parameters at the end: what was stored anew is not the caller's -/
def fins (asg : List Nat) (n : Nat) (ρ : List S) : List S := (List.range n).map fun j => if j ∈ asg then .dead else slot ρ j
/-- a def: n parameters, m further names, the names that it stores -/
def evDef (Φ : Fns) (n m : Nat) (asg : List Nat) (body : List St) (ss : List S) : R S :=
  if ss.length = n then match evSs Φ body (ss ++ List.replicate m .dead) with
    | .ok (.ret s) ρ => .ok s (fins asg n ρ)
    | .ok .nx ρ => .ok (.val .none) (fins asg n ρ)
    | .exc c d ρ => .exc c d (fins asg n ρ)
    | _ => .stk
  else .stk
end VE

/-! VS1: how the evaluator's data stands in the abstract heap. -/
namespace VE
open PySem L2 PySem.Spec PyProof.Rows

theorem Same.seqT {K : PySem.W.Frag} {H H' : Hp} {a : Addr} {xs : List V} (e : Same H H') (h : SqT K H a xs) : SqT K H' a xs := by
  rcases h with (h | ⟨o, h⟩) | h
  · exact .inl (.inl (e _ _ h))
  · exact .inl (.inr ⟨o, e _ _ h⟩)
  · exact .inr h

def kD : Key → PyData
  | .inl i => .int i
  | .inr x => .str x
mutual
/-- v reads as d in G -/
inductive DP (K : PySem.W.Frag) (G : Hp) : V → PyData → Prop
  | non : DP K G .non .none
  | bl (b : Bool) : DP K G (.bl b) (.bool b)
  | int (i : Int) : DP K G (.int i) (.int i)
  | str (x : Str) : DP K G (.str x) (.str x)
  | lst {a : Addr} {xs : List V} {ds : List PyData} : SqL K G a xs → DPs K G xs ds → DP K G (.ref a) (.list ds)
  | tup {a : Addr} {xs : List V} {ds : List PyData} : SqT K G a xs → DPs K G xs ds → DP K G (.ref a) (.tuple ds)
  | dctK {a : Addr} {kv : List (Key × V)} {ds : List (PyData × PyData)} : G a = some (.dK kv) → DKs K G kv ds → DP K G (.ref a) (.dict ds)
  | dctT {a : Addr} {kv : List (List Key × V)} {ds : List (PyData × PyData)} : G a = some (.dT kv) → DTs K G kv ds → DP K G (.ref a) (.dict ds)
inductive DPs (K : PySem.W.Frag) (G : Hp) : List V → List PyData → Prop
  | nil : DPs K G [] []
  | cons {v : V} {vs : List V} {d : PyData} {ds : List PyData} : DP K G v d → DPs K G vs ds → DPs K G (v :: vs) (d :: ds)
inductive DKs (K : PySem.W.Frag) (G : Hp) : List (Key × V) → List (PyData × PyData) → Prop
  | nil : DKs K G [] []
  | cons {k : Key} {v : V} {vs : List (Key × V)} {d : PyData} {ds : List (PyData × PyData)} : DP K G v d → DKs K G vs ds → DKs K G ((k, v) :: vs) ((kD k, d) :: ds)
inductive DTs (K : PySem.W.Frag) (G : Hp) : List (List Key × V) → List (PyData × PyData) → Prop
  | nil : DTs K G [] []
  | cons {k : List Key} {v : V} {vs : List (List Key × V)} {d : PyData} {ds : List (PyData × PyData)} : DP K G v d → DTs K G vs ds → DTs K G ((k, v) :: vs) ((.tuple (k.map kD), d) :: ds)
end
section
variable {K : PySem.W.Frag} {G G' H H' : Hp}
mutual
theorem DP.mono (e : Same G G') : ∀ {v : V} {d : PyData}, DP K G v d → DP K G' v d
  | _, _, .non => .non
  | _, _, .bl b => .bl b
  | _, _, .int b => .int b
  | _, _, .str b => .str b
  | _, _, .lst h r => .lst (e.seq h) (DPs.mono e r)
  | _, _, .tup h r => .tup (Same.seqT e h) (DPs.mono e r)
  | _, _, .dctK h r => .dctK (e _ _ h) (DKs.mono e r)
  | _, _, .dctT h r => .dctT (e _ _ h) (DTs.mono e r)
theorem DPs.mono (e : Same G G') : ∀ {v : List V} {d : List PyData}, DPs K G v d → DPs K G' v d
  | _, _, .nil => .nil
  | _, _, .cons h r => .cons (DP.mono e h) (DPs.mono e r)
theorem DKs.mono (e : Same G G') : ∀ {v : List (Key × V)} {d : List (PyData × PyData)}, DKs K G v d → DKs K G' v d
  | _, _, .nil => .nil
  | _, _, .cons h r => .cons (DP.mono e h) (DKs.mono e r)
theorem DTs.mono (e : Same G G') : ∀ {v : List (List Key × V)} {d : List (PyData × PyData)}, DTs K G v d → DTs K G' v d
  | _, _, .nil => .nil
  | _, _, .cons h r => .cons (DP.mono e h) (DTs.mono e r)
end
theorem DPs.length : ∀ {vs : List V} {ds : List PyData}, DPs K G vs ds → vs.length = ds.length
  | _, _, .nil => rfl
  | _, _, .cons _ r => by rw [List.length_cons, List.length_cons, DPs.length r]
theorem DPs.app : ∀ {vs ws : List V} {ds es : List PyData}, DPs K G vs ds → DPs K G ws es → DPs K G (vs ++ ws) (ds ++ es)
  | _, _, _, _, .nil, s => s
  | _, _, _, _, .cons h r, s => .cons h (DPs.app r s)
theorem DPs.get : ∀ {vs : List V} {ds : List PyData} {i : Nat} {d : PyData}, DPs K G vs ds → ds[i]? = some d → ∃ v, vs[i]? = some v ∧ DP K G v d
  | _, _, _, _, .nil, h => by simp at h
  | _, _, 0, _, .cons h r, e => by simp at e; subst e; exact ⟨_, rfl, h⟩
  | _, _, i + 1, _, .cons h r, e => by
    obtain ⟨v, h1, h2⟩ := DPs.get (i := i) r (by simpa using e)
    exact ⟨v, by simpa using h1, h2⟩
theorem DPs.take : ∀ {vs : List V} {ds : List PyData} (n : Nat), DPs K G vs ds → DPs K G (vs.take n) (ds.take n)
  | _, _, 0, _ => .nil
  | _, _, _ + 1, .nil => .nil
  | _, _, n + 1, .cons h r => .cons h (DPs.take n r)
theorem DPs.drop : ∀ {vs : List V} {ds : List PyData} (n : Nat), DPs K G vs ds → DPs K G (vs.drop n) (ds.drop n)
  | _, _, 0, r => r
  | _, _, _ + 1, .nil => .nil
  | _, _, n + 1, .cons h r => DPs.drop n r
theorem DPs.set {v : V} {d : PyData} (x : DP K G v d) : ∀ {vs : List V} {ds : List PyData} (i : Nat), DPs K G vs ds → DPs K G (vs.set i v) (ds.set i d)
  | _, _, _, .nil => .nil
  | _, _, 0, .cons h r => .cons x r
  | _, _, i + 1, .cons h r => .cons h (DPs.set x i r)
theorem DPs.erase : ∀ {vs : List V} {ds : List PyData} (i : Nat), DPs K G vs ds → DPs K G (vs.eraseIdx i) (ds.eraseIdx i)
  | _, _, _, .nil => .nil
  | _, _, 0, .cons h r => r
  | _, _, i + 1, .cons h r => .cons h (DPs.erase i r)
theorem DPs.rev : ∀ {vs : List V} {ds : List PyData}, DPs K G vs ds → DPs K G vs.reverse ds.reverse
  | _, _, .nil => .nil
  | _, _, .cons h r => by
    rw [List.reverse_cons, List.reverse_cons]
    exact (DPs.rev r).app (.cons h .nil)
theorem DPs.rep {v : List V} {d : List PyData} (h : DPs K G v d) : ∀ n : Nat, DPs K G (List.replicate n v).flatten (List.replicate n d).flatten
  | 0 => .nil
  | n + 1 => by
    rw [List.replicate_succ, List.replicate_succ, List.flatten_cons, List.flatten_cons]
    exact h.app (DPs.rep h n)
/-! data without dicts, as the layer has it -/
mutual
theorem DP.dp : ∀ {v : V} {d : PyData}, DP K G v d → d.canLay0 = true → Dp K G v d
  | _, _, .non, _ => .non
  | _, _, .bl b, _ => .bl b
  | _, _, .int b, _ => .int b
  | _, _, .str b, _ => .str b
  | _, _, .lst h r, c => .lst h (DPs.dp r (by simpa only [PyData.canLay0] using c))
  | _, _, .tup h r, c => .tup h (DPs.dp r (by simpa only [PyData.canLay0] using c))
  | _, _, .dctK h r, c => by simp [PyData.canLay0] at c
  | _, _, .dctT h r, c => by simp [PyData.canLay0] at c
theorem DPs.dp : ∀ {v : List V} {d : List PyData}, DPs K G v d → PyData.canLayAll0 d = true → DpAll K G v d
  | _, _, .nil, _ => .nil
  | _, _, .cons h r, c => by
    simp only [PyData.canLayAll0, Bool.and_eq_true] at c
    exact .cons (DP.dp h c.1) (DPs.dp r c.2)
end
mutual
theorem DP.dpN : ∀ {v : V} {d : PyData}, DP K G v d → d.hasDict = false → Dp K G v d
  | _, _, .non, _ => .non
  | _, _, .bl b, _ => .bl b
  | _, _, .int b, _ => .int b
  | _, _, .str b, _ => .str b
  | _, _, .lst h r, c => .lst h (DPs.dpN r (by simpa only [PyData.hasDict] using c))
  | _, _, .tup h r, c => .tup h (DPs.dpN r (by simpa only [PyData.hasDict] using c))
  | _, _, .dctK h r, c => by simp [PyData.hasDict] at c
  | _, _, .dctT h r, c => by simp [PyData.hasDict] at c
theorem DPs.dpN : ∀ {v : List V} {d : List PyData}, DPs K G v d → PyData.hasDictAll d = false → DpAll K G v d
  | _, _, .nil, _ => .nil
  | _, _, .cons h r, c => by
    simp only [PyData.hasDictAll, Bool.or_eq_false_iff] at c
    exact .cons (DP.dpN h c.1) (DPs.dpN r c.2)
end

/-- what a name (or a value on the way) holds; f: the addresses that it owns -/
def RelS (K : PySem.W.Frag) (G H : Hp) : S → V → List Addr → Prop
  | .val d, v, f => DP K G v d ∧ f = []
  | .lst xs, v, f => ∃ a vs, v = .ref a ∧ H a = some (.lst vs) ∧ DPs K G vs xs ∧ f = [a]
  | .dct kvs, v, f => ∃ a, v = .ref a ∧ f = [a] ∧ ((∃ kv, H a = some (.dK kv) ∧ DKs K G kv kvs) ∨ ∃ kv, H a = some (.dT kv) ∧ DTs K G kv kvs)
  | .dead, _, f => f = []
theorem RelS.here {s : S} {v : V} {f : List Addr} (r : RelS K G H s v f) : ∀ a ∈ f, ∃ o, H a = some o := by
  intro a ha
  cases s with
  | val d => rw [r.2] at ha; cases ha
  | lst xs =>
    obtain ⟨b, vs, _, h, _, e⟩ := r
    rw [e] at ha
    obtain rfl := List.mem_singleton.mp ha
    exact ⟨_, h⟩
  | dct kvs =>
    obtain ⟨b, _, e, h⟩ := r
    rw [e] at ha
    obtain rfl := List.mem_singleton.mp ha
    rcases h with ⟨_, h, _⟩ | ⟨_, h, _⟩ <;> exact ⟨_, h⟩
  | dead => rw [show f = [] from r] at ha; cases ha
theorem RelS.mono {s : S} {v : V} {f : List Addr} (r : RelS K G H s v f) (e : Same G G') (k : ∀ a ∈ f, ∀ o, H a = some o → H' a = some o) : RelS K G' H' s v f := by
  cases s with
  | val d => exact ⟨r.1.mono e, r.2⟩
  | lst xs =>
    obtain ⟨b, vs, e1, h, hd, e2⟩ := r
    exact ⟨b, vs, e1, k b (by rw [e2]; exact List.mem_singleton.mpr rfl) _ h, hd.mono e, e2⟩
  | dct kvs =>
    obtain ⟨b, e1, e2, h⟩ := r
    have kb := k b (by rw [e2]; exact List.mem_singleton.mpr rfl)
    rcases h with ⟨q, h, hd⟩ | ⟨q, h, hd⟩
    · exact ⟨b, e1, e2, .inl ⟨q, kb _ h, hd.mono e⟩⟩
    · exact ⟨b, e1, e2, .inr ⟨q, kb _ h, hd.mono e⟩⟩
  | dead => exact r

def own (φ : Nat → List Addr) (a : Addr) : Prop := ∃ i, a ∈ φ i
/-- the names' values -/
structure SR (K : PySem.W.Frag) (G H : Hp) (ρ : List S) (σ : L2.St) (φ : Nat → List Addr) : Prop where
  len : ρ.length = σ.length
  gh : Same G H
  rel : ∀ i, (slot ρ i = .dead ∧ φ i = []) ∨ ∃ v, σ[i]? = some (some v) ∧ RelS K G H (slot ρ i) v (φ i)
  dj : ∀ i j a, a ∈ φ i → a ∈ φ j → i = j
  gn : ∀ i a, a ∈ φ i → G a = none
/-- from (G, H), F owned, to (G', H'), F' owned -/
structure Stp (G H : Hp) (F : Addr → Prop) (G' H' : Hp) (F' : Addr → Prop) : Prop where
  gg : Same G G'
  keep : ∀ a o, H a = some o → ¬ F a → H' a = some o
  sub : ∀ a, F' a → F a ∨ H a = none
  gnew : ∀ a, G a = none → G' a ≠ none → F a ∨ H a = none
  there : ∀ a, H a ≠ none → H' a ≠ none
/-- a value on the way -/
structure Tmp (K : PySem.W.Frag) (G H : Hp) (s : S) (v : V) (f : List Addr) (φ : Nat → List Addr) : Prop where
  rel : RelS K G H s v f
  gn : ∀ a ∈ f, G a = none
  off : ∀ a ∈ f, ¬ own φ a
variable {φ φ' φ'' : Nat → List Addr} {ρ ρ' : List S} {σ σ' : L2.St} {F F' F'' T : Addr → Prop}
theorem SR.here (r : SR K G H ρ σ φ) {a : Addr} (h : own φ a) : ∃ o, H a = some o := by
  obtain ⟨i, hi⟩ := h
  rcases r.rel i with ⟨_, e⟩ | ⟨v, _, q⟩
  · rw [e] at hi; cases hi
  · exact q.here a hi
theorem SR.gno (r : SR K G H ρ σ φ) {a : Addr} (h : own φ a) : G a = none := by
  obtain ⟨i, hi⟩ := h
  exact r.gn i a hi
theorem Stp.refl : Stp G H F G H F := ⟨Same.refl G, fun _ _ h _ => h, fun _ h => .inl h, fun _ h h' => absurd h h', fun _ h => h⟩
theorem Stp.weak (s : Stp G H F G' H' F') (h : ∀ a, T a → F' a) : Stp G H F G' H' T := ⟨s.gg, s.keep, fun a q => s.sub a (h a q), s.gnew, s.there⟩
/-- the second step goes from a part of what is owned; the rest T stays -/
theorem Stp.trans {G1 H1 : Hp} (s : Stp G H F G1 H1 F') (t : Stp G1 H1 F' G' H' F'') : Stp G H F G' H' F'' where
  gg := s.gg.trans t.gg
  keep := fun a o h n => by
    refine t.keep a o (s.keep a o h n) fun q => ?_
    rcases s.sub a q with q | q
    · exact n q
    · rw [h] at q; cases q
  sub := fun a q => by
    rcases t.sub a q with q | q
    · exact s.sub a q
    · refine .inr ?_
      cases e : H a with
      | none => rfl
      | some o => exact absurd q (s.there a (by rw [e]; exact fun z => nomatch z))
  gnew := fun a h h' => by
    by_cases e : G1 a = none
    · rcases t.gnew a e h' with q | q
      · exact s.sub a q
      · refine .inr ?_
        cases e2 : H a with
        | none => rfl
        | some o => exact absurd q (s.there a (by rw [e2]; exact fun z => nomatch z))
    · exact s.gnew a h e
  there := fun a h => t.there a (s.there a h)
/-- .. with T held aside through the step -/
theorem Stp.frame (s : Stp G H F G' H' F') (ht : ∀ a, T a → ¬ F a ∧ H a ≠ none) : Stp G H (fun a => F a ∨ T a) G' H' (fun a => F' a ∨ T a) :=
  ⟨s.gg, fun a o h n => s.keep a o h fun q => n (.inl q), fun a q => by
    rcases q with q | q
    · rcases s.sub a q with q | q
      · exact .inl (.inl q)
      · exact .inr q
    · exact .inl (.inr q), fun a h h' => by
    rcases s.gnew a h h' with q | q
    · exact .inl (.inl q)
    · exact .inr q, s.there⟩
/-- what is held aside stays what it is -/
theorem Tmp.frame {s : S} {v : V} {f : List Addr} (t : Tmp K G H s v f φ) (st : Stp G H F G' H' F') (hF : ∀ a ∈ f, ¬ F a) : RelS K G' H' s v f ∧ (∀ a ∈ f, G' a = none) ∧ (∀ a ∈ f, ¬ F' a) := by
  refine ⟨t.rel.mono st.gg fun a ha o h => st.keep a o h (hF a ha), fun a ha => ?_, fun a ha q => ?_⟩
  · cases e : G' a with
    | none => rfl
    | some o =>
      rcases st.gnew a (t.gn a ha) (by rw [e]; exact fun z => nomatch z) with q | q
      · exact absurd q (hF a ha)
      · obtain ⟨o', h⟩ := t.rel.here a ha
        rw [h] at q; cases q
  · rcases st.sub a q with q | q
    · exact hF a ha q
    · obtain ⟨o', h⟩ := t.rel.here a ha
      rw [h] at q; cases q

/-! ### making something new -/
theorem Same.upd_new {p : Addr} {o : HO} (h : H p = none) : Same H (upd H p o) := fun b u e => by
  rw [upd_ne (ne_of_none e h)]; exact e
theorem Stp.newH {p : Addr} {o : HO} (h : H p = none) : Stp G H F G (upd H p o) (fun a => F a ∨ a = p) where
  gg := Same.refl G
  keep := fun a u e _ => Same.upd_new h a u e
  sub := fun a q => by
    rcases q with q | q
    · exact .inl q
    · rw [q]; exact .inr h
  gnew := fun a e e' => absurd e e'
  there := fun a e => by
    cases q : H a with
    | none => exact absurd q e
    | some u => rw [Same.upd_new h a u q]; exact fun z => nomatch z
theorem Stp.newG {p : Addr} {o : HO} (gh : Same G H) (h : H p = none) : Stp G H F (upd G p o) (upd H p o) F where
  gg := Same.upd_new (gh.free h)
  keep := fun a u e _ => Same.upd_new h a u e
  sub := fun a q => .inl q
  gnew := fun a e e' => by
    by_cases q : a = p
    · rw [q]; exact .inr h
    · rw [upd_ne q] at e'; exact absurd e e'
  there := fun a e => by
    cases q : H a with
    | none => exact absurd q e
    | some u => rw [Same.upd_new h a u q]; exact fun z => nomatch z
theorem SR.newH {p : Addr} {o : HO} (r : SR K G H ρ σ φ) (h : H p = none) : SR K G (upd H p o) ρ σ φ where
  len := r.len
  gh := r.gh.trans (Same.upd_new h)
  rel := fun i => by
    rcases r.rel i with q | ⟨v, e, q⟩
    · exact .inl q
    · exact .inr ⟨v, e, q.mono (Same.refl G) fun a _ u hu => Same.upd_new h a u hu⟩
  dj := r.dj
  gn := r.gn
theorem SR.newG {p : Addr} {o : HO} (r : SR K G H ρ σ φ) (h : H p = none) : SR K (upd G p o) (upd H p o) ρ σ φ where
  len := r.len
  gh := fun a u e => by
    by_cases q : a = p
    · subst q; rw [upd_same] at e ⊢; exact e
    · rw [upd_ne q] at e ⊢; exact r.gh a u e
  rel := fun i => by
    rcases r.rel i with q | ⟨v, e, q⟩
    · exact .inl q
    · exact .inr ⟨v, e, q.mono (Same.upd_new (r.gh.free h)) fun a _ u hu => Same.upd_new h a u hu⟩
  dj := r.dj
  gn := fun i a ha => by
    obtain ⟨u, e⟩ := r.here ⟨i, ha⟩
    rw [upd_ne (ne_of_none e h)]
    exact r.gn i a ha

/-! ### slots -/
theorem slot_set {i j : Nat} {s : S} : slot (ρ.set i s) j = if i = j ∧ i < ρ.length then s else slot ρ j := by
  unfold slot
  rw [List.getD_eq_getElem?_getD, List.getD_eq_getElem?_getD, List.getElem?_set]
  by_cases e : i = j
  · subst e
    by_cases h : i < ρ.length
    · simp [h]
    · simp [h, List.getElem?_eq_none (Nat.le_of_not_lt h)]
  · simp [e]
theorem slot_set_ne {i j : Nat} {s : S} (h : i ≠ j) : slot (ρ.set i s) j = slot ρ j := by rw [slot_set, if_neg fun q => h q.1]
/-- the footprints with i's anew -/
def upf (φ : Nat → List Addr) (i : Nat) (f : List Addr) : Nat → List Addr := fun j => if j = i then f else φ j
theorem upf_same {i : Nat} {f : List Addr} : upf φ i f i = f := if_pos rfl
theorem upf_ne {i j : Nat} {f : List Addr} (h : j ≠ i) : upf φ i f j = φ j := if_neg h
theorem own_upf {i : Nat} {f : List Addr} {a : Addr} (h : own (upf φ i f) a) : a ∈ f ∨ own φ a := by
  obtain ⟨j, hj⟩ := h
  by_cases e : j = i
  · subst e; rw [upf_same] at hj; exact .inl hj
  · rw [upf_ne e] at hj; exact .inr ⟨j, hj⟩
/-- a name is stored -/
theorem SR.store {i : Nat} {s : S} {v : V} {f : List Addr} (r : SR K G H ρ σ φ) (t : Tmp K G H s v f φ) : SR K G H (ρ.set i s) (σ.set i (some v)) (upf φ i (if i < ρ.length then f else [])) where
  len := by rw [List.length_set, List.length_set]; exact r.len
  gh := r.gh
  rel := fun j => by
    by_cases e : j = i
    · subst e
      rw [upf_same]
      by_cases hl : j < ρ.length
      · rw [if_pos hl]
        refine .inr ⟨v, by rw [List.getElem?_set_self (by rw [← r.len]; exact hl)], ?_⟩
        rw [slot_set, if_pos ⟨rfl, hl⟩]
        exact t.rel
      · rw [if_neg hl]
        refine .inl ⟨?_, rfl⟩
        rw [slot_set, if_neg fun q => hl q.2]
        unfold slot
        rw [List.getD_eq_getElem?_getD, List.getElem?_eq_none (Nat.le_of_not_lt hl)]
        rfl
    · rw [upf_ne e, slot_set_ne (Ne.symm e)]
      rcases r.rel j with q | ⟨w, e1, q⟩
      · exact .inl q
      · exact .inr ⟨w, by rw [List.getElem?_set_ne (Ne.symm e)]; exact e1, q⟩
  dj := fun j k a hj hk => by
    have off : ∀ {b : Addr}, b ∈ (if i < ρ.length then f else []) → ¬ own φ b := fun {b} hb => by
      split at hb
      · exact t.off b hb
      · cases hb
    by_cases ej : j = i
    · by_cases ek : k = i
      · rw [ej, ek]
      · rw [ej, upf_same] at hj
        rw [upf_ne ek] at hk
        exact absurd ⟨k, hk⟩ (off hj)
    · by_cases ek : k = i
      · rw [ek, upf_same] at hk
        rw [upf_ne ej] at hj
        exact absurd ⟨j, hj⟩ (off hk)
      · rw [upf_ne ej] at hj
        rw [upf_ne ek] at hk
        exact r.dj j k a hj hk
  gn := fun j a hj => by
    by_cases ej : j = i
    · rw [ej, upf_same] at hj
      split at hj
      · exact t.gn a hj
      · cases hj
    · rw [upf_ne ej] at hj
      exact r.gn j a hj
/-- a name's value is taken away (it may still stand in its slot) -/
theorem SR.drop {i : Nat} (r : SR K G H ρ σ φ) : SR K G H (ρ.set i .dead) σ (upf φ i []) where
  len := by rw [List.length_set]; exact r.len
  gh := r.gh
  rel := fun j => by
    by_cases e : j = i
    · subst e
      rw [upf_same, slot_set]
      refine .inl ⟨?_, rfl⟩
      split
      · rfl
      · rename_i h
        have hl : ¬ j < ρ.length := fun q => h ⟨rfl, q⟩
        unfold slot
        rw [List.getD_eq_getElem?_getD, List.getElem?_eq_none (Nat.le_of_not_lt hl)]
        rfl
    · rw [upf_ne e, slot_set_ne (Ne.symm e)]
      exact r.rel j
  dj := fun j k a hj hk => by
    by_cases ej : j = i
    · rw [ej, upf_same] at hj; cases hj
    · by_cases ek : k = i
      · rw [ek, upf_same] at hk; cases hk
      · rw [upf_ne ej] at hj
        rw [upf_ne ek] at hk
        exact r.dj j k a hj hk
  gn := fun j a hj => by
    by_cases ej : j = i
    · rw [ej, upf_same] at hj; cases hj
    · rw [upf_ne ej] at hj
      exact r.gn j a hj
/-- .. and what it held is a value on the way -/
theorem SR.tmp {i : Nat} {v : V} (r : SR K G H ρ σ φ) (h : RelS K G H (slot ρ i) v (φ i)) : Tmp K G H (slot ρ i) v (φ i) (upf φ i []) :=
  ⟨h, r.gn i, fun a ha q => by
    obtain ⟨j, hj⟩ := q
    by_cases e : j = i
    · rw [e, upf_same] at hj; cases hj
    · rw [upf_ne e] at hj
      exact e (r.dj j i a hj ha)⟩
/-- put into its own slot again (the slot's value is the same) -/
theorem SR.back {i : Nat} {s : S} {v : V} {f : List Addr} (r : SR K G H ρ σ φ) (t : Tmp K G H s v f φ) (hv : σ[i]? = some (some v)) : SR K G H (ρ.set i s) σ (upf φ i (if i < ρ.length then f else [])) := by
  have hi : i < σ.length := (List.getElem?_eq_some_iff.mp hv).1
  have q := r.store (i := i) t
  have e : σ.set i (some v) = σ := by
    refine List.ext_getElem? fun j => ?_
    by_cases e : i = j
    · subst e; rw [List.getElem?_set_self hi, hv]
    · rw [List.getElem?_set_ne e]
  rw [e] at q
  exact q
theorem SR.at {i : Nat} (r : SR K G H ρ σ φ) (h : slot ρ i ≠ .dead) : ∃ v, σ[i]? = some (some v) ∧ RelS K G H (slot ρ i) v (φ i) := by
  rcases r.rel i with ⟨e, _⟩ | q
  · exact absurd e h
  · exact q
/-- the whole moves on by a step that leaves the names alone -/
theorem SR.step (r : SR K G H ρ σ φ) (st : Stp G H F G' H' F') (gh : Same G' H') (hF : ∀ a, own φ a → ¬ F a) : SR K G' H' ρ σ φ where
  len := r.len
  gh := gh
  rel := fun i => by
    rcases r.rel i with q | ⟨v, e, q⟩
    · exact .inl q
    · exact .inr ⟨v, e, q.mono st.gg fun a ha o h => st.keep a o h (hF a ⟨i, ha⟩)⟩
  dj := r.dj
  gn := fun i a ha => by
    cases e : G' a with
    | none => rfl
    | some o =>
      rcases st.gnew a (r.gn i a ha) (by rw [e]; exact fun z => nomatch z) with q | q
      · exact absurd q (hF a ⟨i, ha⟩)
      · obtain ⟨o', h⟩ := r.here ⟨i, ha⟩
        rw [h] at q; cases q
end

/-! ### what is looked at -/
/-- v shows d: data at rest, or an owned list's or dict's items -/
def VW (K : PySem.W.Frag) (G H : Hp) (v : V) (d : PyData) : Prop :=
  DP K G v d ∨ (∃ a vs ds, v = .ref a ∧ d = .list ds ∧ H a = some (.lst vs) ∧ DPs K G vs ds) ∨
    ∃ a ds, v = .ref a ∧ d = .dict ds ∧ ((∃ kv, H a = some (.dK kv) ∧ DKs K G kv ds) ∨ ∃ kv, H a = some (.dT kv) ∧ DTs K G kv ds)
section
variable {K : PySem.W.Frag} {G H : Hp} {v : V} {d : PyData}
theorem VW.of {s : S} {f : List Addr} (r : RelS K G H s v f) (h : view s = some d) : VW K G H v d := by
  cases s with
  | val e => cases h; exact .inl r.1
  | lst xs =>
    cases h
    obtain ⟨a, vs, e, h1, h2, _⟩ := r
    exact .inr (.inl ⟨a, vs, xs, e, rfl, h1, h2⟩)
  | dct kvs =>
    cases h
    obtain ⟨a, e, _, h1⟩ := r
    exact .inr (.inr ⟨a, kvs, e, rfl, h1⟩)
  | dead => cases h
theorem VW.dp (gh : Same G H) (h : VW K G H v d) : DP K H v d := by
  rcases h with h | ⟨a, vs, ds, rfl, rfl, h1, h2⟩ | ⟨a, ds, rfl, rfl, ⟨kv, h1, h2⟩ | ⟨kv, h1, h2⟩⟩
  · exact h.mono gh
  · exact .lst (.inl (.inl h1)) (h2.mono gh)
  · exact .dctK h1 (h2.mono gh)
  · exact .dctT h1 (h2.mono gh)
theorem VW.int {i : Int} (h : VW K G H v (.int i)) : v = .int i := by
  rcases h with h | ⟨a, vs, ds, _, e, _⟩ | ⟨a, ds, _, e, _⟩
  · cases h; rfl
  · cases e
  · cases e
theorem VW.bool {i : Bool} (h : VW K G H v (.bool i)) : v = .bl i := by
  rcases h with h | ⟨a, vs, ds, _, e, _⟩ | ⟨a, ds, _, e, _⟩
  · cases h; rfl
  · cases e
  · cases e
theorem VW.str {i : Str} (h : VW K G H v (.str i)) : v = .str i := by
  rcases h with h | ⟨a, vs, ds, _, e, _⟩ | ⟨a, ds, _, e, _⟩
  · cases h; rfl
  · cases e
  · cases e
theorem VW.none (h : VW K G H v .none) : v = .non := by
  rcases h with h | ⟨a, vs, ds, _, e, _⟩ | ⟨a, ds, _, e, _⟩
  · cases h; rfl
  · cases e
  · cases e
theorem VW.list (gh : Same G H) {ds : List PyData} (h : VW K G H v (.list ds)) : ∃ a vs, v = .ref a ∧ SqL K H a vs ∧ DPs K G vs ds := by
  rcases h with h | ⟨a, vs, ds', rfl, e, h1, h2⟩ | ⟨a, ds, _, e, _⟩
  · cases h with
    | lst h1 h2 => exact ⟨_, _, rfl, gh.seq h1, h2⟩
  · cases e
    exact ⟨a, vs, rfl, .inl (.inl h1), h2⟩
  · cases e
theorem VW.tuple {ds : List PyData} (h : VW K G H v (.tuple ds)) : ∃ a vs, v = .ref a ∧ SqT K G a vs ∧ DPs K G vs ds := by
  rcases h with h | ⟨a, vs, ds', rfl, e, h1, h2⟩ | ⟨a, ds, _, e, _⟩
  · cases h with
    | tup h1 h2 => exact ⟨_, _, rfl, h1, h2⟩
  · cases e
  · cases e
end
end VE

/-! VS2: readings by the evaluator; operands, operations. -/
namespace VE
open PySem L2 PySem.Spec PyProof.Rows

/-- how the exception c with its kept value d stands in a heap -/
abbrev XR := Nat → Option PyData → Value → Option Addr → Hp → Prop
section
variable (K : PySem.W.Frag) (xr : XR) (W : WX)
/-- what is wanted behind an evaluation that began at G, H, φ -/
def PoX (σ : L2.St) (G H : Hp) (φ : Nat → List Addr) (c : Nat) (d : Option PyData) (ρ' : List S) : Prop :=
  ∀ G' H' φ' cls dd, Stp G H (own φ) G' H' (own φ') → SR K G' H' ρ' σ φ' → xr c d cls dd H' → W cls dd σ H'
def PoE (σ : L2.St) (G H : Hp) (φ : Nat → List Addr) (r : R S) (Q : VK) : Prop := match r with
  | .stk => False
  | .ok s ρ' => ∀ v G' H' φ' f, Stp G H (own φ) G' H' (fun a => own φ' a ∨ a ∈ f) → SR K G' H' ρ' σ φ' → Tmp K G' H' s v f φ' → Q v H'
  | .exc c d ρ' => PoX K xr W σ G H φ c d ρ'
def tE (ev : List S → R S) : TE := fun σ H Q => ∃ ρ G φ, SR K G H ρ σ φ ∧ PoE K xr W σ G H φ (ev ρ) Q
variable (Φ : Fns)
def tA : A → TE
  | .pl i => tVar i
  | .e x => tE K xr W (evE Φ x)
def tAs : List A → TA
  | [] => tNil
  | a :: as => tCons (tA K xr W Φ a) (tAs as)
end
def OpR1 (K : PySem.W.Frag) (G H : Hp) (σ : L2.St) (a : A) (t : Option S) (v : V) (f : List Addr) : Prop := match a with
  | .pl i => f = [] ∧ σ[i]? = some (some v)
  | .e _ => ∃ s, t = some s ∧ RelS K G H s v f
inductive Ops (K : PySem.W.Frag) (G H : Hp) (σ : L2.St) : List A → List (Option S) → List V → List Addr → Prop
  | nil : Ops K G H σ [] [] [] []
  | cons {a as t ts v vs f g} : OpR1 K G H σ a t v f → Ops K G H σ as ts vs g → (∀ x ∈ f, x ∉ g) → Ops K G H σ (a :: as) (t :: ts) (v :: vs) (f ++ g)
section
variable {K : PySem.W.Frag} {xr : XR} {W : WX} {Φ : Fns} {σ : L2.St} {G H G' H' : Hp} {φ φ' : Nat → List Addr} {ρ : List S} {Q : VK}
theorem PoX.from {c : Nat} {d : Option PyData} (h : PoX K xr W σ G H φ c d ρ) (st : Stp G H (own φ) G' H' (own φ')) : PoX K xr W σ G' H' φ' c d ρ :=
  fun G2 H2 φ2 cls dd s2 r2 x => h G2 H2 φ2 cls dd (st.trans s2) r2 x
theorem PoE.from {r : R S} (h : PoE K xr W σ G H φ r Q) (st : Stp G H (own φ) G' H' (own φ')) : PoE K xr W σ G' H' φ' r Q := by
  cases r with
  | stk => exact h
  | ok s ρ' => exact fun v G2 H2 φ2 f s2 r2 t2 => h v G2 H2 φ2 f (st.trans s2) r2 t2
  | exc c d ρ' => exact PoX.from h st
theorem fin_val {v : V} {d : PyData} (r : SR K G H ρ σ φ) (hd : DP K G v d) (h : PoE K xr W σ G H φ (.ok (.val d) ρ) Q) : Q v H :=
  h v G H φ [] (Stp.refl.weak fun a q => q.elim id fun z => nomatch z) r ⟨⟨hd, rfl⟩, (fun _ z => nomatch z), fun _ z => nomatch z⟩
theorem fin_lst {p : Addr} {vs : List V} {ds : List PyData} (r : SR K G H ρ σ φ) (hp : H p = none) (hd : DPs K G vs ds) (h : PoE K xr W σ G H φ (.ok (.lst ds) ρ) Q) : Q (.ref p) (upd H p (.lst vs)) :=
  h _ G _ φ [p] ((Stp.newH hp).weak fun a q => q.imp id fun z => List.mem_singleton.mp z) (r.newH hp) ⟨⟨p, vs, rfl, upd_same, hd, rfl⟩, (fun a ha => by
    obtain rfl := List.mem_singleton.mp ha
    exact r.gh.free hp), fun a ha q => by
    obtain rfl := List.mem_singleton.mp ha
    obtain ⟨o, e⟩ := r.here q
    rw [hp] at e; cases e⟩
theorem fin_tup {p : Addr} {vs : List V} {ds : List PyData} (r : SR K G H ρ σ φ) (hp : H p = none) (hd : DPs K G vs ds) (h : PoE K xr W σ G H φ (.ok (.val (.tuple ds)) ρ) Q) : Q (.ref p) (upd H p (.tup vs)) :=
  h _ _ _ φ [] ((Stp.newG r.gh hp).weak fun a q => q.elim id fun z => nomatch z) (r.newG hp) ⟨⟨.tup (.inl (.inl upd_same)) (hd.mono (Same.upd_new (r.gh.free hp))), rfl⟩, (fun _ z => nomatch z), fun _ z => nomatch z⟩
theorem fin_int {i : Int} (r : SR K G H ρ σ φ) (h : PoE K xr W σ G H φ (.ok (.val (.int i)) ρ) Q) : Q (.int i) H := fin_val r (.int i) h
theorem fin_bool {i : Bool} (r : SR K G H ρ σ φ) (h : PoE K xr W σ G H φ (.ok (.val (.bool i)) ρ) Q) : Q (.bl i) H := fin_val r (.bl i) h
theorem fin_str {i : Str} (r : SR K G H ρ σ φ) (h : PoE K xr W σ G H φ (.ok (.val (.str i)) ρ) Q) : Q (.str i) H := fin_val r (.str i) h
theorem fin_none (r : SR K G H ρ σ φ) (h : PoE K xr W σ G H φ (.ok (.val .none) ρ) Q) : Q .non H := fin_val r .non h

/-! ### operands -/
def PoL (K : PySem.W.Frag) (xr : XR) (W : WX) (σ : L2.St) (G H : Hp) (φ : Nat → List Addr) (as : List A) (r : R (List (Option S))) (Q : List V → Hp → Prop) : Prop := match r with
  | .stk => False
  | .ok ts ρ' => ∀ vs G' H' φ' fs, Stp G H (own φ) G' H' (fun a => own φ' a ∨ a ∈ fs) → SR K G' H' ρ' σ φ' → Ops K G' H' σ as ts vs fs → (∀ a ∈ fs, G' a = none ∧ ¬ own φ' a) → Q vs H'
  | .exc c d ρ' => PoX K xr W σ G H φ c d ρ'
theorem ops : ∀ (as : List A) (ρ : List S) (G H : Hp) (φ : Nat → List Addr) (Q : List V → Hp → Prop), SR K G H ρ σ φ → PoL K xr W σ G H φ as (evAs Φ as ρ) Q → tAs K xr W Φ as σ H Q
  | [], ρ, G, H, φ, Q, r, h => by
    rw [evAs] at h
    exact h [] G H φ [] (Stp.refl.weak fun a q => q.elim id fun z => nomatch z) r .nil fun _ z => nomatch z
  | .pl i :: as, ρ, G, H, φ, Q, r, h => by
    rw [evAs, evA] at h
    have hd : slot ρ i ≠ .dead := fun e => by
      rw [e] at h
      exact h
    obtain ⟨v, hv, _⟩ := r.at hd
    have h' : PoL K xr W σ G H φ (.pl i :: as) ((evAs Φ as ρ).bnd fun ss ρ'' => .ok (none :: ss) ρ'') Q := by
      cases e : slot ρ i with
      | dead => exact absurd e hd
      | val d => rw [e] at h; exact h
      | lst d => rw [e] at h; exact h
      | dct d => rw [e] at h; exact h
    refine ⟨v, hv, ops as ρ G H φ _ r ?_⟩
    cases e : evAs Φ as ρ with
    | stk => rw [e] at h'; exact h'
    | exc c d ρ' => rw [e] at h'; exact h'
    | ok ts ρ' =>
      rw [e] at h'
      exact fun vs G' H' φ' fs st r' o t => h' (v :: vs) G' H' φ' fs st r' (.cons (f := []) ⟨rfl, hv⟩ o fun _ z => nomatch z) t
  | .e x :: as, ρ, G, H, φ, Q, r, h => by
    rw [evAs, evA] at h
    refine ⟨ρ, G, φ, r, ?_⟩
    cases e1 : evE Φ x ρ with
    | stk => rw [e1] at h; exact h
    | exc c d ρ' => rw [e1] at h; exact h
    | ok s ρ1 =>
      rw [e1] at h
      simp only [R.bnd] at h
      intro v G1 H1 φ1 f st1 r1 t1
      refine ops as ρ1 G1 H1 φ1 _ r1 ?_
      cases e2 : evAs Φ as ρ1 with
      | stk => rw [e2] at h; exact h
      | exc c d ρ' =>
        rw [e2] at h
        exact PoX.from h (st1.weak fun _ q => .inl q)
      | ok ts ρ2 =>
        rw [e2] at h
        intro vs G2 H2 φ2 fs st2 r2 o2 t2
        obtain ⟨q1, q2, q3⟩ := t1.frame st2 t1.off
        refine h (v :: vs) G2 H2 φ2 (f ++ fs) ((st1.trans (st2.frame fun a ha => ⟨t1.off a ha, ?_⟩)).weak fun a q => ?_) r2 (.cons ⟨s, rfl, q1⟩ o2 fun a ha hb => q3 a ha (.inr hb)) fun a ha => ?_
        · obtain ⟨o, e⟩ := t1.rel.here a ha
          rw [e]; exact fun z => nomatch z
        · rcases q with q | q
          · exact .inl (.inl q)
          · rcases List.mem_append.mp q with q | q
            · exact .inr q
            · exact .inl (.inr q)
        · rcases List.mem_append.mp ha with q | q
          · exact ⟨q2 a q, fun z => q3 a q (.inl z)⟩
          · exact t2 a q
/-- operands, then a step k -/
theorem opsE {as : List A} {k : List (Option S) → List S → R S} {Qr : List V → Hp → Prop} (r : SR K G H ρ σ φ) (h : PoE K xr W σ G H φ ((evAs Φ as ρ).bnd k) Q)
    (hop : ∀ ts ρ' vs G' H' φ' fs, SR K G' H' ρ' σ φ' → Ops K G' H' σ as ts vs fs → (∀ a ∈ fs, G' a = none ∧ ¬ own φ' a) → PoE K xr W σ G' H' φ' (k ts ρ') Q → Stp G H (own φ) G' H' (fun a => own φ' a ∨ a ∈ fs) → Qr vs H') : tAs K xr W Φ as σ H Qr := by
  refine ops as ρ G H φ Qr r ?_
  cases e : evAs Φ as ρ with
  | stk => rw [e] at h; exact h
  | exc c d ρ' => rw [e] at h; exact h
  | ok ts ρ' =>
    rw [e] at h
    exact fun vs G' H' φ' fs st r' o t => hop ts ρ' vs G' H' φ' fs r' o t (PoE.from h (st.weak fun _ q => .inl q)) st
/-- what the operands show -/
theorem OpR1.vw {a : A} {t : Option S} {v : V} {f : List Addr} {d : PyData} (r : SR K G H ρ σ φ) (o : OpR1 K G H σ a t v f) (h : res a (t.bind view) ρ = some d) : VW K G H v d := by
  cases a with
  | pl i =>
    have h : view (slot ρ i) = some d := h
    have hd : slot ρ i ≠ .dead := fun e => by rw [e] at h; cases h
    obtain ⟨w, hw, q⟩ := r.at hd
    rw [o.2] at hw
    cases hw
    exact VW.of q h
  | e x =>
    obtain ⟨s, rfl, q⟩ := o
    exact VW.of q h
inductive VWs (K : PySem.W.Frag) (G H : Hp) : List V → List PyData → Prop
  | nil : VWs K G H [] []
  | cons {v vs d ds} : VW K G H v d → VWs K G H vs ds → VWs K G H (v :: vs) (d :: ds)
theorem Ops.vws (r : SR K G H ρ σ φ) : ∀ {as : List A} {ts : List (Option S)} {vs : List V} {fs : List Addr} {ds : List PyData}, Ops K G H σ as ts vs fs → ress as (ts.map (·.bind view)) ρ = some ds → VWs K G H vs ds
  | _, _, _, _, _, .nil, h => by cases h; exact .nil
  | _, _, _, _, ds, .cons (a := a) (as := as) (t := t) (ts := ts) o os _, h => by
    simp only [List.map_cons, ress] at h
    split at h
    · rename_i d ds' e1 e2
      cases h
      exact .cons (o.vw r e1) (Ops.vws r os e2)
    · cases h
theorem Ops.two {a b : A} {ts : List (Option S)} {vs : List V} {fs : List Addr} (o : Ops K G H σ [a, b] ts vs fs) : ∃ t u x y f g, ts = [t, u] ∧ vs = [x, y] ∧ OpR1 K G H σ a t x f ∧ OpR1 K G H σ b u y g ∧ fs = f ++ (g ++ []) := by
  cases o with
  | cons o1 o2 _ =>
    cases o2 with
    | cons o2 o3 _ =>
      cases o3
      exact ⟨_, _, _, _, _, _, rfl, rfl, o1, o2, rfl⟩
theorem Ops.one {a : A} {ts : List (Option S)} {vs : List V} {fs : List Addr} (o : Ops K G H σ [a] ts vs fs) : ∃ t x f, ts = [t] ∧ vs = [x] ∧ OpR1 K G H σ a t x f ∧ fs = f ++ [] := by
  cases o with
  | cons o1 o2 _ =>
    cases o2
    exact ⟨_, _, _, rfl, rfl, o1, rfl⟩

/-! ### two-place operations -/
/-- the operation's answer by data -/
def rD (K : PySem.W.Frag) (xr : XR) (W : WX) (g : PyData → PyData → Option S) : R2 := fun x y H Q => ∃ σ G φ ρ d e, SR K G H ρ σ φ ∧ VW K G H x d ∧ VW K G H y e ∧ PoE K xr W σ G H φ (ofO (g d e) ρ) Q
theorem op2 {a b : A} {g : PyData → PyData → Option S} {r : R2} (hr : ∀ x y H Q, rD K xr W g x y H Q → r x y H Q) (sr : SR K G H ρ σ φ)
    (h : PoE K xr W σ G H φ ((evA Φ a ρ).bnd fun t ρ' => (evA Φ b ρ').bnd fun u ρ'' => fin2 a b t u ρ'' g) Q) : tOp r (tA K xr W Φ a) (tA K xr W Φ b) σ H Q := by
  have h' : PoE K xr W σ G H φ ((evAs Φ [a, b] ρ).bnd fun ts ρ'' => match ts with
    | [t, u] => fin2 a b t u ρ'' g
    | _ => .stk) Q := by
    simp only [evAs]
    cases e1 : evA Φ a ρ with
    | stk => rw [e1] at h; exact h
    | exc c d ρ' => rw [e1] at h; exact h
    | ok t ρ1 =>
      rw [e1] at h
      simp only [R.bnd] at h ⊢
      cases e2 : evA Φ b ρ1 with
      | stk => rw [e2] at h; exact h
      | exc c d ρ' => rw [e2] at h; exact h
      | ok u ρ2 => rw [e2] at h; exact h
  refine opsE (as := [a, b]) (Q := Q) (Qr := fun vs H2 => match vs with | [x, y] => r x y H2 Q | _ => False) sr h' ?_
  intro ts ρ' vs G' H' φ' fs r' o _ q _
  obtain ⟨t, u, x, y, f, g', rfl, rfl, o1, o2, _⟩ := o.two
  refine hr x y H' Q ?_
  simp only [fin2] at q
  split at q
  · rename_i d d' h1 h2
    exact ⟨σ, G', φ', ρ', d, d', r', o1.vw r' h1, o2.vw r' h2, q⟩
  · exact q.elim
/-- one operand -/
def rD1 (K : PySem.W.Frag) (xr : XR) (W : WX) (g : PyData → Option S) : V → Hp → VK → Prop := fun x H Q => ∃ σ G φ ρ d, SR K G H ρ σ φ ∧ VW K G H x d ∧ PoE K xr W σ G H φ (ofO (g d) ρ) Q
theorem op1 {a : A} {g : PyData → Option S} {r : V → Hp → VK → Prop} (hr : ∀ x H Q, rD1 K xr W g x H Q → r x H Q) (sr : SR K G H ρ σ φ)
    (h : PoE K xr W σ G H φ ((evA Φ a ρ).bnd fun t ρ' => fin1 a t ρ' g) Q) : tUn r (tA K xr W Φ a) σ H Q := by
  have h' : PoE K xr W σ G H φ ((evAs Φ [a] ρ).bnd fun ts ρ'' => match ts with
    | [t] => fin1 a t ρ'' g
    | _ => .stk) Q := by
    simp only [evAs]
    cases e1 : evA Φ a ρ with
    | stk => rw [e1] at h; exact h
    | exc c d ρ' => rw [e1] at h; exact h
    | ok t ρ1 => rw [e1] at h; exact h
  refine opsE (as := [a]) (Q := Q) (Qr := fun vs H2 => match vs with | [x] => r x H2 Q | _ => False) sr h' ?_
  intro ts ρ' vs G' H' φ' fs r' o _ q _
  obtain ⟨t, x, f, rfl, rfl, o1, _⟩ := o.one
  refine hr x H' Q ?_
  simp only [fin1] at q
  split at q
  · rename_i d h1
    exact ⟨σ, G', φ', ρ', d, r', o1.vw r' h1, q⟩
  · exact q.elim
/-- a built-in's operands -/
def rDs (K : PySem.W.Frag) (xr : XR) (W : WX) (g : List PyData → Option S) : List V → Hp → VK → Prop := fun xs H Q => ∃ σ G φ ρ ds, SR K G H ρ σ φ ∧ VWs K G H xs ds ∧ PoE K xr W σ G H φ (ofO (g ds) ρ) Q
theorem opN {as : List A} {g : List PyData → Option S} {r : List V → Hp → VK → Prop} (hr : ∀ x H Q, rDs K xr W g x H Q → r x H Q) (sr : SR K G H ρ σ φ)
    (h : PoE K xr W σ G H φ ((evAs Φ as ρ).bnd fun ts ρ' => match ress as (ts.map (·.bind view)) ρ' with
      | some ds => ofO (g ds) ρ'
      | none => .stk) Q) : tCB r (tAs K xr W Φ as) σ H Q := by
  refine opsE (Q := Q) sr h ?_
  intro ts ρ' vs G' H' φ' fs r' o _ q _
  refine hr vs H' Q ?_
  split at q
  · rename_i ds h1
    exact ⟨σ, G', φ', ρ', ds, r', o.vws r' h1, q⟩
  · exact q.elim
end
section
variable {X : Cx} {xr : XR} {W : WX}
theorem op_powW : OpR X (binaryOp .Pow) (rI (fun i j => 0 ≤ j ∧ j ≤ 1000 ∧ i.natAbs.log2 < 1000) fun i j => .int (i ^ j.toNat)) := opI fun i j _ _ _ _ _ hc q => by
  refine pow_int hc.1 ?_ q
  have b : Builtin.Int.intBits i ≤ i.natAbs.log2 + 1 := by
    unfold Builtin.Int.intBits
    split <;> omega
  have h1 : Builtin.Int.intBits i ≤ 1000 := by have := hc.2.2; omega
  have h2 : ((Builtin.Int.intBits i : Nat) : Int) * j ≤ 1000 * 1000 := Int.mul_le_mul (by omega) hc.2.1 hc.1 (by decide)
  omega
theorem vals_len {xs : List V} {us : List Value} (r : Vals xs us) : xs.length = us.length := r.length
def rCatL (K : PySem.W.Frag) : R2 := fun x y H Q => ∃ l b xs zs, x = .ref l ∧ y = .ref b ∧ SqL K H l xs ∧ SqL K H b zs ∧ xs.length + zs.length ≤ sizeLine ∧ ∀ p, H p = none → Q (.ref p) (upd H p (.lst (xs ++ zs)))
theorem op_catL : OpR X (binaryOp .Add) (rCatL X.K) := by
  intro pins s σ H x y v u Q I rx ry h
  obtain ⟨l, b, xs, zs, rfl, rfl, hH, hB, hz, q⟩ := h
  cases rx
  cases ry
  obtain ⟨its, r, p1, _⟩ := I.list hH
  obtain ⟨its2, r2, p2, _⟩ := I.list hB
  obtain ⟨⟨cls, dd, data, sl⟩, ho, hc, n, hd⟩ := p1.isList
  obtain ⟨⟨cls2, dd2, data2, sl2⟩, ho2, hc2, n2, hd2⟩ := p2.isList
  simp only at hc hd hc2 hd2
  subst hc hd hc2 hd2
  have e : its.toArray ++ its2.toArray = (its ++ its2).toArray := by simp
  refine concat_meets ⟨_, ho, rfl⟩ ⟨_, ho2, rfl⟩ noFill_list_add seq_list_add PySem.F.slot_list_add PySem.F.entry_list_add (PySem.F.args_list_add_2 _ _) (list_addW l b its.toArray its2.toArray n n2 dd dd2 sl sl2 (by rw [List.size_toArray, List.size_toArray, ← r.length, ← r2.length]; exact hz)) ⟨ho, ho2, ?_⟩
  rw [e]
  exact ⟨.ref _, _, I.lnew (t' := s.toks) (r.append r2) (by rw [List.length_append]; exact hz), rfl, q _ I.fresh⟩
def rRepL (K : PySem.W.Frag) : R2 := fun x y H Q => ∃ l k xs, x = .ref l ∧ y = .int k ∧ SqL K H l xs ∧ 0 ≤ k ∧ k < 2 ^ 63 ∧ xs.length * k.toNat ≤ sizeLine ∧
  ∀ p, H p = none → Q (.ref p) (upd H p (.lst (List.replicate k.toNat xs).flatten))
theorem op_repL : OpR X (binaryOp .Mult) (rRepL X.K) := by
  intro pins s σ H x y v u Q I rx ry h
  obtain ⟨l, k, xs, rfl, rfl, hH, h0, h1, hz, q⟩ := h
  cases rx
  obtain ⟨t, rfl⟩ := ry
  obtain ⟨its, r, p1, _⟩ := I.list hH
  obtain ⟨⟨cls, d, data, sl⟩, ho, hcl, n, hd⟩ := p1.isList
  simp only at hcl hd
  subst hcl hd
  have hsl := sizeLine_eq
  have hl : xs.length = its.length := r.length
  have hsz' : its.toArray.size * k.toNat ≤ 2 ^ 24 := by rw [List.size_toArray, ← hl]; omega
  refine wpAny_binaryOp_repeat_ref (T := "list") (U := "int") (by decide) ⟨_, ho, rfl⟩ (fun s' => typeIs_int s' k t) noFill_list_mul PySem.F.fills_int_mul PySem.F.slot_int_rmul repeat_list PySem.F.slot_int_index.lookup
    (call_meets PySem.F.slot_int_rmul (typeIs_int s k t) PySem.F.entry_int_rmul (PySem.F.args_int_rmul_2 _ _) (lm_int_rmul_list_any k t l its.toArray n d sl)
      ⟨ho, rfl, ⟨_, ho, rfl⟩, call_meets PySem.F.slot_list_mul ⟨_, ho, rfl⟩ PySem.F.entry_list_mul (PySem.F.args_list_mul_2 _ _)
        (lm_list_mul_any l its.toArray n d sl k t (by simp [Builtin.List.listFitsIndex]; omega) (by omega) (by simp [Builtin.List.listTooLong, sizeLine]; omega))
        ⟨ho, ?_⟩⟩)
  have ef := listMul_foldl_if its.toArray k.toNat
  simp only [] at ef
  rw [ef]
  exact ⟨.ref _, _, I.lnew (t' := s.toks) (r.rep k.toNat) (by rw [PyProof.Rows.lm_len_rep_flat, Nat.mul_comm]; exact hz), rfl, q _ I.fresh⟩
def srcB : Bop → Operator
  | .add => .Add
  | .sub => .Sub
  | .mul => .Mult
  | .fdiv => .FloorDiv
  | .mod => .Mod
  | .pow => .Pow
theorem opB_ok (o : Bop) : OpR X (binaryOp (srcB o)) (rD X.K xr W (opB o)) := by
  intro pins s σ H x y v u Q I rx ry h
  obtain ⟨σ0, G, φ, ρ, d, e, sr, vx, vy, h⟩ := h
  unfold opB at h
  split at h
  · rw [vx.int] at rx; rw [vy.int] at ry
    exact op_add pins s σ H _ _ v u Q I rx ry ⟨_, _, rfl, rfl, fin_int sr h⟩
  · rw [vx.int] at rx; rw [vy.int] at ry
    exact op_sub pins s σ H _ _ v u Q I rx ry ⟨_, _, rfl, rfl, fin_int sr h⟩
  · rw [vx.int] at rx; rw [vy.int] at ry
    split at h
    · rename_i hc
      simp only [mulOk, Bool.or_eq_true, decide_eq_true_eq] at hc
      rcases hc with (hc | hc) | hc
      · exact op_mul pins s σ H _ _ v u Q I rx ry ⟨_, _, rfl, rfl, .inl (by omega), fin_int sr h⟩
      · exact op_mul pins s σ H _ _ v u Q I rx ry ⟨_, _, rfl, rfl, .inr (by omega), fin_int sr h⟩
      · exact op_mulW pins s σ H _ _ v u Q I rx ry ⟨_, _, rfl, rfl, hc, fin_int sr h⟩
    · exact h.elim
  · rw [vx.int] at rx; rw [vy.int] at ry
    split at h
    · rename_i hc
      simp only [divOk, Bool.and_eq_true, decide_eq_true_eq] at hc
      exact op_fdivW pins s σ H _ _ v u Q I rx ry ⟨_, _, rfl, rfl, hc, fin_int sr h⟩
    · exact h.elim
  · rw [vx.int] at rx; rw [vy.int] at ry
    split at h
    · rename_i hc
      exact op_mod pins s σ H _ _ v u Q I rx ry ⟨_, _, rfl, rfl, of_decide_eq_true hc, fin_int sr h⟩
    · exact h.elim
  · rw [vx.int] at rx; rw [vy.int] at ry
    split at h
    · rename_i hc
      simp only [powOk, Bool.and_eq_true, decide_eq_true_eq] at hc
      exact op_powW pins s σ H _ _ v u Q I rx ry ⟨_, _, rfl, rfl, ⟨hc.1.1, hc.1.2, hc.2⟩, fin_int sr h⟩
    · exact h.elim
  · rw [vx.str] at rx; rw [vy.str] at ry
    split at h
    · rename_i hc
      exact op_add_str pins s σ H _ _ v u Q I rx ry ⟨_, _, rfl, rfl, of_decide_eq_true hc, fin_str sr h⟩
    · exact h.elim
  · obtain ⟨a, xs, rfl, h1, h2⟩ := vx.list sr.gh
    obtain ⟨b, ys, rfl, h3, h4⟩ := vy.list sr.gh
    split at h
    · rename_i hc
      exact op_catL pins s σ H _ _ v u Q I rx ry ⟨a, b, xs, ys, rfl, rfl, h1, h3, by rw [h2.length, h4.length]; exact of_decide_eq_true hc, fun p hp => fin_lst sr hp (h2.app h4) h⟩
    · exact h.elim
  · obtain ⟨a, xs, rfl, h1, h2⟩ := vx.tuple
    obtain ⟨b, ys, rfl, h3, h4⟩ := vy.tuple
    split at h
    · rename_i hc
      obtain ⟨hx, hy, hz⟩ := of_decide_eq_true hc
      have n1 : xs ≠ [] := fun e => hx (by subst e; cases h2; rfl)
      have n2 : ys ≠ [] := fun e => hy (by subst e; cases h4; rfl)
      exact op_catT pins s σ H _ _ v u Q I rx ry ⟨a, b, xs, ys, rfl, rfl, Same.seqT sr.gh h1, Same.seqT sr.gh h3, n1, by rw [h2.length, h4.length]; exact hz, fun e => absurd e n2, fun _ p hp => fin_tup sr hp (h2.app h4) h⟩
    · exact h.elim
  · rw [vx.str] at rx; rw [vy.int] at ry
    split at h
    · rename_i a k hc
      simp only [Bool.and_eq_true, decide_eq_true_eq] at hc
      obtain ⟨⟨⟨⟨c1, c2⟩, c3⟩, c4⟩, c5⟩ := hc
      obtain ⟨t, rfl⟩ := rx
      obtain ⟨t', rfl⟩ := ry
      have hm : ((a.length : Int)) * k ≤ 1000 * 1000 := Int.mul_le_mul (by omega) c2 (by omega) (by omega)
      have hm2 : a.length * k.toNat ≤ 1000 * 1000 := Nat.mul_le_mul c4 (by omega)
      have n1 : (k == 1 || a.length == 0) = false := by
        rw [beq_false_of_ne (show k ≠ 1 by omega), beq_false_of_ne (show a.length ≠ 0 by omega)]
        rfl
      refine PySem.P.mul_str (by rw [decide_eq_false (by omega), decide_eq_false (by omega)]; rfl) (fun _ _ z => ?_) (fun _ _ => ?_) ?_
      · have q : (a.length : Int) ≤ (2 ^ 63 - 1) / k := (Int.le_ediv_iff_mul_le (by omega)).mpr (by omega)
        omega
      · unfold Builtin.Str.tooLong
        have := sizeLine_eq
        exact decide_eq_false (by omega)
      · rw [if_neg (by omega), n1, if_neg Bool.false_ne_true]
        exact ⟨c5, .str (repS a k), H, I.tok _, ⟨_, rfl⟩, fin_str sr h⟩
    · exact h.elim
  · obtain ⟨a, xs, rfl, h1, h2⟩ := vx.list sr.gh
    rw [vy.int] at ry
    split at h
    · rename_i hc
      simp only [Bool.and_eq_true, decide_eq_true_eq] at hc
      exact op_repL pins s σ H _ _ v u Q I rx ry ⟨a, _, xs, rfl, rfl, h1, hc.1.1, hc.1.2, by rw [h2.length]; exact hc.2, fun p hp => fin_lst sr hp (h2.rep _) h⟩
    · exact h.elim
  · exact h.elim
def srcC : Cop → CmpOp
  | .eq => .Eq
  | .ne => .NotEq
  | .lt => .Lt
  | .le => .LtE
  | .gt => .Gt
  | .ge => .GtE
  | .is => .Is
  | .isnot => .IsNot
  | .mem => .In
  | .notmem => .NotIn
theorem VW.isN {K : PySem.W.Frag} {G H : Hp} {v : V} {d : PyData} (h : VW K G H v d) : decide (v = .non) = isNone d := by
  rcases h with h | ⟨a, vs, ds, rfl, rfl, h1, h2⟩ | ⟨a, ds, rfl, rfl, _⟩
  · cases h <;> rfl
  · rfl
  · rfl
theorem canLay_of {d : PyData} (h : SeqAt.shaped d = true) : d.canLay0 = true := SeqAt.canLay_of_shaped h
theorem keyD_kD (k : Key) : keyD (kD k) = some k := by cases k <;> rfl
theorem keyD_kV {K : PySem.W.Frag} {G H : Hp} {x : V} {d : PyData} {k : Key} (h : keyD d = some k) (vx : VW K G H x d) : x = kV k := by
  cases d with
  | int i => cases h; exact vx.int
  | str z => cases h; exact vx.str
  | _ => cases h
theorem keysD_dks {K : PySem.W.Frag} {G : Hp} : ∀ {kv : List (Key × V)} {kvs : List (PyData × PyData)} {ks : List Key}, DKs K G kv kvs → keysD kvs = some ks → ks = kv.map (·.1)
  | _, _, _, .nil, h => by cases h; rfl
  | _, _, ks, .cons (k := k) (vs := vs) (ds := ds) _ r, h => by
    simp only [keysD, keyD_kD] at h
    cases e : keysD ds with
    | none => rw [e] at h; cases h
    | some ks' =>
      rw [e] at h
      cases h
      rw [keysD_dks r e]
      rfl
theorem inDict_ok {K : PySem.W.Frag} {G H : Hp} {x y : V} {a : PyData} {kvs : List (PyData × PyData)} {b : Bool} (gh : Same G H) (h : inDict a kvs = some b) (vx : VW K G H x a) (vy : VW K G H y (.dict kvs)) : ∃ c o, y = .ref c ∧ DGet H c x o ∧ o.isSome = b := by
  unfold inDict at h
  cases e1 : keyD a with
  | none => rw [e1] at h; cases h
  | some k =>
    cases e2 : keysD kvs with
    | none => rw [e1, e2] at h; cases h
    | some ks =>
      rw [e1, e2] at h
      simp only at h
      obtain rfl := keyD_kV e1 vx
      have fk : ∀ {c : Addr} {kv : List (Key × V)}, H c = some (.dK kv) → DKs K G kv kvs → ∃ c' o, V.ref c = .ref c' ∧ DGet H c' (kV k) o ∧ o.isSome = b := fun {c kv} hc hd => by
        refine ⟨c, _, rfl, DGet.k hc, ?_⟩
        rw [← valV_any]
        obtain rfl := keysD_dks hd e2
        split at h
        · cases h
        · rw [← Option.some.inj h, List.any_map]
          rfl
      have ft : ∀ {kv : List (List Key × V)}, DTs K G kv kvs → False := fun {kv} hd => by
        cases hd with
        | nil => cases e2; cases h
        | cons _ _ => simp [keysD, keyD] at e2
      rcases vy with vy | ⟨_, _, _, _, z, _⟩ | ⟨c, ds, rfl, z, ⟨kv, hc, hd⟩ | ⟨kv, hc, hd⟩⟩
      · cases vy with
        | dctK hc hd => exact fk (gh _ _ hc) hd
        | dctT hc hd => exact (ft hd).elim
      · cases z
      · cases z
        exact fk hc hd
      · cases z
        exact (ft hd).elim
theorem cmp_ok (hu : X.A.units + 70 < cLine) (o : Cop) : OpR X (compareOp (srcC o)) (rD X.K xr W (cmpS o)) := by
  intro pins s σ H x y v u Q I rx ry h
  obtain ⟨σ0, G, φ, ρ, d, e, sr, vx, vy, h⟩ := h
  unfold cmpS opC at h
  split at h
  · rw [vx.str] at rx
    rw [vy.str] at ry
    refine op_eq pins s σ H _ _ v u Q I rx ry ⟨rfl, ?_⟩
    rw [decide_eq_decide.mpr (Iff.intro V.str.inj (congrArg V.str))]
    exact fin_bool sr h
  · rw [vx.str] at rx
    rw [vy.str] at ry
    refine op_ne pins s σ H _ _ v u Q I rx ry ⟨rfl, ?_⟩
    rw [decide_eq_decide.mpr (Iff.intro V.str.inj (congrArg V.str))]
    exact fin_bool sr h
  · rename_i xs
    obtain ⟨a, ws, rfl, h1, h2⟩ := vx.list sr.gh
    obtain ⟨b, zs, rfl, h3, h4⟩ := vy.list sr.gh
    cases h4
    cases xs with
    | nil => exact op_eqD (by omega) pins s σ H _ _ v u Q I rx ry ⟨_, _, (vx.dp sr.gh).dp rfl, (vy.dp sr.gh).dp rfl, rfl, rfl, fin_bool sr h⟩
    | cons z xs =>
      cases (show v = Value.ref a from rx)
      cases (show u = Value.ref b from ry)
      obtain ⟨its, rv, p1, _⟩ := I.list h1
      obtain ⟨its2, rv2, p2, _⟩ := I.list h3
      have l1 := rv.length
      have l2 := rv2.length
      have l3 := h2.length
      have ne : (its.toArray.size != its2.toArray.size) = true := by
        rw [List.size_toArray, List.size_toArray, ← l1, ← l2, l3]
        rfl
      exact SeqAt.RcAt.lists_lengths p1.isList p2.isList ne (by omega) X.prog X.w _ _ ⟨.bl false, H, I, rfl, fin_bool sr h⟩
  · split at h
    · rename_i hc
      rw [Bool.and_eq_true] at hc
      exact op_eqD (by omega) pins s σ H _ _ v u Q I rx ry ⟨_, _, (vx.dp sr.gh).dp (canLay_of hc.1), (vy.dp sr.gh).dp (canLay_of hc.2), hc.1, hc.2, fin_bool sr h⟩
    · exact h.elim
  · split at h
    · rename_i hc
      rw [Bool.and_eq_true] at hc
      exact op_neD (by omega) pins s σ H _ _ v u Q I rx ry ⟨_, _, (vx.dp sr.gh).dp (canLay_of hc.1), (vy.dp sr.gh).dp (canLay_of hc.2), hc.1, hc.2, fin_bool sr h⟩
    · exact h.elim
  · rw [vx.int] at rx; rw [vy.int] at ry
    exact op_lt pins s σ H _ _ v u Q I rx ry ⟨_, _, rfl, rfl, fin_bool sr h⟩
  · rw [vx.int] at rx; rw [vy.int] at ry
    exact op_le pins s σ H _ _ v u Q I rx ry ⟨_, _, rfl, rfl, fin_bool sr h⟩
  · rw [vx.int] at rx; rw [vy.int] at ry
    exact op_gt pins s σ H _ _ v u Q I rx ry ⟨_, _, rfl, rfl, fin_bool sr h⟩
  · rw [vx.int] at rx; rw [vy.int] at ry
    exact op_ge pins s σ H _ _ v u Q I rx ry ⟨_, _, rfl, rfl, fin_bool sr h⟩
  · rw [vy.none] at ry
    refine op_isN pins s σ H _ _ v u Q I rx ry ⟨rfl, ?_⟩
    rw [vx.isN]
    exact fin_bool sr h
  · rw [vy.none] at ry
    refine op_notN pins s σ H _ _ v u Q I rx ry ⟨rfl, ?_⟩
    rw [vx.isN]
    exact fin_bool sr h
  · rw [vx.str] at rx
    rw [vy.str] at ry
    rename_i a z
    cases ec : a.cps.toList with
    | nil => rw [ec] at h; exact h.elim
    | cons c l =>
      cases l with
      | cons _ _ => rw [ec] at h; exact h.elim
      | nil =>
        rw [ec] at h
        have ea : a = ⟨#[c]⟩ := by
          cases a with
          | mk cps => exact congrArg Str.mk (Array.ext' ec)
        subst ea
        exact op_in_sign pins s σ H _ _ v u Q I rx ry ⟨c, z, rfl, rfl, fin_bool sr h⟩
  · rw [vx.str] at rx
    rw [vy.str] at ry
    rename_i a z
    cases ec : a.cps.toList with
    | nil => rw [ec] at h; exact h.elim
    | cons c l =>
      cases l with
      | cons _ _ => rw [ec] at h; exact h.elim
      | nil =>
        rw [ec] at h
        have ea : a = ⟨#[c]⟩ := by
          cases a with
          | mk cps => exact congrArg Str.mk (Array.ext' ec)
        subst ea
        exact op_notIn_sign pins s σ H _ _ v u Q I rx ry ⟨c, z, rfl, rfl, fin_bool sr h⟩
  · split at h
    · rename_i hc
      rw [Bool.and_eq_true] at hc
      exact op_inD (by omega) pins s σ H _ _ v u Q I rx ry ⟨_, _, (vx.dp sr.gh).dp (canLay_of hc.1), (vy.dp sr.gh).dp (canLay_of hc.2), hc.1, hc.2, fin_bool sr h⟩
    · exact h.elim
  · split at h
    · rename_i hc
      rw [Bool.and_eq_true] at hc
      exact op_notInD (by omega) pins s σ H _ _ v u Q I rx ry ⟨_, _, (vx.dp sr.gh).dp (canLay_of hc.1), (vy.dp sr.gh).dp (canLay_of hc.2), hc.1, hc.2, fin_bool sr h⟩
    · exact h.elim
  · split at h
    · rename_i hc
      rw [Bool.and_eq_true] at hc
      obtain ⟨as, r1⟩ := Dp.reads I _ x v ((vx.dp sr.gh).dp (canLay_of hc.1)) rx
      obtain ⟨bs, r2⟩ := Dp.reads I _ y u ((vy.dp sr.gh).dp (canLay_of hc.2)) ry
      exact SeqAt.in_tuple_reads r2 r1 (SeqAt.canLay_of_shaped hc.2) (canLay_of hc.1) (room_in_shaped hc.1 (by omega)) ⟨.bl _, H, I, rfl, fin_bool sr h⟩
    · exact h.elim
  · split at h
    · rename_i hc
      rw [Bool.and_eq_true] at hc
      obtain ⟨as, r1⟩ := Dp.reads I _ x v ((vx.dp sr.gh).dp (canLay_of hc.1)) rx
      obtain ⟨bs, r2⟩ := Dp.reads I _ y u ((vy.dp sr.gh).dp (canLay_of hc.2)) ry
      exact SeqAt.notIn_tuple_reads r2 r1 (SeqAt.canLay_of_shaped hc.2) (canLay_of hc.1) (room_in_shaped hc.1 (by omega)) ⟨.bl _, H, I, rfl, fin_bool sr h⟩
    · exact h.elim
  · rename_i kvs
    cases e2 : inDict d kvs with
    | none => rw [e2] at h; exact h.elim
    | some b =>
      rw [e2] at h
      obtain ⟨c, o, rfl, g, eo⟩ := inDict_ok sr.gh e2 vx vy
      cases (show u = Value.ref c from ry)
      exact d_in (by omega) I g rx fun s' I' => ⟨.bl o.isSome, H, I', rfl, by rw [eo]; exact fin_bool sr h⟩
  · rename_i kvs
    cases e2 : inDict d kvs with
    | none => rw [e2] at h; exact h.elim
    | some b =>
      rw [e2] at h
      obtain ⟨c, o, rfl, g, eo⟩ := inDict_ok sr.gh e2 vx vy
      cases (show u = Value.ref c from ry)
      exact d_notIn (by omega) I g rx fun s' I' => ⟨.bl (!o.isSome), H, I', rfl, by rw [eo]; exact fin_bool sr h⟩
  · exact h.elim
end
end VE

/-! VD: data with dicts: its repr; counting in lists. -/
namespace VE
open PySem L2 PySem.Spec PyProof.Rows

mutual
/-- a value reads as data; no dict of it is the module table -/
inductive RdS (h : Heap) : Value → PyData → Prop
  | none : RdS h .none .none
  | bool (b : Bool) : RdS h (.bool b) (.bool b)
  | int (i : Int) (t : Tok) : RdS h (.int i t) (.int i)
  | str (x : Str) (t : Tok) : RdS h (.str x t) (.str x)
  | list {a : Addr} {o : Obj} {vs : Array Value} {n : Nat} {xs : List PyData} : h.get? a = some o → o.cls = .type "list" → o.data = .seq vs n → RdSs h vs.toList xs → RdS h (.ref a) (.list xs)
  | tuple {a : Addr} {o : Obj} {vs : Array Value} {n : Nat} {xs : List PyData} : h.get? a = some o → o.cls = .type "tuple" → o.data = .seq vs n → RdSs h vs.toList xs → RdS h (.ref a) (.tuple xs)
  | dict {a : Addr} {o : Obj} {es : Array DictEntry} {n : Nat} {kvs : List (PyData × PyData)} : h.get? a = some o → o.cls = .type "dict" → o.data = .dict es n → (a == sysModules) = false →
      RdSs h (es.toList.map (·.key)) (kvs.map (·.1)) → RdSs h (es.toList.map (·.val)) (kvs.map (·.2)) → RdS h (.ref a) (.dict kvs)
inductive RdSs (h : Heap) : List Value → List PyData → Prop
  | nil : RdSs h [] []
  | cons {v : Value} {vs : List Value} {d : PyData} {ds : List PyData} : RdS h v d → RdSs h vs ds → RdSs h (v :: vs) (d :: ds)
end
section
variable {h : Heap}
mutual
theorem RdS.rd : ∀ {v : Value} {d : PyData}, RdS h v d → ∃ as, Reads h v d as
  | _, _, .none => ⟨_, .none⟩
  | _, _, .bool b => ⟨_, .bool b⟩
  | _, _, .int i t => ⟨_, .int i t⟩
  | _, _, .str x t => ⟨_, .str x t⟩
  | _, _, .list h1 h2 h3 h4 => let ⟨_, q⟩ := RdSs.rd h4; ⟨_, .list h1 h2 h3 q⟩
  | _, _, .tuple h1 h2 h3 h4 => let ⟨_, q⟩ := RdSs.rd h4; ⟨_, .tuple h1 h2 h3 q⟩
  | _, _, .dict h1 h2 h3 _ h4 h5 => let ⟨_, q⟩ := RdSs.rd h4; let ⟨_, r⟩ := RdSs.rd h5; ⟨_, .dict h1 h2 h3 q r⟩
theorem RdSs.rd : ∀ {v : List Value} {d : List PyData}, RdSs h v d → ∃ as, ReadsAll h v d as
  | _, _, .nil => ⟨_, .nil⟩
  | _, _, .cons q r => let ⟨_, q⟩ := RdS.rd q; let ⟨_, r⟩ := RdSs.rd r; ⟨_, .cons q r⟩
end
variable {P : Program} {w : World}
mutual
theorem RdS.rep : ∀ {v : Value} {d : PyData}, RdS h v d → d.showable = true → d.shown.length ≤ sizeLine → ∃ bs, ReadAtMost h d.depth bs ∧ ReprK P w bs h d.depth v d.shown
  | _, _, .none, _, _ => ⟨[], (fun _ z => nomatch z), by simp only [PyData.shown]; exact ReprK.of_is ReprIs.none _ _ _⟩
  | _, _, .bool b, _, _ => ⟨[], (fun _ z => nomatch z), by simp only [PyData.shown]; exact ReprK.of_is (ReprIs.bool b) _ _ _⟩
  | _, _, .int i t, hs, _ => ⟨[], (fun _ z => nomatch z), by simp only [PyData.shown]; exact ReprK.of_is (ReprIs.int t (by simpa [PyData.showable] using hs)) _ _ _⟩
  | _, _, .str x t, _, hz => ⟨[], (fun _ z => nomatch z), by simp only [PyData.shown]; exact ReprK.of_is (ReprIs.str x t (by simpa only [PyData.shown] using hz)) _ _ _⟩
  | _, _, .list (a := a) (vs := vs) (xs := xs) h1 h2 h3 h4, hs, hz => by
    have zz : (listText (PyData.shownAll xs)).length ≤ sizeLine := by simpa only [PyData.shown] using hz
    obtain ⟨bs, hb, hk⟩ := RdSs.rep h4 (by simpa [PyData.showable] using hs) fun t ht => Nat.le_trans (listText_mem_le ht) zz
    obtain ⟨_, r⟩ := RdS.rd (.list h1 h2 h3 h4)
    have lo : PyData.depthAll xs < (PyData.list xs).depth := by simp only [PyData.depth]; omega
    have na := not_mem_of_deeper r lo hb
    refine ⟨a :: bs, ReadAtMost.cons r (Nat.le_of_lt lo) hb, ?_⟩
    simp only [PyData.depth, PyData.shown]
    cases vs with
    | mk l =>
      cases l with
      | nil =>
        cases (show RdSs h [] xs from h4)
        simp only [PyData.shownAll, listText_nil]
        exact ReprK.listEmpty h1 h2 h3
      | cons x l => exact ReprK.list h1 h2 h3 na (by simpa using hk.length_eq) fun i y e => hk.item i y (by simpa using e)
  | _, _, .tuple (a := a) (xs := xs) h1 h2 h3 h4, hs, hz => by
    have zz : (tupleText (PyData.shownAll xs)).length ≤ sizeLine := by simpa only [PyData.shown] using hz
    obtain ⟨bs, hb, hk⟩ := RdSs.rep h4 (by simpa [PyData.showable] using hs) fun t ht => Nat.le_trans (tupleText_mem_le ht) zz
    obtain ⟨_, r⟩ := RdS.rd (.tuple h1 h2 h3 h4)
    have lo : PyData.depthAll xs < (PyData.tuple xs).depth := by simp only [PyData.depth]; omega
    have na := not_mem_of_deeper r lo hb
    refine ⟨a :: bs, ReadAtMost.cons r (Nat.le_of_lt lo) hb, ?_⟩
    simp only [PyData.depth, PyData.shown]
    exact ReprK.tuple h1 h2 h3 na hk
  | _, _, .dict (a := a) (es := es) (kvs := kvs) h1 h2 h3 hy h4 h5, hs, hz => by
    have zz : (dictText (PyData.shownKv kvs)).length ≤ sizeLine := by simpa only [PyData.shown] using hz
    obtain ⟨s1, s2⟩ := PyData.showableKv_split kvs (by simpa [PyData.showable] using hs)
    obtain ⟨b1, c1, k1⟩ := RdSs.rep h4 s1 fun t ht => by
      obtain ⟨p, hp, hl⟩ := PyData.shownKv_key_le kvs t ht
      exact Nat.le_trans hl (Nat.le_trans (dictText_mem_le hp) zz)
    obtain ⟨b2, c2, k2⟩ := RdSs.rep h5 s2 fun t ht => by
      obtain ⟨p, hp, hl⟩ := PyData.shownKv_val_le kvs t ht
      exact Nat.le_trans hl (Nat.le_trans (dictText_mem_le hp) zz)
    obtain ⟨_, r⟩ := RdS.rd (.dict h1 h2 h3 hy h4 h5)
    have d1 := PyData.depthAll_keys_le kvs
    have d2 := PyData.depthAll_vals_le kvs
    have cc : ReadAtMost h (PyData.depthKv kvs) (b1 ++ b2) := (c1.mono d1).append (c2.mono d2)
    have lo : PyData.depthKv kvs < (PyData.dict kvs).depth := by simp only [PyData.depth]; omega
    have na := not_mem_of_deeper r lo cc
    refine ⟨a :: (b1 ++ b2), ReadAtMost.cons r (Nat.le_of_lt lo) cc, ?_⟩
    simp only [PyData.depth, PyData.shown, PyData.shownKv_eq]
    refine ReprK.dict h1 h2 h3 hy na (ReprEntriesK.of_two es.toList _ _ (k1.more_le (fun b hb => ?_) d1) (k2.more_le (fun b hb => ?_) d2))
    · exact List.mem_append_left _ hb
    · exact List.mem_append_right _ hb
theorem RdSs.rep : ∀ {vs : List Value} {ds : List PyData}, RdSs h vs ds → PyData.showableAll ds = true → (∀ t ∈ PyData.shownAll ds, t.length ≤ sizeLine) → ∃ bs, ReadAtMost h (PyData.depthAll ds) bs ∧ ReprAllK P w bs h (PyData.depthAll ds) vs (PyData.shownAll ds)
  | _, _, .nil, _, _ => ⟨[], (fun _ z => nomatch z), by simp only [PyData.shownAll]; exact ReprAllK.nil⟩
  | _, _, .cons (d := d) (ds := ds) r rs, hs, hz => by
    simp only [PyData.showableAll, Bool.and_eq_true] at hs
    obtain ⟨b1, c1, k1⟩ := RdS.rep r hs.1 (hz _ (by simp only [PyData.shownAll]; exact List.mem_cons_self))
    obtain ⟨b2, c2, k2⟩ := RdSs.rep rs hs.2 fun t ht => hz t (by simp only [PyData.shownAll]; exact List.mem_cons_of_mem _ ht)
    have e1 : d.depth ≤ PyData.depthAll (d :: ds) := by simp only [PyData.depthAll]; exact Nat.le_max_left _ _
    have e2 : PyData.depthAll ds ≤ PyData.depthAll (d :: ds) := by simp only [PyData.depthAll]; exact Nat.le_max_right _ _
    refine ⟨b1 ++ b2, (c1.mono e1).append (c2.mono e2), ?_⟩
    simp only [PyData.shownAll]
    exact ReprAllK.cons ((k1.more fun b hb => List.mem_append_left _ hb).level_le e1) (k2.more_le (fun b hb => List.mem_append_right _ hb) e2)
end
variable {A : Around} {E : Value → Shared → Prop} {s : Shared} {Q : Value → Shared → Prop}
/-- repr(x) of a list, a tuple, a dict -/
theorem RdS.call {a : Addr} {d : PyData} (r : RdS s.heap (.ref a) d) (hs : d.showable = true) (hg : A.guards = some []) (hu : A.units + (d.depth + 1) < cLine) (hz : d.shown.length ≤ sizeLine)
    (hQ : ∀ h' u tk, (∀ b o, s.heap.get? b = some o → h'.get? b = some o) → Q (.str d.shown u) { s with heap := h', toks := tk }) : wpAny (model P w) A (call (.builtin "repr") [.ref a]) Q E s := by
  have same : ∀ b o, s.heap.get? b = some o → s.heap.get? b = some o := fun _ _ e => e
  have fin : ∀ h' u tk, (∀ b o, s.heap.get? b = some o → h'.get? b = some o) → ∃ x t, Value.str d.shown u = .str x t ∧ Q (.str d.shown u) { s with heap := h', toks := tk } := fun h' u tk k => ⟨_, _, rfl, hQ h' u tk k⟩
  have hu1 : A.in1.units + d.depth < cLine := by show A.units + 1 + d.depth < cLine; omega
  cases r with
  | list h1 h2 h3 h4 =>
    rename_i o vs n xs
    have zz : (listText (PyData.shownAll xs)).length ≤ sizeLine := by simpa only [PyData.shown] using hz
    obtain ⟨bs, hb, hk⟩ := RdSs.rep (P := P) (w := w) h4 (by simpa [PyData.showable] using hs) fun t ht => Nat.le_trans (listText_mem_le ht) zz
    obtain ⟨_, r⟩ := RdS.rd (.list h1 h2 h3 h4)
    have na : a ∉ bs := not_mem_of_deeper r (by simp only [PyData.depth]; omega) hb
    refine call_repr_slot (by omega) ⟨o, h1, h2⟩ F.slot_list_repr.toG ?_
    simp only [PyData.depth] at hu1
    simp only [PyData.shown] at fin
    cases vs with
    | mk l =>
      cases l with
      | nil =>
        cases (show RdSs s.heap [] xs from h4)
        simp only [PyData.shownAll, listText_nil] at fin
        exact call_list_repr_empty ⟨o, h1, h2⟩ h1 h3 (fin s.heap _ _ same)
      | cons x l => exact call_list_reprK h1 h2 h3 na (by simpa using hk.length_eq) (fun i y e => hk.item i y (by simpa using e)) hg (fun b _ => Clear.nil b) hu1 same fin zz
  | tuple h1 h2 h3 h4 =>
    rename_i o vs n xs
    have zz : (tupleText (PyData.shownAll xs)).length ≤ sizeLine := by simpa only [PyData.shown] using hz
    obtain ⟨bs, hb, hk⟩ := RdSs.rep (P := P) (w := w) h4 (by simpa [PyData.showable] using hs) fun t ht => Nat.le_trans (tupleText_mem_le ht) zz
    obtain ⟨_, r⟩ := RdS.rd (.tuple h1 h2 h3 h4)
    have na : a ∉ bs := not_mem_of_deeper r (by simp only [PyData.depth]; omega) hb
    refine call_repr_slot (by omega) ⟨o, h1, h2⟩ F.slot_tuple_repr ?_
    simp only [PyData.depth] at hu1
    simp only [PyData.shown] at fin
    exact call_tuple_reprK h1 h2 h3 na hk hg (fun b _ => Clear.nil b) hu1 same fin zz
  | dict h1 h2 h3 hy h4 h5 =>
    rename_i o es n kvs
    have zz : (dictText (PyData.shownKv kvs)).length ≤ sizeLine := by simpa only [PyData.shown] using hz
    obtain ⟨s1, s2⟩ := PyData.showableKv_split kvs (by simpa [PyData.showable] using hs)
    obtain ⟨b1, c1, k1⟩ := RdSs.rep (P := P) (w := w) h4 s1 fun t ht => by
      obtain ⟨p, hp, hl⟩ := PyData.shownKv_key_le kvs t ht
      exact Nat.le_trans hl (Nat.le_trans (dictText_mem_le hp) zz)
    obtain ⟨b2, c2, k2⟩ := RdSs.rep (P := P) (w := w) h5 s2 fun t ht => by
      obtain ⟨p, hp, hl⟩ := PyData.shownKv_val_le kvs t ht
      exact Nat.le_trans hl (Nat.le_trans (dictText_mem_le hp) zz)
    obtain ⟨_, r⟩ := RdS.rd (.dict h1 h2 h3 hy h4 h5)
    have d1 := PyData.depthAll_keys_le kvs
    have d2 := PyData.depthAll_vals_le kvs
    have cc : ReadAtMost s.heap (PyData.depthKv kvs) (b1 ++ b2) := (c1.mono d1).append (c2.mono d2)
    have na : a ∉ b1 ++ b2 := not_mem_of_deeper r (by simp only [PyData.depth]; omega) cc
    refine call_repr_slot (by omega) ⟨o, h1, h2⟩ F.slot_dict_repr ?_
    simp only [PyData.depth] at hu1
    simp only [PyData.shown, PyData.shownKv_eq] at fin
    have zz2 := zz
    rw [PyData.shownKv_eq] at zz2
    refine call_dict_reprK h1 h2 h3 hy na (ReprEntriesK.of_two es.toList _ _ (k1.more_le (fun b hb => ?_) d1) (k2.more_le (fun b hb => ?_) d2)) hg (fun b _ => Clear.nil b) hu1 same fin zz2
    · exact List.mem_append_left _ hb
    · exact List.mem_append_right _ hb
end
/-! ### data of the abstract heap reads so -/
section
variable {X : Cx} {pins : List (Addr × Obj)} {σ : L2.St} {H : Hp} {s : Shared}
theorem kD_rd {h : Heap} {k : Key} {u : Value} (e : keyIs k u = true) : RdS h u (kD k) := by
  rcases keyIs_shape e with ⟨i, t, rfl, rfl⟩ | ⟨x, t, rfl, rfl⟩
  · exact .int i t
  · exact .str x t
mutual
theorem DP.rdS (I : L2.Inv X pins σ H s) : ∀ {v : V} {d : PyData} {u : Value}, DP X.K H v d → RelV v u → flatK d = true → RdS s.heap u d
  | _, _, u, .non, r, _ => by
    cases (show u = Value.none from r)
    exact .none
  | _, _, u, .bl b, r, _ => by
    cases (show u = Value.bool b from r)
    exact .bool b
  | _, _, u, .int i, r, _ => by
    obtain ⟨t, rfl⟩ := (show ∃ t, u = Value.int i t from r)
    exact .int i t
  | _, _, u, .str x, r, _ => by
    obtain ⟨t, rfl⟩ := (show ∃ t, u = Value.str x t from r)
    exact .str x t
  | _, _, u, .lst (a := a) h q, r, f => by
    cases (show u = Value.ref a from r)
    obtain ⟨its, rv, ⟨o, n, ho, hc, hdn, hd⟩, _⟩ := I.list h
    exact .list ho hc hd (DPs.rdS I q rv (by simpa only [flatK] using f))
  | _, _, u, .tup (a := a) h q, r, f => by
    cases (show u = Value.ref a from r)
    obtain ⟨its, rv, ⟨o, ho, hc, n, hd⟩, _⟩ := I.tuple h
    exact .tuple ho hc hd (DPs.rdS I q rv (by simpa only [flatK] using f))
  | _, _, u, .dctK (a := a) h q, r, f => by
    cases (show u = Value.ref a from r)
    obtain ⟨_, hy, vs, rel, o, es, ep, ho, hx, hd, _, hp, _⟩ := dk_of I.hok h
    obtain ⟨h1, h2⟩ := pairs_of I q rel hp (by simpa only [flatK] using f)
    exact .dict ho hx.1 hd hy h1 h2
  | _, _, u, .dctT (a := a) h .nil, r, f => by
    cases (show u = Value.ref a from r)
    obtain ⟨_, hy, xs, rel, o, es, ep, ho, hx, hd, he, _⟩ := (show ObjOk X.prog X.w H s.heap a (.dT []) from I.hok _ _ h)
    cases rel
    have e0 : es.toList = [] := he
    exact .dict ho hx.1 hd hy (by rw [e0]; exact .nil) (by rw [e0]; exact .nil)
  | _, _, u, .dctT (a := a) h (.cons _ _), r, f => by simp [flatK, flatKv] at f
theorem DPs.rdS (I : L2.Inv X pins σ H s) : ∀ {v : List V} {d : List PyData} {u : List Value}, DPs X.K H v d → Vals v u → flatKs d = true → RdSs s.heap u d
  | _, _, _, .nil, .nil, _ => .nil
  | _, _, _, .cons q r, .cons a b, f => by
    simp only [flatKs, Bool.and_eq_true] at f
    exact .cons (DP.rdS I q a f.1) (DPs.rdS I r b f.2)
theorem pairs_of (I : L2.Inv X pins σ H s) : ∀ {kv : List (Key × V)} {ds : List (PyData × PyData)} {vs : List (Key × Value)} {es : List DictEntry}, DKs X.K H kv ds → KV kv vs → Pairs (mixKind X.prog X.w) es vs → flatKv ds = true →
    RdSs s.heap (es.map (·.key)) (ds.map (·.1)) ∧ RdSs s.heap (es.map (·.val)) (ds.map (·.2))
  | _, _, _, _, .nil, .nil, .nil, _ => ⟨.nil, .nil⟩
  | _, _, _, _, .cons q r, .cons r1 r2, .cons p1 p2 p3, f => by
    simp only [flatKv, Bool.and_eq_true] at f
    obtain ⟨a, b⟩ := pairs_of I r r2 p3 f.2
    refine ⟨.cons (kD_rd ?_) a, .cons (DP.rdS I q ?_ f.1.2) b⟩
    · have e := r1.1
      subst e
      exact p1
    · have z := r1.2
      rw [← p2] at z
      exact z
end
end
/-! ### list.count -/
section
variable {X : Cx} {xr : XR} {W : WX}
def rLm (K : PySem.W.Frag) (xr : XR) (W : WX) (k : LM) : V → List V → Hp → VK → Prop := fun x ys H Q => ∃ y, ys = [y] ∧ rD K xr W (opLm k) x y H Q
def lmN : LM → String
  | .count => "list.count"
theorem lm_mt (hu : X.A.units + 70 < cLine) (k : LM) : MtR X (lmN k) (rLm X.K xr W k) := by
  intro pins s σ H x ys v us Q I rx rs h
  obtain ⟨y, rfl, σ0, G, φ, ρ, d, e, sr, vx, vy, h⟩ := h
  obtain ⟨uy, rfl, ry⟩ := rs.one
  unfold opLm at h
  split at h
  · split at h
    · rename_i ds hc
      rw [Bool.and_eq_true] at hc
      have hd : Dp X.K H y e := (vy.dp sr.gh).dp (canLay_of hc.1)
      obtain ⟨bs, r1⟩ := Dp.reads I e y uy hd ry
      have hx : Dp X.K H x (.list ds) := (vx.dp sr.gh).dp (canLay_of hc.2)
      have lay : PyData.canLayAll0 ds = true := SeqAt.canLay_of_shaped hc.2
      have room : X.A.units + 1 + min (PyData.depthAll ds) e.depth < cLine := room_in_shaped hc.1 (by omega)
      cases hx with
      | lst h1 h2 =>
        rename_i a ws
        cases (show v = Value.ref a from rx)
        obtain ⟨its, rv, ⟨⟨cls, dd, data, sl⟩, n, ho, hcl, hdn, hdt⟩, hlen⟩ := I.list h1
        simp only at hcl hdt
        subst hcl hdt
        obtain ⟨as, h4⟩ := Dp.readsAll I ds _ its h2 rv
        have hm := SeqAt.readsAll_map ds its as lay h4
        have items := SeqAt.items_eqAt (A := X.A) (vs := its.toArray) (show ReadsAll s.heap its.toArray.toList ds as from h4) r1 lay (canLay_of hc.1) room
        refine call_meets PySem.F.slot_list_count ⟨_, ho, rfl⟩ PySem.F.entry_list_count (PySem.F.args_list_count_2 _ _) (SeqAt.list_countAt a its.toArray n dd sl uy (fun u => PyData.eqv (SeqAt.readOf s.heap u) e)) ⟨ho, items, ?_⟩
        have ec : its.toArray.toList.countP (fun u => PyData.eqv (SeqAt.readOf s.heap u) e) = ds.countP fun z => PyData.eqv z e := by
          conv => rhs; rw [← hm]
          rw [List.countP_map]
          rfl
        rw [ec]
        exact ⟨.int _, H, I.tok _, ⟨_, rfl⟩, fin_int sr h⟩
    · exact h.elim
  · exact h.elim
end
end VE

/-! VS3: built-ins, indexes, methods by data. -/
namespace VE
open PySem L2 PySem.Spec PyProof.Rows
section
variable {X : Cx} {xr : XR} {W : WX}
/-! ### repr -/
theorem call_reprD (hg : X.A.guards = some []) (hu : X.A.units + 70 < cLine) : CallR X (.builtin "repr") (fun xs H Q => ∃ x d, xs = [x] ∧ DP X.K H x d ∧ flatK d = true ∧ d.showable = true ∧ d.shown.length ≤ sizeLine ∧ d.depth ≤ 60 ∧ Q (.str d.shown) H) := by
  intro pins s σ H xs us Q I r h
  obtain ⟨x, d, rfl, hd, hf, hs, hz, hp, q⟩ := h
  obtain ⟨u, rfl, rx⟩ := r.one
  have hr := DP.rdS I hd rx hf
  have fin : ∀ t k, EP X pins σ Q (.str d.shown t) { s with toks := k } := fun t k => ⟨.str d.shown, H, I.tok k, ⟨_, rfl⟩, q⟩
  have finR : ∀ h' (u : Tok) tk, (∀ b o, s.heap.get? b = some o → h'.get? b = some o) → EP X pins σ Q (.str d.shown u) { s with heap := h', toks := tk } := fun h' u tk k => ⟨.str d.shown, H, I.kept k, ⟨_, rfl⟩, q⟩
  cases hr with
  | none =>
    refine PySem.P.repr_of_none ?_
    have e := fin s.toks (s.toks + 1)
    simp only [PyData.shown] at e
    exact e
  | bool b =>
    refine PySem.P.repr_of_bool ?_
    have e := fin s.toks (s.toks + 1)
    simp only [PyData.shown] at e
    cases b <;> exact e
  | int i t =>
    refine PySem.P.repr_of_int (by simpa [PyData.showable] using hs) ?_
    have e := fin s.toks (s.toks + 1)
    simp only [PyData.shown] at e
    exact e
  | str y t =>
    refine PySem.P.repr_of_str ?_ (by simpa only [PyData.shown] using hz)
    have e := fin s.toks (s.toks + 1)
    simp only [PyData.shown] at e
    exact e
  | list h1 h2 h3 h4 => exact RdS.call (.list h1 h2 h3 h4) hs hg (by omega) hz finR
  | tuple h1 h2 h3 h4 => exact RdS.call (.tuple h1 h2 h3 h4) hs hg (by omega) hz finR
  | dict h1 h2 h3 h4 h5 h6 => exact RdS.call (.dict h1 h2 h3 h4 h5 h6) hs hg (by omega) hz finR

/-! ### isinstance -/
def tyN : Ty → String
  | .int => "int"
  | .bool => "bool"
  | .str => "str"
  | .list => "list"
  | .tuple => "tuple"
def tyD : PyData → String
  | .none => "NoneType"
  | .bool _ => "bool"
  | .int _ => "int"
  | .str _ => "str"
  | .list _ => "list"
  | .tuple _ => "tuple"
  | .dict _ => "dict"
theorem DP.tyX {K : PySem.W.Frag} {H : Hp} {v : V} {d : PyData} (h : DP K H v d) : TyX K H v (.type (tyD d)) := by
  cases h with
  | non => exact .base .non
  | bl b => exact .base (.bl b)
  | int b => exact .base (.int b)
  | str b => exact .base (.str b)
  | lst h _ =>
    rcases h with (h | ⟨o, h⟩) | ⟨o, its, n, h, hc, _⟩
    · exact .base (.lst h)
    · exact .base (.frz h)
    · exact .kList h hc
  | tup h _ =>
    rcases h with (h | ⟨o, h⟩) | ⟨o, its, n, h, hc, _⟩
    · exact .base (.tup h)
    · exact .fTuple h
    · exact .kTuple h hc
  | dctK h _ => exact .base (.dK h)
  | dctT h _ => exact .base (.dT h)
theorem ty_kit (t : Ty) (d : PyData) : kitB (tyD d) (tyN t) = some (ty t d) := by
  cases t <;> cases d <;> simp only [tyD, tyN, ty] <;> decide +kernel

/-! ### the built-ins by data -/
inductive BK where
  | fn (x : String)
  | type (x : String)
def bltK : Blt → BK
  | .len => .fn "len"
  | .repr => .fn "repr"
  | .min2 => .fn "min"
  | .max2 => .fn "max"
  | .list => .type "list"
  | .isi _ => .fn "isinstance"
  | .int => .type "int"
  | .tup => .type "tuple"
  | .minL => .fn "min"
  | .maxL => .fn "max"
  | .sumL => .fn "sum"
  | .all => .fn "all"
  | .any => .fn "any"
  | .sorted => .fn "sorted"
  | .str => .type "str"
  | .dict => .type "dict"
def bltV : Blt → Value
  | b => match bltK b with
    | .fn x => .builtin x
    | .type x => .type x
/-- isinstance's class stands behind the operands -/
def bltA : Blt → List V → List V
  | .isi t, xs => xs ++ [.ty (tyN t)]
  | _, xs => xs
theorem allInts_map : ∀ {xs : List PyData} {ns : List Int}, allInts xs = some ns → xs = ns.map .int
  | [], ns, h => by cases h; rfl
  | .int i :: r, ns, h => by
    simp only [allInts] at h
    cases e : allInts r with
    | none => rw [e] at h; cases h
    | some ms =>
      rw [e] at h
      cases h
      rw [allInts_map e]
      rfl
  | .none :: _, _, h => by simp [allInts] at h
  | .bool _ :: _, _, h => by simp [allInts] at h
  | .str _ :: _, _, h => by simp [allInts] at h
  | .list _ :: _, _, h => by simp [allInts] at h
  | .tuple _ :: _, _, h => by simp [allInts] at h
  | .dict _ :: _, _, h => by simp [allInts] at h
theorem allBools_map : ∀ {xs : List PyData} {ns : List Bool}, allBools xs = some ns → xs = ns.map .bool
  | [], ns, h => by cases h; rfl
  | .bool i :: r, ns, h => by
    simp only [allBools] at h
    cases e : allBools r with
    | none => rw [e] at h; cases h
    | some ms =>
      rw [e] at h
      cases h
      rw [allBools_map e]
      rfl
  | .none :: _, _, h => by simp [allBools] at h
  | .int _ :: _, _, h => by simp [allBools] at h
  | .str _ :: _, _, h => by simp [allBools] at h
  | .list _ :: _, _, h => by simp [allBools] at h
  | .tuple _ :: _, _, h => by simp [allBools] at h
  | .dict _ :: _, _, h => by simp [allBools] at h
theorem allStrs_map : ∀ {xs : List PyData} {ns : List Str}, allStrs xs = some ns → xs = ns.map .str
  | [], ns, h => by cases h; rfl
  | .str i :: r, ns, h => by
    simp only [allStrs] at h
    cases e : allStrs r with
    | none => rw [e] at h; cases h
    | some ms =>
      rw [e] at h
      cases h
      rw [allStrs_map e]
      rfl
  | .none :: _, _, h => by simp [allStrs] at h
  | .bool _ :: _, _, h => by simp [allStrs] at h
  | .int _ :: _, _, h => by simp [allStrs] at h
  | .list _ :: _, _, h => by simp [allStrs] at h
  | .tuple _ :: _, _, h => by simp [allStrs] at h
  | .dict _ :: _, _, h => by simp [allStrs] at h
theorem DPs.strs {K : PySem.W.Frag} {G : Hp} : ∀ {ns : List Str} {vs : List V}, DPs K G vs (ns.map .str) → vs = ns.map V.str
  | [], vs, h => by cases h; rfl
  | i :: r, vs, h => by
    cases h with
    | cons h1 h2 =>
      cases h1
      rw [DPs.strs h2]
      rfl
theorem DPs.ofStrs {K : PySem.W.Frag} {G : Hp} : ∀ (ns : List Str), DPs K G (ns.map V.str) (ns.map .str)
  | [] => .nil
  | i :: r => .cons (.str i) (DPs.ofStrs r)
theorem DPs.ints {K : PySem.W.Frag} {G : Hp} : ∀ {ns : List Int} {vs : List V}, DPs K G vs (ns.map .int) → vs = ns.map V.int
  | [], vs, h => by cases h; rfl
  | i :: r, vs, h => by
    cases h with
    | cons h1 h2 =>
      cases h1
      rw [DPs.ints h2]
      rfl
theorem DPs.bools {K : PySem.W.Frag} {G : Hp} : ∀ {ns : List Bool} {vs : List V}, DPs K G vs (ns.map .bool) → vs = ns.map V.bl
  | [], vs, h => by cases h; rfl
  | i :: r, vs, h => by
    cases h with
    | cons h1 h2 =>
      cases h1
      rw [DPs.bools h2]
      rfl
theorem DPs.ofInts {K : PySem.W.Frag} {G : Hp} : ∀ (ns : List Int), DPs K G (ns.map V.int) (ns.map .int)
  | [] => .nil
  | i :: r => .cons (.int i) (DPs.ofInts r)
theorem maxI_ok : ∀ (ns : List Int) (n : Int), maxI n ns ∈ n :: ns ∧ ∀ y ∈ n :: ns, y ≤ maxI n ns
  | [], n => ⟨List.mem_cons_self, fun y hy => by
    cases hy with
    | head => exact Int.le_refl _
    | tail _ h => cases h⟩
  | x :: xs, n => by
    obtain ⟨h1, h2⟩ := maxI_ok xs (if decide (n < x) then x else n)
    show maxI (if decide (n < x) then x else n) xs ∈ n :: x :: xs ∧ ∀ y ∈ n :: x :: xs, y ≤ maxI (if decide (n < x) then x else n) xs
    by_cases c : n < x
    · rw [if_pos (decide_eq_true c)] at h1 h2 ⊢
      refine ⟨List.mem_cons_of_mem _ h1, fun y hy => ?_⟩
      rcases List.mem_cons.mp hy with rfl | hy
      · exact Int.le_trans (Int.le_of_lt c) (h2 _ List.mem_cons_self)
      · exact h2 y hy
    · rw [if_neg (by simpa using c)] at h1 h2 ⊢
      refine ⟨?_, fun y hy => ?_⟩
      · rcases List.mem_cons.mp h1 with e | e
        · rw [e]; exact List.mem_cons_self
        · exact List.mem_cons_of_mem _ (List.mem_cons_of_mem _ e)
      · rcases List.mem_cons.mp hy with rfl | hy
        · exact h2 _ List.mem_cons_self
        · rcases List.mem_cons.mp hy with rfl | hy
          · exact Int.le_trans (Int.not_lt.mp c) (h2 _ List.mem_cons_self)
          · exact h2 y (List.mem_cons_of_mem _ hy)
theorem minI_ok : ∀ (ns : List Int) (n : Int), minI n ns ∈ n :: ns ∧ ∀ y ∈ n :: ns, minI n ns ≤ y
  | [], n => ⟨List.mem_cons_self, fun y hy => by
    cases hy with
    | head => exact Int.le_refl _
    | tail _ h => cases h⟩
  | x :: xs, n => by
    obtain ⟨h1, h2⟩ := minI_ok xs (if decide (x < n) then x else n)
    show minI (if decide (x < n) then x else n) xs ∈ n :: x :: xs ∧ ∀ y ∈ n :: x :: xs, minI (if decide (x < n) then x else n) xs ≤ y
    by_cases c : x < n
    · rw [if_pos (decide_eq_true c)] at h1 h2 ⊢
      refine ⟨List.mem_cons_of_mem _ h1, fun y hy => ?_⟩
      rcases List.mem_cons.mp hy with rfl | hy
      · exact Int.le_trans (h2 _ List.mem_cons_self) (Int.le_of_lt c)
      · exact h2 y hy
    · rw [if_neg (by simpa using c)] at h1 h2 ⊢
      refine ⟨?_, fun y hy => ?_⟩
      · rcases List.mem_cons.mp h1 with e | e
        · rw [e]; exact List.mem_cons_self
        · exact List.mem_cons_of_mem _ (List.mem_cons_of_mem _ e)
      · rcases List.mem_cons.mp hy with rfl | hy
        · exact h2 _ List.mem_cons_self
        · rcases List.mem_cons.mp hy with rfl | hy
          · exact Int.le_trans (h2 _ List.mem_cons_self) (Int.not_lt.mp c)
          · exact h2 y (List.mem_cons_of_mem _ hy)
theorem insI_perm (x : Int) : ∀ ys : List Int, (insI x ys).Perm (x :: ys)
  | [] => .refl _
  | y :: ys => by
    unfold insI
    split
    · exact .refl _
    · exact ((insI_perm x ys).cons y).trans (.swap x y ys)
theorem isort_perm : ∀ xs : List Int, (isort xs).Perm xs
  | [] => .refl _
  | x :: xs => (insI_perm x _).trans ((isort_perm xs).cons x)
theorem insI_rises (x : Int) : ∀ ys : List Int, ys.Pairwise (· ≤ ·) → (insI x ys).Pairwise (· ≤ ·)
  | [], _ => List.pairwise_singleton _ _
  | y :: ys, h => by
    unfold insI
    obtain ⟨h1, h2⟩ := List.pairwise_cons.mp h
    split
    · rename_i c
      have c' : x ≤ y := of_decide_eq_true c
      refine List.pairwise_cons.mpr ⟨fun z hz => ?_, h⟩
      rcases List.mem_cons.mp hz with rfl | hz
      · exact c'
      · exact Int.le_trans c' (h1 z hz)
    · rename_i c
      have c' : ¬ x ≤ y := by simpa using c
      refine List.pairwise_cons.mpr ⟨fun z hz => ?_, insI_rises x ys h2⟩
      rcases List.mem_cons.mp ((insI_perm x ys).mem_iff.mp hz) with rfl | hz
      · omega
      · exact h1 z hz
theorem isort_rises : ∀ xs : List Int, (isort xs).Pairwise (· ≤ ·)
  | [] => .nil
  | x :: xs => insI_rises x _ (isort_rises xs)
theorem isort_only {ns ms : List Int} (p : ms.Perm ns) (h : ms.Pairwise (· ≤ ·)) : ms = isort ns :=
  List.Perm.eq_of_pairwise (fun _ _ _ _ a b => Int.le_antisymm a b) h (isort_rises ns) (p.trans (isort_perm ns).symm)
theorem paired_imp {α β : Type} {F F' : α → β → Prop} (h : ∀ a b, F a b → F' a b) : ∀ {l₁ : List α} {l₂ : List β}, Paired F l₁ l₂ → Paired F' l₁ l₂
  | _, _, .nil => .nil
  | _, _, .cons q r => .cons (h _ _ q) (paired_imp h r)
theorem merge_new : ∀ {kvs acc : List (Key × V)}, (∀ kv ∈ kvs, valV acc kv.1 = none) → kvs.Pairwise (fun p q => ¬ p.1 = q.1) → mergeK acc kvs = acc ++ kvs
  | [], acc, _, _ => (List.append_nil acc).symm
  | p :: r, acc, h, hp => by
    rw [List.pairwise_cons] at hp
    have h0 := h p List.mem_cons_self
    show mergeK (putK acc p.1 p.2) r = _
    rw [putK_new p.2 h0, merge_new (acc := acc ++ [(p.1, p.2)]) (fun kv hkv => ?_) hp.2, List.append_assoc]
    · rfl
    · rw [valV_snoc _ _ _ _ h0, if_neg fun z => hp.1 kv hkv z.symm]
      exact h kv (List.mem_cons_of_mem _ hkv)
theorem pairsK_ok {K : PySem.W.Frag} {G : Hp} : ∀ {xs : List PyData} {ws : List V} {prs : List (Key × PyData)}, DPs K G ws xs → pairsK xs = some prs →
    ∃ (ps : List Addr) (kvs : List (Key × V)), ws = ps.map V.ref ∧ Paired (fun p kv => SqT K G p [kV kv.1, kv.2]) ps kvs ∧ DKs K G kvs (prs.map fun p => (kDat p.1, p.2)) ∧ kvs.Pairwise (fun p q => ¬ p.1 = q.1) ∧ kvs.map (·.1) = prs.map (·.1)
  | [], ws, prs, hd, h => by
    cases hd
    cases h
    exact ⟨[], [], rfl, .nil, .nil, .nil, rfl⟩
  | x :: r, ws, prs, hd, h => by
    cases hd with
    | cons h1 h2 =>
      cases x with
      | tuple ds =>
        match ds, h with
        | [k, d], h =>
          simp only [pairsK] at h
          cases e1 : keyD k with
          | none => rw [e1] at h; cases h
          | some k' =>
            cases e2 : pairsK r with
            | none => rw [e1, e2] at h; cases h
            | some prs' =>
              rw [e1, e2] at h
              simp only at h
              split at h
              · cases h
              · rename_i hn
                cases h
                obtain ⟨ps, kvs, rfl, q1, q2, q3, q4⟩ := pairsK_ok h2 e2
                cases h1 with
                | tup hs hx =>
                  cases hx with
                  | cons hk hx =>
                    cases hx with
                    | cons hv hx =>
                      cases hx
                      rename_i p v1 v2
                      obtain rfl := keyD_kV (H := G) e1 (.inl hk)
                      have ek : kD k' = kDat k' := by cases k' <;> rfl
                      refine ⟨p :: ps, (k', v2) :: kvs, rfl, .cons hs q1, ?_, ?_, by rw [List.map_cons, List.map_cons, q4]⟩
                      · show DKs K G ((k', v2) :: kvs) ((kDat k', d) :: _)
                        rw [← ek]
                        exact .cons hv q2
                      · rw [List.pairwise_cons]
                        refine ⟨fun q hq z => hn ?_, q3⟩
                        have m : q.1 ∈ prs'.map (·.1) := by rw [← q4]; exact List.mem_map_of_mem hq
                        obtain ⟨y, hy, ey⟩ := List.mem_map.mp m
                        exact List.any_eq_true.mpr ⟨y, hy, decide_eq_true (ey.trans z.symm)⟩
        | [], h => simp [pairsK] at h
        | [_], h => simp [pairsK] at h
        | _ :: _ :: _ :: _, h => simp [pairsK] at h
      | _ => simp [pairsK] at h
theorem blt_ok (hc : X.calm = true) (hg : X.A.guards = some []) (hu : X.A.units + 70 < cLine) (b : Blt) : CallR X (bltV b) (fun xs H Q => ∃ ys, xs = bltA b ys ∧ rDs X.K xr W (opBlt b) ys H Q) := by
  intro pins s σ H xs us Q I r h
  obtain ⟨ys, e, σ0, G, φ, ρ, ds, sr, vw, h⟩ := h
  unfold opBlt at h
  split at h
  · -- len of a list
    cases vw with
    | cons v1 v2 =>
      cases v2
      obtain ⟨a, ws, rfl, h1, h2⟩ := v1.list sr.gh
      split at h
      · refine call_len_seq pins s σ H xs us Q I r ⟨a, ws, e, .inl h1, ?_⟩
        rw [h2.length]
        exact fin_int sr h
      · exact h.elim
  · cases vw with
    | cons v1 v2 =>
      cases v2
      obtain ⟨a, ws, rfl, h1, h2⟩ := v1.tuple
      split at h
      · refine call_len_seq pins s σ H xs us Q I r ⟨a, ws, e, .inr (Same.seqT sr.gh h1), ?_⟩
        rw [h2.length]
        exact fin_int sr h
      · exact h.elim
  · cases vw with
    | cons v1 v2 =>
      cases v2
      obtain rfl := v1.str
      split at h
      · rename_i hz
        exact call_len_str pins s σ H xs us Q I r ⟨_, e, of_decide_eq_true hz, fin_int sr h⟩
      · exact h.elim
  · cases vw with
    | cons v1 v2 =>
      cases v2
      split at h
      · rename_i hz
        simp only [Bool.and_eq_true, decide_eq_true_eq] at hz
        exact call_reprD hg hu pins s σ H xs us Q I r ⟨_, _, e, v1.dp sr.gh, hz.2, hz.1.1.1, hz.1.1.2, hz.1.2, fin_str sr h⟩
      · exact h.elim
  · cases vw with
    | cons v1 v2 =>
      cases v2 with
      | cons v2 v3 =>
        cases v3
        obtain rfl := v1.int
        obtain rfl := v2.int
        exact call_min2 hc pins s σ H xs us Q I r ⟨_, _, e, fin_int sr h⟩
  · cases vw with
    | cons v1 v2 =>
      cases v2 with
      | cons v2 v3 =>
        cases v3
        obtain rfl := v1.int
        obtain rfl := v2.int
        exact call_max2 hc pins s σ H xs us Q I r ⟨_, _, e, fin_int sr h⟩
  · cases vw with
    | cons v1 v2 =>
      cases v2
      obtain ⟨a, ws, rfl, h1, h2⟩ := v1.list sr.gh
      split at h
      · exact call_list_of pins s σ H xs us Q I r ⟨a, ws, e, .inl h1, fun p hp => fin_lst sr hp h2 h⟩
      · exact h.elim
  · cases vw with
    | cons v1 v2 =>
      cases v2
      obtain ⟨a, ws, rfl, h1, h2⟩ := v1.tuple
      split at h
      · exact call_list_of pins s σ H xs us Q I r ⟨a, ws, e, .inr (Same.seqT sr.gh h1), fun p hp => fin_lst sr hp h2 h⟩
      · exact h.elim
  · cases vw with
    | cons v1 v2 =>
      cases v2
      rename_i t d _
      exact call_isi pins s σ H xs us Q I r ⟨_, _, _, _, _, e, .ty _, (v1.dp sr.gh).tyX, kit_ty (ty_kit t d), fin_bool sr h⟩
  · cases vw with
    | cons v1 v2 =>
      cases v2
      obtain rfl := v1.int
      exact call_int1 pins s σ H xs us Q I r (.inl ⟨_, e, fin_int sr h⟩)
  · cases vw with
    | cons v1 v2 =>
      cases v2
      obtain rfl := v1.str
      split at h
      · rename_i n hn
        split at h
        · rename_i hz
          exact call_int_str pins s σ H xs us Q I r ⟨_, n, e, hn, of_decide_eq_true hz, fin_int sr h⟩
        · exact h.elim
      · exact h.elim
  · cases vw with
    | cons v1 v2 =>
      cases v2
      obtain rfl := v1.bool
      exact call_int1 pins s σ H xs us Q I r (.inr ⟨_, e, fin_int sr h⟩)
  · cases vw with
    | cons v1 v2 =>
      cases v2
      obtain ⟨a, ws, rfl, h1, h2⟩ := v1.tuple
      exact call_tuple_of pins s σ H xs us Q I r ⟨a, ws, e, .inr ⟨Same.seqT sr.gh h1, fin_val sr (.tup h1 h2) h⟩⟩
  · cases vw with
    | cons v1 v2 =>
      cases v2
      obtain ⟨a, ws, rfl, h1, h2⟩ := v1.list sr.gh
      split at h
      · exact call_tuple_of pins s σ H xs us Q I r ⟨a, ws, e, .inl ⟨h1, fun p hp => fin_tup sr hp h2 h⟩⟩
      · exact h.elim
  · cases vw with
    | cons v1 v2 =>
      cases v2
      obtain ⟨a, ws, rfl, h1, h2⟩ := v1.list sr.gh
      split at h
      · rename_i ns hn
        rw [allInts_map hn] at h2
        obtain rfl := h2.ints
        exact cr_sum hc pins s σ H xs us Q I r ⟨a, ns, e, h1, fin_int sr h⟩
      · exact h.elim
  · cases vw with
    | cons v1 v2 =>
      cases v2
      obtain ⟨a, ws, rfl, h1, h2⟩ := v1.list sr.gh
      split at h
      · rename_i n ns hn
        rw [allInts_map hn] at h2
        obtain rfl := h2.ints
        refine cr_max hc pins s σ H xs us Q I r ⟨a, n :: ns, e, h1, Nat.succ_pos _, fun m hm hy => ?_⟩
        obtain ⟨q1, q2⟩ := maxI_ok ns n
        rw [show m = maxI n ns from Int.le_antisymm (q2 m hm) (hy _ q1)]
        exact fin_int sr h
      · exact h.elim
  · cases vw with
    | cons v1 v2 =>
      cases v2
      obtain ⟨a, ws, rfl, h1, h2⟩ := v1.list sr.gh
      split at h
      · rename_i n ns hn
        rw [allInts_map hn] at h2
        obtain rfl := h2.ints
        refine cr_min hc pins s σ H xs us Q I r ⟨a, n :: ns, e, h1, Nat.succ_pos _, fun m hm hy => ?_⟩
        obtain ⟨q1, q2⟩ := minI_ok ns n
        rw [show m = minI n ns from Int.le_antisymm (hy _ q1) (q2 m hm)]
        exact fin_int sr h
      · exact h.elim
  · cases vw with
    | cons v1 v2 =>
      cases v2
      obtain ⟨a, ws, rfl, h1, h2⟩ := v1.list sr.gh
      split at h
      · rename_i bs hn
        rw [allBools_map hn] at h2
        obtain rfl := h2.bools
        exact cr_all hc pins s σ H xs us Q I r ⟨a, bs, e, h1, fin_bool sr h⟩
      · exact h.elim
  · cases vw with
    | cons v1 v2 =>
      cases v2
      obtain ⟨a, ws, rfl, h1, h2⟩ := v1.list sr.gh
      split at h
      · rename_i bs hn
        rw [allBools_map hn] at h2
        obtain rfl := h2.bools
        exact cr_any hc pins s σ H xs us Q I r ⟨a, bs, e, h1, fin_bool sr h⟩
      · exact h.elim
  · cases vw with
    | cons v1 v2 =>
      cases v2
      obtain ⟨a, ws, rfl, h1, h2⟩ := v1.list sr.gh
      split at h
      · rename_i ns hn
        rw [allInts_map hn] at h2
        obtain rfl := h2.ints
        refine cr_sortedI pins s σ H xs us Q I r ⟨a, ns, e, h1, fun ms p hp hr hn' => ?_⟩
        obtain rfl := isort_only hp hr
        exact fin_lst sr hn' (DPs.ofInts _) h
      · exact h.elim
  · cases vw with
    | cons v1 v2 =>
      cases v2
      obtain rfl := v1.int
      split at h
      · rename_i hz
        exact call_str_int pins s σ H xs us Q I r ⟨_, e, of_decide_eq_true hz, fin_str sr h⟩
      · exact h.elim
  · cases vw with
    | cons v1 v2 =>
      cases v2
      obtain rfl := v1.str
      exact SkE.call_str_str pins s σ H xs us Q I r ⟨_, e, fin_str sr h⟩
  · cases vw with
    | cons v1 v2 =>
      cases v2
      unfold opDctP at h
      split at h
      · rename_i xs0
        obtain ⟨a, ws, rfl, h1, h2⟩ := v1.list sr.gh
        cases ep : pairsK xs0 with
        | none => rw [ep] at h; exact h.elim
        | some prs =>
          rw [ep] at h
          obtain ⟨ps, kvs, rfl, q1, q2, q3, _⟩ := pairsK_ok h2 ep
          have em : mergeK [] kvs = kvs := by
            rw [merge_new (fun _ _ => rfl) q3]
            rfl
          have q1' : Paired (fun p kv => SqT X.K H p [kV kv.1, kv.2]) ps kvs := paired_imp (fun _ _ z => Same.seqT sr.gh z) q1
          refine call_dictP hc pins s σ H xs us Q I r ⟨a, ps, kvs, e, h1, q1', fun p hp => ?_⟩
          rw [em]
          exact h _ G _ φ [p] ((Stp.newH hp).weak fun a q => q.imp id fun z => List.mem_singleton.mp z) (sr.newH hp) ⟨⟨p, rfl, rfl, .inl ⟨kvs, upd_same, q2⟩⟩, (fun a ha => by
            obtain rfl := List.mem_singleton.mp ha
            exact sr.gh.free hp), fun a ha q => by
            obtain rfl := List.mem_singleton.mp ha
            obtain ⟨o, e⟩ := sr.here q
            rw [hp] at e; cases e⟩
      · exact h.elim
  · exact h.elim

/-! ### len(set(..)), list(range(..)) -/
theorem map_getD : ∀ (ns : List Int), (List.range ns.length).map (fun i => ns.getD i 0) = ns := by
  intro ns
  apply List.ext_getElem
  · simp
  · intro i h1 h2
    simp [List.getElem?_eq_getElem h2]
def tLset (K : PySem.W.Frag) (ta : TE) : TE := fun σ H Q => ta σ H fun x H1 => ∃ (l : Addr) (ns : List Int), x = .ref l ∧ SqL K H1 l (ns.map V.int) ∧ ns.length ≤ 4000 ∧ Q (.int (dedup ns).length) H1
theorem pe_lset {e : Expr} {ta : TE} {p p2 q pos : Pos} (hc : X.calm = true) (hg : Gl X "len") (hm : X.mg "len" = none) (hg2 : Gl X "set") (hm2 : X.mg "set" = none) (ha : PE X e ta)
    (na : starEach [e] X.env = (false, eval e X.env) :: starEach [] X.env) : PE X (.Call (.Name "len" p) [.Call (.Name "set" p2) [e] [] q] [] pos) (tLset X.K ta) := by
  constructor
  intro pins s σ H Q I h
  refine Call_ (ld_blt I hg hm PySem.boot_len (PyProof.Rows.callWith_builtin1 (PyProof.Rows.args_cons (Call_ (ld_blt I hg2 hm2 boot_set (PyProof.Rows.callWith_type1 (PyProof.Rows.args_cons (thn (ha.run pins s σ H _ I h) ?_) na) na rfl))) rfl) rfl rfl))
  rintro v s1 ⟨x, H1, I1, r1, l, ns, rfl, hq, hl, q1⟩
  cases r1
  obtain ⟨its, r, pl, hz⟩ := I1.list hq
  have hi : PyProof.Rows.IntsAre its ns := r.ints
  have hn : its.toArray.size = ns.length := by rw [List.size_toArray]; exact hi.length
  refine PyProof.Rows.args_nil (call_set_list (I1.ok.hd hc) pl.isList (by simpa using hi) (by rw [hn]; unfold scanBound; omega) fun h' tk hS hk => PyProof.Rows.args_nil ?_)
  have e1 : PyProof.Rows.firstMet (fun i => ns.getD i 0) ns.length = dedup ns := by
    unfold PyProof.Rows.firstMet dedup
    rw [map_getD]
  rw [hn, e1] at hS
  obtain ⟨o, es, ep, t, ho, hex, hd, _, _, _, hf, hnn⟩ := hS
  have le : (dedup ns).length ≤ ns.length := by
    rw [← e1]
    exact PyProof.Rows.firstMet_length_le _ _
  have I2 : L2.Inv X pins σ H1 { s1 with heap := h', toks := tk } := I1.kept fun b o e => hk b o (Heap.lt_size e) e
  exact call_len_set ho hex hd hf (by rw [hnn] <;> omega) ⟨.int (dedup ns).length, H1, I2.tok _, ⟨_, by rw [hnn]⟩, q1⟩

/-! ### an item -/
theorem DPs.atI {K : PySem.W.Frag} {G : Hp} {vs : List V} {ds : List PyData} {i : Int} {d : PyData} (h : DPs K G vs ds) (e : L2.atI ds i = some d) : ∃ v, L2.atI vs i = some v ∧ DP K G v d := by
  unfold L2.atI at e ⊢
  rw [h.length]
  cases q : ixN ds.length i with
  | none => rw [q] at e; cases e
  | some j =>
    rw [q] at e
    exact h.get e
theorem ix_ok : IxR X (rD X.K xr W ixS) := by
  intro value slice pins s σ H x y v u Q I rx ry h hs
  obtain ⟨σ0, G, φ, ρ, d, e, sr, vx, vy, h⟩ := h
  unfold ixS opIx at h
  split at h
  · obtain ⟨a, ws, rfl, h1, h2⟩ := vx.list sr.gh
    rw [vy.int] at ry
    rename_i xs i
    cases q : L2.atI xs i with
    | none => rw [q] at h; exact h.elim
    | some d =>
      rw [q] at h
      obtain ⟨w, h3, h4⟩ := h2.atI q
      exact ix_list value slice pins s σ H _ _ v u Q I rx ry ⟨a, ws, i, w, rfl, rfl, h1, h3, fin_val sr h4 h⟩ hs
  · obtain ⟨a, ws, rfl, h1, h2⟩ := vx.tuple
    rw [vy.int] at ry
    rename_i xs i
    cases q : L2.atI xs i with
    | none => rw [q] at h; exact h.elim
    | some d =>
      rw [q] at h
      obtain ⟨w, h3, h4⟩ := h2.atI q
      exact ix_tup value slice pins s σ H _ _ v u Q I rx ry ⟨a, ws, i, w, rfl, rfl, Same.seqT sr.gh h1, h3, fin_val sr h4 h⟩ hs
  · rw [vx.str] at rx
    rw [vy.int] at ry
    rename_i z i
    by_cases hz : z.length ≤ sizeLine
    · rw [if_pos (decide_eq_true hz)] at h
      cases q : L2.atI z.cps.toList i with
      | none => rw [q] at h; exact h.elim
      | some c =>
        rw [q] at h
        exact ix_str value slice pins s σ H _ _ v u Q I rx ry ⟨z, i, c, rfl, rfl, hz, q, fin_str sr h⟩ hs
    · rw [if_neg (by simpa using hz)] at h
      exact h.elim
  · exact h.elim
theorem neg_ok : UnR X (unaryOp .USub) (rD1 X.K xr W opNeg) := by
  intro pins s σ H x v Q I rx h
  obtain ⟨σ0, G, φ, ρ, d, sr, vx, h⟩ := h
  unfold opNeg at h
  split at h
  · rw [vx.int] at rx
    exact un_neg pins s σ H _ v Q I rx ⟨_, rfl, fin_int sr h⟩
  · exact h.elim
end

/-! ### values on the way become data -/
section
variable {K : PySem.W.Frag} {xr : XR} {W : WX} {Φ : Fns} {σ : L2.St} {G H G' H' : Hp} {φ φ' : Nat → List Addr} {ρ : List S} {Q : VK}
theorem Stp.frz {a : Addr} {o : HO} {F : Addr → Prop} (gn : G a = none) (hF : F a) : Stp G H F (upd G a o) H F where
  gg := Same.upd_new gn
  keep := fun _ _ h _ => h
  sub := fun _ h => .inl h
  gnew := fun b e e' => by
    by_cases q : b = a
    · rw [q]; exact .inl hF
    · rw [upd_ne q] at e'; exact absurd e e'
  there := fun _ h => h
theorem same_frz {a : Addr} {o : HO} (gh : Same G H) (h : H a = some o) : Same (upd G a o) H := fun b u e => by
  by_cases q : b = a
  · subst q; rw [upd_same] at e; rw [h]; exact e
  · rw [upd_ne q] at e; exact gh b u e
/-- one value on the way is kept as data -/
theorem Tmp.freeze {s : S} {v : V} {f : List Addr} {d : PyData} (t : Tmp K G H s v f φ) (r : SR K G H ρ σ φ) (h : view s = some d) :
    ∃ G', Stp G H (fun a => own φ a ∨ a ∈ f) G' H (own φ) ∧ SR K G' H ρ σ φ ∧ DP K G' v d ∧ ∀ a, G' a ≠ none → G a ≠ none ∨ a ∈ f := by
  have core : ∀ (a : Addr) (o : HO), f = [a] → H a = some o → Stp G H (fun a => own φ a ∨ a ∈ f) (upd G a o) H (own φ) ∧ SR K (upd G a o) H ρ σ φ := fun a o e ho => by
    have hm : a ∈ f := by rw [e]; exact List.mem_singleton.mpr rfl
    have st : Stp G H (fun a => own φ a ∨ a ∈ f) (upd G a o) H (own φ) := (Stp.frz (t.gn a hm) (.inr hm)).weak fun _ q => .inl q
    refine ⟨st, ?_⟩
    have st2 : Stp G H (fun b => b = a) (upd G a o) H (fun b => b = a) := Stp.frz (t.gn a hm) rfl
    exact r.step st2 (same_frz r.gh ho) fun b hb q => t.off a hm (q ▸ hb)
  have new : ∀ (a : Addr) (o : HO), f = [a] → ∀ b, upd G a o b ≠ none → G b ≠ none ∨ b ∈ f := fun a o e b hb => by
    by_cases q : b = a
    · rw [q, e]; exact .inr (List.mem_singleton.mpr rfl)
    · rw [upd_ne q] at hb; exact .inl hb
  cases s with
  | val d' =>
    cases h
    exact ⟨G, Stp.refl.weak fun _ q => .inl q, r, t.rel.1, fun _ h => .inl h⟩
  | lst xs =>
    cases h
    obtain ⟨a, vs, rfl, ha, hd, e⟩ := t.rel
    obtain ⟨st, sr⟩ := core a _ e ha
    have gn : G a = none := t.gn a (by rw [e]; exact List.mem_singleton.mpr rfl)
    exact ⟨_, st, sr, .lst (.inl (.inl upd_same)) (hd.mono (Same.upd_new gn)), new a _ e⟩
  | dct kvs =>
    cases h
    obtain ⟨a, rfl, e, ⟨kv, ha, hd⟩ | ⟨kv, ha, hd⟩⟩ := t.rel
    · obtain ⟨st, sr⟩ := core a _ e ha
      have gn : G a = none := t.gn a (by rw [e]; exact List.mem_singleton.mpr rfl)
      exact ⟨_, st, sr, .dctK upd_same (hd.mono (Same.upd_new gn)), new a _ e⟩
    · obtain ⟨st, sr⟩ := core a _ e ha
      have gn : G a = none := t.gn a (by rw [e]; exact List.mem_singleton.mpr rfl)
      exact ⟨_, st, sr, .dctT upd_same (hd.mono (Same.upd_new gn)), new a _ e⟩
  | dead => cases h
/-- all operands are kept as data -/
theorem Ops.freeze {as : List A} {ts : List (Option S)} {vs : List V} {fs : List Addr} (o : Ops K G H σ as ts vs fs) : ∀ {ds : List PyData}, SR K G H ρ σ φ → (∀ a ∈ fs, G a = none ∧ ¬ own φ a) → resV as ts ρ = some ds →
    ∃ G', Stp G H (fun a => own φ a ∨ a ∈ fs) G' H (own φ) ∧ SR K G' H ρ σ φ ∧ DPs K G' vs ds ∧ ∀ a, G' a ≠ none → G a ≠ none ∨ a ∈ fs := by
  induction o with
  | nil =>
    intro ds r _ h
    cases h
    exact ⟨G, Stp.refl.weak fun _ q => .inl q, r, .nil, fun _ h => .inl h⟩
  | @cons a as t ts v vs f g o1 o2 dis ih =>
    intro ds r hf h
    have hg : ∀ a ∈ g, G a = none ∧ ¬ own φ a := fun a ha => hf a (List.mem_append_right _ ha)
    cases a with
    | pl i =>
      obtain ⟨rfl, hv⟩ := o1
      simp only [resV] at h
      cases e1 : slot ρ i with
      | val d =>
        rw [e1] at h
        cases e2 : resV as ts ρ with
        | none => rw [e2] at h; cases h
        | some ds' =>
          rw [e2] at h
          cases h
          obtain ⟨G', st, sr, hd, hn⟩ := ih r hg e2
          obtain ⟨w, hw, q⟩ := r.at (i := i) (by rw [e1]; exact fun z => nomatch z)
          rw [hv] at hw
          cases hw
          rw [e1] at q
          exact ⟨G', st, sr, .cons (q.1.mono st.gg) hd, hn⟩
      | lst d => rw [e1] at h; cases h
      | dct d => rw [e1] at h; cases h
      | dead => rw [e1] at h; cases h
    | e x =>
      obtain ⟨s, rfl, q⟩ := o1
      simp only [resV] at h
      cases e1 : view s with
      | none => rw [e1] at h; cases h
      | some d =>
        rw [e1] at h
        cases e2 : resV as ts ρ with
        | none => rw [e2] at h; cases h
        | some ds' =>
          rw [e2] at h
          cases h
          obtain ⟨G1, st1, sr1, hd1, hn1⟩ := ih r hg e2
          have off : ∀ b ∈ f, ¬ (own φ b ∨ b ∈ g) := fun b hb z => z.elim (hf b (List.mem_append_left _ hb)).2 (dis b hb)
          have t0 : Tmp K G H s v f φ := ⟨q, fun b hb => (hf b (List.mem_append_left _ hb)).1, fun b hb => (hf b (List.mem_append_left _ hb)).2⟩
          obtain ⟨q1, q2, q3⟩ := t0.frame st1 off
          obtain ⟨G2, st2, sr2, hd2, hn2⟩ := Tmp.freeze (φ := φ) ⟨q1, q2, q3⟩ sr1 e1
          refine ⟨G2, ?_, sr2, .cons hd2 (hd1.mono st2.gg), fun b hb => ?_⟩
          · have st1' := st1.frame (T := fun b => b ∈ f) fun b hb => ⟨off b hb, by
              obtain ⟨o, e⟩ := q.here b hb
              rw [e]; exact fun z => nomatch z⟩
            have stt := st1'.trans st2
            refine ⟨stt.gg, fun b u hu hn => stt.keep b u hu fun z => hn ?_, fun b hb => (stt.sub b hb).imp (fun z => ?_) id, fun b e e' => (stt.gnew b e e').imp (fun z => ?_) id, stt.there⟩
            · rcases z with (z | z) | z
              · exact .inl z
              · exact .inr (List.mem_append_right _ z)
              · exact .inr (List.mem_append_left _ z)
            · rcases z with (z | z) | z
              · exact .inl z
              · exact .inr (List.mem_append_right _ z)
              · exact .inr (List.mem_append_left _ z)
            · rcases z with (z | z) | z
              · exact .inl z
              · exact .inr (List.mem_append_right _ z)
              · exact .inr (List.mem_append_left _ z)
          · rcases hn2 b hb with z | z
            · exact (hn1 b z).imp id fun z => List.mem_append_right _ z
            · exact .inr (List.mem_append_left _ z)
end
end VE

/-! VS4: defs where no repr is running (FnG); their calls; a def by its body. -/
namespace VE
open PySem L2 PySem.Spec PyProof.Rows

/-- a def keeps its promise wherever there is room and no repr runs around it -/
structure FnG (P : Program) (w : World) (K : PySem.W.Frag) (mg : Str → Option Value) (base : Heap) (CX : CXT) (k : Nat) (f : Addr) (fd : FuncData) (ps : List Str) (sp : Sp) : Prop where
  len : ∀ vs H Q E, sp vs H Q E → vs.length = ps.length
  go : ∀ (A : Around) (outer : List Env) (s : Shared) (H : Hp) (args : Args) (us : List Value) (vs : List V) (Q : VK) (E : XK),
    Room k A → A.guards = some [] → Env0 P w K mg base A outer s H → BindsTo s fd args (ps.zip us) → Vals vs us → sp vs H Q E → codeAny (model P w) A (.call (.ref f) args) (CR CX outer P w H s Q E) s
section
variable {X : Cx} {CX : CXT} {k : Nat} {f : Addr} {fd : FuncData} {ps : List Str} {sp : Sp} {E : L2.St → XK} {x : Str} {p pos : Pos} {e : Expr} {es : List Expr} {t : TA}
theorem FnG.at {pins : List (Addr × Obj)} {σ : L2.St} {H : Hp} {s : Shared} {Q : VK} {us : List Value} {vs : List V} (F : FnG X.prog X.w X.K X.mg X.base CX k f fd ps sp) (hr : Room k X.A) (hg : X.A.guards = some [])
    (hb : Binds X.K fd ps []) (hx : PassesAt CX X σ (E σ)) (I : L2.Inv X pins σ H s) (r : Vals vs us) (h : sp vs H Q (E σ)) :
    wpAny (model X.prog X.w) X.A (call (.ref f) us) (EP X pins σ Q) X.xe s := by
  have n : us.length = ps.length := r.length.symm.trans (F.len vs H Q (E σ) h)
  have bt := hb s us I.kIn (by simpa using n)
  simp only [List.append_nil] at bt
  have c := F.go X.A X.stack s H ⟨us, []⟩ us vs Q (E σ) hr hg I.env0 bt r h
  refine wpAny_call (codeAny_mono c ?_)
  intro res s' q
  match res, q with
  | .ok (.ret u), q => exact I.after q
  | .error z, q => exact hx pins H s z s' I q
/-- f(e, ..) -/
theorem pe_callG (F : FnG X.prog X.w X.K X.mg X.base CX k f fd ps sp) (hr : Room k X.A) (hgd : X.A.guards = some []) (hg : Gl X x) (hm : X.mg x = some (.ref f)) (hk : PySem.W.keepIn X.K (.ref f) = true)
    (hb : Binds X.K fd ps []) (hx : ∀ σ, PassesAt CX X σ (E σ)) (ha : PA X (e :: es) t) (hdb : (x == ("__debug__" : Str)) = false)
    (he : starEach (e :: es) X.env = (false, eval e X.env) :: starEach es X.env) (hpl : (backTo pos (starEach es X.env)).any (·.1) = false) :
    PE X (.Call (.Name x p) (e :: es) [] pos) (tCallS sp E t) := by
  constructor
  intro pins s σ H Q I h
  have args := ha.run pos pins s σ H _ I h
  refine wpAny_Call_Name_kw (ld_glob I hg hm ?_ hdb)
  exact PySem.W.callWith_K (h₀ := X.base) I.ok.mod.kin hk (wpAny_mono args (fun us s1 ⟨vs, H1, I1, r, q⟩ => ⟨I1.kIn, F.at hr hgd hb (hx σ) I1 r q⟩) fun _ _ z => z) he hpl
end
section
variable {P : Program} {w : World} {K : PySem.W.Frag} {mg : Str → Option Value} {base : Heap}
/-- a def of the text keeps its promise by its body -/
theorem Fun.okG {CX : CXT} {x qual : Str} {st : Stmt} {f : Addr} {fd : FuncData} {N ps : List Str} {k : Nat} {sp : Sp} (F : L2.Fun K x qual st f fd) (Sc : FnScope N ps (defScope st)) (len : ∀ vs H Q E, sp vs H Q E → vs.length = ps.length)
    (hbody : ∀ (cdv : Value) (A : Around) (outer : List Env) (s : Shared) (H : Hp) (vs : List V) (Q : VK) (E : XK), Room k (A.deeper (envOfC qual (defScope st) s.heap.objs.size f cdv)) → A.guards = some [] → sp vs H Q E →
      ∃ t, PSs (cxOf CX P w K mg base N qual (defScope st) f cdv A outer s H E) (defBody st) t ∧ t { nx := fun _ H' => Q .non H', rt := Q } (start N vs) H) : FnG P w K mg base CX (k + 1) f fd ps sp := by
  obtain ⟨oc, od, kV, doc, pm, an, cdv, ct, osl, rfl, lk, hcd⟩ := F.ex
  refine ⟨len, ?_⟩
  intro A outer s H args us vs Q E hr hg e0 hb r hsp
  have KX : K.In s.heap := e0.mod.kin.keeps fun b o e => (e0.bs b o e).1
  have lim : s.heap.NoLimit := e0.mod.nolimit.keeps fun b o e => (e0.bs b o e).1
  have kinds : ∀ y ∈ ps.zip us, (defScope st).names.lookup y.1 = some .local ∨ ((defScope st).names.lookup y.1 = some .cell ∧ ((cellsFrom (s.heap.objs.size + 1) (defScope st).names []).lookup y.1).isSome = true) := by
    intro y hy
    have hp := (List.of_mem_zip (show (y.1, y.2) ∈ ps.zip us from hy)).1
    exact (Sc.par y.1 hp).imp id fun q => ⟨q, PySem.W.cellsFrom_some _ _ _ (.inl q)⟩
  refine codeAny_call_function hr.depth (KX _ _ lk) rfl Sc.co Sc.gen rfl (PySem.W.codeRec_of KX hcd) (hb _ _ _ _ (wpAny_newFunctionEnv_cells Sc.kind kinds ?_))
  intro env he s1 y
  subst he
  refine ⟨lim.keeps y.toInCall.keep, codeAny_func ?_⟩
  obtain ⟨t, ht, hq⟩ := hbody cdv A outer s H vs Q E (hr.deeper _) hg hsp
  have I := inv_start (CX := CX) (mg := mg) (E := E) Sc hr.hd e0 (len vs H Q E hsp) r y
  refine wpAny_mono (ht.run [] s1 (start N vs) H _ I hq) ?_ fun _ _ z => z
  intro fl s' hs
  match fl, hs with
  | .ret u, ⟨v, σ', H', J, rv, q⟩ => exact ⟨v, H', J.os, J.bare, J.base, J.hok, rv, q⟩
  | .next, ⟨σ', H', J, q⟩ => exact ⟨.non, H', J.os, J.bare, J.base, J.hok, rfl, q⟩
  | .brk, ⟨_, _, _, q⟩ => exact q.elim
  | .cont, ⟨_, _, _, q⟩ => exact q.elim
end
/-- the promise of a def by its evaluation -/
def spOf (K : PySem.W.Frag) (xr : XR) (n : Nat) (sem : List S → R S) : Sp := fun vs H Q E =>
  vs.length = n ∧ ∃ ss G φ, ss.length = n ∧ SR K G H ss (vs.map some) φ ∧ PoE K xr (fun cls dd _ H' => E cls dd H') (vs.map some) G H φ (sem ss) Q
end VE

/-! VS5: what a loop or a comprehension walks; targets. -/
namespace VE
open PySem L2 PySem.Spec PyProof.Rows

/-- a walk over data; s at v is held aside -/
inductive Shape (K : PySem.W.Frag) : L2.It → List PyData → S → V → Prop
  | rng (lo : Int) (n : Nat) : Shape K (Itr lo n) ((List.range n).map fun (i : Nat) => .int (lo + (i : Int))) (.val .none) .non
  | rngC (lo c : Int) (n : Nat) : Shape K (Itc lo c n) (rngC lo c n) (.val .none) .non
  | chr (z : Str) : Shape K (Its z) (chars z) (.val .none) .non
  | lst {a : Addr} {s : S} {ds : List PyData} : view s = some (.list ds) → Shape K (Itl K a) ds s (.ref a)
  | tup {a : Addr} {s : S} {ds : List PyData} : view s = some (.tuple ds) → Shape K (Itt K a) ds s (.ref a)
  | enum {a : Addr} {s : S} {ds : List PyData} : view s = some (.list ds) → Shape K (Ite K a) (enumFrom ds) s (.ref a)
section
variable {K : PySem.W.Frag} {xr : XR} {W : WX} {Φ : Fns} {σ : L2.St} {G H G' H' : Hp} {φ φ' : Nat → List Addr} {ρ : List S} {Q : VK}
theorem getElem?_enum {ds : List PyData} {i : Nat} : (enumFrom ds)[i]? = (ds[i]?).map fun d => .tuple [.int i, d] := by
  unfold enumFrom
  rw [List.getElem?_map, List.getElem?_zipIdx]
  cases ds[i]? <;> simp
theorem enum_len {ds : List PyData} : (enumFrom ds).length = ds.length := by
  unfold enumFrom
  rw [List.length_map, List.length_zipIdx]
theorem Shape.turn {J : L2.It} {xs : List PyData} {s : S} {v : V} {f : List Addr} (sh : Shape K J xs s v) (t : Tmp K G H s v f φ) (r : SR K G H ρ σ φ) (i : Nat) :
    (∀ d, xs[i]? = some d → J.go i H ∧ ∀ x H', J.yld i H x H' → ∃ G', Stp G H (own φ) G' H' (own φ) ∧ SR K G' H' ρ σ φ ∧ Tmp K G' H' s v f φ ∧ DP K G' x d) ∧ (xs.length ≤ i → J.stop i H) := by
  cases sh with
  | rng lo n =>
    refine ⟨fun d hd => ?_, fun h => ?_⟩
    · have hi : i < n := by
        have q := (List.getElem?_eq_some_iff.mp hd).1
        simpa using q
      have e : d = .int (lo + (i : Int)) := by
        rw [List.getElem?_map, List.getElem?_range hi] at hd
        exact (Option.some.inj hd).symm
      subst e
      exact ⟨hi, fun x H' ⟨e1, e2⟩ => by subst e1 e2; exact ⟨G, Stp.refl, r, t, .int _⟩⟩
    · have h' : n ≤ i := by simpa using h
      exact h'
  | rngC lo c n =>
    refine ⟨fun d hd => ?_, fun h => ?_⟩
    · unfold VE.rngC at hd
      have hi : i < n := by
        have q := (List.getElem?_eq_some_iff.mp hd).1
        simpa using q
      have e : d = .int (lo + (i : Int) * c) := by
        rw [List.getElem?_map, List.getElem?_range hi] at hd
        exact (Option.some.inj hd).symm
      subst e
      exact ⟨hi, fun x H' ⟨e1, e2⟩ => by subst e1 e2; exact ⟨G, Stp.refl, r, t, .int _⟩⟩
    · unfold VE.rngC at h
      have h' : n ≤ i := by simpa using h
      exact h'
  | chr z =>
    refine ⟨fun d hd => ?_, fun h => ?_⟩
    · unfold chars at hd
      rw [List.getElem?_map] at hd
      cases ec : z.cps.toList[i]? with
      | none => rw [ec] at hd; cases hd
      | some c =>
        rw [ec] at hd
        cases hd
        have ec' : z.cps[i]? = some c := by rw [← ec, Array.getElem?_toList]
        have hi : i < z.cps.size := by
          obtain ⟨q, _⟩ := Array.getElem?_eq_some_iff.mp ec'
          exact q
        refine ⟨hi, fun x H' y => ?_⟩
        obtain ⟨rfl, c', e1, rfl⟩ := y
        rw [ec'] at e1
        cases e1
        exact ⟨G, Stp.refl, r, t, .str _⟩
    · have h' : z.cps.size ≤ i := by
        unfold chars at h
        simpa using h
      exact h'
  | lst hv =>
    obtain ⟨a, vs, e, h1, h2⟩ := (VW.of t.rel hv).list r.gh
    cases e
    refine ⟨fun d hd => ?_, fun h => ⟨vs, h1, by rw [h2.length]; exact h⟩⟩
    obtain ⟨y, hy, hyd⟩ := h2.get hd
    refine ⟨⟨vs, y, h1, hy⟩, fun x H' ⟨e1, e2⟩ => ?_⟩
    subst e1
    have q := e2 vs h1
    rw [hy] at q
    cases q
    exact ⟨G, Stp.refl, r, t, hyd⟩
  | tup hv =>
    obtain ⟨a, vs, e, h1, h2⟩ := (VW.of t.rel hv).tuple
    cases e
    have h1' := Same.seqT r.gh h1
    refine ⟨fun d hd => ?_, fun h => ⟨vs, h1', by rw [h2.length]; exact h⟩⟩
    obtain ⟨y, hy, hyd⟩ := h2.get hd
    refine ⟨⟨vs, y, h1', hy⟩, fun x H' ⟨e1, e2⟩ => ?_⟩
    subst e1
    have q := e2 vs h1'
    rw [hy] at q
    cases q
    exact ⟨G, Stp.refl, r, t, hyd⟩
  | enum hv =>
    obtain ⟨a, vs, e, h1, h2⟩ := (VW.of t.rel hv).list r.gh
    cases e
    refine ⟨fun d hd => ?_, fun h => ⟨vs, h1, by rw [h2.length, ← enum_len]; exact h⟩⟩
    rw [getElem?_enum] at hd
    rename_i ds
    cases q : ds[i]? with
    | none => rw [q] at hd; cases hd
    | some d' =>
      rw [q] at hd
      cases hd
      obtain ⟨y, hy, hyd⟩ := h2.get q
      refine ⟨⟨vs, y, h1, hy⟩, fun x H' ⟨T, x', e1, hT, e2, e3⟩ => ?_⟩
      subst e1 e2
      have q2 := e3 vs h1
      rw [hy] at q2
      cases q2
      have st : Stp G H (own φ) (upd G T (.tup [.int (i : Nat), y])) (upd H T (.tup [.int (i : Nat), y])) (own φ) := Stp.newG r.gh hT
      obtain ⟨t1, t2, t3⟩ := t.frame st t.off
      exact ⟨_, st, r.newG hT, ⟨t1, t2, t3⟩, .tup (.inl (.inl upd_same)) (.cons (.int _) (.cons (hyd.mono st.gg) .nil))⟩

/-! ### the readings of iterables -/
def iSeq (K : PySem.W.Frag) (te : TE) : TI := fun σ H R => te σ H fun x H1 => (∃ a, x = .ref a ∧ (∃ xs, SqL K H1 a xs) ∧ R (Itl K a) H1) ∨ ∃ a, x = .ref a ∧ (∃ xs, SqT K H1 a xs) ∧ R (Itt K a) H1
theorem pi_seq {X : Cx} {tg l : Expr} {tl : TE} (hl : PE X l tl) : PI X tg l (iSeq X.K tl) := by
  constructor
  intro pins s σ H R I h
  refine wpAny_mono (hl.run pins s σ H _ I h) ?_ fun _ _ z => z
  intro v s1 ⟨x, H1, I1, r1, q1⟩
  have own1 : ∀ b ∈ [s1.heap.objs.size], FpOk X pins H1 b := fun b hb => by
    obtain rfl := List.mem_singleton.mp hb
    exact I1.fpOk (Nat.le_refl _) (I1.hok.fresh (Nat.le_refl _))
  rcases q1 with ⟨a, rfl, ⟨xs, hq⟩, q⟩ | ⟨a, rfl, ⟨xs, hq⟩, q⟩
  · cases r1
    obtain ⟨its, rv, p, hz⟩ := I1.list hq
    exact wpAny_pyIter_list p.isList ⟨s1.heap.objs.size, [s1.heap.objs.size], _, _, H1, rfl, I1.kept (t' := s1.toks) (fun b o e => Heap.get?_push_of_some _ e), turn_list a _, ⟨_, Heap.get?_push_size _ rfl, rfl, rfl⟩, own1, q⟩
  · cases r1
    obtain ⟨its, rv, p, hz⟩ := I1.tuple hq
    exact wpAny_pyIter_tuple (show s1.heap.IsTuple a its.toArray from p) ⟨s1.heap.objs.size, [s1.heap.objs.size], _, _, H1, rfl, I1.kept (t' := s1.toks) (fun b o e => Heap.get?_push_of_some _ e), turn_tuple a _, ⟨_, Heap.get?_push_size _ rfl, rfl, rfl⟩, own1, q⟩
def tIt (K : PySem.W.Frag) (xr : XR) (W : WX) (Φ : Fns) : It → TI
  | .rng1 a => iRng1 (tAs K xr W Φ [a])
  | .rng2 a b => iRng2 (tAs K xr W Φ [a, b])
  | .rng3 as => iRng3 (tAs K xr W Φ as)
  | .seq a => iSeq K (tA K xr W Φ a)
  | .enum a => iEnum K (tAs K xr W Φ [a])
  | .zip _ _ => fun _ _ _ => False
  | .chars a => iStr (tA K xr W Φ a)
def Hold (σ : L2.St) (h : Option (Nat × S)) (s : S) (v : V) : Prop := match h with
  | none => True
  | some (i, s') => s' = s ∧ σ[i]? = some (some v)
def PoI (K : PySem.W.Frag) (xr : XR) (W : WX) (σ : L2.St) (G H : Hp) (φ : Nat → List Addr) (r : R (List PyData × Option (Nat × S))) (Rr : L2.It → Hp → Prop) : Prop := match r with
  | .stk => False
  | .ok p ρ' => ∀ J G' H' φ' s v f, Stp G H (own φ) G' H' (fun a => own φ' a ∨ a ∈ f) → SR K G' H' ρ' σ φ' → Tmp K G' H' s v f φ' → Shape K J p.1 s v → Hold σ p.2 s v → Rr J H'
  | .exc c d ρ' => PoX K xr W σ G H φ c d ρ'
/-- one operand that is walked: as it is looked at, what is held aside -/
theorem opsI {a : A} {k : Option S → List S → R (List PyData × Option (Nat × S))} {Rr : L2.It → Hp → Prop} {Qr : List V → Hp → Prop} (r : SR K G H ρ σ φ) (h : PoI K xr W σ G H φ ((evA Φ a ρ).bnd k) Rr)
    (hop : ∀ t ρ' x G' H' φ' f, SR K G' H' ρ' σ φ' → OpR1 K G' H' σ a t x f → (∀ b ∈ f, G' b = none ∧ ¬ own φ' b) → Stp G H (own φ) G' H' (fun b => own φ' b ∨ b ∈ f) → PoI K xr W σ G H φ (k t ρ') Rr → Qr [x] H') : tAs K xr W Φ [a] σ H Qr := by
  refine ops [a] ρ G H φ Qr r ?_
  simp only [evAs]
  cases e : evA Φ a ρ with
  | stk => rw [e] at h; exact h
  | exc c d ρ' => rw [e] at h; exact h
  | ok t ρ' =>
    rw [e] at h
    simp only [R.bnd] at h ⊢
    intro vs G' H' φ' fs st r' o hf
    obtain ⟨t', x, f, e1, rfl, o1, rfl⟩ := o.one
    cases e1
    rw [List.append_nil] at st hf
    exact hop t ρ' x G' H' φ' f r' o1 hf st h
theorem opsI2 {a b : A} {k : Option S → Option S → List S → R (List PyData × Option (Nat × S))} {Rr : L2.It → Hp → Prop} {Qr : List V → Hp → Prop} (r : SR K G H ρ σ φ) (h : PoI K xr W σ G H φ ((evA Φ a ρ).bnd fun t ρ' => (evA Φ b ρ').bnd fun u ρ'' => k t u ρ'') Rr)
    (hop : ∀ t u ρ' x y G' H' φ' f g, SR K G' H' ρ' σ φ' → OpR1 K G' H' σ a t x f → OpR1 K G' H' σ b u y g → Stp G H (own φ) G' H' (own φ') → PoI K xr W σ G H φ (k t u ρ') Rr → Qr [x, y] H') : tAs K xr W Φ [a, b] σ H Qr := by
  refine ops [a, b] ρ G H φ Qr r ?_
  simp only [evAs]
  cases e : evA Φ a ρ with
  | stk => rw [e] at h; exact h
  | exc c d ρ' => rw [e] at h; exact h
  | ok t ρ1 =>
    rw [e] at h
    simp only [R.bnd] at h ⊢
    cases e2 : evA Φ b ρ1 with
    | stk => rw [e2] at h; exact h
    | exc c d ρ' => rw [e2] at h; exact h
    | ok u ρ2 =>
      rw [e2] at h
      simp only [R.bnd] at h ⊢
      intro vs G' H' φ' fs st r' o hf
      obtain ⟨t', u', x, y, f, g, e1, rfl, o1, o2, rfl⟩ := o.two
      cases e1
      exact hop t u ρ2 x y G' H' φ' f g r' o1 o2 (st.weak fun _ q => .inl q) h
theorem opsIs {as : List A} {k : List (Option S) → List S → R (List PyData × Option (Nat × S))} {Rr : L2.It → Hp → Prop} {Qr : List V → Hp → Prop} (r : SR K G H ρ σ φ) (h : PoI K xr W σ G H φ ((evAs Φ as ρ).bnd k) Rr)
    (hop : ∀ ts ρ' vs G' H' φ' fs, SR K G' H' ρ' σ φ' → Ops K G' H' σ as ts vs fs → Stp G H (own φ) G' H' (own φ') → PoI K xr W σ G H φ (k ts ρ') Rr → Qr vs H') : tAs K xr W Φ as σ H Qr := by
  refine ops as ρ G H φ Qr r ?_
  cases e : evAs Φ as ρ with
  | stk => rw [e] at h; exact h
  | exc c d ρ' => rw [e] at h; exact h
  | ok ts ρ' =>
    rw [e] at h
    exact fun vs G' H' φ' fs st r' o hf => hop ts ρ' vs G' H' φ' fs r' o (st.weak fun _ q => .inl q) h
theorem rgC_of {i j c : Int} (hi : i.natAbs < 2 ^ 60) (hj : j.natAbs < 2 ^ 60) (h0 : 0 < c) (hc : c < 1000000000) : RgC i j c (cntC i j c) := by
  have e : Builtin.Range.rangeSize i j c = ((cntC i j c : Nat) : Int) := by
    unfold Builtin.Range.rangeSize cntC
    rw [if_pos h0]
    split
    · rename_i hl
      have e1 : j - i + c - 1 = (j - i - 1) + 1 * c := by omega
      rw [e1, Int.add_mul_ediv_right _ _ (by omega)]
      have p : 0 ≤ (j - i - 1) / c := Int.ediv_nonneg (by omega) (by omega)
      omega
    · rename_i hl
      have p : (j - i + c - 1) / c ≤ 0 := by
        have z : (j - i + c - 1) / c < 1 := Int.ediv_lt_of_lt_mul h0 (by omega)
        omega
      omega
  refine ⟨by omega, by omega, ?_, e⟩
  have hn : (cntC i j c : Int) ≤ 2 ^ 61 + 1 := by
    rw [← e]
    unfold Builtin.Range.rangeSize
    rw [if_pos h0]
    split
    · have z : (j - i - 1) / c ≤ j - i - 1 := Int.ediv_le_self _ (by omega)
      omega
    · omega
  unfold Builtin.Range.small
  rw [e, if_pos h0]
  simp only [Builtin.Range.rangeFitsLong, Bool.and_eq_true, Bool.or_eq_true, decide_eq_true_eq, beq_iff_eq]
  omega
theorem Tmp.non : Tmp K G H (.val .none) .non [] φ := ⟨⟨.non, rfl⟩, (fun _ z => nomatch z), fun _ z => nomatch z⟩
/-- what is walked is held aside: the operand's own value, or the name's -/
theorem hold_of {a : A} {t : Option S} {x : V} {f : List Addr} {d : PyData} (r : SR K G' H' ρ σ φ') (o : OpR1 K G' H' σ a t x f) (hf : ∀ b ∈ f, G' b = none ∧ ¬ own φ' b) (hd : res a (t.bind view) ρ = some d) (st : Stp G H (own φ) G' H' (fun b => own φ' b ∨ b ∈ f))
    {Rr : L2.It → Hp → Prop} {xs : List PyData} (h : PoI K xr W σ G H φ (holdO a xs ρ) Rr) :
    ∃ s, view s = some d ∧ ∀ J, Shape K J xs s x → Rr J H' := by
  cases a with
  | e y =>
    obtain ⟨s, rfl, q⟩ := o
    exact ⟨s, hd, fun J sh => h J G' H' φ' s x f st r ⟨q, fun b hb => (hf b hb).1, fun b hb => (hf b hb).2⟩ sh trivial⟩
  | pl i =>
    obtain ⟨rfl, hv⟩ := o
    have hd : view (slot ρ i) = some d := hd
    have nd : slot ρ i ≠ .dead := fun e => by rw [e] at hd; cases hd
    obtain ⟨w, hw, q⟩ := r.at nd
    rw [hv] at hw
    cases hw
    unfold holdO at h
    simp only at h
    split at h
    · rename_i hval
      refine ⟨slot ρ i, hd, fun J sh => h J G' H' φ' (slot ρ i) x [] (st.weak fun b z => z.elim .inl fun y => nomatch y) r ?_ sh trivial⟩
      cases e : slot ρ i with
      | val d' => rw [e] at q; exact ⟨⟨q.1, rfl⟩, (fun _ z => nomatch z), fun _ z => nomatch z⟩
      | lst _ => rw [e] at hval; cases hval
      | dct _ => rw [e] at hval; cases hval
      | dead => exact absurd e nd
    · refine ⟨slot ρ i, hd, fun J sh => h J G' H' (upf φ' i []) (slot ρ i) x (φ' i) (st.weak fun b z => ?_) r.drop (r.tmp q) sh ⟨rfl, hv⟩⟩
      rcases z with z | z
      · rcases own_upf z with z | z
        · cases z
        · exact .inl z
      · exact .inl ⟨i, z⟩
theorem it_ok {Rr : L2.It → Hp → Prop} : ∀ (it : It), SR K G H ρ σ φ → PoI K xr W σ G H φ (evIt Φ it ρ) Rr → tIt K xr W Φ it σ H Rr
  | .rng1 a, r, h => by
    rw [evIt] at h
    unfold tIt iRng1
    refine opsI r h fun t ρ' x G' H' φ' f r' o hf st q => ?_
    split at q
    · rename_i n hn
      obtain rfl := (o.vw r' hn).int
      split at q
      · rename_i hb
        have hb := of_decide_eq_true hb
        refine ⟨n, rfl, by omega, by omega, q _ G' H' φ' (.val .none) .non [] (st.weak fun b z => z.elim .inl fun y => nomatch y) r' Tmp.non ?_ trivial⟩
        have sh := Shape.rng (K := K) 0 n.toNat
        have e : rng 0 n = (List.range n.toNat).map fun (i : Nat) => .int (0 + (i : Int)) := by unfold rng; rw [Int.sub_zero]
        simp only [e]
        exact sh
      · exact q.elim
    · exact q.elim
  | .rng2 a b, r, h => by
    rw [evIt] at h
    unfold tIt iRng2
    refine opsI2 r h fun t u ρ' x y G' H' φ' f g r' o1 o2 st q => ?_
    split at q
    · rename_i m n hm hn
      obtain rfl := (o1.vw r' hm).int
      obtain rfl := (o2.vw r' hn).int
      split at q
      · rename_i hb
        have hb := of_decide_eq_true hb
        exact ⟨m, n, rfl, ⟨by omega, by omega, by omega, by omega⟩, q _ G' H' φ' (.val .none) .non [] (st.weak fun b z => z.elim id fun y => nomatch y) r' Tmp.non (Shape.rng m (n - m).toNat) trivial⟩
      · exact q.elim
    · exact q.elim
  | .rng3 as, r, h => by
    rw [evIt] at h
    unfold tIt iRng3
    refine opsIs r h fun ts ρ' vs G' H' φ' fs r' o st q => ?_
    split at q
    · rename_i i j k hds
      have vw := o.vws r' hds
      split at q
      · rename_i hb
        obtain ⟨b1, b2, b3, b4⟩ := of_decide_eq_true hb
        cases vw with
        | cons v1 v2 =>
          cases v2 with
          | cons v2 v3 =>
            cases v3 with
            | cons v3 v4 =>
              cases v4
              obtain rfl := v1.int
              obtain rfl := v2.int
              obtain rfl := v3.int
              exact ⟨i, j, k, _, rfl, rgC_of b1 b2 b3 b4, q _ G' H' φ' (.val .none) .non [] (st.weak fun b z => z.elim id fun y => nomatch y) r' Tmp.non (Shape.rngC i k _) trivial⟩
      · exact q.elim
    · exact q.elim
  | .seq a, r, h => by
    rw [evIt] at h
    have key : tAs K xr W Φ [a] σ H (fun vs H1 => match vs with
        | [x] => (∃ a, x = V.ref a ∧ (∃ xs, SqL K H1 a xs) ∧ Rr (Itl K a) H1) ∨ ∃ a, x = V.ref a ∧ (∃ xs, SqT K H1 a xs) ∧ Rr (Itt K a) H1
        | _ => False) := by
      refine opsI r h fun t ρ' x G' H' φ' f r' o hf st q => ?_
      split at q
      · rename_i d hd
        split at q
        · rename_i xs hxs
          obtain ⟨s, hs, hR⟩ := hold_of r' o hf hd st q
          have vw := o.vw r' hd
          cases d with
          | list ds =>
            cases hxs
            obtain ⟨b, vs, rfl, h1, _⟩ := vw.list r'.gh
            exact .inl ⟨b, rfl, ⟨vs, h1⟩, hR _ (.lst hs)⟩
          | tuple ds =>
            cases hxs
            obtain ⟨b, vs, rfl, h1, _⟩ := vw.tuple
            exact .inr ⟨b, rfl, ⟨vs, Same.seqT r'.gh h1⟩, hR _ (.tup hs)⟩
          | none => cases hxs
          | bool _ => cases hxs
          | int _ => cases hxs
          | str _ => cases hxs
          | dict _ => cases hxs
        · exact q.elim
      · exact q.elim
    exact key
  | .chars a, r, h => by
    rw [evIt] at h
    have key : tAs K xr W Φ [a] σ H (fun vs H1 => match vs with
        | [x] => ∃ z, x = V.str z ∧ Rr (Its z) H1
        | _ => False) := by
      refine opsI r h fun t ρ' x G' H' φ' f r' o hf st q => ?_
      split at q
      · rename_i z hz
        obtain rfl := (o.vw r' hz).str
        exact ⟨z, rfl, q _ G' H' φ' (.val .none) .non [] (st.weak fun b z => z.elim .inl fun y => nomatch y) r' Tmp.non (.chr z) trivial⟩
      · exact q.elim
    exact key
  | .enum a, r, h => by
    rw [evIt] at h
    unfold tIt iEnum
    refine opsI r h fun t ρ' x G' H' φ' f r' o hf st q => ?_
    split at q
    · rename_i ds hd
      obtain ⟨s, hs, hR⟩ := hold_of r' o hf hd st q
      obtain ⟨b, vs, rfl, h1, _⟩ := (o.vw r' hd).list r'.gh
      exact ⟨b, vs, rfl, h1, hR _ (.enum hs)⟩
    · exact q.elim
  | .zip _ _, _, h => by
    rw [evIt] at h
    exact h.elim

/-! ### targets -/
def tSets (K : PySem.W.Frag) : List Nat → TGs
  | [] => gNil
  | i :: is => gCons (gName i) (tSets K is)
def tTg (K : PySem.W.Frag) : Tg → TG
  | .nm i => gName i
  | .tp is => gTup K is.length (tSets K is)
/-- the footprints behind stores of data -/
def dropF (φ : Nat → List Addr) : List Nat → Nat → List Addr
  | [] => φ
  | i :: is => dropF (upf φ i []) is
theorem own_dropF : ∀ {is : List Nat} {φ : Nat → List Addr} {a : Addr}, own (dropF φ is) a → own φ a
  | [], _, _, h => h
  | i :: is, φ, a, h => by
    rcases own_upf (own_dropF (is := is) h) with z | z
    · cases z
    · exact z
theorem upf_nil_if {φ : Nat → List Addr} {i : Nat} {c : Prop} [Decidable c] : upf φ i (if c then ([] : List Addr) else []) = upf φ i [] := by split <;> rfl
theorem sets_ok : ∀ {is : List Nat} {vs : List V} {ds : List PyData} {ρ : List S} {σ : L2.St} {φ : Nat → List Addr} {Q : L2.St → Hp → Prop}, is.length = vs.length → DPs K G vs ds → SR K G H ρ σ φ →
    (∀ σ', σ'.length = σ.length → (∀ j, j ∉ is → σ'[j]? = σ[j]?) → (∀ vs', (∀ i ∈ is, i ∈ vs') → wipe σ' vs' = wipe σ vs') → SR K G H (sets is (ds.map S.val) ρ) σ' (dropF φ is) → Q σ' H) → tSets K is vs σ H Q
  | [], vs, ds, ρ, σ, φ, Q, hl, hd, r, q => by
    cases hd with
    | nil => exact ⟨rfl, q σ rfl (fun _ _ => rfl) (fun _ _ => rfl) r⟩
    | cons _ _ => simp at hl
  | i :: is, vs, ds, ρ, σ, φ, Q, hl, hd, r, q => by
    cases hd with
    | nil => simp at hl
    | cons h1 h2 =>
      rename_i v vs d ds
      refine ⟨v, vs, rfl, ?_⟩
      have r' := r.store (i := i) (f := []) (s := .val d) ⟨⟨h1, rfl⟩, (fun _ z => nomatch z), fun _ z => nomatch z⟩
      rw [upf_nil_if] at r'
      refine sets_ok (is := is) (by simpa using hl) h2 r' fun σ' e1 e2 e3 r2 => q σ' (by rw [e1, List.length_set]) (fun j hj => ?_) (fun vs' hv => ?_) r2
      · rw [e2 j fun z => hj (List.mem_cons_of_mem _ z), List.getElem?_set_ne fun z => hj (by rw [z]; exact List.mem_cons_self)]
      · rw [e3 vs' fun k hk => hv k (List.mem_cons_of_mem _ hk)]
        have hm := hv i List.mem_cons_self
        have key : ∀ (l : List Nat) (τ : L2.St), i ∈ l → wipe (τ.set i (some v)) l = wipe τ l := by
          intro l
          induction l with
          | nil => intro τ h; cases h
          | cons k l ih =>
            intro τ h
            unfold wipe
            by_cases hk : i ∈ l
            · rw [ih τ hk]
            · have e : i = k := (List.mem_cons.mp h).resolve_right hk
              subst e
              have gen : ∀ (l : List Nat) (τ : L2.St) (o : Option V), i ∉ l → wipe (τ.set i o) l = (wipe τ l).set i o := by
                intro l
                induction l with
                | nil => intro τ o _; rfl
                | cons m l ih2 =>
                  intro τ o hn
                  unfold wipe
                  rw [ih2 τ o fun z => hn (List.mem_cons_of_mem _ z), List.set_comm _ _ fun z => hn (by rw [z]; exact List.mem_cons_self)]
              rw [gen l τ _ hk, List.set_set]
        exact key vs' σ hm
/-- a datum is stored by a target -/
theorem tg_ok {t : Tg} {x : V} {d : PyData} {ρ ρ' : List S} {Q : L2.St → Hp → Prop} (hb : bindT t d ρ = some ρ') (hd : DP K G x d) (r : SR K G H ρ σ φ)
    (q : ∀ σ', σ'.length = σ.length → (∀ j, j ∉ tgs t → σ'[j]? = σ[j]?) → (∀ vs', (∀ i ∈ tgs t, i ∈ vs') → wipe σ' vs' = wipe σ vs') → SR K G H ρ' σ' (dropF φ (tgs t)) → Q σ' H) : tTg K t x σ H Q := by
  cases t with
  | nm i =>
    cases hb
    have s := sets_ok (K := K) (G := G) (H := H) (is := [i]) (vs := [x]) (ds := [d]) (Q := Q) rfl (.cons hd .nil) r q
    obtain ⟨v, rr, e, s⟩ := s
    cases e
    exact s.2
  | tp is =>
    cases d with
    | tuple ds =>
      simp only [bindT] at hb
      split at hb
      · rename_i hl
        cases hb
        cases hd with
        | tup h1 h2 => exact ⟨_, _, rfl, Same.seqT r.gh h1, by rw [h2.length]; exact hl, sets_ok (by rw [h2.length]; exact hl.symm) h2 r q⟩
      · cases hb
    | _ => cases hb
end
end VE

/-! VS6: names read, displays, methods, calls by the evaluator. -/
namespace VE
open PySem L2 PySem.Spec PyProof.Rows
section
variable {K : PySem.W.Frag} {xr : XR} {W : WX} {Φ : Fns} {σ : L2.St} {G H G' H' : Hp} {φ φ' : Nat → List Addr} {ρ : List S} {Q : VK}
theorem rd_ok {i : Nat} {mv : Bool} (r : SR K G H ρ σ φ) (h : PoE K xr W σ G H φ (evE Φ (.rd i mv) ρ) Q) : tVar i σ H Q := by
  rw [evE] at h
  have go : ∀ s, slot ρ i = s → (match s with | .lst _ => True | .dct _ => True | _ => False) → PoE K xr W σ G H φ (if mv then .ok s (ρ.set i .dead) else match view s with
      | some d => .ok (.val d) (ρ.set i (.val d))
      | none => .stk) Q → tVar i σ H Q := by
    intro s e hs h
    have nd : slot ρ i ≠ .dead := fun z => by rw [e] at z; subst z; exact hs
    obtain ⟨v, hv, q⟩ := r.at nd
    have t := r.tmp q
    rw [e] at t
    refine ⟨v, hv, ?_⟩
    by_cases hm : mv = true
    · rw [if_pos hm] at h
      refine h v G H (upf φ i []) (φ i) (Stp.refl.weak fun a z => ?_) r.drop t
      rcases z with z | z
      · rcases own_upf z with z | z
        · cases z
        · exact z
      · exact ⟨i, z⟩
    · rw [if_neg hm] at h
      cases e2 : view s with
      | none => rw [e2] at h; exact h.elim
      | some d =>
        rw [e2] at h
        obtain ⟨G', st, sr, hd, _⟩ := t.freeze r.drop e2
        have sr2 := sr.back (s := .val d) (f := []) ⟨⟨hd, rfl⟩, (fun _ z => nomatch z), fun _ z => nomatch z⟩ hv
        rw [upf_nil_if, List.set_set] at sr2
        have ow : ∀ a, own (upf (upf φ i []) i []) a → own (upf φ i []) a := fun a z => (own_upf z).elim (fun y => nomatch y) id
        refine h v G' H _ [] ⟨st.gg, fun a o hh hn => hh, fun a z => ?_, fun a z z' => ?_, fun _ z => z⟩ sr2 ⟨⟨hd, rfl⟩, (fun _ z => nomatch z), fun _ z => nomatch z⟩
        · rcases z with z | z
          · rcases own_upf (ow a z) with z | z
            · cases z
            · exact .inl z
          · cases z
        · rcases st.gnew a z z' with (y | y) | y
          · rcases own_upf y with y | y
            · cases y
            · exact .inl y
          · exact .inl ⟨i, y⟩
          · exact .inr y
  cases e : slot ρ i with
  | dead => rw [e] at h; exact h.elim
  | val d =>
    rw [e] at h
    obtain ⟨v, hv, q⟩ := r.at (i := i) (by rw [e]; exact fun z => nomatch z)
    rw [e] at q
    exact ⟨v, hv, fin_val r q.1 h⟩
  | lst xs => rw [e] at h; exact go _ e trivial h
  | dct xs => rw [e] at h; exact go _ e trivial h

/-! ### displays -/
/-- operands, then a step; what is wanted still from the beginning -/
theorem opsE0 {as : List A} {k : List (Option S) → List S → R S} {Qr : List V → Hp → Prop} (r : SR K G H ρ σ φ) (h : PoE K xr W σ G H φ ((evAs Φ as ρ).bnd k) Q)
    (hop : ∀ ts ρ' vs G' H' φ' fs, SR K G' H' ρ' σ φ' → Ops K G' H' σ as ts vs fs → (∀ a ∈ fs, G' a = none ∧ ¬ own φ' a) → PoE K xr W σ G H φ (k ts ρ') Q → Stp G H (own φ) G' H' (fun a => own φ' a ∨ a ∈ fs) → Qr vs H') : tAs K xr W Φ as σ H Qr := by
  refine ops as ρ G H φ Qr r ?_
  cases e : evAs Φ as ρ with
  | stk => rw [e] at h; exact h
  | exc c d ρ' => rw [e] at h; exact h
  | ok ts ρ' =>
    rw [e] at h
    exact fun vs G' H' φ' fs st r' o t => hop ts ρ' vs G' H' φ' fs r' o t h st
/-- data kept, then a step -/
theorem keepD {as : List A} {k : List PyData → List S → R S} {Qr : List V → Hp → Prop} (r : SR K G H ρ σ φ) (h : PoE K xr W σ G H φ ((evAs Φ as ρ).bnd fun ts ρ' => match resV as ts ρ' with
      | some ds => k ds ρ'
      | none => .stk) Q)
    (hop : ∀ ρ' vs ds G' H' φ', SR K G' H' ρ' σ φ' → DPs K G' vs ds → PoE K xr W σ G' H' φ' (k ds ρ') Q → Qr vs H') : tAs K xr W Φ as σ H Qr := by
  refine opsE0 r h fun ts ρ' vs G' H' φ' fs r' o hf q st => ?_
  cases e : resV as ts ρ' with
  | none => rw [e] at q; exact q.elim
  | some ds =>
    rw [e] at q
    obtain ⟨G2, st2, sr2, hd, _⟩ := o.freeze r' hf e
    exact hop ρ' vs ds G2 H' φ' sr2 hd (PoE.from q (st.trans st2))
theorem tup_ok {as : List A} (r : SR K G H ρ σ φ) (h : PoE K xr W σ G H φ (evE Φ (.tup as) ρ) Q) : tTup (tAs K xr W Φ as) σ H Q := by
  rw [evE] at h
  refine keepD r h fun ρ' vs ds G' H' φ' r' hd q => ?_
  split at q
  · rename_i hz
    exact ⟨by rw [hd.length]; exact of_decide_eq_true hz, fun p hp => fin_tup r' hp hd q⟩
  · exact q.elim
theorem lst_ok {as : List A} (r : SR K G H ρ σ φ) (h : PoE K xr W σ G H φ (evE Φ (.lst as) ρ) Q) : tLst (tAs K xr W Φ as) σ H Q := by
  rw [evE] at h
  refine keepD r h fun ρ' vs ds G' H' φ' r' hd q => ?_
  split at q
  · rename_i hz
    exact ⟨by rw [hd.length]; exact of_decide_eq_true hz, fun p hp => fin_lst r' hp hd q⟩
  · exact q.elim

/-! ### methods that change a name's list -/
theorem set_self {i : Nat} {o : Option V} (h : σ[i]? = some o) : σ.set i o = σ := by
  refine List.ext_getElem? fun j => ?_
  by_cases e : i = j
  · subst e; rw [List.getElem?_set_self (List.getElem?_eq_some_iff.mp h).1, h]
  · rw [List.getElem?_set_ne e]
/-- a name's list is written -/
theorem write_lst {i : Nat} {a : Addr} {vs : List V} {xs : List PyData} (r : SR K G H ρ σ φ) (hv : σ[i]? = some (some (.ref a))) (hi : i < ρ.length) (hf : φ i = [a]) (hd : DPs K G vs xs) :
    Stp G H (own φ) G (upd H a (.lst vs)) (own φ) ∧ SR K G (upd H a (.lst vs)) (ρ.set i (.lst xs)) σ φ := by
  have ha : own φ a := ⟨i, by rw [hf]; exact List.mem_singleton.mpr rfl⟩
  have ga : G a = none := r.gno ha
  obtain ⟨o, ho⟩ := r.here ha
  refine ⟨⟨Same.refl G, fun b u hu hn => ?_, fun b z => .inl z, fun b z z' => absurd z z', fun b z => ?_⟩, ⟨by rw [List.length_set]; exact r.len, fun b u e => ?_, fun j => ?_, r.dj, r.gn⟩⟩
  · rw [upd_ne fun z => hn (by rw [z]; exact ha)]; exact hu
  · by_cases e : b = a
    · subst e; rw [upd_same]; exact fun z => nomatch z
    · rw [upd_ne e]; exact z
  · rw [upd_ne fun z => by rw [z, ga] at e; cases e]; exact r.gh b u e
  · by_cases e : i = j
    · subst e
      refine .inr ⟨_, hv, ?_⟩
      rw [slot_set, if_pos ⟨rfl, hi⟩]
      exact ⟨a, vs, rfl, upd_same, hd, hf⟩
    · rw [slot_set_ne e]
      rcases r.rel j with q | ⟨v, e1, q⟩
      · exact .inl q
      · refine .inr ⟨v, e1, q.mono (Same.refl G) fun b hb o' ho' => ?_⟩
        rw [upd_ne fun z => ?_]
        · exact ho'
        · subst z
          exact e (r.dj i j b (by rw [hf]; exact List.mem_singleton.mpr rfl) hb)
theorem slot_lt {i : Nat} (h : slot ρ i ≠ .dead) : i < ρ.length := by
  unfold slot at h
  rw [List.getD_eq_getElem?_getD] at h
  by_cases hl : i < ρ.length
  · exact hl
  · rw [List.getElem?_eq_none (Nat.le_of_not_lt hl)] at h
    exact absurd rfl h
/-- the promise of a method by data -/
def rM (K : PySem.W.Frag) (xr : XR) (W : WX) (m : Mut) : V → List V → Hp → VK → Prop := fun x ys H Q =>
  ∃ σ G φ ρ i a vs xs ds, x = .ref a ∧ SR K G H ρ σ φ ∧ σ[i]? = some (some (.ref a)) ∧ slot ρ i = .lst xs ∧ H a = some (.lst vs) ∧ φ i = [a] ∧ DPs K G vs xs ∧ DPs K G ys ds ∧
    PoE K xr W σ G H φ (match opMut m xs ds with
      | some (d, zs) => .ok (.val d) (ρ.set i (.lst zs))
      | none => .stk) Q
theorem fin_mut {i : Nat} {a : Addr} {ws : List V} {xs zs : List PyData} {v : V} {d : PyData} (r : SR K G H ρ σ φ) (hv : σ[i]? = some (some (.ref a))) (hs : slot ρ i = .lst xs) (hf : φ i = [a]) (hd : DPs K G ws zs) (hvd : DP K G v d)
    (h : PoE K xr W σ G H φ (.ok (.val d) (ρ.set i (.lst zs))) Q) : Q v (upd H a (.lst ws)) := by
  obtain ⟨st, sr⟩ := write_lst r hv (slot_lt (by rw [hs]; exact fun z => nomatch z)) hf hd
  exact h v G _ φ [] (st.weak fun b z => z.elim id fun y => nomatch y) sr ⟨⟨hvd, rfl⟩, (fun _ z => nomatch z), fun _ z => nomatch z⟩
def mutN : Mut → String
  | .append => "list.append"
  | .remove => "list.remove"
  | .pop => "list.pop"
  | .reverse => "list.reverse"
theorem mut_ok {X : Cx} (m : Mut) : MtR X (mutN m) (rM X.K xr W m) := by
  intro pins s σ' H x ys v us Q I rx rs h
  obtain ⟨σ, G, φ, ρ, i, a, vs, xs, ds, rfl, r, hv, hs, hH, hf, hd, hy, h⟩ := h
  cases e : opMut m xs ds with
  | none => rw [e] at h; exact h.elim
  | some p =>
    obtain ⟨d, zs⟩ := p
    rw [e] at h
    simp only at h
    unfold opMut at e
    split at e
    · split at e
      · rename_i hlt
        cases e
        cases hy with
        | cons h1 h2 =>
          cases h2
          exact mt_append pins s σ' H _ _ v us Q I rx rs ⟨a, vs, _, rfl, rfl, hH, by rw [hd.length]; exact of_decide_eq_true hlt, fin_mut r hv hs hf (hd.app (.cons h1 .nil)) .non h⟩
      · cases e
    · rename_i j
      split at e
      · rename_i d k e1 e2
        cases e
        cases hy with
        | cons h1 h2 =>
          cases h2
          cases h1
          obtain ⟨q1, q2, q3, q4⟩ := ixN_seq e2
          have hz := (I.lstM hH).1
          have hsl := line63
          have hxl := hd.length
          unfold L2.atI at e1
          rw [e2] at e1
          obtain ⟨w, hw, hwd⟩ := hd.get (show xs[k]? = some d from e1)
          exact mt_popAt pins s σ' H _ _ v us Q I rx rs ⟨a, vs, j, k, w, rfl, rfl, hH, by omega, by omega, by rw [hxl]; exact q1, hw, fin_mut r hv hs hf (hd.erase k) hwd h⟩
      · cases e
    · split at e
      · rename_i d e1
        cases e
        cases hy
        have ne : xs ≠ [] := fun z => by rw [z] at e1; cases e1
        have e3 : xs[xs.length - 1]? = some d := by rw [← List.getLast?_eq_getElem?]; exact e1
        obtain ⟨w, hw, hwd⟩ := hd.get e3
        have hdl : DPs X.K G vs.dropLast xs.dropLast := by
          rw [List.dropLast_eq_take, List.dropLast_eq_take, hd.length]
          exact hd.take _
        exact mt_pop pins s σ' H _ _ v us Q I rx rs ⟨a, vs, w, rfl, rfl, hH, by rw [hd.length]; exact hw, fin_mut r hv hs hf hdl hwd h⟩
      · cases e
    · cases e
      cases hy
      exact mt_reverse pins s σ' H _ _ v us Q I rx rs ⟨a, vs, rfl, rfl, hH, fin_mut r hv hs hf hd.rev .non h⟩
    · rename_i k
      split at e
      · rename_i ns hn
        split at e
        · rename_i hlt
          have hlt := of_decide_eq_true hlt
          cases e
          cases hy with
          | cons h1 h2 =>
            cases h2
            cases h1
            rw [allInts_map hn] at hd
            obtain rfl := hd.ints
            refine mt_remove pins s σ' H _ _ v us Q I rx rs ⟨a, ns, k, ns.idxOf k, rfl, rfl, hH, ?_, fun m hm z => ?_, fin_mut (v := .non) (d := .none) r hv hs hf (DPs.ofInts _) .non h⟩
            · rw [List.getElem?_eq_getElem hlt, List.getElem_idxOf hlt]
            · obtain ⟨hml, z'⟩ := List.getElem?_eq_some_iff.mp z
              have y := List.not_of_lt_findIdx (p := fun x => x == k) (xs := ns) (i := m) hm
              rw [z'] at y
              simp at y
        · cases e
      · cases e
    · cases e
theorem mutE_ok {m : Mut} {i : Nat} {as : List A} (r : SR K G H ρ σ φ) (h : PoE K xr W σ G H φ (evE Φ (.mut m i as) ρ) Q) : tBM K "list" (rM K xr W m) (tVar i) (tAs K xr W Φ as) σ H Q := by
  rw [evE] at h
  cases e : slot ρ i with
  | lst xs0 =>
    rw [e] at h
    simp only at h
    obtain ⟨v, hv, q⟩ := r.at (i := i) (by rw [e]; exact fun z => nomatch z)
    rw [e] at q
    obtain ⟨a, vs0, rfl, hH0, _, hf0⟩ := q
    refine ⟨_, hv, .inl ⟨rfl, vs0, .inl (.inl hH0)⟩, ?_⟩
    have h' : PoE K xr W σ G H φ ((evAs Φ as ρ).bnd fun ts ρ' => match resV as ts ρ' with
        | some ds => (match slot ρ' i with
          | .lst xs => (match opMut m xs ds with
            | some (d, zs) => .ok (.val d) (ρ'.set i (.lst zs))
            | none => .stk)
          | _ => .stk)
        | none => .stk) Q := by
      cases e2 : evAs Φ as ρ with
      | stk => rw [e2] at h; exact h
      | exc c d ρ' => rw [e2] at h; exact h
      | ok ts ρ' =>
        rw [e2] at h
        simp only [R.bnd] at h ⊢
        cases e3 : resV as ts ρ' with
        | none =>
          rw [e3] at h
          cases e4 : slot ρ' i <;> rw [e4] at h <;> exact h
        | some ds =>
          rw [e3] at h
          cases e4 : slot ρ' i <;> rw [e4] at h <;> exact h
    refine keepD r h' fun ρ' ys ds G' H' φ' r' hd q => ?_
    cases e4 : slot ρ' i with
    | lst xs =>
      rw [e4] at q
      obtain ⟨w, hw, q2⟩ := r'.at (i := i) (by rw [e4]; exact fun z => nomatch z)
      rw [hv] at hw
      cases hw
      rw [e4] at q2
      obtain ⟨b, vs, eb, hH, hdv, hf⟩ := q2
      cases eb
      exact ⟨σ, G', φ', ρ', i, a, vs, xs, ds, rfl, r', hv, e4, hH, hf, hdv, hd, q⟩
    | val _ => rw [e4] at q; exact q.elim
    | dct _ => rw [e4] at q; exact q.elim
    | dead => rw [e4] at q; exact q.elim
  | val _ => rw [e] at h; exact h.elim
  | dct _ => rw [e] at h; exact h.elim
  | dead => rw [e] at h; exact h.elim
/-- x.extend(e), e a new list -/
theorem ext_ok {i : Nat} {x : E} (r : SR K G H ρ σ φ) (h : PoE K xr W σ G H φ (evE Φ (.ext i x) ρ) Q) : tBM K "list" rExtend (tVar i) (tAs K xr W Φ [.e x]) σ H Q := by
  rw [evE] at h
  cases e : slot ρ i with
  | lst xs0 =>
    rw [e] at h
    simp only at h
    obtain ⟨v, hv, q⟩ := r.at (i := i) (by rw [e]; exact fun z => nomatch z)
    rw [e] at q
    obtain ⟨a, vs0, rfl, hH0, _, hf0⟩ := q
    refine ⟨_, hv, .inl ⟨rfl, vs0, .inl (.inl hH0)⟩, ?_⟩
    have h' : PoE K xr W σ G H φ ((evAs Φ [.e x] ρ).bnd fun ts ρ' => match ts with
        | [some s] => (match slot ρ' i, s with
          | .lst xs, .lst ys => if decide (xs.length + ys.length ≤ sizeLine) then .ok (.val .none) (ρ'.set i (.lst (xs ++ ys))) else .stk
          | _, _ => .stk)
        | _ => .stk) Q := by
      simp only [evAs, evA]
      cases e2 : evE Φ x ρ with
      | stk => rw [e2] at h; exact h
      | exc c d ρ' => rw [e2] at h; exact h
      | ok s ρ' => rw [e2] at h; exact h
    refine opsE0 r h' fun ts ρ' vs G' H' φ' fs r' o hfs q st => ?_
    obtain ⟨t, y, f, rfl, rfl, ⟨s, rfl, hs⟩, rfl⟩ := o.one
    rw [List.append_nil] at hfs st
    simp only at q
    split at q
    · rename_i xs ys e4
      split at q
      · rename_i hlt
        obtain ⟨b, ws, rfl, hb, hd2, rfl⟩ := hs
        obtain ⟨w, hw, q2⟩ := r'.at (i := i) (by rw [e4]; exact fun z => nomatch z)
        rw [hv] at hw
        cases hw
        rw [e4] at q2
        obtain ⟨c, us, ec, hH, hdv, hf⟩ := q2
        cases ec
        refine ⟨a, b, us, ws, rfl, rfl, hH, hb, by rw [hdv.length, hd2.length]; exact of_decide_eq_true hlt, ?_⟩
        exact fin_mut (v := .non) (d := .none) r' hv e4 hf (hdv.app hd2) .non (PoE.from q (st.weak fun _ z => .inl z))
      · exact q.elim
    · exact q.elim
  | val _ => rw [e] at h; exact h.elim
  | dct _ => rw [e] at h; exact h.elim
  | dead => rw [e] at h; exact h.elim
/-- a[::-1] -/
theorem rev_ok {a : A} (r : SR K G H ρ σ φ) (h : PoE K xr W σ G H φ (evE Φ (.rev a) ρ) Q) : tRevL K (tA K xr W Φ a) σ H Q := by
  rw [evE] at h
  refine op1 (g := opRev) (r := fun x H1 Q => ∃ a xs, x = .ref a ∧ SqL K H1 a xs ∧ ∀ p, H1 p = none → Q (.ref p) (upd H1 p (.lst xs.reverse))) (fun x H Q q => ?_) r h
  obtain ⟨σ0, G0, φ0, ρ0, d, sr, vx, q⟩ := q
  unfold opRev at q
  split at q
  · obtain ⟨a, ws, rfl, h1, h2⟩ := vx.list sr.gh
    exact ⟨a, ws, rfl, h1, fun p hp => fin_lst sr hp h2.rev q⟩
  · exact q.elim
/-- a name's list, a method of one operand -/
theorem lm_ok {k : LM} {i : Nat} {x : A} (r : SR K G H ρ σ φ) (h : PoE K xr W σ G H φ (evE Φ (.lm k i x) ρ) Q) : tBM K "list" (rLm K xr W k) (tVar i) (tAs K xr W Φ [x]) σ H Q := by
  rw [evE] at h
  cases e : view (slot ρ i) with
  | none => rw [e] at h; exact h.elim
  | some d0 =>
    rw [e] at h
    cases d0 with
    | list ds0 =>
      simp only at h
      have nd : slot ρ i ≠ .dead := fun z => by rw [z] at e; cases e
      obtain ⟨v, hv, q⟩ := r.at nd
      obtain ⟨a, vs0, rfl, hs0, _⟩ := (VW.of q e).list r.gh
      refine ⟨_, hv, .inl ⟨rfl, vs0, hs0⟩, ?_⟩
      have h' : PoE K xr W σ G H φ ((evAs Φ [x] ρ).bnd fun ts ρ' => match ts with
          | [u] => fin2 (.pl i) x none u ρ' (opLm k)
          | _ => .stk) Q := by
        simp only [evAs]
        cases e1 : evA Φ x ρ with
        | stk => rw [e1] at h; exact h
        | exc _ _ _ => rw [e1] at h; exact h
        | ok t ρ1 => rw [e1] at h; exact h
      refine opsE r h' fun ts ρ' vs G' H' φ' fs r' o hf q st => ?_
      obtain ⟨t, y, f, rfl, rfl, o1, rfl⟩ := o.one
      refine ⟨y, rfl, ?_⟩
      simp only [fin2] at q
      split at q
      · rename_i d d' h1 h2
        exact ⟨σ, G', φ', ρ', d, d', r', (show OpR1 K G' H' σ (.pl i) none (.ref a) [] from ⟨rfl, hv⟩).vw r' h1, o1.vw r' h2, q⟩
      · exact q.elim
    | _ => exact h.elim
/-- {}, {k: c} -/
def cstV : PyData → V
  | .bool b => .bl b
  | .int i => .int i
  | .str x => .str x
  | _ => .non
def isCst : PyData → Bool
  | .none => true
  | .bool _ => true
  | .int _ => true
  | .str _ => true
  | _ => false
theorem cstV_dp {d : PyData} (h : isCst d = true) : DP K G (cstV d) d := by
  cases d with
  | none => exact .non
  | bool b => exact .bl b
  | int i => exact .int i
  | str x => exact .str x
  | _ => cases h
theorem kD_kDat (k : Key) : kD k = kDat k := by cases k <;> rfl
theorem fin_dct {p : Addr} {kv : List (Key × V)} {ds : List (PyData × PyData)} (r : SR K G H ρ σ φ) (hp : H p = none) (hd : DKs K G kv ds) (h : PoE K xr W σ G H φ (.ok (.dct ds) ρ) Q) : Q (.ref p) (upd H p (.dK kv)) :=
  h _ G _ φ [p] ((Stp.newH hp).weak fun a q => q.imp id fun z => List.mem_singleton.mp z) (r.newH hp) ⟨⟨p, rfl, rfl, .inl ⟨kv, upd_same, hd⟩⟩, (fun a ha => by
    obtain rfl := List.mem_singleton.mp ha
    exact r.gh.free hp), fun a ha q => by
    obtain rfl := List.mem_singleton.mp ha
    obtain ⟨o, e⟩ := r.here q
    rw [hp] at e; cases e⟩
theorem dct0_ok (r : SR K G H ρ σ φ) (h : PoE K xr W σ G H φ (evE Φ (.dcst none) ρ) Q) : tDNewK σ H Q := by
  rw [evE] at h
  exact fun p hp => fin_dct r hp .nil h
theorem dct1_ok {k : Key} {d : PyData} (hc : isCst d = true) (r : SR K G H ρ σ φ) (h : PoE K xr W σ G H φ (evE Φ (.dcst (some (k, d))) ρ) Q) : tDisp [(tC (kV k), tC (cstV d))] σ H Q := by
  rw [evE] at h
  intro p hp
  refine ⟨upd_same, [(k, cstV d)], rfl, Nat.le_of_ble_eq_true rfl, ?_⟩
  have e : upd (upd H p (.dK [])) p (.dK (mergeK [] [(k, cstV d)])) = upd H p (.dK [(k, cstV d)]) := by
    funext b
    by_cases z : b = p
    · subst z; rw [upd_same, upd_same]; rfl
    · rw [upd_ne z, upd_ne z, upd_ne z]
  rw [e]
  refine fin_dct r hp ?_ h
  show DKs K G [(k, cstV d)] [(kDat k, d)]
  rw [← kD_kDat]
  exact .cons (cstV_dp hc) .nil
theorem lset_ok {a : A} (r : SR K G H ρ σ φ) (h : PoE K xr W σ G H φ (evE Φ (.lset a) ρ) Q) : tLset K (tA K xr W Φ a) σ H Q := by
  rw [evE] at h
  refine op1 (g := opSetLen) (r := fun x H1 Q => ∃ (l : Addr) (ns : List Int), x = .ref l ∧ SqL K H1 l (ns.map V.int) ∧ ns.length ≤ 4000 ∧ Q (.int (dedup ns).length) H1) (fun x H Q q => ?_) r h
  obtain ⟨σ0, G0, φ0, ρ0, d, sr, vx, q⟩ := q
  unfold opSetLen at q
  split at q
  · split at q
    · rename_i ns hn
      split at q
      · rename_i hz
        obtain ⟨a, ws, rfl, h1, h2⟩ := vx.list sr.gh
        rw [allInts_map hn] at h2
        obtain rfl := h2.ints
        exact ⟨a, ns, rfl, h1, of_decide_eq_true hz, fin_int sr q⟩
      · exact q.elim
    · exact q.elim
  · exact q.elim
theorem opsLen {as : List A} {ts : List (Option S)} {vs : List V} {fs : List Addr} (o : Ops K G H σ as ts vs fs) : vs.length = as.length := by
  induction o with
  | nil => rfl
  | cons _ _ _ ih => rw [List.length_cons, List.length_cons, ih]
theorem dps_rng {G : Hp} (a b : Int) : DPs K G (rgV a b) (rng a b) := by
  unfold rgV rng
  generalize List.range (b - a).toNat = l
  induction l with
  | nil => exact .nil
  | cons i l ih => exact .cons (.int _) ih
theorem rgOk_of {a b : Int} (h : rgOk a b = true) : RgOk a b := by
  simp only [rgOk, Bool.and_eq_true, decide_eq_true_eq] at h
  exact ⟨h.1.1.1.1, h.1.1.1.2, h.1.1.2, h.1.2, h.2⟩
theorem lrg_ok {as : List A} {Qr : List V → Hp → Prop} (r : SR K G H ρ σ φ) (h : PoE K xr W σ G H φ (evE Φ (.lrg as) ρ) Q)
    (hq : ∀ vs H' a b, RgOk a b → (∀ q, H' q = none → Q (.ref q) (upd H' q (.lst (rgV a b)))) → vs.length = as.length → ((vs = [.int b] ∧ a = 0) ∨ vs = [.int a, .int b]) → Qr vs H') : tAs K xr W Φ as σ H Qr := by
  rw [evE] at h
  refine opsE r h fun ts ρ' vs G' H' φ' fs r' o _ q _ => ?_
  split at q
  · rename_i n hds
    have vw := o.vws r' hds
    split at q
    · rename_i hz
      cases vw with
      | cons v1 v2 =>
        cases v2
        obtain rfl := v1.int
        exact hq _ _ 0 n (rgOk_of hz) (fun p hp => fin_lst r' hp (dps_rng 0 n) q) (opsLen o) (.inl ⟨rfl, rfl⟩)
    · exact q.elim
  · rename_i m n hds
    have vw := o.vws r' hds
    split at q
    · rename_i hz
      cases vw with
      | cons v1 v2 =>
        cases v2 with
        | cons v2 v3 =>
          cases v3
          obtain rfl := v1.int
          obtain rfl := v2.int
          exact hq _ _ m n (rgOk_of hz) (fun p hp => fin_lst r' hp (dps_rng m n) q) (opsLen o) (.inr rfl)
    · exact q.elim
  · exact q.elim
/-! ### methods of texts -/
def rSm (K : PySem.W.Frag) : SM → V → List V → Hp → VK → Prop
  | .join => fun x xs H Q => ∃ a p, ∃ ys : List Str, x = .str a ∧ xs = [.ref p] ∧ (SqL K H p (ys.map V.str) ∨ SqT K H p (ys.map V.str)) ∧ (ys.map (·.length)).sum + ys.length * a.length ≤ 16777216 ∧ Q (.str (Txt.join a ys)) H
  | .split => fun x xs H Q => ∃ a b, x = .str a ∧ xs = [.str b] ∧ (b.length == 0) = false ∧ a.length + 2 ≤ sizeLine ∧ rNewStrs (Txt.split a b) H Q
theorem sm_ok {k : SM} {o x : A} (r : SR K G H ρ σ φ) (h : PoE K xr W σ G H φ (evE Φ (.sm k o x) ρ) Q) : tM1 (rSm K k) (tA K xr W Φ o) (tA K xr W Φ x) σ H Q := by
  rw [evE] at h
  have h' : PoE K xr W σ G H φ ((evAs Φ [o] ρ).bnd fun ts ρ' => match ts with
      | [t] => (match res o (t.bind view) ρ' with
        | some (.str a) => (evA Φ x ρ').bnd fun u ρ'' => fin1 x u ρ'' (opSm k a)
        | _ => .stk)
      | _ => .stk) Q := by
    simp only [evAs]
    cases e1 : evA Φ o ρ with
    | stk => rw [e1] at h; exact h
    | exc _ _ _ => rw [e1] at h; exact h
    | ok t ρ1 => rw [e1] at h; exact h
  have key : tAs K xr W Φ [o] σ H (fun vs H1 => match vs with
      | [y] => (∃ a, y = .str a) ∧ tA K xr W Φ x σ H1 fun z H2 => rSm K k y [z] H2 Q
      | _ => False) := by
    refine opsE r h' fun ts ρ' vs G' H' φ' fs r' op hf q st => ?_
    obtain ⟨t, y, g, rfl, rfl, oy, rfl⟩ := op.one
    simp only at q
    split at q
    · rename_i a ha
      obtain rfl := (oy.vw r' ha).str
      refine ⟨⟨a, rfl⟩, ?_⟩
      refine op1 (g := opSm k a) (r := fun z H2 Q => rSm K k (.str a) [z] H2 Q) (fun z H Q q => ?_) r' q
      obtain ⟨σ0, G0, φ0, ρ0, d, sr, vx, q⟩ := q
      unfold opSm at q
      split at q
      · split at q
        · rename_i ss hn
          split at q
          · rename_i hz
            obtain ⟨p, ws, rfl, h1, h2⟩ := vx.list sr.gh
            rw [allStrs_map hn] at h2
            obtain rfl := h2.strs
            exact ⟨a, p, ss, rfl, rfl, .inl h1, of_decide_eq_true hz, fin_str sr q⟩
          · exact q.elim
        · exact q.elim
      · split at q
        · rename_i hz
          simp only [Bool.and_eq_true, Bool.not_eq_true', decide_eq_true_eq] at hz
          obtain rfl := vx.str
          exact ⟨a, _, rfl, rfl, hz.1, hz.2, fun p hp => fin_lst sr hp (DPs.ofStrs _) q⟩
        · exact q.elim
      · exact q.elim
    · exact q.elim
  exact key
end
end VE

/-! VS7: calls of defs: what is lent and given back. -/
namespace VE
open PySem L2 PySem.Spec PyProof.Rows
section
variable {K : PySem.W.Frag} {xr : XR} {W : WX} {Φ : Fns} {σ : L2.St} {G H G' H' : Hp} {φ φ' : Nat → List Addr} {ρ : List S} {Q : VK}
/-- one more name ahead -/
def consF (f : List Addr) (φ : Nat → List Addr) : Nat → List Addr
  | 0 => f
  | i + 1 => φ i
theorem own_consF {f : List Addr} {a : Addr} : own (consF f φ) a ↔ a ∈ f ∨ own φ a := by
  constructor
  · rintro ⟨i, hi⟩
    cases i with
    | zero => exact .inl hi
    | succ i => exact .inr ⟨i, hi⟩
  · rintro (h | ⟨i, hi⟩)
    · exact ⟨0, h⟩
    · exact ⟨i + 1, hi⟩
theorem slot_cons_zero {s : S} {ss : List S} : slot (s :: ss) 0 = s := rfl
theorem slot_cons_succ {s : S} {ss : List S} {i : Nat} : slot (s :: ss) (i + 1) = slot ss i := rfl
theorem SR.cons {s : S} {v : V} {f : List Addr} {ss : List S} {vs : List V} (r : SR K G H ss (vs.map some) φ) (t : Tmp K G H s v f φ) : SR K G H (s :: ss) ((v :: vs).map some) (consF f φ) where
  len := by simpa using r.len
  gh := r.gh
  rel := fun i => by
    cases i with
    | zero => exact .inr ⟨v, rfl, t.rel⟩
    | succ i => exact r.rel i
  dj := fun i j a hi hj => by
    cases i with
    | zero =>
      cases j with
      | zero => rfl
      | succ j => exact absurd ⟨j, hj⟩ (t.off a hi)
    | succ i =>
      cases j with
      | zero => exact absurd ⟨i, hi⟩ (t.off a hj)
      | succ j => rw [r.dj i j a hi hj]
  gn := fun i a hi => by
    cases i with
    | zero => exact t.gn a hi
    | succ i => exact r.gn i a hi
theorem SR.tail {s : S} {o : Option V} {ss : List S} {τ : L2.St} (r : SR K G H (s :: ss) (o :: τ) φ) : SR K G H ss τ (fun i => φ (i + 1)) where
  len := by simpa using r.len
  gh := r.gh
  rel := fun i => r.rel (i + 1)
  dj := fun i j a hi hj => Nat.succ.inj (r.dj (i + 1) (j + 1) a hi hj)
  gn := fun i a hi => r.gn (i + 1) a hi
theorem SR.nil (gh : Same G H) : SR K G H [] [] (fun _ => []) := ⟨rfl, gh, fun _ => .inl ⟨rfl, rfl⟩, (fun _ _ _ h => nomatch h), fun _ _ h => nomatch h⟩
/-- the arguments' own names -/
def PlAt (σ : L2.St) : List A → List V → Prop
  | [], [] => True
  | .pl i :: as, v :: vs => σ[i]? = some (some v) ∧ PlAt σ as vs
  | .e _ :: as, _ :: vs => PlAt σ as vs
  | _, _ => False
theorem Ops.plAt {as : List A} {ts : List (Option S)} {vs : List V} {fs : List Addr} (o : Ops K G H σ as ts vs fs) : PlAt σ as vs := by
  induction o with
  | nil => trivial
  | @cons a as t ts v vs f g o1 _ _ ih =>
    cases a with
    | pl i => exact ⟨o1.2, ih⟩
    | e x => exact ih
theorem Ops.len {as : List A} {ts : List (Option S)} {vs : List V} {fs : List Addr} (o : Ops K G H σ as ts vs fs) : vs.length = as.length := by
  induction o with
  | nil => rfl
  | cons _ _ _ ih => rw [List.length_cons, List.length_cons, ih]
theorem lend_ok {as : List A} {ts : List (Option S)} {vs : List V} {fs : List Addr} (o : Ops K G H σ as ts vs fs) : ∀ {ρ ρ' : List S} {φ : Nat → List Addr} {ss : List S}, SR K G H ρ σ φ → (∀ a ∈ fs, G a = none ∧ ¬ own φ a) → lend as ts ρ = some (ss, ρ') →
    ∃ φ1 φs, ss.length = as.length ∧ SR K G H ρ' σ φ1 ∧ SR K G H ss (vs.map some) φs ∧ (∀ a, own φs a → (own φ a ∨ a ∈ fs) ∧ ¬ own φ1 a) ∧ ∀ a, own φ1 a → own φ a := by
  induction o with
  | nil =>
    intro ρ ρ' φ ss r _ h
    cases h
    exact ⟨φ, fun _ => [], rfl, r, SR.nil r.gh, (fun a ⟨_, h⟩ => nomatch h), fun _ h => h⟩
  | @cons a as t ts v vs f g o1 o2 dis ih =>
    intro ρ ρ' φ ss r hf h
    have hg : ∀ b ∈ g, G b = none ∧ ¬ own φ b := fun b hb => hf b (List.mem_append_right _ hb)
    cases a with
    | e x =>
      obtain ⟨s, rfl, q⟩ := o1
      simp only [lend] at h
      cases e2 : lend as ts ρ with
      | none => rw [e2] at h; cases h
      | some p =>
        obtain ⟨ss', ρ2⟩ := p
        rw [e2] at h
        cases h
        obtain ⟨φ1, φs, l, r1, rs, h1, h2⟩ := ih r hg e2
        have t0 : Tmp K G H s v f φs := ⟨q, fun b hb => (hf b (List.mem_append_left _ hb)).1, fun b hb z => ((h1 b z).1).elim (hf b (List.mem_append_left _ hb)).2 (dis b hb)⟩
        refine ⟨φ1, consF f φs, by rw [List.length_cons, List.length_cons, l], r1, rs.cons t0, fun b hb => ?_, h2⟩
        rcases own_consF.mp hb with z | z
        · exact ⟨.inr (List.mem_append_left _ z), fun y => (hf b (List.mem_append_left _ z)).2 (h2 b y)⟩
        · exact ⟨(h1 b z).1.imp id fun y => List.mem_append_right _ y, (h1 b z).2⟩
    | pl i =>
      obtain ⟨rfl, hv⟩ := o1
      have owned : ∀ s, slot ρ i = s → s ≠ .dead → (lend as ts (ρ.set i .dead)).map (fun (r, ρ') => (s :: r, ρ')) = some (ss, ρ') →
          ∃ φ1 φs, ss.length = as.length + 1 ∧ SR K G H ρ' σ φ1 ∧ SR K G H ss ((v :: vs).map some) φs ∧ (∀ a, own φs a → (own φ a ∨ a ∈ ([] : List Addr) ++ g) ∧ ¬ own φ1 a) ∧ ∀ a, own φ1 a → own φ a := by
        intro s e ne h
        obtain ⟨w, hw, q⟩ := r.at (i := i) (by rw [e]; exact ne)
        rw [hv] at hw
        cases hw
        have t0 := r.tmp q
        have sub : ∀ b, own (upf φ i []) b → own φ b := fun b z => (own_upf z).elim (fun y => nomatch y) id
        cases e2 : lend as ts (ρ.set i .dead) with
        | none => rw [e2] at h; cases h
        | some p =>
          obtain ⟨ss', ρ2⟩ := p
          rw [e2] at h
          cases h
          obtain ⟨φ1, φs, l, r1, rs, h1, h2⟩ := ih r.drop (fun b hb => ⟨(hg b hb).1, fun z => (hg b hb).2 (sub b z)⟩) e2
          rw [e] at t0
          have t1 : Tmp K G H s v (φ i) φs := ⟨t0.rel, t0.gn, fun b hb z => ((h1 b z).1).elim (t0.off b hb) fun y => (hg b y).2 ⟨i, hb⟩⟩
          refine ⟨φ1, consF (φ i) φs, by rw [List.length_cons, l], r1, rs.cons t1, fun b hb => ?_, fun b z => sub b (h2 b z)⟩
          rcases own_consF.mp hb with z | z
          · exact ⟨.inl ⟨i, z⟩, fun y => t0.off b z (h2 b y)⟩
          · exact ⟨(h1 b z).1.imp (sub b) id, (h1 b z).2⟩
      cases e : slot ρ i with
      | dead => simp only [lend, e] at h; cases h
      | val d =>
        simp only [lend, e] at h
        obtain ⟨w, hw, q⟩ := r.at (i := i) (by rw [e]; exact fun z => nomatch z)
        rw [hv] at hw
        cases hw
        rw [e] at q
        cases e2 : lend as ts ρ with
        | none => rw [e2] at h; cases h
        | some p =>
          obtain ⟨ss', ρ2⟩ := p
          rw [e2] at h
          cases h
          obtain ⟨φ1, φs, l, r1, rs, h1, h2⟩ := ih r hg e2
          refine ⟨φ1, consF [] φs, by rw [List.length_cons, List.length_cons, l], r1, rs.cons ⟨⟨q.1, rfl⟩, (fun _ z => nomatch z), fun _ z => nomatch z⟩, fun b hb => ?_, h2⟩
          rcases own_consF.mp hb with z | z
          · cases z
          · exact h1 b z
      | lst d =>
        simp only [lend, e] at h
        exact owned _ e (fun z => nomatch z) h
      | dct d =>
        simp only [lend, e] at h
        exact owned _ e (fun z => nomatch z) h
theorem back_ok : ∀ (as : List A) (vs : List V) (ss fs : List S) (ρ : List S) (φ φs : Nat → List Addr), PlAt σ as vs → SR K G H ρ σ φ → SR K G H fs (vs.map some) φs → (∀ a, own φs a → ¬ own φ a) →
    ∃ φ3, SR K G H (giveBack as ss fs ρ) σ φ3 ∧ ∀ a, own φ3 a → own φ a ∨ own φs a
  | [], vs, ss, fs, ρ, φ, φs, _, r, _, _ => by
    rw [giveBack]
    · exact ⟨φ, r, fun _ h => .inl h⟩
    all_goals (intros; contradiction)
  | a :: as, [], ss, fs, ρ, φ, φs, hp, r, _, _ => by cases a <;> exact hp.elim
  | a :: as, v :: vs, [], fs, ρ, φ, φs, _, r, _, _ => by
    cases a <;> exact ⟨φ, r, fun _ h => .inl h⟩
  | a :: as, v :: vs, s :: ss, [], ρ, φ, φs, _, r, _, _ => by
    cases a <;> exact ⟨φ, r, fun _ h => .inl h⟩
  | .e x :: as, v :: vs, s :: ss, f :: fs, ρ, φ, φs, hp, r, rs, dis => by
    rw [giveBack]
    obtain ⟨φ3, r3, h3⟩ := back_ok as vs ss fs ρ φ (fun i => φs (i + 1)) hp r (SR.tail rs) fun a ⟨i, h⟩ => dis a ⟨i + 1, h⟩
    exact ⟨φ3, r3, fun a h => (h3 a h).imp id fun ⟨i, h⟩ => ⟨i + 1, h⟩⟩
  | .pl i :: as, v :: vs, s :: ss, f :: fs, ρ, φ, φs, hp, r, rs, dis => by
    rw [giveBack]
    have tl := SR.tail rs
    by_cases hs : isVal s = true
    · rw [if_pos hs]
      obtain ⟨φ3, r3, h3⟩ := back_ok as vs ss fs ρ φ (fun i => φs (i + 1)) hp.2 r tl fun a ⟨i, h⟩ => dis a ⟨i + 1, h⟩
      exact ⟨φ3, r3, fun a h => (h3 a h).imp id fun ⟨i, h⟩ => ⟨i + 1, h⟩⟩
    · rw [if_neg hs]
      have step : ∃ φ2, SR K G H (ρ.set i f) σ φ2 ∧ ∀ a, own φ2 a → own φ a ∨ a ∈ φs 0 := by
        rcases rs.rel 0 with ⟨e, _⟩ | ⟨w, hw, q⟩
        · have e' : f = .dead := e
          subst e'
          exact ⟨_, r.drop, fun a h => (own_upf h).elim (fun y => nomatch y) .inl⟩
        · have hw' : some v = some w := Option.some.inj hw
          cases hw'
          have q' : RelS K G H f v (φs 0) := q
          refine ⟨_, r.back ⟨q', rs.gn 0, fun a ha => dis a ⟨0, ha⟩⟩ hp.1, fun a h => ?_⟩
          rcases own_upf h with z | z
          · split at z
            · exact .inr z
            · cases z
          · exact .inl z
      obtain ⟨φ2, r2, h2⟩ := step
      obtain ⟨φ3, r3, h3⟩ := back_ok as vs ss fs (ρ.set i f) φ2 (fun i => φs (i + 1)) hp.2 r2 tl fun a ⟨j, h⟩ z => by
        rcases h2 a z with y | y
        · exact dis a ⟨j + 1, h⟩ y
        · exact absurd (rs.dj (j + 1) 0 a h y) (Nat.succ_ne_zero j)
      refine ⟨φ3, r3, fun a h => ?_⟩
      rcases h3 a h with z | ⟨j, z⟩
      · rcases h2 a z with y | y
        · exact .inl y
        · exact .inr ⟨0, y⟩
      · exact .inr ⟨j + 1, z⟩
/-- the wish of an exception as the caller's -/
abbrev WEx (W : WX) (σ : L2.St) : XK := fun cls dd H => W cls dd σ H
theorem callE_ok {f : Nat} {as : List A} (r : SR K G H ρ σ φ) (h : PoE K xr W σ G H φ (evE Φ (.call f as) ρ) Q) : tCallS (spOf K xr as.length (Φ.fn f)) (fun σ => WEx W σ) (tAs K xr W Φ as) σ H Q := by
  rw [evE] at h
  refine opsE0 r h fun ts ρ' vs G' H' φ' fs r' o hf q st => ?_
  cases e : lend as ts ρ' with
  | none => rw [e] at q; exact q.elim
  | some p =>
    obtain ⟨ss, ρ2⟩ := p
    rw [e] at q
    simp only at q
    obtain ⟨φ1, φs, l, r1, rs, h1, h2⟩ := lend_ok o r' hf e
    refine ⟨o.len, ss, G', φs, l, rs, ?_⟩
    -- the callee's step, as a step of the caller's
    have lift : ∀ {G2 H2 : Hp} {φ2 : Nat → List Addr} {g : List Addr} {gs : List S}, Stp G' H' (own φs) G2 H2 (fun a => own φ2 a ∨ a ∈ g) → SR K G2 H2 gs (vs.map some) φ2 → (∀ a ∈ g, ¬ own φ2 a) →
        ∃ φ3, Stp G H (own φ) G2 H2 (fun a => own φ3 a ∨ a ∈ g) ∧ SR K G2 H2 (giveBack as ss gs ρ2) σ φ3 ∧ ∀ a ∈ g, ¬ own φ3 a := by
      intro G2 H2 φ2 g gs s2 r2 hg
      have off : ∀ a, own φ1 a → ¬ own φs a := fun a z y => (h1 a y).2 z
      have r1' := r1.step s2 r2.gh off
      have dis : ∀ a, (own φ2 a ∨ a ∈ g) → ¬ own φ1 a := fun a z y => by
        rcases s2.sub a z with q | q
        · exact off a y q
        · obtain ⟨o', e'⟩ := r1.here y
          rw [e'] at q; cases q
      obtain ⟨φ3, r3, h3⟩ := back_ok as vs ss gs ρ2 φ1 φ2 o.plAt r1' r2 fun a z => dis a (.inl z)
      refine ⟨φ3, ?_, r3, fun a ha z => (h3 a z).elim (dis a (.inr ha)) (hg a ha)⟩
      have fr := s2.frame (T := fun a => own φ1 a) fun a z => ⟨off a z, by
        obtain ⟨o', e'⟩ := r1.here z
        rw [e']; exact fun y => nomatch y⟩
      have big : Stp G H (own φ) G' H' (fun a => own φs a ∨ own φ1 a) := st.weak fun a z => z.elim (fun y => (h1 a y).1) fun y => .inl (h2 a y)
      refine (big.trans fr).weak fun a z => ?_
      rcases z with z | z
      · rcases h3 a z with y | y
        · exact .inr y
        · exact .inl (.inl y)
      · exact .inl (.inr z)
    cases e2 : Φ.fn f ss with
    | stk => rw [e2] at q; exact q.elim
    | ok s gs =>
      rw [e2] at q
      intro v G2 H2 φ2 g s2 r2 t2
      obtain ⟨φ3, s3, r3, h3⟩ := lift s2 r2 t2.off
      exact q v G2 H2 φ3 g s3 r3 ⟨t2.rel, t2.gn, h3⟩
    | exc c d gs =>
      rw [e2] at q
      intro G2 H2 φ2 cls dd s2 r2 x
      obtain ⟨φ3, s3, r3, h3⟩ := lift (g := []) (s2.weak fun a z => z.elim id fun y => nomatch y) r2 fun _ z => nomatch z
      exact q G2 H2 φ3 cls dd (s3.weak fun _ z => .inl z) r3 x
end
end VE

/-! VS8: list comprehensions by the evaluator. -/
namespace VE
open PySem L2 PySem.Spec PyProof.Rows
section
variable {K : PySem.W.Frag} {xr : XR} {W : WX} {Φ : Fns} {σ σ' : L2.St} {G H G' H' : Hp} {φ φ' : Nat → List Addr} {ρ ρ' : List S} {Q : VK}
theorem wipe_get : ∀ {is : List Nat} {j : Nat}, j ∉ is → (wipe σ is)[j]? = σ[j]?
  | [], _, _ => rfl
  | i :: is, j, h => by
    unfold wipe
    rw [List.getElem?_set_ne fun z => h (by rw [z]; exact List.mem_cons_self), wipe_get fun z => h (List.mem_cons_of_mem _ z)]
theorem wipe_in : ∀ {is : List Nat} {j : Nat}, j ∈ is → j < σ.length → (wipe σ is)[j]? = some none
  | i :: is, j, h, hl => by
    unfold wipe
    by_cases e : i = j
    · subst e
      rw [List.getElem?_set_self (by rw [wipe_length]; exact hl)]
    · rw [List.getElem?_set_ne e, wipe_in ((List.mem_cons.mp h).resolve_left fun z => e z.symm) hl]
theorem wipe_ext {τ : L2.St} {is : List Nat} (hl : τ.length = σ.length) (h : ∀ j, j ∉ is → τ[j]? = σ[j]?) : wipe τ is = wipe σ is := by
  refine List.ext_getElem? fun j => ?_
  by_cases hj : j ∈ is
  · by_cases hlt : j < σ.length
    · rw [wipe_in hj hlt, wipe_in hj (by rw [hl]; exact hlt)]
    · rw [List.getElem?_eq_none (by rw [wipe_length, hl]; exact Nat.le_of_not_lt hlt), List.getElem?_eq_none (by rw [wipe_length]; exact Nat.le_of_not_lt hlt)]
  · rw [wipe_get hj, wipe_get hj, h j hj]
theorem wipe_wipe {is : List Nat} : wipe (wipe σ is) is = wipe σ is := wipe_ext (wipe_length _ _) fun _ h => wipe_get h
theorem slot_kill : ∀ {is : List Nat} {ρ : List S} {j : Nat}, slot (kill is ρ) j = if j ∈ is then .dead else slot ρ j
  | [], ρ, j => by simp [kill]
  | i :: is, ρ, j => by
    rw [kill, slot_kill, slot_set]
    by_cases h : j ∈ is
    · rw [if_pos h, if_pos (List.mem_cons_of_mem _ h)]
    · rw [if_neg h]
      by_cases e : i = j
      · subst e
        rw [if_pos (List.mem_cons_self (a := i) (l := is))]
        split
        · rfl
        · rename_i hn
          unfold slot
          rw [List.getD_eq_getElem?_getD, List.getElem?_eq_none (Nat.le_of_not_lt fun z => hn ⟨rfl, z⟩)]
          rfl
      · rw [if_neg fun z => e z.1, if_neg fun z => h ((List.mem_cons.mp z).resolve_left fun y => e y.symm)]
theorem kill_length : ∀ {is : List Nat} {ρ : List S}, (kill is ρ).length = ρ.length
  | [], _ => rfl
  | i :: is, ρ => by rw [kill, kill_length, List.length_set]
theorem SR.kill : ∀ {is : List Nat} {ρ : List S} {φ : Nat → List Addr}, SR K G H ρ σ φ → SR K G H (VE.kill is ρ) σ (dropF φ is)
  | [], _, _, r => r
  | i :: is, _, _, r => SR.kill (is := is) r.drop
/-- the slots whose values aren't known may change -/
theorem SR.chg (r : SR K G H ρ σ φ) (hl : σ'.length = σ.length) (h : ∀ j, slot ρ j ≠ .dead → σ'[j]? = σ[j]?) : SR K G H ρ σ' φ where
  len := r.len.trans hl.symm
  gh := r.gh
  rel := fun i => by
    by_cases e : slot ρ i = .dead
    · rcases r.rel i with q | ⟨v, _, q⟩
      · exact .inl q
      · rw [e] at q
        exact .inl ⟨e, q⟩
    · rcases r.rel i with q | ⟨v, hv, q⟩
      · exact .inl q
      · exact .inr ⟨v, by rw [h i e]; exact hv, q⟩
  dj := r.dj
  gn := r.gn
theorem SR.other {D : Addr} {o : HO} (r : SR K G H ρ σ φ) (hD : ¬ own φ D) (gD : G D = none) : SR K G (upd H D o) ρ σ φ where
  len := r.len
  gh := fun a u e => by
    rw [upd_ne fun z => by rw [z, gD] at e; cases e]
    exact r.gh a u e
  rel := fun i => by
    rcases r.rel i with q | ⟨v, e, q⟩
    · exact .inl q
    · exact .inr ⟨v, e, q.mono (Same.refl G) fun a ha u hu => by rw [upd_ne fun z => hD (by rw [← z]; exact ⟨i, ha⟩)]; exact hu⟩
  dj := r.dj
  gn := r.gn
/-- the state of a comprehension between two turns: s at v held aside, the new list at D; from (G0, H0, φ0) on -/
structure CS (K : PySem.W.Frag) (G0 H0 : Hp) (φ0 : Nat → List Addr) (G1 : Hp) (s : S) (v : V) (f : List Addr) (D : Addr) (ρ : List S) (σ : L2.St) (acc : List PyData) (G H : Hp) (φ : Nat → List Addr) : Prop where
  sr : SR K G H ρ σ φ
  hs : Tmp K G H s v f φ
  hd : ∃ vs, H D = some (.lst vs) ∧ DPs K G vs acc
  gD : G D = none
  oD : ¬ own φ D
  fD : D ∉ f
  st : Stp G0 H0 (own φ0) G H (fun a => own φ a ∨ a ∈ f ∨ a = D)
  g1 : Same G1 G
variable {G0 H0 G1 : Hp} {φ0 : Nat → List Addr} {s : S} {v : V} {f : List Addr} {D : Addr} {acc : List PyData}
theorem CS.step (c : CS K G0 H0 φ0 G1 s v f D ρ σ acc G H φ) (st : Stp G H (own φ) G' H' (own φ')) (r : SR K G' H' ρ' σ' φ') : CS K G0 H0 φ0 G1 s v f D ρ' σ' acc G' H' φ' := by
  obtain ⟨vs, hD, hd⟩ := c.hd
  obtain ⟨t1, t2, t3⟩ := c.hs.frame st c.hs.off
  have tD : Tmp K G H (.lst acc) (.ref D) [D] φ := ⟨⟨D, vs, rfl, hD, hd, rfl⟩, (fun a ha => by obtain rfl := List.mem_singleton.mp ha; exact c.gD), fun a ha => by obtain rfl := List.mem_singleton.mp ha; exact c.oD⟩
  obtain ⟨⟨D', vs', e, h1, h2, _⟩, d2, d3⟩ := tD.frame st tD.off
  cases e
  refine ⟨r, ⟨t1, t2, t3⟩, ⟨vs', h1, h2⟩, d2 D (List.mem_singleton.mpr rfl), d3 D (List.mem_singleton.mpr rfl), c.fD, ?_, c.g1.trans st.gg⟩
  have fr := st.frame (T := fun a => a ∈ f ∨ a = D) fun a ha => by
    rcases ha with ha | rfl
    · obtain ⟨o, e⟩ := c.hs.rel.here a ha
      exact ⟨c.hs.off a ha, by rw [e]; exact fun z => nomatch z⟩
    · exact ⟨c.oD, by rw [hD]; exact fun z => nomatch z⟩
  exact c.st.trans fr
/-- a datum is appended to the new list -/
theorem CS.app {y : V} {d : PyData} (c : CS K G0 H0 φ0 G1 s v f D ρ σ acc G H φ) (hy : DP K G y d) : ∃ vs, H D = some (.lst vs) ∧ vs.length = acc.length ∧ CS K G0 H0 φ0 G1 s v f D ρ σ (acc ++ [d]) G (upd H D (.lst (vs ++ [y]))) φ := by
  obtain ⟨vs, hD, hd⟩ := c.hd
  refine ⟨vs, hD, hd.length, c.sr.other c.oD c.gD, ⟨c.hs.rel.mono (Same.refl G) fun a ha u hu => ?_, c.hs.gn, c.hs.off⟩, ⟨_, upd_same, hd.app (.cons hy .nil)⟩, c.gD, c.oD, c.fD, ?_, c.g1⟩
  · rw [upd_ne fun z => c.fD (by rw [← z]; exact ha)]; exact hu
  · have st : Stp G H (fun a => own φ a ∨ a ∈ f ∨ a = D) G (upd H D (.lst (vs ++ [y]))) (fun a => own φ a ∨ a ∈ f ∨ a = D) :=
      ⟨Same.refl G, fun a u hu hn => by rw [upd_ne fun z => hn (.inr (.inr z))]; exact hu, fun a z => .inl z, fun a z z' => absurd z z', fun a z => by
        by_cases e : a = D
        · rw [e, upd_same]; exact fun y => nomatch y
        · rw [upd_ne e]; exact z⟩
    exact c.st.trans st
/-- a test in a comprehension -/
def condT (K : PySem.W.Frag) (xr : XR) (Φ : Fns) : Option E → TT
  | none => tYes
  | some c => tTest (tE K xr (fun _ _ _ _ => False) (evE Φ c))
theorem cond_ok {c : Option E} {Qb : Bool → Hp → Prop} (r : SR K G H ρ σ φ) (h : match evC Φ c ρ with
    | .stk => False
    | .exc _ _ _ => False
    | .ok k ρ' => ∀ G' H' φ', Stp G H (own φ) G' H' (own φ') → SR K G' H' ρ' σ φ' → Qb k H') : condT K xr Φ c σ H Qb := by
  cases c with
  | none =>
    rw [evC] at h
    exact h G H φ Stp.refl r
  | some c =>
    rw [evC] at h
    refine ⟨ρ, G, φ, r, ?_⟩
    cases e : evE Φ c ρ with
    | stk => rw [e] at h; exact h
    | exc _ _ _ => rw [e] at h; exact h.elim
    | ok s ρ1 =>
      rw [e] at h
      simp only [R.bnd] at h
      intro v G1 H1 φ1 f st r1 t1
      cases e2 : toBool s with
      | none => rw [e2] at h; exact h.elim
      | some b =>
        rw [e2] at h
        have es : s = .val (.bool b) := by
          unfold toBool at e2
          split at e2
          · cases e2; rfl
          · cases e2
        subst es
        have q := t1.rel.1
        cases q
        exact ⟨b, rfl, h G1 H1 φ1 (st.weak fun _ z => .inl z) r1⟩
/-- one turn's evaluation -/
def turnF (Φ : Fns) (t : Tg) (c : Option E) (x : E) : PyData → List S → R (Option PyData) := fun d ρ2 => match bindT t d ρ2 with
  | some ρ3 => (evC Φ c ρ3).bnd fun k ρ4 => if k = true then (evE Φ x ρ4).bnd fun s ρ5 => match view s with
      | some v => .ok (some v) (kill (tgs t) ρ5)
      | none => .stk
    else .ok none (kill (tgs t) ρ4)
  | none => .stk
def restore (p : Option (Nat × S)) (t : Tg) (ρ1 ρ6 : List S) : List S := match p with
  | some (i, s) => (putBack ρ1 (tgs t) ρ6).set i s
  | none => putBack ρ1 (tgs t) ρ6
theorem evE_comp {t : Tg} {it : It} {c : Option E} {x : E} : evE Φ (.comp t it c x) ρ = noExc ((evIt Φ it ρ).bnd fun p ρ1 => if (tgs t).all (fun i => bare (slot ρ1 i)) = true then (turns (turnF Φ t c x) p.1 [] (kill (tgs t) ρ1)).bnd fun ds ρ6 => .ok (.lst ds) (restore p.2 t ρ1 ρ6) else .stk) := by
  rw [evE]
  rfl
theorem SR.put : ∀ {is : List Nat} {ρ ρ1 : List S} {φ : Nat → List Addr}, SR K G H ρ σ φ → (∀ i ∈ is, slot ρ1 i = .dead ∨ ∃ v d, σ[i]? = some (some v) ∧ slot ρ1 i = .val d ∧ DP K G v d) → SR K G H (putBack ρ1 is ρ) σ (dropF φ is)
  | [], _, _, _, r, _ => r
  | i :: is, ρ, ρ1, φ, r, h => by
    rw [putBack]
    have r' : SR K G H (ρ.set i (slot ρ1 i)) σ (upf φ i []) := by
      rcases h i List.mem_cons_self with e | ⟨v, d, hv, e, hd⟩
      · rw [e]; exact r.drop
      · rw [e]
        have q := r.back (s := .val d) (f := []) ⟨⟨hd, rfl⟩, (fun _ z => nomatch z), fun _ z => nomatch z⟩ hv
        rw [upf_nil_if] at q
        exact q
    exact SR.put (is := is) r' fun j hj => h j (List.mem_cons_of_mem _ hj)
theorem noExc_ok {α : Type} {r : R α} {P : R α → Prop} (h : P (noExc r)) (hs : ¬ P .stk) : ∃ a ρ, r = .ok a ρ := by
  cases r with
  | stk => exact absurd h hs
  | exc c d ρ => exact absurd h hs
  | ok a ρ => exact ⟨a, ρ, rfl⟩
theorem comp_ok {t : Tg} {it : It} {c : Option E} {x : E} (r : SR K G H ρ σ φ) (h : PoE K xr W σ G H φ (evE Φ (.comp t it c x) ρ) Q) :
    tLc (tIt K xr W Φ it) (tTg K t) (condT K xr Φ c) (tE K xr (fun _ _ _ _ => False) (evE Φ x)) (tgs t) σ H Q := by
  rw [evE_comp] at h
  refine it_ok it r ?_
  cases e : evIt Φ it ρ with
  | stk => rw [e] at h; exact h
  | exc _ _ _ => rw [e] at h; exact h.elim
  | ok p ρ1 =>
    rw [e] at h
    simp only [R.bnd_ok] at h
    intro J G1 H1 φ1 s v f st1 r1 t1 sh hold D hD
    by_cases hb : (tgs t).all (fun i => bare (slot ρ1 i)) = true
    case neg => rw [if_neg hb] at h; exact h.elim
    rw [if_pos hb] at h
    -- the word between two turns
    refine ⟨fun i m H2 => m = p.1.length - i ∧ i ≤ p.1.length ∧ ∃ G2 φ2 ρ2 acc, CS K G H φ G1 s v f D ρ2 (wipe σ (tgs t)) acc G2 H2 φ2 ∧ (∀ j ∈ tgs t, slot ρ2 j = .dead) ∧
      PoE K xr W σ G H φ (noExc ((turns (turnF Φ t c x) (p.1.drop i) acc ρ2).bnd fun ds ρ6 => .ok (.lst ds) (restore p.2 t ρ1 ρ6))) Q, ?_, ?_⟩
    · -- at the start
      refine ⟨_, rfl, Nat.zero_le _, G1, dropF φ1 (tgs t), kill (tgs t) ρ1, [], ?_, fun j hj => by rw [slot_kill, if_pos hj], by rw [List.drop_zero]; exact h⟩
      have rk : SR K G1 H1 (kill (tgs t) ρ1) (wipe σ (tgs t)) (dropF φ1 (tgs t)) := (r1.kill (is := tgs t)).chg (wipe_length _ _) fun j hj => wipe_get fun z => hj (by rw [slot_kill, if_pos z])
      have fr : ∀ a, H1 a ≠ none → a ≠ D := fun a z y => z (by rw [y]; exact hD)
      refine ⟨rk.newH hD, ⟨t1.rel.mono (Same.refl G1) fun a ha u hu => Same.upd_new hD a u hu, t1.gn, fun a ha z => t1.off a ha (own_dropF z)⟩, ⟨[], upd_same, .nil⟩, r1.gh.free hD, fun z => ?_, fun z => ?_, ?_, Same.refl G1⟩
      · obtain ⟨o, q⟩ := r1.here (own_dropF z)
        rw [hD] at q; cases q
      · obtain ⟨o, q⟩ := t1.rel.here D z
        rw [hD] at q; cases q
      · refine (st1.trans (Stp.newH hD)).weak fun a z => ?_
        rcases z with z | z | z
        · exact .inl (.inl (own_dropF z))
        · exact .inl (.inr z)
        · exact .inr z
    · -- a turn
      rintro i m H2 ⟨rfl, hi, G2, φ2, ρ2, acc, cs, hdead, h2⟩
      obtain ⟨hgo, hstop⟩ := sh.turn cs.hs cs.sr i
      by_cases hlt : i < p.1.length
      · right
        obtain ⟨jgo, jy⟩ := hgo p.1[i] (List.getElem?_eq_getElem hlt)
        rw [List.drop_eq_getElem_cons hlt] at h2
        rw [turns] at h2
        refine ⟨jgo, fun H' => i + 1 ≤ p.1.length ∧ ∃ G2 φ2 ρ2 acc, CS K G H φ G1 s v f D ρ2 (wipe σ (tgs t)) acc G2 H' φ2 ∧ (∀ j ∈ tgs t, slot ρ2 j = .dead) ∧
          PoE K xr W σ G H φ (noExc ((turns (turnF Φ t c x) (p.1.drop (i + 1)) acc ρ2).bnd fun ds ρ6 => .ok (.lst ds) (restore p.2 t ρ1 ρ6))) Q, fun H' ⟨q1, q2⟩ => ⟨_, by omega, rfl, q1, q2⟩, fun y H3 hy => ?_⟩
        obtain ⟨G3, st3, sr3, t3, hd3⟩ := jy y H3 hy
        have cs3 := cs.step st3 sr3
        cases eb : bindT t p.1[i] ρ2 with
        | none => rw [turnF, eb] at h2; exact h2.elim
        | some ρ3 =>
          rw [turnF, eb] at h2
          simp only at h2
          refine tg_ok eb hd3 sr3 fun σ4 l4 k4 w4 r4 => ⟨by rw [w4 _ fun _ z => z, wipe_wipe], ?_⟩
          have own4 : ∀ a, own (dropF φ2 (tgs t)) a → own φ2 a := fun a z => own_dropF z
          have cs4 := cs3.step (σ' := σ4) (Stp.refl.weak own4) r4
          -- back to the word's slots
          have fin : ∀ {G7 H7 : Hp} {φ7 : Nat → List Addr} {ρ7 : List S} {acc7 : List PyData}, CS K G H φ G1 s v f D ρ7 σ4 acc7 G7 H7 φ7 → CS K G H φ G1 s v f D (kill (tgs t) ρ7) (wipe σ (tgs t)) acc7 G7 H7 (dropF φ7 (tgs t)) := fun {G7 H7 φ7 ρ7 acc7} c7 => by
            have rk : SR K G7 H7 (kill (tgs t) ρ7) (wipe σ (tgs t)) (dropF φ7 (tgs t)) := (c7.sr.kill (is := tgs t)).chg (by rw [l4]) fun j hj => by
              have hn : j ∉ tgs t := fun z => hj (by rw [slot_kill, if_pos z])
              exact (k4 j hn).symm
            exact c7.step (Stp.refl.weak fun a z => own_dropF z) rk
          refine cond_ok r4 ?_
          cases ec : evC Φ c ρ3 with
          | stk => rw [ec] at h2; exact h2.elim
          | exc _ _ _ => rw [ec] at h2; exact h2.elim
          | ok k ρ4 =>
            rw [ec] at h2
            simp only [R.bnd_ok] at h2
            intro G5 H5 φ5 st5 r5
            have cs5 := cs4.step st5 r5
            cases k with
            | false =>
              rw [if_neg Bool.false_ne_true] at h2 ⊢
              simp only [R.bnd_ok] at h2
              exact ⟨hlt, _, _, _, _, fin cs5, fun j hj => by rw [slot_kill, if_pos hj], h2⟩
            | true =>
              rw [if_pos rfl] at h2 ⊢
              refine ⟨ρ4, G5, φ5, r5, ?_⟩
              cases ex : evE Φ x ρ4 with
              | stk => rw [ex] at h2; exact h2.elim
              | exc _ _ _ => rw [ex] at h2; exact h2.elim
              | ok s6 ρ5 =>
                rw [ex] at h2
                simp only [R.bnd_ok] at h2
                intro y6 G6 H6 φ6 f6 st6 r6 t6
                cases ev : view s6 with
                | none => rw [ev] at h2; exact h2.elim
                | some d6 =>
                  rw [ev] at h2
                  simp only [R.bnd_ok] at h2
                  obtain ⟨G7, st7, r7, hd7, _⟩ := t6.freeze r6 ev
                  have cs7 := cs5.step (st6.trans st7) r7
                  obtain ⟨ws, hD7, l7, cs8⟩ := cs7.app hd7
                  by_cases hz : acc.length < sizeLine
                  · rw [if_pos hz] at h2
                    exact ⟨ws, hD7, by rw [l7]; exact hz, hlt, _, _, _, _, fin cs8, fun j hj => by rw [slot_kill, if_pos hj], h2⟩
                  · rw [if_neg hz] at h2; exact h2.elim
      · left
        have e0 : p.1.drop i = [] := List.drop_eq_nil_of_le (Nat.le_of_not_lt hlt)
        refine ⟨hstop (Nat.le_of_not_lt hlt), ?_⟩
        rw [e0, turns] at h2
        simp only [R.bnd_ok, noExc] at h2
        obtain ⟨vs, hDl, hdl⟩ := cs.hd
        -- the names as they were
        have rσ : SR K G2 H2 ρ2 σ φ2 := cs.sr.chg (wipe_length _ _).symm fun j hj => by
          have hn : j ∉ tgs t := fun z => hj (hdead j z)
          exact (wipe_get hn).symm
        have rp : SR K G2 H2 (putBack ρ1 (tgs t) ρ2) σ (dropF φ2 (tgs t)) := rσ.put fun j hj => by
          have q := List.all_eq_true.mp hb j hj
          cases es : slot ρ1 j with
          | dead => exact .inl rfl
          | val d =>
            obtain ⟨w, hw, q2⟩ := r1.at (i := j) (by rw [es]; exact fun z => nomatch z)
            rw [es] at q2
            exact .inr ⟨w, d, hw, rfl, q2.1.mono cs.g1⟩
          | lst _ => rw [es] at q; cases q
          | dct _ => rw [es] at q; cases q
        have tD : ∀ {φ9 : Nat → List Addr}, ¬ own φ9 D → Tmp K G2 H2 (.lst acc) (.ref D) [D] φ9 := fun {φ9} hn => ⟨⟨D, vs, rfl, hDl, hdl, rfl⟩, (fun a ha => by obtain rfl := List.mem_singleton.mp ha; exact cs.gD), fun a ha => by obtain rfl := List.mem_singleton.mp ha; exact hn⟩
        cases hp : p.2 with
        | none =>
          rw [hp] at h2
          refine h2 _ G2 H2 _ [D] (cs.st.weak fun a z => ?_) rp (tD fun z => cs.oD (own_dropF z))
          rcases z with z | z
          · exact .inl (own_dropF z)
          · exact .inr (.inr (List.mem_singleton.mp z))
        | some q =>
          obtain ⟨j, s'⟩ := q
          rw [hp] at h2 hold
          obtain ⟨rfl, hvj⟩ := hold
          have rb := rp.back (i := j) ⟨cs.hs.rel, cs.hs.gn, fun a ha z => cs.hs.off a ha (own_dropF z)⟩ hvj
          have sub : ∀ a, own (upf (dropF φ2 (tgs t)) j (if j < (putBack ρ1 (tgs t) ρ2).length then f else [])) a → own φ2 a ∨ a ∈ f := fun a z => by
            rcases own_upf z with y | y
            · split at y
              · exact .inr y
              · cases y
            · exact .inl (own_dropF y)
          refine h2 _ G2 H2 _ [D] (cs.st.weak fun a z => ?_) rb (tD fun z => (sub D z).elim cs.oD cs.fD)
          rcases z with z | z
          · exact (sub a z).imp id .inl
          · exact .inr (.inr (List.mem_singleton.mp z))
/-! ### two clauses -/
theorem Shape.view {J : L2.It} {xs : List PyData} {s : S} {v : V} (sh : Shape K J xs s v) : ∃ d, VE.view s = some d ∧ Shape K J xs (.val d) v := by
  cases sh with
  | rng lo n => exact ⟨_, rfl, .rng lo n⟩
  | rngC lo c n => exact ⟨_, rfl, .rngC lo c n⟩
  | chr z => exact ⟨_, rfl, .chr z⟩
  | lst h => exact ⟨_, h, .lst rfl⟩
  | tup h => exact ⟨_, h, .tup rfl⟩
  | enum h => exact ⟨_, h, .enum rfl⟩
/-- the inner clause's turns, behind one outer item -/
def innF (Φ : Fns) (t : Tg) (c : Option E) (t1 : Tg) (it1 : It) (c1 : Option E) (x : E) : PyData → List PyData → List S → R (List PyData) := fun d acc ρ2 => match bindT t d ρ2 with
  | some ρ3 => (evC Φ c ρ3).bnd fun k ρ4 => if k = true then (evIt Φ it1 ρ4).bnd fun p1 ρ5 => if p1.2.isNone = true then (turns (turnF Φ t1 c1 x) p1.1 acc (kill (tgs t1) ρ5)).bnd fun acc' ρ7 => .ok acc' (kill (tgs t ++ tgs t1) ρ7) else .stk
    else .ok acc (kill (tgs t ++ tgs t1) ρ4)
  | none => .stk
def restore2 (p : Option (Nat × S)) (vs : List Nat) (ρ1 ρ6 : List S) : List S := match p with
  | some (i, s) => (putBack ρ1 vs ρ6).set i s
  | none => putBack ρ1 vs ρ6
theorem evE_comp2 {t : Tg} {it : It} {c : Option E} {t1 : Tg} {it1 : It} {c1 : Option E} {x : E} : evE Φ (.comp2 t it c t1 it1 c1 x) ρ = noExc ((evIt Φ it ρ).bnd fun p ρ1 => if (tgs t ++ tgs t1).all (fun i => bare (slot ρ1 i)) = true then (turns2 (innF Φ t c t1 it1 c1 x) p.1 [] (kill (tgs t ++ tgs t1) ρ1)).bnd fun ds ρ6 => .ok (.lst ds) (restore2 p.2 (tgs t ++ tgs t1) ρ1 ρ6) else .stk) := by
  rw [evE]
  rfl
theorem comp2_ok {t : Tg} {it : It} {c : Option E} {t1 : Tg} {it1 : It} {c1 : Option E} {x : E} (r : SR K G H ρ σ φ) (h : PoE K xr W σ G H φ (evE Φ (.comp2 t it c t1 it1 c1 x) ρ) Q) :
    tLc2 (tIt K xr W Φ it) (tTg K t) (condT K xr Φ c) (tIt K xr (fun _ _ _ _ => False) Φ it1) (tTg K t1) (condT K xr Φ c1) (tE K xr (fun _ _ _ _ => False) (evE Φ x)) (tgs t ++ tgs t1) (tgs t1) σ H Q := by
  rw [evE_comp2] at h
  refine it_ok it r ?_
  cases e : evIt Φ it ρ with
  | stk => rw [e] at h; exact h
  | exc _ _ _ => rw [e] at h; exact h.elim
  | ok p ρ1 =>
    rw [e] at h
    simp only [R.bnd_ok] at h
    intro J G1 H1 φ1 s v f st1 r1 tm1 sh hold D hD
    by_cases hb : (tgs t ++ tgs t1).all (fun i => bare (slot ρ1 i)) = true
    case neg => rw [if_neg hb] at h; exact h.elim
    rw [if_pos hb] at h
    generalize hvs : tgs t ++ tgs t1 = vs at h hb ⊢
    have mt : ∀ i ∈ tgs t, i ∈ vs := fun i hi => by rw [← hvs]; exact List.mem_append_left _ hi
    have mt1 : ∀ i ∈ tgs t1, i ∈ vs := fun i hi => by rw [← hvs]; exact List.mem_append_right _ hi
    have mvs : ∀ i ∈ vs, i ∈ tgs t ∨ i ∈ tgs t1 := fun i hi => by rw [← hvs] at hi; exact List.mem_append.mp hi
    let fin : List PyData → List S → R S := fun ds ρ6 => .ok (.lst ds) (restore2 p.2 vs ρ1 ρ6)
    let F := innF Φ t c t1 it1 c1 x
    let Nx : Nat → Hp → Prop := fun i H' => i ≤ p.1.length ∧ ∃ G2 φ2 ρ2 acc, CS K G H φ G1 s v f D ρ2 (wipe σ vs) acc G2 H' φ2 ∧ (∀ j ∈ vs, slot ρ2 j = .dead) ∧
      PoE K xr W σ G H φ (noExc ((turns2 F (p.1.drop i) acc ρ2).bnd fin)) Q
    refine ⟨fun i m H2 => m = p.1.length - i ∧ Nx i H2, ?_, ?_⟩
    · refine ⟨_, rfl, Nat.zero_le _, G1, dropF φ1 vs, kill vs ρ1, [], ?_, fun j hj => by rw [slot_kill, if_pos hj], by rw [List.drop_zero]; exact h⟩
      have rk : SR K G1 H1 (kill vs ρ1) (wipe σ vs) (dropF φ1 vs) := (r1.kill (is := vs)).chg (wipe_length _ _) fun j hj => wipe_get fun z => hj (by rw [slot_kill, if_pos z])
      refine ⟨rk.newH hD, ⟨tm1.rel.mono (Same.refl G1) fun a ha u hu => Same.upd_new hD a u hu, tm1.gn, fun a ha z => tm1.off a ha (own_dropF z)⟩, ⟨[], upd_same, .nil⟩, r1.gh.free hD, fun z => ?_, fun z => ?_, ?_, Same.refl G1⟩
      · obtain ⟨o, q⟩ := r1.here (own_dropF z)
        rw [hD] at q; cases q
      · obtain ⟨o, q⟩ := tm1.rel.here D z
        rw [hD] at q; cases q
      · refine (st1.trans (Stp.newH hD)).weak fun a z => ?_
        rcases z with z | z | z
        · exact .inl (.inl (own_dropF z))
        · exact .inl (.inr z)
        · exact .inr z
    · rintro i m H2 ⟨rfl, hi, G2, φ2, ρ2, acc, cs, hdead, h2⟩
      obtain ⟨hgo, hstop⟩ := sh.turn cs.hs cs.sr i
      by_cases hlt : i < p.1.length
      · right
        obtain ⟨jgo, jy⟩ := hgo p.1[i] (List.getElem?_eq_getElem hlt)
        rw [List.drop_eq_getElem_cons hlt, turns2] at h2
        refine ⟨jgo, Nx (i + 1), fun H' q1 => ⟨_, by have := q1.1; omega, rfl, q1⟩, fun y H3 hy => ?_⟩
        obtain ⟨G3, st3, sr3, t3, hd3⟩ := jy y H3 hy
        have cs3 := cs.step st3 sr3
        cases eb : bindT t p.1[i] ρ2 with
        | none =>
          have z : F p.1[i] acc ρ2 = .stk := by simp only [F, innF, eb]
          rw [z] at h2; exact h2.elim
        | some ρ3 =>
          have z : F p.1[i] acc ρ2 = (evC Φ c ρ3).bnd fun k ρ4 => if k = true then (evIt Φ it1 ρ4).bnd fun p1 ρ5 => if p1.2.isNone = true then (turns (turnF Φ t1 c1 x) p1.1 acc (kill (tgs t1) ρ5)).bnd fun acc' ρ7 => .ok acc' (kill vs ρ7) else .stk
            else .ok acc (kill vs ρ4) := by simp only [F, innF, eb, hvs]
          rw [z] at h2
          refine tg_ok eb hd3 sr3 fun σ4 l4 k4 w4 r4 => ⟨by rw [w4 vs mt, wipe_wipe], ?_⟩
          have own4 : ∀ a, own (dropF φ2 (tgs t)) a → own φ2 a := fun a z => own_dropF z
          have cs4 := cs3.step (σ' := σ4) (Stp.refl.weak own4) r4
          have back : ∀ {G7 H7 : Hp} {φ7 : Nat → List Addr} {ρ7 : List S} {acc7 : List PyData}, CS K G H φ G1 s v f D ρ7 σ4 acc7 G7 H7 φ7 → CS K G H φ G1 s v f D (kill vs ρ7) (wipe σ vs) acc7 G7 H7 (dropF φ7 vs) := fun {G7 H7 φ7 ρ7 acc7} c7 => by
            have rk : SR K G7 H7 (kill vs ρ7) (wipe σ vs) (dropF φ7 vs) := (c7.sr.kill (is := vs)).chg (by rw [l4]) fun j hj => by
              have hn : j ∉ vs := fun z => hj (by rw [slot_kill, if_pos z])
              exact (k4 j fun z => hn (mt j z)).symm
            exact c7.step (Stp.refl.weak fun a z => own_dropF z) rk
          refine cond_ok r4 ?_
          cases ec : evC Φ c ρ3 with
          | stk => rw [ec] at h2; exact h2.elim
          | exc _ _ _ => rw [ec] at h2; exact h2.elim
          | ok k ρ4 =>
            rw [ec] at h2
            simp only [R.bnd_ok] at h2
            intro G5 H5 φ5 st5 r5
            have cs5 := cs4.step st5 r5
            cases k with
            | false =>
              rw [if_neg Bool.false_ne_true] at h2 ⊢
              simp only [R.bnd_ok] at h2
              exact ⟨hlt, _, _, _, _, back cs5, fun j hj => by rw [slot_kill, if_pos hj], h2⟩
            | true =>
              rw [if_pos rfl] at h2 ⊢
              refine it_ok it1 (W := fun _ _ _ _ => False) r5 ?_
              cases ei : evIt Φ it1 ρ4 with
              | stk => rw [ei] at h2; exact h2.elim
              | exc _ _ _ => rw [ei] at h2; exact h2.elim
              | ok p1 ρ5 =>
                rw [ei] at h2
                simp only [R.bnd_ok] at h2
                intro J1 G6 H6 φ6 s1 v1 f1 st6 r6 t6 sh1 hold1
                by_cases hp1 : p1.2.isNone = true
                case neg => rw [if_neg hp1] at h2; exact h2.elim
                rw [if_pos hp1] at h2
                obtain ⟨d1, hv1, sh1'⟩ := sh1.view
                obtain ⟨G7, st7, r7, hd7, _⟩ := t6.freeze r6 hv1
                have cs7 := cs5.step (st6.trans st7) r7
                -- the inner word
                let fin1 : List PyData → List S → R (List PyData) := fun acc' ρ7 => .ok acc' (kill vs ρ7)
                let Nx1 : Nat → Hp → Prop := fun j H' => j ≤ p1.1.length ∧ ∃ G2 φ2 ρ2 acc, CS K G H φ G1 s v f D ρ2 (wipe σ4 (tgs t1)) acc G2 H' φ2 ∧ (∀ j ∈ tgs t1, slot ρ2 j = .dead) ∧ DP K G2 v1 d1 ∧
                  PoE K xr W σ G H φ (noExc ((((turns (turnF Φ t1 c1 x) (p1.1.drop j) acc ρ2).bnd fin1).bnd fun acc' ρ' => turns2 F (p.1.drop (i + 1)) acc' ρ').bnd fin)) Q
                refine ⟨fun j m H2' => m = p1.1.length - j ∧ Nx1 j H2', ⟨_, rfl, Nat.zero_le _, G7, dropF φ6 (tgs t1), kill (tgs t1) ρ5, acc, ?_, fun j hj => by rw [slot_kill, if_pos hj], hd7, by rw [List.drop_zero]; exact h2⟩, ?_⟩
                · have rk : SR K G7 H6 (kill (tgs t1) ρ5) (wipe σ4 (tgs t1)) (dropF φ6 (tgs t1)) := (r7.kill (is := tgs t1)).chg (wipe_length _ _) fun j hj => wipe_get fun z => hj (by rw [slot_kill, if_pos z])
                  exact cs7.step (Stp.refl.weak fun a z => own_dropF z) rk
                · rintro j m H2' ⟨rfl, hj, G8, φ8, ρ8, acc8, cs8, dead8, hd8, h8⟩
                  obtain ⟨hgo1, hstop1⟩ := sh1'.turn (φ := φ8) ⟨⟨hd8, rfl⟩, (fun _ z => nomatch z), fun _ z => nomatch z⟩ cs8.sr j
                  by_cases hlt1 : j < p1.1.length
                  · right
                    obtain ⟨jgo1, jy1⟩ := hgo1 p1.1[j] (List.getElem?_eq_getElem hlt1)
                    rw [List.drop_eq_getElem_cons hlt1, turns] at h8
                    refine ⟨jgo1, Nx1 (j + 1), fun H' q1 => ⟨_, by have := q1.1; omega, rfl, q1⟩, fun y H9 hy => ?_⟩
                    obtain ⟨G9, st9, sr9, t9, hd9⟩ := jy1 y H9 hy
                    have cs9 := cs8.step st9 sr9
                    have hdv9 := t9.rel.1
                    cases eb1 : bindT t1 p1.1[j] ρ8 with
                    | none => rw [turnF, eb1] at h8; exact h8.elim
                    | some ρ9 =>
                      rw [turnF, eb1] at h8
                      simp only at h8
                      refine tg_ok eb1 hd9 sr9 fun σ5 l5 k5 w5 r10 => ⟨by rw [w5 _ fun _ z => z, wipe_wipe], ?_⟩
                      have own5 : ∀ a, own (dropF φ8 (tgs t1)) a → own φ8 a := fun a z => own_dropF z
                      have cs10 := cs9.step (σ' := σ5) (Stp.refl.weak own5) r10
                      have bk : ∀ {G7 H7 : Hp} {φ7 : Nat → List Addr} {ρ7 : List S} {acc7 : List PyData}, CS K G H φ G1 s v f D ρ7 σ5 acc7 G7 H7 φ7 → CS K G H φ G1 s v f D (kill (tgs t1) ρ7) (wipe σ4 (tgs t1)) acc7 G7 H7 (dropF φ7 (tgs t1)) := fun {G7 H7 φ7 ρ7 acc7} c7 => by
                        have rk : SR K G7 H7 (kill (tgs t1) ρ7) (wipe σ4 (tgs t1)) (dropF φ7 (tgs t1)) := (c7.sr.kill (is := tgs t1)).chg (by rw [l5]) fun j hj => by
                          have hn : j ∉ tgs t1 := fun z => hj (by rw [slot_kill, if_pos z])
                          exact (k5 j hn).symm
                        exact c7.step (Stp.refl.weak fun a z => own_dropF z) rk
                      refine cond_ok r10 ?_
                      cases ec1 : evC Φ c1 ρ9 with
                      | stk => rw [ec1] at h8; exact h8.elim
                      | exc _ _ _ => rw [ec1] at h8; exact h8.elim
                      | ok k1 ρ11 =>
                        rw [ec1] at h8
                        simp only [R.bnd_ok] at h8
                        intro G11 H11 φ11 st11 r11
                        have cs11 := cs10.step st11 r11
                        cases k1 with
                        | false =>
                          rw [if_neg Bool.false_ne_true] at h8 ⊢
                          simp only [R.bnd_ok] at h8
                          exact ⟨hlt1, _, _, _, _, bk cs11, (fun j hj => by rw [slot_kill, if_pos hj]), hdv9.mono st11.gg, h8⟩
                        | true =>
                          rw [if_pos rfl] at h8 ⊢
                          refine ⟨ρ11, G11, φ11, r11, ?_⟩
                          cases ex : evE Φ x ρ11 with
                          | stk => rw [ex] at h8; exact h8.elim
                          | exc _ _ _ => rw [ex] at h8; exact h8.elim
                          | ok s12 ρ12 =>
                            rw [ex] at h8
                            simp only [R.bnd_ok] at h8
                            intro y12 G12 H12 φ12 f12 st12 r12 t12
                            cases ev : VE.view s12 with
                            | none => rw [ev] at h8; exact h8.elim
                            | some d12 =>
                              rw [ev] at h8
                              simp only [R.bnd_ok] at h8
                              obtain ⟨G13, st13, r13, hd13, _⟩ := t12.freeze r12 ev
                              have cs13 := cs11.step (st12.trans st13) r13
                              obtain ⟨ws, hD13, l13, cs14⟩ := cs13.app hd13
                              by_cases hz : acc8.length < sizeLine
                              · rw [if_pos hz] at h8
                                exact ⟨ws, hD13, by rw [l13]; exact hz, hlt1, _, _, _, _, bk cs14, (fun j hj => by rw [slot_kill, if_pos hj]), hdv9.mono (st11.gg.trans (st12.trans st13).gg), h8⟩
                              · rw [if_neg hz] at h8; exact h8.elim
                  · left
                    have e0 : p1.1.drop j = [] := List.drop_eq_nil_of_le (Nat.le_of_not_lt hlt1)
                    refine ⟨hstop1 (Nat.le_of_not_lt hlt1), ?_⟩
                    rw [e0, turns] at h8
                    simp only [R.bnd_ok, fin1] at h8
                    refine ⟨hlt, G8, dropF φ8 vs, kill vs ρ8, acc8, ?_, fun j hj => by rw [slot_kill, if_pos hj], h8⟩
                    have rk : SR K G8 H2' (kill vs ρ8) (wipe σ vs) (dropF φ8 vs) := (cs8.sr.kill (is := vs)).chg (by rw [wipe_length, wipe_length, l4, wipe_length]) fun j hj => by
                      have hn : j ∉ vs := fun z => hj (by rw [slot_kill, if_pos z])
                      rw [wipe_get (fun z => hn (mt1 j z))]
                      exact (k4 j fun z => hn (mt j z)).symm
                    exact cs8.step (Stp.refl.weak fun a z => own_dropF z) rk
      · left
        have e0 : p.1.drop i = [] := List.drop_eq_nil_of_le (Nat.le_of_not_lt hlt)
        refine ⟨hstop (Nat.le_of_not_lt hlt), ?_⟩
        rw [e0, turns2] at h2
        simp only [R.bnd_ok, noExc, fin] at h2
        obtain ⟨ws, hDl, hdl⟩ := cs.hd
        have rσ : SR K G2 H2 ρ2 σ φ2 := cs.sr.chg (wipe_length _ _).symm fun j hj => by
          have hn : j ∉ vs := fun z => hj (hdead j z)
          exact (wipe_get hn).symm
        have rp : SR K G2 H2 (putBack ρ1 vs ρ2) σ (dropF φ2 vs) := rσ.put fun j hj => by
          have q := List.all_eq_true.mp hb j hj
          cases es : slot ρ1 j with
          | dead => exact .inl rfl
          | val d =>
            obtain ⟨w, hw, q2⟩ := r1.at (i := j) (by rw [es]; exact fun z => nomatch z)
            rw [es] at q2
            exact .inr ⟨w, d, hw, rfl, q2.1.mono cs.g1⟩
          | lst _ => rw [es] at q; cases q
          | dct _ => rw [es] at q; cases q
        have tD : ∀ {φ9 : Nat → List Addr}, ¬ own φ9 D → Tmp K G2 H2 (.lst acc) (.ref D) [D] φ9 := fun {φ9} hn => ⟨⟨D, ws, rfl, hDl, hdl, rfl⟩, (fun a ha => by obtain rfl := List.mem_singleton.mp ha; exact cs.gD), fun a ha => by obtain rfl := List.mem_singleton.mp ha; exact hn⟩
        cases hp : p.2 with
        | none =>
          rw [hp] at h2
          refine h2 _ G2 H2 _ [D] (cs.st.weak fun a z => ?_) rp (tD fun z => cs.oD (own_dropF z))
          rcases z with z | z
          · exact .inl (own_dropF z)
          · exact .inr (.inr (List.mem_singleton.mp z))
        | some q =>
          obtain ⟨j, s'⟩ := q
          rw [hp] at h2 hold
          obtain ⟨rfl, hvj⟩ := hold
          have rb := rp.back (i := j) ⟨cs.hs.rel, cs.hs.gn, fun a ha z => cs.hs.off a ha (own_dropF z)⟩ hvj
          have sub : ∀ a, own (upf (dropF φ2 vs) j (if j < (putBack ρ1 vs ρ2).length then f else [])) a → own φ2 a ∨ a ∈ f := fun a z => by
            rcases own_upf z with y | y
            · split at y
              · exact .inr y
              · cases y
            · exact .inl (own_dropF y)
          refine h2 _ G2 H2 _ [D] (cs.st.weak fun a z => ?_) rb (tD fun z => (sub D z).elim cs.oD cs.fD)
          rcases z with z | z
          · exact (sub a z).imp id .inl
          · exact .inr (.inr (List.mem_singleton.mp z))
end
end VE

/-! VS9: the look that an expression of the text is the evaluator's, and that it is then evaluated so. -/
namespace VE
open PySem L2 PySem.Spec PyProof.Rows

/-- what the look knows: the def's names, the defs and constants by number -/
structure Ck where
  N : List Str
  fns : List (Str × Nat)
  gls : List Str
def vis (sc : Scope) (x : Str) : Bool := match sc.names.lookup x with
  | some .local => true
  | some .cell => true
  | some .free => true
  | _ => false
def loc (sc : Scope) (x : Str) : Bool := match sc.names.lookup x with
  | some .local => true
  | some .cell => true
  | _ => false
def gl (sc : Scope) (x : Str) : Bool := decide (sc.names.lookup x = some .globalImplicit) && !(x == ("__debug__" : Str))
def nameOk (C : Ck) (sc : Scope) (i : Nat) (x : Str) : Bool := decide (C.N[i]? = some x) && vis sc x && !(x == ("__debug__" : Str)) && !(x == ("__classdict__" : Str))
def notStar : Expr → Bool
  | .Starred .. => false
  | _ => true
def notSet : Expr → Bool
  | .Set .. => false
  | _ => true
def notSlice : Expr → Bool
  | .Slice .. => false
  | _ => true
def notIf : Expr → Bool
  | .IfExp .. => false
  | _ => true
def bltN : Blt → String
  | b => match bltK b with
    | .fn x => x
    | .type x => x
/-- isinstance's second operand -/
def ckTy : Blt → Scope → List Expr → Bool
  | .isi t, sc, [.Name x _] => decide (x = Str.ofString (tyN t)) && gl sc x
  | .isi _, _, _ => false
  | _, _, [] => true
  | _, _, _ => false
def mutX : Mut → String
  | .append => "append"
  | .remove => "remove"
  | .pop => "pop"
  | .reverse => "reverse"
def lmX : LM → String
  | .count => "count"
/-- a display's key, its constant -/
def ckCst : PyData → Expr → Bool
  | .none, .Constant .none _ _ => true
  | .bool a, .Constant (.bool b) _ _ => a == b
  | .int a, .Constant (.int b) _ _ => a == b
  | .str a, .Constant (.str b) _ _ => decide (a = b)
  | _, _ => false
def smX : SM → String
  | .join => "join"
  | .split => "split"
def plainB : Expr → Bool
  | .Name .. => true
  | .Constant .. => true
  | _ => false
def tgX (C : Ck) (is : List Nat) : List (Str × Nat) := is.map fun i => (C.N.getD i Str.empty, i)
/-- a target's name, where lc tells what may be stored -/
def ckNm (C : Ck) (lc : Str → Bool) (i : Nat) : Expr → Bool
  | .Name x _ => decide (C.N[i]? = some x) && lc x
  | _ => false
def ckNms (C : Ck) (lc : Str → Bool) : List Nat → List Expr → Bool
  | [], [] => true
  | i :: is, e :: es => ckNm C lc i e && ckNms C lc is es
  | _, _ => false
def ckTg (C : Ck) (lc : Str → Bool) : Tg → Expr → Bool
  | .nm i, e => ckNm C lc i e
  | .tp is, .Tuple es _ _ => ckNms C lc is es
  | .tp _, _ => false
/-- what a comprehension stores -/
def lcB (scope sc : Scope) (x : Str) : Bool := decide ((relS scope sc).names.lookup x = some .local) || (decide ((relS scope sc).names.lookup x = some .cell) && (scope.names.lookup x == some .cell))
/-- isinstance has one operand before the class -/
def blt1 : Blt → Nat → Bool
  | .isi _, n => n == 1
  | _, _ => true
section
variable (C : Ck)
mutual
def ckA (sc : Scope) : A → Expr → Bool
  | .pl i, e => match e with
    | .Name x _ => nameOk C sc i x
    | _ => false
  | .e p, e => ckE sc p e
def ckAs (sc : Scope) : List A → List Expr → Bool
  | [], es => match es with
    | [] => true
    | _ => false
  | a :: as, es => match es with
    | e :: es => notStar e && ckA sc a e && ckAs sc as es
    | [] => false
def ckBs (sc : Scope) : List E → List Expr → Bool
  | [], _ => false
  | [p], es => match es with
    | [e] => ckE sc p e && notIf e
    | _ => false
  | p :: q :: r, es => match es with
    | e :: f :: s => ckE sc p e && notIf e && ckBs sc (q :: r) (f :: s)
    | _ => false
def ckC (sc : Scope) : Option E → List Expr → Bool
  | none, es => match es with
    | [] => true
    | _ => false
  | some c, es => match es with
    | [e] => ckE sc c e && notIf e
    | _ => false
def ckIt (sc : Scope) : It → Expr → Expr → Bool
  | .rng1 a, _, e => match e with
    | .Call (.Name r _) [x] [] _ => decide (r = ("range" : Str)) && gl sc r && notStar x && ckA sc a x
    | _ => false
  | .rng2 a b, _, e => match e with
    | .Call (.Name r _) [x, y] [] _ => decide (r = ("range" : Str)) && gl sc r && notStar x && notStar y && ckA sc a x && ckA sc b y
    | _ => false
  | .rng3 as, _, e => match e with
    | .Call (.Name r _) [x, y, z] [] _ => decide (r = ("range" : Str)) && gl sc r && ckAs sc as [x, y, z]
    | _ => false
  | .seq a, _, e => notSet e && ckA sc a e
  | .enum a, tg, e => match tg, e with
    | .Tuple _ _ _, .Call (.Name r _) [x] [] _ => decide (r = ("enumerate" : Str)) && gl sc r && notStar x && ckA sc a x
    | _, _ => false
  | .zip _ _, _, _ => false
  | .chars a, _, e => notSet e && ckA sc a e
def ckE (sc : Scope) : E → Expr → Bool
  | .rd i _, e => match e with
    | .Name x _ => nameOk C sc i x
    | _ => false
  | .cst d, e => match e with
    | .Constant k _ _ => (match d, k with
      | .none, .none => true
      | .bool a, .bool b => a == b
      | .int a, .int b => a == b
      | .str a, .str b => decide (a = b)
      | _, _ => false)
    | _ => false
  | .glob g, e => match e with
    | .Name x _ => decide (C.gls[g]? = some x) && gl sc x
    | _ => false
  | .bin o a b, e => match e with
    | .BinOp l op r _ => decide (op = srcB o) && ckA sc a l && ckA sc b r
    | _ => false
  | .neg a, e => match e with
    | .UnaryOp .USub x _ => ckA sc a x
    | _ => false
  | .not a, e => match e with
    | .UnaryOp .Not x _ => ckE sc a x && notIf x
    | _ => false
  | .cmp o a b, e => match e with
    | .Compare l [op] [r] _ => decide (op = srcC o) && notSet r && ckA sc a l && ckA sc b r
    | _ => false
  | .chain o₁ o₂ a b c, e => match e with
    | .Compare l [op, op'] [m, r] _ => decide (op = srcC o₁) && decide (op' = srcC o₂) && notSet r && ckA sc a l && ckA sc b m && ckA sc c r
    | _ => false
  | .bop k es, e => match e with
    | .BoolOp op xs _ => decide (op = if k then .And else .Or) && ckBs sc es xs
    | _ => false
  | .ite c a b, e => match e with
    | .IfExp t x y _ => ckE sc c t && notIf t && ckE sc a x && ckE sc b y
    | _ => false
  | .idx a b, e => match e with
    | .Subscript l r _ => notSlice r && ckA sc a l && ckA sc b r
    | _ => false
  | .slice k as, e => match e with
    | .Subscript l (.Slice x y none _) _ => (match k, x, y with
      | .no, none, none => ckAs sc as [l]
      | .lo, some x, none => ckAs sc as [l, x]
      | .hi, none, some y => ckAs sc as [l, y]
      | _, _, _ => false)
    | _ => false
  | .tup as, e => match e with
    | .Tuple es _ _ => ckAs sc as es
    | _ => false
  | .lst as, e => match e with
    | .List es _ => ckAs sc as es
    | _ => false
  | .call f as, e => match e with
    | .Call (.Name x _) (e :: es) [] _ => decide (C.fns[f]? = some (x, as.length)) && gl sc x && ckAs sc as (e :: es)
    | _ => false
  | .blt b as, e => match e with
    | .Call (.Name x _) (e :: es) [] _ => decide (x = Str.ofString (bltN b)) && gl sc x && (e :: es).all notStar && blt1 b as.length && ckAs sc as ((e :: es).take as.length) && ckTy b sc ((e :: es).drop as.length)
    | _ => false
  | .mut m i as, e => match e with
    | .Call (.Attribute (.Name x _) nm apos) es [] cpos => decide (nm = Str.ofString (mutX m)) && nameOk C sc i x && (apos.endLine == cpos.line) && decide (es.length < 20) && ckAs sc as es
    | _ => false
  | .ext i p, e => match e with
    | .Call (.Attribute (.Name x _) nm apos) [y] [] cpos => decide (nm = ("extend" : Str)) && nameOk C sc i x && (apos.endLine == cpos.line) && notStar y && ckE sc p y
    | _ => false
  | .sm k o x, e => match e with
    | .Call (.Attribute b nm apos) [y] [] cpos => decide (nm = Str.ofString (smX k)) && plainB b && (apos.endLine == cpos.line) && notStar y && ckA sc o b && ckA sc x y
    | _ => false
  | .lrg as, e => match e with
    | .Call (.Name l _) [.Call (.Name r _) es [] _] [] _ => decide (l = ("list" : Str)) && gl sc l && decide (r = ("range" : Str)) && gl sc r && (as.length == 1 || as.length == 2) && ckAs sc as es
    | _ => false
  | .lset a, e => match e with
    | .Call (.Name l _) [.Call (.Name r _) [x] [] _] [] _ => decide (l = ("len" : Str)) && gl sc l && decide (r = ("set" : Str)) && gl sc r && notStar x && ckA sc a x
    | _ => false
  | .rev a, e => match e with
    | .Subscript l (.Slice none none (some (.UnaryOp .USub (.Constant (.int i) _ _) _)) _) _ => decide (i = 1) && ckA sc a l
    | _ => false
  | .lm k i x, e => match e with
    | .Call (.Attribute (.Name y _) nm apos) [z] [] cpos => decide (nm = Str.ofString (lmX k)) && nameOk C sc i y && (apos.endLine == cpos.line) && notStar z && ckA sc x z
    | _ => false
  | .dcst o, e => match e with
    | .Dict ks vs _ => (match o, ks, vs with
      | none, [], [] => true
      | some (k, d), [some ke], [ve] => ckCst (kDat k) ke && ckCst d ve
      | _, _, _ => false)
    | _ => false
  | .comp2 t it c t1 it1 c1 x, e => match e with
    | .ListComp elt gs scope _ => (match gs with
      | [⟨tg, iter, ifs, k⟩, ⟨tg1, iter1, ifs1, k1⟩] => (k == 0) && (k1 == 0) && blkC C.N sc scope (tgX C (tgs t ++ tgs t1)) && ckIt sc it tg iter && notSet iter && notSet iter1 && ckTg C (lcB scope sc) t tg && ckC (relS scope sc) c ifs && ckIt (relS scope sc) it1 tg1 iter1 && ckTg C (lcB scope sc) t1 tg1 && ckC (relS scope sc) c1 ifs1 && ckE (relS scope sc) x elt
      | _ => false)
    | _ => false
  | .comp t it c x, e => match e with
    | .ListComp elt gs scope _ => (match gs with
      | [⟨tg, iter, ifs, k⟩] => (k == 0) && blkC C.N sc scope (tgX C (tgs t)) && ckIt sc it tg iter && notSet iter && ckTg C (lcB scope sc) t tg && ckC (relS scope sc) c ifs && ckE (relS scope sc) x elt
      | _ => false)
    | _ => false
end
end

/-- where one stands, for the look -/
structure Cok (C : Ck) (Φ : Fns) (xr : XR) (sc : Scope) (X : Cx) : Prop where
  N : X.N = C.N
  nd : C.N.Nodup
  sc : X.env.scope = sc
  calm : X.calm = true
  gd : X.A.guards = some []
  hu : X.A.units + 70 < cLine
  fns : ∀ f x n, C.fns[f]? = some (x, n) → ∃ k a fd ps, FnG X.prog X.w X.K X.mg X.base (L2.CX X.prog X.w) k a fd ps (spOf X.K xr n (Φ.fn f)) ∧ Room k X.A ∧ X.mg x = some (.ref a) ∧ PySem.W.keepIn X.K (.ref a) = true ∧ Binds X.K fd ps []
  gls : ∀ g x, C.gls[g]? = some x → ∃ u v, X.mg x = some u ∧ L2.RelV v u ∧ ∀ G, DP X.K G v (Φ.gl g)
  blt : ∀ x ∈ (["len", "repr", "min", "max", "list", "isinstance", "int", "tuple", "range", "enumerate", "sum", "all", "any", "str", "bool", "sorted", "set", "dict", "zip"] : List String), X.mg (Str.ofString x) = none
theorem Cok.blk {C : Ck} {Φ : Fns} {xr : XR} {sc : Scope} {X : Cx} (c : Cok C Φ xr sc X) (s : Shared) (H : Hp) (scope : Scope) (Ca : Addr) (cl : List (Str × Addr)) (fp : List Addr) : Cok C Φ xr (relS scope sc) (X.blk s H scope (compEnvC scope cl Ca X.env) fp) where
  N := c.N
  nd := c.nd
  sc := by
    have e := c.sc
    subst e
    rfl
  calm := c.calm
  gd := c.gd
  hu := c.hu
  fns := c.fns
  gls := c.gls
  blt := c.blt
theorem PE.imp {X : Cx} {e : Expr} {t t' : TE} (h : PE X e t) (i : ∀ σ H Q, t' σ H Q → t σ H Q) : PE X e t' := ⟨fun pins s σ H Q I q => h.run pins s σ H Q I (i σ H Q q)⟩
theorem PT.imp {X : Cx} {e : Expr} {t t' : TT} (h : PT X e t) (i : ∀ σ H Q, t' σ H Q → t σ H Q) : PT X e t' := ⟨fun pins s σ H Q I q => h.run pins s σ H Q I (i σ H Q q)⟩
theorem PW.imp {X : Cx} {e : Expr} {t t' : TT} (h : PW X e t) (i : ∀ σ H Q, t' σ H Q → t σ H Q) : PW X e t' := ⟨fun w pins s σ H Q I q => h.run w pins s σ H Q I (i σ H Q q)⟩
theorem star1 {e : Expr} {env : Env} (h : notStar e = true) (es : List Expr) : starEach (e :: es) env = (false, eval e env) :: starEach es env := by
  cases e <;> first | rfl | cases h
theorem starAll {env : Env} : ∀ {es : List Expr}, es.all notStar = true → starEach es env = es.map fun e => (false, eval e env)
  | [], _ => rfl
  | e :: es, h => by
    simp only [List.all_cons, Bool.and_eq_true] at h
    rw [star1 h.1, starAll h.2]
    rfl
theorem plain_of {env : Env} {pos : Pos} {es : List Expr} (h : es.all notStar = true) : (backTo pos (starEach es env)).any (·.1) = false := by
  rw [starAll h]
  unfold backTo
  induction es with
  | nil => rfl
  | cons e es ih =>
    simp only [List.all_cons, Bool.and_eq_true] at h
    simp only [List.map_cons, List.any_cons, Bool.false_or]
    exact ih h.2
theorem nomarkS {op : CmpOp} {e : Expr} (h : notSet e = true) : behindInMarks op e = false := by
  cases e <;> first | rfl | cases h
theorem folded {e : Expr} {env : Env} (h : notSet e = true) (x : Value) : foldedSetIterable e env x = pure x := by
  cases e <;> first | rfl | cases h
theorem plainIx {e : Expr} (h : notSlice e = true) : PlainIx e := by
  intro o i
  cases e <;> first | rfl | cases h
section
variable {C : Ck} {Φ : Fns} {xr : XR} {sc : Scope} {X : Cx} {W : WX}
theorem vis_of {x : Str} (h : vis sc x = true) : Vis sc x := by
  unfold vis at h
  split at h
  · exact .inl (by assumption)
  · exact .inr (.inl (by assumption))
  · exact .inr (.inr (by assumption))
  · cases h
theorem name_ok {i : Nat} {x : Str} {pos : Pos} (c : Cok C Φ xr sc X) (h : nameOk C sc i x = true) : PE X (.Name x pos) (tVar i) := by
  simp only [nameOk, Bool.and_eq_true, decide_eq_true_eq, Bool.not_eq_true'] at h
  exact pe_var (by rw [c.N]; exact h.1.1.1) (by rw [c.sc]; exact vis_of h.1.1.2) h.1.2 h.2
theorem gl_of {x : Str} (c : Cok C Φ xr sc X) (h : gl sc x = true) : Gl X x ∧ (x == ("__debug__" : Str)) = false := by
  simp only [gl, Bool.and_eq_true, decide_eq_true_eq, Bool.not_eq_true'] at h
  refine ⟨?_, h.2⟩
  show X.env.scope.names.lookup x = _
  rw [c.sc]
  exact h.1
theorem base_of {o : Expr} {nm : Str} {env : Env} (h : plainB o = true) : attributeBase o nm env (eval o env) = eval o env := by
  cases o <;> first | rfl | cases h
theorem takesB : Takes (X := X) (fun _ _ _ _ => False) := fun u s' ⟨_, _, _, _, _, _, _, _, _, _, _, _, _, _, _, _, z⟩ => z.elim
end
/-- targets -/
theorem assign1 {C : Ck} {tg : Expr} {lc : Str → Bool} {i : Nat} {env : Env} (h : ckNm C lc i tg = true) (es : List Expr) : assignEach (tg :: es) env = (false, assign tg env) :: assignEach es env := by
  cases tg <;> first | rfl | cases h
section
variable {C : Ck} {X : Cx} {lc : Str → Bool}
theorem ckNm_ok (hN : X.N.Nodup) (eN : X.N = C.N) (hl : ∀ x, lc x = true → Loc X.env.scope x ∧ (X.fn x = true ∨ X.env.scope.names.lookup x = some .local)) {i : Nat} {e : Expr} (h : ckNm C lc i e = true) : PG X e (gName i) := by
  unfold ckNm at h
  split at h
  · rename_i x pos
    simp only [Bool.and_eq_true, decide_eq_true_eq] at h
    obtain ⟨h1, h2⟩ := hl x h.2
    exact pg_name hN (by rw [eN]; exact h.1) h1 h2
  · cases h
theorem ckNms_ok (hN : X.N.Nodup) (eN : X.N = C.N) (hl : ∀ x, lc x = true → Loc X.env.scope x ∧ (X.fn x = true ∨ X.env.scope.names.lookup x = some .local)) : ∀ {is : List Nat} {es : List Expr}, ckNms C lc is es = true →
    PGs X es (tSets X.K is) ∧ (assignEach es X.env).length = is.length ∧ (assignEach es X.env).findIdx? (·.1) = none
  | [], [], _ => ⟨pgs_nil, rfl, rfl⟩
  | i :: is, e :: es, h => by
    simp only [ckNms, Bool.and_eq_true] at h
    obtain ⟨h1, h2, h3⟩ := ckNms_ok hN eN hl h.2
    refine ⟨pgs_cons (ckNm_ok hN eN hl h.1) h1 (by rw [assign1 h.1]; rfl), by rw [assign1 h.1, List.length_cons, h2, List.length_cons], ?_⟩
    rw [assign1 h.1, List.findIdx?_cons]
    simp only [Bool.false_eq_true, if_false]
    rw [h3]
    rfl
  | [], _ :: _, h => by simp [ckNms] at h
  | _ :: _, [], h => by simp [ckNms] at h
theorem ckTg_ok (hc : X.calm = true) (hN : X.N.Nodup) (eN : X.N = C.N) (hl : ∀ x, lc x = true → Loc X.env.scope x ∧ (X.fn x = true ∨ X.env.scope.names.lookup x = some .local)) : ∀ {t : Tg} {e : Expr}, ckTg C lc t e = true → PG X e (tTg X.K t)
  | .nm i, e, h => ckNm_ok hN eN hl h
  | .tp is, e, h => by
    unfold ckTg at h
    split at h
    · rename_i e1; cases e1
    · rename_i e1; cases e1
      obtain ⟨h1, h2, h3⟩ := ckNms_ok hN eN hl h
      exact pg_tup hc h1 h2 h3
    · cases h
end
theorem lcB_ok {X : Cx} {sc scope : Scope} {s : Shared} {H : Hp} {Ca : Addr} {cl : List (Str × Addr)} {fp : List Addr} (e : X.env.scope = sc) (x : Str) (h : lcB scope sc x = true) :
    Loc (X.blk s H scope (compEnvC scope cl Ca X.env) fp).env.scope x ∧ ((X.blk s H scope (compEnvC scope cl Ca X.env) fp).fn x = true ∨ (X.blk s H scope (compEnvC scope cl Ca X.env) fp).env.scope.names.lookup x = some .local) := by
  subst e
  simp only [lcB, Bool.or_eq_true, Bool.and_eq_true, decide_eq_true_eq] at h
  rcases h with h | ⟨h1, h2⟩
  · exact ⟨.inl h, .inr h⟩
  · exact ⟨.inr h1, .inl h2⟩
theorem few_of {env : Env} {pos : Pos} {es : List Expr} (h : es.all notStar = true) (hl : es.length < 20) : ((backTo pos (starEach es env)).all (fun x => !x.1) && (backToKw pos (keywordEach [] env)).all (fun x => x.1.isSome)
      && decide (es.length + ([] : List Keyword).length + (if ([] : List Keyword).isEmpty then 0 else 1) < 30)) = true := by
  have h1 : (backTo pos (starEach es env)).all (fun x => !x.1) = true := by
    rw [starAll h]
    unfold backTo
    clear hl
    induction es with
    | nil => rfl
    | cons e es ih =>
      simp only [List.all_cons, Bool.and_eq_true] at h
      simp only [List.map_cons, List.all_cons, Bool.not_false, Bool.true_and]
      exact ih h.2
  rw [h1]
  have h2 : decide (es.length + ([] : List Keyword).length + (if ([] : List Keyword).isEmpty then 0 else 1) < 30) = true := by
    apply decide_eq_true
    simp
    omega
  rw [h2]
  rfl
theorem tgX_snd (C : Ck) (is : List Nat) : (tgX C is).map (·.2) = is := by
  unfold tgX
  rw [List.map_map]
  exact List.map_id _
theorem slot_mut (m : Mut) : Slot "list" (Str.ofString (mutX m)) (mutN m) := by
  cases m
  · exact PySem.F.slot_list_append
  · exact PySem.F.slot_list_pop
  · exact PySem.F.slot_list_reverse
  · exact PySem.F.slot_list_remove
theorem type_mut (m : Mut) : typeOf (.builtin (mutN m)) = pure (.type "method_descriptor") := by
  cases m
  · exact PySem.F.type_list_append
  · exact PySem.F.type_list_pop
  · exact PySem.F.type_list_reverse
  · exact PySem.F.type_list_remove
theorem slot_lm (k : LM) : Slot "list" (Str.ofString (lmX k)) (lmN k) := by
  cases k
  exact PySem.F.slot_list_count
theorem type_lm (k : LM) : typeOf (.builtin (lmN k)) = pure (.type "method_descriptor") := by
  cases k
  exact PySem.F.type_list_count
theorem bltN_mem (b : Blt) : bltN b ∈ (["len", "repr", "min", "max", "list", "isinstance", "int", "tuple", "range", "enumerate", "sum", "all", "any", "str", "bool", "sorted", "set", "dict", "zip"] : List String) := by
  cases b <;> simp [bltN, bltK]
theorem tyN_mem (t : Ty) : tyN t ∈ (["len", "repr", "min", "max", "list", "isinstance", "int", "tuple", "range", "enumerate", "sum", "all", "any", "str", "bool", "sorted", "set", "dict", "zip"] : List String) := by
  cases t <;> simp [tyN]
theorem bltN_name (b : Blt) : Str.ofString (bltN b) ≠ "__name__" := by
  cases b <;> first | (rename_i t; cases t <;> decide +kernel) | decide +kernel
theorem tyN_name (t : Ty) : Str.ofString (tyN t) ≠ "__name__" := by
  cases t <;> decide +kernel
/-- a built-in by its name -/
theorem blt_boot (b : Blt) : bootBuiltins (Str.ofString (bltN b)) = some (bltV b) := by
  cases b <;> first | (rename_i t; cases t <;> decide +kernel) | decide +kernel
theorem ty_boot (t : Ty) : bootBuiltins (Str.ofString (tyN t)) = some (.type (tyN t)) := by
  cases t <;> decide +kernel
end VE

/-! VS10: an expression that passes the look is evaluated so. -/
namespace VE
open PySem L2 PySem.Spec PyProof.Rows
section
variable {C : Ck} {Φ : Fns} {xr : XR} {sc : Scope} {X : Cx} {W : WX}
theorem chain_ok {K : PySem.W.Frag} {σ : L2.St} {G H : Hp} {φ : Nat → List Addr} {ρ : List S} {Q : VK} {o₁ o₂ : Cop} {a b c : A} (r : SR K G H ρ σ φ) (h : PoE K xr W σ G H φ (evE Φ (.chain o₁ o₂ a b c) ρ) Q) :
    tChain (rD K xr W (cmpS o₁)) (rD K xr W (cmpS o₂)) (tA K xr W Φ a) (tA K xr W Φ b) (tA K xr W Φ c) σ H Q := by
  rw [evE] at h
  have h' : PoE K xr W σ G H φ ((evAs Φ [a, b] ρ).bnd fun ts ρ'' => match ts with
      | [t, u] => (match res a (t.bind view) ρ'', res b (u.bind view) ρ'' with
        | some d, some d' => match opC o₁ d d' with
          | some true => (evA Φ c ρ'').bnd fun z ρ3 => fin2 b c u z ρ3 (cmpS o₂)
          | some false => .ok (.val (.bool false)) ρ''
          | none => .stk
        | _, _ => .stk)
      | _ => .stk) Q := by
    simp only [evAs]
    cases e1 : evA Φ a ρ with
    | stk => rw [e1] at h; exact h
    | exc _ _ _ => rw [e1] at h; exact h
    | ok t ρ1 =>
      rw [e1] at h
      simp only [R.bnd] at h ⊢
      cases e2 : evA Φ b ρ1 with
      | stk => rw [e2] at h; exact h
      | exc _ _ _ => rw [e2] at h; exact h
      | ok u ρ2 => rw [e2] at h; exact h
  have key : tAs K xr W Φ [a, b] σ H (fun vs H2 => match vs with
      | [x, y] => rD K xr W (cmpS o₁) x y H2 fun z H3 => ∃ k, z = .bl k ∧ (if k = true then tA K xr W Φ c σ H3 fun w' H4 => rD K xr W (cmpS o₂) y w' H4 Q else Q (.bl false) H3)
      | _ => False) := by
    refine opsE0 r h' fun ts ρ' vs G' H' φ' fs r' o hf q st => ?_
    obtain ⟨t, u, x, y, f, g, rfl, rfl, ox, oy, rfl⟩ := o.two
    simp only at q
    split at q
    · rename_i d d' h1 h2
      refine ⟨σ, G', φ', ρ', d, d', r', ox.vw r' h1, oy.vw r' h2, ?_⟩
      unfold cmpS
      cases e : opC o₁ d d' with
      | none => rw [e] at q; exact q.elim
      | some k =>
        rw [e] at q
        intro v G2 H2 φ2 f2 st2 r2 t2
        have hv := t2.rel.1
        cases hv
        refine ⟨k, rfl, ?_⟩
        have st' := st.weak (T := own φ') fun a z => .inl z
        cases k with
        | false =>
          rw [if_neg Bool.false_ne_true]
          exact fin_bool r2 (PoE.from q ((st'.trans st2).weak fun _ z => .inl z))
        | true =>
          rw [if_pos rfl]
          simp only at q
          -- y's own things are held aside through the first comparison and c
          have off2 : ∀ b ∈ g, ¬ own φ' b := fun b hb => (hf b (List.mem_append_right _ (List.mem_append_left _ hb))).2
          have key3 : tAs K xr W Φ [c] σ H2 (fun vs H4 => match vs with
              | [w'] => rD K xr W (cmpS o₂) y w' H4 Q
              | _ => False) := by
            have q' : PoE K xr W σ G H φ ((evAs Φ [c] ρ').bnd fun ts ρ3 => match ts with
                | [z] => fin2 b c u z ρ3 (cmpS o₂)
                | _ => .stk) Q := by
              simp only [evAs]
              cases e1 : evA Φ c ρ' with
              | stk => rw [e1] at q; exact q
              | exc _ _ _ => rw [e1] at q; exact q
              | ok t ρ1 => rw [e1] at q; exact q
            refine opsE (Q := Q) r2 (PoE.from q' ((st'.trans st2).weak fun _ z => .inl z)) fun ts ρ3 vs G3 H3 φ3 fs3 r3 o3 hf3 q3 st3 => ?_
            obtain ⟨t3, w', f3, rfl, rfl, o4, rfl⟩ := o3.one
            simp only [fin2] at q3
            split at q3
            · rename_i d3 e h5 h6
              refine ⟨σ, G3, φ3, ρ3, d3, e, r3, ?_, o4.vw r3 h6, q3⟩
              cases b with
              | pl i => exact (show OpR1 K G3 H3 σ (.pl i) u y g from oy).vw r3 h5
              | e z =>
                obtain ⟨s, rfl, qs⟩ := oy
                have tm : Tmp K G' H' s y g φ' := ⟨qs, fun b hb => (hf b (List.mem_append_right _ (List.mem_append_left _ hb))).1, off2⟩
                obtain ⟨p1, p2, p3⟩ := tm.frame st2 tm.off
                have tm2 : Tmp K G2 H2 s y g φ2 := ⟨p1, p2, fun b hb z => p3 b hb (.inl z)⟩
                obtain ⟨p4, _, _⟩ := tm2.frame st3 tm2.off
                exact VW.of p4 h5
            · exact q3.elim
          exact key3
    · exact q.elim
  exact key

/-! ### slices -/
theorem DPs.cut {K : PySem.W.Frag} {G : Hp} {vs : List V} {ds : List PyData} {lo hi : Option Int} (h : DPs K G vs ds) : DPs K G (cutV vs lo hi) (cutD ds lo hi) := by
  unfold cutV cutD
  rw [h.length]
  exact (h.drop _).take _
theorem VWs.len {K : PySem.W.Frag} {G H : Hp} {vs : List V} {ds : List PyData} (h : VWs K G H vs ds) : vs.length = ds.length := by
  induction h with
  | nil => rfl
  | cons _ _ ih => rw [List.length_cons, List.length_cons, ih]
theorem slice_ok {K : PySem.W.Frag} {σ : L2.St} {G H : Hp} {φ : Nat → List Addr} {ρ : List S} {Q : VK} {k : Sl} {as : List A} {Qr : List V → Hp → Prop} (r : SR K G H ρ σ φ) (h : PoE K xr W σ G H φ (evE Φ (.slice k as) ρ) Q)
    (hq : ∀ vs H' a xs lo hi, SqL K H' a xs → (∀ p, H' p = none → Q (.ref p) (upd H' p (.lst (cutV xs lo hi)))) →
      ((k = .no ∧ vs = [.ref a] ∧ lo = none ∧ hi = none) ∨ (k = .lo ∧ ∃ i, vs = [.ref a, .int i] ∧ lo = some i ∧ hi = none) ∨ (k = .hi ∧ ∃ j, vs = [.ref a, .int j] ∧ lo = none ∧ hi = some j) ∨ (k = .both ∧ ∃ i j, vs = [.ref a, .int i, .int j] ∧ lo = some i ∧ hi = some j)) → Qr vs H') : tAs K xr W Φ as σ H Qr := by
  rw [evE] at h
  refine opsE r h fun ts ρ' vs G' H' φ' fs r' o _ q _ => ?_
  split at q
  · rename_i ds hds
    have vw := o.vws r' hds
    unfold opSl at q
    split at q
    · cases vw with
      | cons v1 v2 =>
        cases v2
        obtain ⟨a, ws, rfl, h1, h2⟩ := v1.list r'.gh
        exact hq _ _ a ws none none h1 (fun p hp => fin_lst r' hp h2.cut q) (.inl ⟨rfl, rfl, rfl, rfl⟩)
    · cases vw with
      | cons v1 v2 =>
        cases v2 with
        | cons v2 v3 =>
          cases v3
          obtain ⟨a, ws, rfl, h1, h2⟩ := v1.list r'.gh
          obtain rfl := v2.int
          exact hq _ _ a ws _ none h1 (fun p hp => fin_lst r' hp h2.cut q) (.inr (.inl ⟨rfl, _, rfl, rfl, rfl⟩))
    · cases vw with
      | cons v1 v2 =>
        cases v2 with
        | cons v2 v3 =>
          cases v3
          obtain ⟨a, ws, rfl, h1, h2⟩ := v1.list r'.gh
          obtain rfl := v2.int
          exact hq _ _ a ws none _ h1 (fun p hp => fin_lst r' hp h2.cut q) (.inr (.inr (.inl ⟨rfl, _, rfl, rfl, rfl⟩)))
    · cases vw with
      | cons v1 v2 =>
        cases v2 with
        | cons v2 v3 =>
          cases v3 with
          | cons v3 v4 =>
            cases v4
            obtain ⟨a, ws, rfl, h1, h2⟩ := v1.list r'.gh
            obtain rfl := v2.int
            obtain rfl := v3.int
            exact hq _ _ a ws _ _ h1 (fun p hp => fin_lst r' hp h2.cut q) (.inr (.inr (.inr ⟨rfl, _, _, rfl, rfl, rfl⟩)))
    · exact q.elim
  · exact q.elim
theorem not_ok {K : PySem.W.Frag} {σ : L2.St} {G H : Hp} {φ : Nat → List Addr} {ρ : List S} {Q : VK} {a : E} (r : SR K G H ρ σ φ) (h : PoE K xr W σ G H φ (evE Φ (.not a) ρ) Q) : tE K xr W (evE Φ a) σ H (fun x H1 => ∃ b, x = .bl b ∧ Q (.bl (!b)) H1) := by
  rw [evE] at h
  refine ⟨ρ, G, φ, r, ?_⟩
  cases e : evE Φ a ρ with
  | stk => rw [e] at h; exact h
  | exc _ _ _ => rw [e] at h; exact h
  | ok s ρ1 =>
    rw [e] at h
    simp only [R.bnd] at h
    intro v G1 H1 φ1 f st r1 t1
    cases e2 : toBool s with
    | none => rw [e2] at h; exact h.elim
    | some b =>
      rw [e2] at h
      have es : s = .val (.bool b) := by
        unfold toBool at e2
        split at e2
        · cases e2; rfl
        · cases e2
      subst es
      have q := t1.rel.1
      cases q
      exact ⟨b, rfl, fin_bool r1 (PoE.from h (st.weak fun _ z => .inl z))⟩
theorem toBool_some {s : S} {b : Bool} (h : toBool s = some b) : s = .val (.bool b) := by
  unfold toBool at h
  split at h
  · cases h; rfl
  · cases h
/-- a test, then one of two ways -/
theorem test_then {K : PySem.W.Frag} {σ : L2.St} {G H : Hp} {φ : Nat → List Addr} {ρ : List S} {c : E} {k : Bool → List S → R S} {Q : VK} {Qr : Bool → Hp → Prop} (r : SR K G H ρ σ φ)
    (h : PoE K xr W σ G H φ ((evE Φ c ρ).bnd fun s ρ' => match toBool s with
      | some b => k b ρ'
      | none => .stk) Q)
    (hk : ∀ b ρ' G' H' φ', SR K G' H' ρ' σ φ' → PoE K xr W σ G' H' φ' (k b ρ') Q → Qr b H') : tE K xr W (evE Φ c) σ H (fun x H1 => ∃ b, x = .bl b ∧ Qr b H1) := by
  refine ⟨ρ, G, φ, r, ?_⟩
  cases e : evE Φ c ρ with
  | stk => rw [e] at h; exact h
  | exc _ _ _ => rw [e] at h; exact h
  | ok s ρ1 =>
    rw [e] at h
    simp only [R.bnd] at h
    intro v G1 H1 φ1 f st r1 t1
    cases e2 : toBool s with
    | none => rw [e2] at h; exact h.elim
    | some b =>
      rw [e2] at h
      obtain rfl := toBool_some e2
      have q := t1.rel.1
      cases q
      exact ⟨b, rfl, hk b ρ1 G1 H1 φ1 r1 (PoE.from h (st.weak fun _ z => .inl z))⟩

/-! ### the look is right -/
theorem cst_ok {X : Cx} {d : PyData} {e : Expr} (h : ckCst d e = true) : PE X e (tC (cstV d)) ∧ isCst d = true := by
  unfold ckCst at h
  split at h
  · exact ⟨pe_non, rfl⟩
  · obtain rfl := eq_of_beq h
    exact ⟨pe_bl, rfl⟩
  · obtain rfl := eq_of_beq h
    exact ⟨pe_int, rfl⟩
  · obtain rfl := of_decide_eq_true h
    exact ⟨pe_str, rfl⟩
  · cases h
theorem cst_kV (k : Key) : cstV (kDat k) = kV k := by cases k <;> rfl
def evBsT (Φ : Fns) (k : Bool) (es : List E) : List S → R S := evBs Φ k es
theorem ckTy_nil {b : Blt} {sc : Scope} {es : List Expr} (hb : ∀ t, b ≠ .isi t) (h : ckTy b sc es = true) : es = [] := by
  cases es with
  | nil => rfl
  | cons e es => cases b <;> simp_all [ckTy]
mutual
theorem A_ok : ∀ (a : A) (e : Expr) (sc : Scope) (X : Cx) (W : WX), Cok C Φ xr sc X → Takes X W → ckA C sc a e = true → PE X e (tA X.K xr W Φ a)
  | .pl i, e, sc, X, W, c, tk, h => by
    unfold ckA at h
    split at h
    · exact name_ok c h
    · cases h
  | .e p, e, sc, X, W, c, tk, h => by
    unfold ckA at h
    exact E_ok p e sc X W c tk h
termination_by a => (sizeOf a, 0)
theorem As_ok : ∀ (as : List A) (es : List Expr) (sc : Scope) (X : Cx) (W : WX), Cok C Φ xr sc X → Takes X W → ckAs C sc as es = true → PA X es (tAs X.K xr W Φ as) ∧ es.all notStar = true ∧ es.length = as.length
  | [], es, sc, X, W, c, tk, h => by
    unfold ckAs at h
    split at h
    · exact ⟨pa_nil, rfl, rfl⟩
    · cases h
  | a :: as, es, sc, X, W, c, tk, h => by
    unfold ckAs at h
    split at h
    · rename_i e es
      simp only [Bool.and_eq_true] at h
      obtain ⟨h1, h2, h3⟩ := As_ok as es sc X W c tk h.2
      exact ⟨pa_cons (A_ok a e sc X W c tk h.1.2) h1 (star1 h.1.1 es), by rw [List.all_cons, h.1.1, h2]; rfl, by rw [List.length_cons, List.length_cons, h3]⟩
    · cases h
termination_by as => (sizeOf as, 0)
theorem BsV_ok : ∀ (k : Bool) (ps : List E) (es : List Expr) (pos : Pos) (sc : Scope) (X : Cx) (W : WX), Cok C Φ xr sc X → Takes X W → ckBs C sc ps es = true → PE X (.BoolOp (if k then .And else .Or) es pos) (tE X.K xr W (evBs Φ k ps))
  | k, [], es, pos, sc, X, W, c, tk, h => by simp [ckBs] at h
  | k, [p], es, pos, sc, X, W, c, tk, h => by
    unfold ckBs at h
    split at h
    · rename_i e
      simp only [Bool.and_eq_true] at h
      have q := pe_one (op := if k then .And else .Or) (pos := pos) (E_ok p e sc X W c tk h.1)
      exact PE.imp q fun σ H Q ⟨ρ, G, φ, r, z⟩ => ⟨ρ, G, φ, r, by rw [evBs] at z; exact z⟩
    · cases h
  | k, p :: q :: ps, es, pos, sc, X, W, c, tk, h => by
    unfold ckBs at h
    split at h
    · rename_i e f es
      simp only [Bool.and_eq_true] at h
      have ha := E_ok p e sc X W c tk h.1.1
      have hb := BsV_ok k (q :: ps) (f :: es) pos sc X W c tk h.2
      cases k with
      | true =>
        refine PE.imp (pe_and ha hb) fun σ H Q ⟨ρ, G, φ, r, z⟩ => ?_
        rw [evBs] at z
        · refine test_then r z fun b ρ' G' H' φ' r' z' => ?_
          cases b with
          | true =>
            rw [if_pos rfl] at z' ⊢
            exact ⟨ρ', G', φ', r', z'⟩
          | false =>
            rw [if_neg Bool.false_ne_true] at z' ⊢
            exact fin_bool r' z'
      | false =>
        refine PE.imp (pe_or ha hb) fun σ H Q ⟨ρ, G, φ, r, z⟩ => ?_
        rw [evBs] at z
        · refine test_then r z fun b ρ' G' H' φ' r' z' => ?_
          cases b with
          | true =>
            rw [if_neg (fun z => nomatch z)] at z'
            rw [if_pos rfl]
            exact fin_bool r' z'
          | false =>
            rw [if_pos rfl] at z'
            rw [if_neg Bool.false_ne_true]
            exact ⟨ρ', G', φ', r', z'⟩
    · cases h
termination_by k ps => (sizeOf ps, 0)
theorem BsT_ok : ∀ (k : Bool) (ps : List E) (es : List Expr) (pos : Pos) (sc : Scope) (X : Cx) (W : WX), Cok C Φ xr sc X → Takes X W → ckBs C sc ps es = true → PW X (.BoolOp (if k then .And else .Or) es pos) (tTest (tE X.K xr W (evBs Φ k ps)))
  | k, [], es, pos, sc, X, W, c, tk, h => by simp [ckBs] at h
  | k, [p], es, pos, sc, X, W, c, tk, h => by
    unfold ckBs at h
    split at h
    · rename_i e
      simp only [Bool.and_eq_true] at h
      have q := T_ok p e sc X W c tk h.1 h.2
      cases k with
      | true => exact PW.imp (pw_and1 q) fun σ H Q ⟨ρ, G, φ, r, z⟩ => ⟨ρ, G, φ, r, by rw [evBs] at z; exact z⟩
      | false => exact PW.imp (pw_or1 q) fun σ H Q ⟨ρ, G, φ, r, z⟩ => ⟨ρ, G, φ, r, by rw [evBs] at z; exact z⟩
    · cases h
  | k, p :: q :: ps, es, pos, sc, X, W, c, tk, h => by
    unfold ckBs at h
    split at h
    · rename_i e f es
      simp only [Bool.and_eq_true] at h
      have ha := T_ok p e sc X W c tk h.1.1 h.1.2
      have hb := BsT_ok k (q :: ps) (f :: es) pos sc X W c tk h.2
      cases k with
      | true =>
        refine PW.imp (pw_and ha hb) fun σ H Q ⟨ρ, G, φ, r, z⟩ => ?_
        rw [evBs] at z
        · refine test_then r z fun b ρ' G' H' φ' r' z' => ?_
          cases b with
          | true =>
            rw [if_pos rfl] at z' ⊢
            exact ⟨ρ', G', φ', r', z'⟩
          | false =>
            rw [if_neg Bool.false_ne_true] at z' ⊢
            obtain ⟨b', e', q'⟩ := fin_bool r' z'
            cases e'
            exact q'
      | false =>
        refine PW.imp (pw_or ha hb) fun σ H Q ⟨ρ, G, φ, r, z⟩ => ?_
        rw [evBs] at z
        · refine test_then r z fun b ρ' G' H' φ' r' z' => ?_
          cases b with
          | true =>
            rw [if_neg (fun z => nomatch z)] at z'
            rw [if_pos rfl]
            obtain ⟨b', e', q'⟩ := fin_bool r' z'
            cases e'
            exact q'
          | false =>
            rw [if_pos rfl] at z'
            rw [if_neg Bool.false_ne_true]
            exact ⟨ρ', G', φ', r', z'⟩
    · cases h
termination_by k ps => (sizeOf ps, 0)
theorem C_ok : ∀ (o : Option E) (es : List Expr) (sc : Scope) (X : Cx), Cok C Φ xr sc X → ckC C sc o es = true → PTs X es (condT X.K xr Φ o)
  | none, es, sc, X, c, h => by
    unfold ckC at h
    split at h
    · exact pts_nil
    · cases h
  | some p, es, sc, X, c, h => by
    unfold ckC at h
    split at h
    · rename_i e
      simp only [Bool.and_eq_true] at h
      exact pts_one (T_ok p e sc X _ c takesB h.1 h.2)
    · cases h
termination_by o => (sizeOf o, 0)
theorem It_ok : ∀ (it : It) (tg e : Expr) (sc : Scope) (X : Cx) (W : WX), Cok C Φ xr sc X → Takes X W → ckIt C sc it tg e = true → PI X tg e (tIt X.K xr W Φ it)
  | .rng1 a, tg, e, sc, X, W, c, tk, h => by
    unfold ckIt at h
    split at h
    · rename_i r p x pos
      simp only [Bool.and_eq_true, decide_eq_true_eq] at h
      obtain ⟨⟨⟨rfl, hg⟩, hs⟩, ha⟩ := h
      exact pi_range1 (gl_of c hg).1 (c.blt "range" (by decide)) (pa_cons (A_ok a x sc X W c tk ha) pa_nil (star1 hs [])) (star1 hs [])
    · cases h
  | .rng2 a b, tg, e, sc, X, W, c, tk, h => by
    unfold ckIt at h
    split at h
    · rename_i r p x y pos
      simp only [Bool.and_eq_true, decide_eq_true_eq] at h
      obtain ⟨⟨⟨⟨⟨rfl, hg⟩, hs⟩, hs2⟩, ha⟩, hb⟩ := h
      exact pi_range2 (gl_of c hg).1 (c.blt "range" (by decide)) (pa_cons (A_ok a x sc X W c tk ha) (pa_cons (A_ok b y sc X W c tk hb) pa_nil (star1 hs2 [])) (star1 hs [y])) (by rw [star1 hs [y], star1 hs2 []]; rfl) (star1 hs2 [])
    · cases h
  | .rng3 as, tg, e, sc, X, W, c, tk, h => by
    unfold ckIt at h
    split at h
    · rename_i r p x y z pos
      simp only [Bool.and_eq_true, decide_eq_true_eq] at h
      obtain ⟨⟨rfl, hg⟩, ha⟩ := h
      obtain ⟨pa, hst, _⟩ := As_ok as [x, y, z] sc X W c tk ha
      simp only [List.all_cons, Bool.and_eq_true] at hst
      exact pi_range3 (gl_of c hg).1 (c.blt "range" (by decide)) pa (star1 hst.1 [y, z]) (plain_of (es := [y, z]) (by simp only [List.all_cons, hst.2.1, hst.2.2.1]; rfl))
    · cases h
  | .seq a, tg, e, sc, X, W, c, tk, h => by
    unfold ckIt at h
    rw [Bool.and_eq_true] at h
    exact pi_seq (A_ok a e sc X W c tk h.2)
  | .enum a, tg, e, sc, X, W, c, tk, h => by
    unfold ckIt at h
    split at h
    · rename_i r p x pos
      simp only [Bool.and_eq_true, decide_eq_true_eq] at h
      obtain ⟨⟨⟨rfl, hg⟩, hs⟩, ha⟩ := h
      exact pi_enum (gl_of c hg).1 (c.blt "enumerate" (by decide)) (pa_cons (A_ok a x sc X W c tk ha) pa_nil (star1 hs [])) (star1 hs [])
    · cases h
  | .chars a, tg, e, sc, X, W, c, tk, h => by
    unfold ckIt at h
    rw [Bool.and_eq_true] at h
    exact pi_str (A_ok a e sc X W c tk h.2)
  | .zip _ _, tg, e, sc, X, W, c, tk, h => by simp [ckIt] at h
termination_by it => (sizeOf it, 0)
theorem T_ok : ∀ (p : E) (e : Expr) (sc : Scope) (X : Cx) (W : WX), Cok C Φ xr sc X → Takes X W → ckE C sc p e = true → notIf e = true → PT X e (tTest (tE X.K xr W (evE Φ p)))
  | .not a, e, sc, X, W, c, tk, h, hn => by
    unfold ckE at h
    split at h
    · rename_i x pos
      simp only [Bool.and_eq_true] at h
      refine PT.imp (pt_not (T_ok a x sc X W c tk h.1 h.2)) fun σ H Q ⟨ρ, G, φ, r, z⟩ => ?_
      obtain ⟨ρ', G', φ', r', q⟩ := not_ok r z
      refine ⟨ρ', G', φ', r', ?_⟩
      cases e1 : evE Φ a ρ' with
      | stk => rw [e1] at q; exact q
      | exc _ _ _ => rw [e1] at q; exact q
      | ok s ρ1 =>
        rw [e1] at q
        intro v G1 H1 φ1 f st r1 t1
        obtain ⟨b, e2, b2, e3, q3⟩ := q v G1 H1 φ1 f st r1 t1
        cases e3
        exact ⟨b, e2, q3⟩
    · cases h
  | .bop k ps, e, sc, X, W, c, tk, h, hn => by
    unfold ckE at h
    split at h
    · rename_i op xs pos
      simp only [Bool.and_eq_true, decide_eq_true_eq] at h
      obtain ⟨rfl, h⟩ := h
      exact PW.pt (PW.imp (BsT_ok k ps xs pos sc X W c tk h) fun σ H Q ⟨ρ, G, φ, r, z⟩ => ⟨ρ, G, φ, r, by rw [evE] at z; exact z⟩)
    · cases h
  | .cmp o a b, e, sc, X, W, c, tk, h, hn => by
    unfold ckE at h
    split at h
    · rename_i l op r' pos
      simp only [Bool.and_eq_true, decide_eq_true_eq] at h
      obtain ⟨⟨⟨rfl, hs⟩, ha⟩, hb⟩ := h
      exact PT.imp (pt_cmpR (cmp_ok (xr := xr) (W := W) c.hu o) (A_ok a l sc X W c tk ha) (A_ok b r' sc X W c tk hb) (nomarkS hs)) fun σ H Q ⟨ρ, G, φ, r, z⟩ => op2 (fun _ _ _ _ q => q) r (by rw [evE] at z; exact z)
    · cases h
  | .chain o₁ o₂ a b d, e, sc, X, W, c, tk, h, hn => by
    unfold ckE at h
    split at h
    · rename_i l op op' m r' pos
      simp only [Bool.and_eq_true, decide_eq_true_eq] at h
      obtain ⟨⟨⟨⟨⟨rfl, rfl⟩, hs⟩, ha⟩, hb⟩, hd⟩ := h
      exact PT.imp (pt_chain (cmp_ok (xr := xr) (W := W) c.hu o₁) (cmp_ok (xr := xr) (W := W) c.hu o₂) (A_ok a l sc X W c tk ha) (A_ok b m sc X W c tk hb) (A_ok d r' sc X W c tk hd) (nomarkS hs)) fun σ H Q ⟨ρ, G, φ, r, z⟩ => chain_ok r z
    · cases h
  | .ite c' a b, e, sc, X, W, c, tk, h, hn => by
    unfold ckE at h
    split at h
    · cases hn
    · cases h
  | .rd i m, e, sc, X, W, c, tk, h, hn => by
    have q := E_ok (.rd i m) e sc X W c tk h
    unfold ckE at h
    split at h
    · exact pt_val q fun _ => rfl
    · cases h
  | .cst d, e, sc, X, W, c, tk, h, hn => by
    have q := E_ok (.cst d) e sc X W c tk h
    unfold ckE at h
    split at h
    · exact pt_val q fun _ => rfl
    · cases h
  | .glob g, e, sc, X, W, c, tk, h, hn => by
    have q := E_ok (.glob g) e sc X W c tk h
    unfold ckE at h
    split at h
    · exact pt_val q fun _ => rfl
    · cases h
  | .bin o a b, e, sc, X, W, c, tk, h, hn => by
    have q := E_ok (.bin o a b) e sc X W c tk h
    unfold ckE at h
    split at h
    · exact pt_val q fun _ => rfl
    · cases h
  | .neg a, e, sc, X, W, c, tk, h, hn => by
    have q := E_ok (.neg a) e sc X W c tk h
    unfold ckE at h
    split at h
    · exact pt_val q fun _ => rfl
    · cases h
  | .idx a b, e, sc, X, W, c, tk, h, hn => by
    have q := E_ok (.idx a b) e sc X W c tk h
    unfold ckE at h
    split at h
    · exact pt_val q fun _ => rfl
    · cases h
  | .slice k as, e, sc, X, W, c, tk, h, hn => by
    have q := E_ok (.slice k as) e sc X W c tk h
    unfold ckE at h
    split at h
    · exact pt_val q fun _ => rfl
    · cases h
  | .tup as, e, sc, X, W, c, tk, h, hn => by
    have q := E_ok (.tup as) e sc X W c tk h
    unfold ckE at h
    split at h
    · exact pt_val q fun _ => rfl
    · cases h
  | .lst as, e, sc, X, W, c, tk, h, hn => by
    have q := E_ok (.lst as) e sc X W c tk h
    unfold ckE at h
    split at h
    · exact pt_val q fun _ => rfl
    · cases h
  | .call f as, e, sc, X, W, c, tk, h, hn => by
    have q := E_ok (.call f as) e sc X W c tk h
    unfold ckE at h
    split at h
    · exact pt_val q fun _ => rfl
    · cases h
  | .blt b as, e, sc, X, W, c, tk, h, hn => by
    have q := E_ok (.blt b as) e sc X W c tk h
    unfold ckE at h
    split at h
    · exact pt_val q fun _ => rfl
    · cases h
  | .mut m i as, e, sc, X, W, c, tk, h, hn => by
    have q := E_ok (.mut m i as) e sc X W c tk h
    unfold ckE at h
    split at h
    · exact pt_val q fun _ => rfl
    · cases h
  | .ext i p, e, sc, X, W, c, tk, h, hn => by
    have q := E_ok (.ext i p) e sc X W c tk h
    unfold ckE at h
    split at h
    · exact pt_val q fun _ => rfl
    · cases h
  | .sm k o x, e, sc, X, W, c, tk, h, hn => by
    have q := E_ok (.sm k o x) e sc X W c tk h
    unfold ckE at h
    split at h
    · exact pt_val q fun _ => rfl
    · cases h
  | .lrg as, e, sc, X, W, c, tk, h, hn => by
    have q := E_ok (.lrg as) e sc X W c tk h
    unfold ckE at h
    split at h
    · exact pt_val q fun _ => rfl
    · cases h
  | .lset a, e, sc, X, W, c, tk, h, hn => by
    have q := E_ok (.lset a) e sc X W c tk h
    unfold ckE at h
    split at h
    · exact pt_val q fun _ => rfl
    · cases h
  | .rev a, e, sc, X, W, c, tk, h, hn => by
    have q := E_ok (.rev a) e sc X W c tk h
    unfold ckE at h
    split at h
    · exact pt_val q fun _ => rfl
    · cases h
  | .lm k i x, e, sc, X, W, c, tk, h, hn => by
    have q := E_ok (.lm k i x) e sc X W c tk h
    unfold ckE at h
    split at h
    · exact pt_val q fun _ => rfl
    · cases h
  | .dcst o, e, sc, X, W, c, tk, h, hn => by
    have q := E_ok (.dcst o) e sc X W c tk h
    unfold ckE at h
    split at h
    · exact pt_val q fun _ => rfl
    · cases h
  | .comp t it d x, e, sc, X, W, c, tk, h, hn => by
    have q := E_ok (.comp t it d x) e sc X W c tk h
    unfold ckE at h
    split at h
    · exact pt_val q fun _ => rfl
    · cases h
  | .comp2 t it d t1 it1 d1 x, e, sc, X, W, c, tk, h, hn => by
    have q := E_ok (.comp2 t it d t1 it1 d1 x) e sc X W c tk h
    unfold ckE at h
    split at h
    · exact pt_val q fun _ => rfl
    · cases h
termination_by p => (sizeOf p, 1)
theorem E_ok : ∀ (p : E) (e : Expr) (sc : Scope) (X : Cx) (W : WX), Cok C Φ xr sc X → Takes X W → ckE C sc p e = true → PE X e (tE X.K xr W (evE Φ p))
  | .rd i m, e, sc, X, W, c, tk, h => by
    unfold ckE at h
    split at h
    · exact PE.imp (name_ok c h) fun σ H Q ⟨ρ, G, φ, r, z⟩ => rd_ok r z
    · cases h
  | .cst d, e, sc, X, W, c, tk, h => by
    unfold ckE at h
    split at h
    · split at h
      · exact PE.imp pe_non fun σ H Q ⟨ρ, G, φ, r, z⟩ => fin_none r (by rw [evE] at z; exact z)
      · obtain rfl := eq_of_beq h
        exact PE.imp pe_bl fun σ H Q ⟨ρ, G, φ, r, z⟩ => fin_bool r (by rw [evE] at z; exact z)
      · obtain rfl := eq_of_beq h
        exact PE.imp pe_int fun σ H Q ⟨ρ, G, φ, r, z⟩ => fin_int r (by rw [evE] at z; exact z)
      · obtain rfl := of_decide_eq_true h
        exact PE.imp pe_str fun σ H Q ⟨ρ, G, φ, r, z⟩ => fin_str r (by rw [evE] at z; exact z)
      · cases h
    · cases h
  | .glob g, e, sc, X, W, c, tk, h => by
    unfold ckE at h
    split at h
    · rename_i x pos
      simp only [Bool.and_eq_true, decide_eq_true_eq] at h
      obtain ⟨u, v, hm, rv, hd⟩ := c.gls g x h.1
      obtain ⟨hg, hdb⟩ := gl_of c h.2
      exact PE.imp (pe_glob hg hm rv hdb) fun σ H Q ⟨ρ, G, φ, r, z⟩ => fin_val r (hd G) (by rw [evE] at z; exact z)
    · cases h
  | .bin o a b, e, sc, X, W, c, tk, h => by
    unfold ckE at h
    split at h
    · rename_i l op r' pos
      simp only [Bool.and_eq_true, decide_eq_true_eq] at h
      obtain ⟨⟨rfl, ha⟩, hb⟩ := h
      exact PE.imp (pe_op (opB_ok (xr := xr) (W := W) o) (A_ok a l sc X W c tk ha) (A_ok b r' sc X W c tk hb)) fun σ H Q ⟨ρ, G, φ, r, z⟩ => op2 (fun _ _ _ _ q => q) r (by rw [evE] at z; exact z)
    · cases h
  | .neg a, e, sc, X, W, c, tk, h => by
    unfold ckE at h
    split at h
    · rename_i x pos
      exact PE.imp (pe_un (neg_ok (xr := xr) (W := W)) (A_ok a x sc X W c tk h)) fun σ H Q ⟨ρ, G, φ, r, z⟩ => op1 (fun _ _ _ q => q) r (by rw [evE] at z; exact z)
    · cases h
  | .not a, e, sc, X, W, c, tk, h => by
    unfold ckE at h
    split at h
    · rename_i x pos
      simp only [Bool.and_eq_true] at h
      exact PE.imp (pe_not (E_ok a x sc X W c tk h.1)) fun σ H Q ⟨ρ, G, φ, r, z⟩ => not_ok r z
    · cases h
  | .cmp o a b, e, sc, X, W, c, tk, h => by
    unfold ckE at h
    split at h
    · rename_i l op r' pos
      simp only [Bool.and_eq_true, decide_eq_true_eq] at h
      obtain ⟨⟨⟨rfl, hs⟩, ha⟩, hb⟩ := h
      exact PE.imp (pe_cmpR (cmp_ok (xr := xr) (W := W) c.hu o) (A_ok a l sc X W c tk ha) (A_ok b r' sc X W c tk hb) (nomarkS hs)) fun σ H Q ⟨ρ, G, φ, r, z⟩ => op2 (fun _ _ _ _ q => q) r (by rw [evE] at z; exact z)
    · cases h
  | .chain o₁ o₂ a b d, e, sc, X, W, c, tk, h => by
    unfold ckE at h
    split at h
    · rename_i l op op' m r' pos
      simp only [Bool.and_eq_true, decide_eq_true_eq] at h
      obtain ⟨⟨⟨⟨⟨rfl, rfl⟩, hs⟩, ha⟩, hb⟩, hd⟩ := h
      exact PE.imp (pe_chain (cmp_ok (xr := xr) (W := W) c.hu o₁) (cmp_ok (xr := xr) (W := W) c.hu o₂) (A_ok a l sc X W c tk ha) (A_ok b m sc X W c tk hb) (A_ok d r' sc X W c tk hd) (nomarkS hs)) fun σ H Q ⟨ρ, G, φ, r, z⟩ => chain_ok r z
    · cases h
  | .bop k ps, e, sc, X, W, c, tk, h => by
    unfold ckE at h
    split at h
    · rename_i op xs pos
      simp only [Bool.and_eq_true, decide_eq_true_eq] at h
      obtain ⟨rfl, h⟩ := h
      exact PE.imp (BsV_ok k ps xs pos sc X W c tk h) fun σ H Q ⟨ρ, G, φ, r, z⟩ => ⟨ρ, G, φ, r, by rw [evE] at z; exact z⟩
    · cases h
  | .ite d a b, e, sc, X, W, c, tk, h => by
    unfold ckE at h
    split at h
    · rename_i t x y pos
      simp only [Bool.and_eq_true] at h
      refine PE.imp (pe_ifExp (T_ok d t sc X W c tk h.1.1.1 h.1.1.2) (E_ok a x sc X W c tk h.1.2) (E_ok b y sc X W c tk h.2)) fun σ H Q ⟨ρ, G, φ, r, z⟩ => ?_
      rw [evE] at z
      refine test_then (Q := Q) (k := fun k ρ' => if k = true then evE Φ a ρ' else evE Φ b ρ') r ?_ fun k ρ' G' H' φ' r' z' => ?_
      · cases e1 : evE Φ d ρ with
        | stk => rw [e1] at z; exact z
        | exc _ _ _ => rw [e1] at z; exact z
        | ok s ρ1 =>
          rw [e1] at z
          simp only [R.bnd] at z ⊢
          cases e2 : toBool s with
          | none => rw [e2] at z; exact z
          | some k => rw [e2] at z; cases k <;> exact z
      · cases k with
        | true => exact ⟨ρ', G', φ', r', z'⟩
        | false => exact ⟨ρ', G', φ', r', z'⟩
    · cases h
  | .idx a b, e, sc, X, W, c, tk, h => by
    unfold ckE at h
    split at h
    · rename_i l r' pos
      simp only [Bool.and_eq_true] at h
      exact PE.imp (pe_ix (ix_ok (xr := xr) (W := W)) (A_ok a l sc X W c tk h.1.2) (A_ok b r' sc X W c tk h.2) (plainIx h.1.1)) fun σ H Q ⟨ρ, G, φ, r, z⟩ => op2 (fun _ _ _ _ q => q) r (by rw [evE] at z; exact z)
    · cases h
  | .slice k as, e, sc, X, W, c, tk, h => by
    unfold ckE at h
    split at h
    · rename_i l x y p2 pos
      split at h
      all_goals first | (cases h; done) | skip
      · match hz : as, h with
        | [a], h =>
          unfold ckAs at h
          simp only [Bool.and_eq_true] at h
          refine PE.imp (pe_slice sl_list (A_ok a l sc X W c tk h.1.2) po_none po_none) fun σ H Q ⟨ρ, G, φ, r, z⟩ => ?_
          refine slice_ok (as := [a]) (Qr := fun vs H' => match vs with | [v] => rSlL X.K v none none H' Q | _ => False) r z fun vs H' p xs lo hi h1 h2 h3 => ?_
          rcases h3 with ⟨_, rfl, rfl, rfl⟩ | ⟨z, _⟩ | ⟨z, _⟩ | ⟨z, _⟩
          · exact ⟨p, xs, rfl, h1, h2⟩
          all_goals cases z
        | [], h => simp [ckAs] at h
        | _ :: _ :: _, h => simp [ckAs] at h
      · rename_i x
        match hz : as, h with
        | [a, b], h =>
          simp only [ckAs, Bool.and_true] at h
          simp only [Bool.and_eq_true] at h
          refine PE.imp (pe_slice sl_list (A_ok a l sc X W c tk h.1.2) (po_some (A_ok b x sc X W c tk h.2.2)) po_none) fun σ H Q ⟨ρ, G, φ, r, z⟩ => ?_
          refine slice_ok (as := [a, b]) (Qr := fun vs H' => match vs with | [v, w] => ∃ i, w = V.int i ∧ rSlL X.K v (some i) none H' Q | _ => False) r z fun vs H' p xs lo hi h1 h2 h3 => ?_
          rcases h3 with ⟨z, _⟩ | ⟨_, i, rfl, rfl, rfl⟩ | ⟨z, _⟩ | ⟨z, _⟩
          · cases z
          · exact ⟨i, rfl, p, xs, rfl, h1, h2⟩
          all_goals cases z
        | [], h => simp [ckAs] at h
        | [_], h => simp [ckAs] at h
        | _ :: _ :: _ :: _, h => simp [ckAs] at h
      · rename_i y
        match hz : as, h with
        | [a, b], h =>
          simp only [ckAs, Bool.and_true] at h
          simp only [Bool.and_eq_true] at h
          refine PE.imp (pe_slice sl_list (A_ok a l sc X W c tk h.1.2) po_none (po_some (A_ok b y sc X W c tk h.2.2))) fun σ H Q ⟨ρ, G, φ, r, z⟩ => ?_
          refine slice_ok (as := [a, b]) (Qr := fun vs H' => match vs with | [v, w] => ∃ i, w = V.int i ∧ rSlL X.K v none (some i) H' Q | _ => False) r z fun vs H' p xs lo hi h1 h2 h3 => ?_
          rcases h3 with ⟨z, _⟩ | ⟨z, _⟩ | ⟨_, i, rfl, rfl, rfl⟩ | ⟨z, _⟩
          · cases z
          · cases z
          · exact ⟨i, rfl, p, xs, rfl, h1, h2⟩
          · cases z
        | [], h => simp [ckAs] at h
        | [_], h => simp [ckAs] at h
        | _ :: _ :: _ :: _, h => simp [ckAs] at h
    · cases h
  | .tup as, e, sc, X, W, c, tk, h => by
    unfold ckE at h
    split at h
    · exact PE.imp (pe_tup (As_ok as _ sc X W c tk h).1) fun σ H Q ⟨ρ, G, φ, r, z⟩ => tup_ok r z
    · cases h
  | .lst as, e, sc, X, W, c, tk, h => by
    unfold ckE at h
    split at h
    · exact PE.imp (pe_lst (As_ok as _ sc X W c tk h).1) fun σ H Q ⟨ρ, G, φ, r, z⟩ => lst_ok r z
    · cases h
  | .call f as, e, sc, X, W, c, tk, h => by
    unfold ckE at h
    split at h
    · rename_i x p e0 es pos
      simp only [Bool.and_eq_true, decide_eq_true_eq] at h
      obtain ⟨k, a, fd, ps, F, rm, hm, hk, hb⟩ := c.fns f x as.length h.1.1
      obtain ⟨hg, hdb⟩ := gl_of c h.1.2
      obtain ⟨pa, hst, _⟩ := As_ok as (e0 :: es) sc X W c tk h.2
      simp only [List.all_cons, Bool.and_eq_true] at hst
      exact PE.imp (pe_callG (E := fun σ => WEx W σ) F rm c.gd hg hm hk hb (fun σ => passAt tk σ) pa hdb (star1 hst.1 es) (plain_of hst.2)) fun σ H Q ⟨ρ, G, φ, r, z⟩ => callE_ok r z
    · cases h
  | .blt b as, e, sc, X, W, c, tk, h => by
    unfold ckE at h
    split at h
    · rename_i x p e0 es pos
      simp only [Bool.and_eq_true, decide_eq_true_eq] at h
      obtain ⟨⟨⟨⟨⟨rfl, hg⟩, hst⟩, h1⟩, ha⟩, ht⟩ := h
      obtain ⟨hgl, hdb⟩ := gl_of c hg
      obtain ⟨pa, _, hlen⟩ := As_ok as _ sc X W c tk ha
      have hst' := hst
      simp only [List.all_cons, Bool.and_eq_true] at hst'
      have key : ∃ t, PA X (e0 :: es) t ∧ ∀ σ H Q, tE X.K xr W (evE Φ (.blt b as)) σ H Q → tCB (fun xs H Q => ∃ ys, xs = bltA b ys ∧ rDs X.K xr W (opBlt b) ys H Q) t σ H Q := by
        have plain : (e0 :: es).drop as.length = [] → (∀ ys, bltA b ys = ys) → ∃ t, PA X (e0 :: es) t ∧ ∀ σ H Q, tE X.K xr W (evE Φ (.blt b as)) σ H Q → tCB (fun xs H Q => ∃ ys, xs = bltA b ys ∧ rDs X.K xr W (opBlt b) ys H Q) t σ H Q := by
          intro e1 e2
          have e3 : (e0 :: es).take as.length = e0 :: es := by
            have z := List.take_append_drop as.length (e0 :: es)
            rw [e1, List.append_nil] at z
            exact z
          rw [e3] at pa
          refine ⟨_, pa, fun σ H Q ⟨ρ, G, φ, r, z⟩ => opN (g := opBlt b) (fun ys _ _ q => ⟨ys, (e2 ys).symm, q⟩) r (by rw [evE] at z; exact z)⟩
        cases b with
        | isi t =>
          simp only [blt1, beq_iff_eq] at h1
          match hz : as, h1 with
          | [a], _ =>
            simp only [List.length_cons, List.length_nil, Nat.zero_add, List.take_succ_cons, List.take_zero, List.drop_succ_cons, List.drop_zero] at pa ht ha
            match es, ht with
            | [.Name y py], ht =>
              simp only [ckTy, Bool.and_eq_true, decide_eq_true_eq] at ht
              obtain ⟨rfl, hg2⟩ := ht
              obtain ⟨hgl2, hdb2⟩ := gl_of c hg2
              have hs0 := hst'.1
              simp only [ckAs, Bool.and_true, Bool.and_eq_true] at ha
              have q := pa_cons (A_ok a e0 sc X W c tk ha.2) (pa_cons (pe_bltn (pos := py) hgl2 (c.blt _ (tyN_mem t)) (ty_boot t) (show RelV (V.ty (tyN t)) _ from rfl) (tyN_name t) hdb2) pa_nil) (star1 hs0 [.Name (Str.ofString (tyN t)) py])
              refine ⟨_, q, fun σ H Q ⟨ρ, G, φ, r, z⟩ => ?_⟩
              have z' := opN (r := fun xs H Q => ∃ ys, xs ++ [V.ty (tyN t)] = ys ++ [V.ty (tyN t)] ∧ rDs X.K xr W (opBlt (.isi t)) ys H Q) (g := opBlt (.isi t)) (fun ys _ _ q => ⟨ys, rfl, q⟩) r (by rw [evE] at z; exact z)
              exact z'
            | [], ht => simp [ckTy] at ht
            | _ :: _ :: _, ht => simp [ckTy] at ht
        | len => exact plain (ckTy_nil (by intro t z; cases z) ht) fun _ => rfl
        | repr => exact plain (ckTy_nil (by intro t z; cases z) ht) fun _ => rfl
        | min2 => exact plain (ckTy_nil (by intro t z; cases z) ht) fun _ => rfl
        | max2 => exact plain (ckTy_nil (by intro t z; cases z) ht) fun _ => rfl
        | list => exact plain (ckTy_nil (by intro t z; cases z) ht) fun _ => rfl
        | int => exact plain (ckTy_nil (by intro t z; cases z) ht) fun _ => rfl
        | minL => exact plain (ckTy_nil (by intro t z; cases z) ht) fun _ => rfl
        | maxL => exact plain (ckTy_nil (by intro t z; cases z) ht) fun _ => rfl
        | sumL => exact plain (ckTy_nil (by intro t z; cases z) ht) fun _ => rfl
        | tup => exact plain (ckTy_nil (by intro t z; cases z) ht) fun _ => rfl
        | all => exact plain (ckTy_nil (by intro t z; cases z) ht) fun _ => rfl
        | any => exact plain (ckTy_nil (by intro t z; cases z) ht) fun _ => rfl
        | sorted => exact plain (ckTy_nil (by intro t z; cases z) ht) fun _ => rfl
        | str => exact plain (ckTy_nil (by intro t z; cases z) ht) fun _ => rfl
        | dict => exact plain (ckTy_nil (by intro t z; cases z) ht) fun _ => rfl
      obtain ⟨t, pa', key⟩ := key
      have bo := blt_ok (X := X) (xr := xr) (W := W) c.calm c.gd c.hu b
      have bb := blt_boot b
      cases e : bltK b with
      | fn id =>
        have ev : bltV b = .builtin id := by simp only [bltV, e]
        rw [ev] at bo bb
        exact PE.imp (pe_callB bo hgl (c.blt _ (bltN_mem b)) bb pa' (bltN_name b) hdb (star1 hst'.1 es) (plain_of hst'.2)) key
      | type id =>
        have ev : bltV b = .type id := by simp only [bltV, e]
        rw [ev] at bo bb
        exact PE.imp (pe_callTy bo hgl (c.blt _ (bltN_mem b)) bb pa' (bltN_name b) hdb (star1 hst'.1 es) (plain_of hst'.2)) key
    · cases h
  | .mut m i as, e, sc, X, W, c, tk, h => by
    unfold ckE at h
    split at h
    · rename_i x p nm apos es cpos
      simp only [Bool.and_eq_true, decide_eq_true_eq] at h
      obtain ⟨⟨⟨⟨rfl, hn⟩, hl⟩, hf⟩, ha⟩ := h
      obtain ⟨pa, hst, hlen⟩ := As_ok as es sc X W c tk ha
      cases es with
      | nil =>
        match as, hlen with
        | [], _ => exact PE.imp (pe_bm0 PySem.F.plainAttrs_list (slot_mut m) (type_mut m) (mut_ok (xr := xr) (W := W) m) (name_ok c hn) (by rfl) hl) fun σ H Q ⟨ρ, G, φ, r, z⟩ => mutE_ok r z
      | cons e0 es =>
        have hst' := hst
        simp only [List.all_cons, Bool.and_eq_true] at hst'
        exact PE.imp (pe_bm PySem.F.plainAttrs_list (slot_mut m) (type_mut m) (mut_ok (xr := xr) (W := W) m) (name_ok c hn) pa (by rfl) (few_of hst hf) hl (star1 hst'.1 es) (plain_of hst'.2)) fun σ H Q ⟨ρ, G, φ, r, z⟩ => mutE_ok r z
    · cases h
  | .ext i q, e, sc, X, W, c, tk, h => by
    unfold ckE at h
    split at h
    · rename_i x p nm apos y cpos
      simp only [Bool.and_eq_true, decide_eq_true_eq] at h
      obtain ⟨⟨⟨⟨rfl, hn⟩, hl⟩, hs⟩, he⟩ := h
      have hst : [y].all notStar = true := by rw [List.all_cons, hs]; rfl
      have pa : PA X [y] (tAs X.K xr W Φ [.e q]) := pa_cons (E_ok q y sc X W c tk he) pa_nil (star1 hs [])
      exact PE.imp (pe_bm PySem.F.plainAttrs_list PySem.F.slot_list_extend PySem.F.type_list_extend mt_extend (name_ok c hn) pa (by rfl) (few_of hst (show (1 : Nat) < 20 by omega)) hl (star1 hs []) (plain_of (by rfl))) fun σ H Q ⟨ρ, G, φ, r, z⟩ => ext_ok r z
    · cases h
  | .sm k o x, e, sc, X, W, c, tk, h => by
    unfold ckE at h
    split at h
    · rename_i b nm apos y cpos
      simp only [Bool.and_eq_true, decide_eq_true_eq] at h
      obtain ⟨⟨⟨⟨⟨rfl, hb⟩, hl⟩, hs⟩, ho⟩, hx⟩ := h
      cases k with
      | join => exact PE.imp (pe_join (A_ok o b sc X W c tk ho) (A_ok x y sc X W c tk hx) (star1 hs []) (base_of hb) hl) fun σ H Q ⟨ρ, G, φ, r, z⟩ => sm_ok (k := .join) r z
      | split => exact PE.imp (pe_split (A_ok o b sc X W c tk ho) (A_ok x y sc X W c tk hx) (star1 hs []) (base_of hb) hl) fun σ H Q ⟨ρ, G, φ, r, z⟩ => sm_ok (k := .split) r z
    · cases h
  | .lrg as, e, sc, X, W, c, tk, h => by
    unfold ckE at h
    split at h
    · rename_i l p1 r' p2 es p3 p4
      simp only [Bool.and_eq_true, decide_eq_true_eq] at h
      obtain ⟨⟨⟨⟨⟨rfl, hg1⟩, rfl⟩, hg2⟩, hn⟩, ha⟩ := h
      have g1 := (gl_of c hg1).1
      have g2 := (gl_of c hg2).1
      obtain ⟨_, hst, hlen⟩ := As_ok as es sc X W c tk ha
      match hz : as, hlen, ha, hn with
      | [a], hlen, ha, _ =>
        match es, hlen with
        | [x], _ =>
          simp only [ckAs, Bool.and_true, Bool.and_eq_true] at ha
          exact PE.imp (pe_listRg c.calm g1 (c.blt "list" (by decide)) (prg_1 g2 (c.blt "range" (by decide)) (A_ok a x sc X W c tk ha.2) (star1 ha.1 [])) rfl) fun σ H Q ⟨ρ, G, φ, r, z⟩ =>
            lrg_ok (as := [a]) (Qr := fun vs H' => match vs with | [x] => ∃ n, x = V.int n ∧ (RgOk 0 n ∧ ∀ q, H' q = none → Q (.ref q) (upd H' q (.lst (rgV 0 n)))) | _ => False) r z fun vs H' a b h1 h2 hl h3 => by
              rcases h3 with ⟨rfl, rfl⟩ | rfl
              · exact ⟨_, rfl, h1, h2⟩
              · cases hl
      | [a, b], hlen, ha, _ =>
        match es, hlen with
        | [x, y], _ =>
          simp only [ckAs, Bool.and_true] at ha
          simp only [Bool.and_eq_true] at ha
          exact PE.imp (pe_listRg c.calm g1 (c.blt "list" (by decide)) (prg_2 g2 (c.blt "range" (by decide)) (A_ok a x sc X W c tk ha.1.2) (A_ok b y sc X W c tk ha.2.2) (star1 ha.1.1 [y]) (star1 ha.2.1 []) (plain_of (es := [y]) (by rw [List.all_cons, ha.2.1]; rfl))) rfl) fun σ H Q ⟨ρ, G, φ, r, z⟩ =>
            lrg_ok (as := [a, b]) (Qr := fun vs H' => match vs with | [x, y] => ∃ i j, x = V.int i ∧ y = V.int j ∧ (RgOk i j ∧ ∀ q, H' q = none → Q (.ref q) (upd H' q (.lst (rgV i j)))) | _ => False) r z fun vs H' a b h1 h2 hl h3 => by
              rcases h3 with ⟨rfl, rfl⟩ | rfl
              · cases hl
              · exact ⟨_, _, rfl, rfl, h1, h2⟩
      | [], _, _, hn => simp at hn
      | _ :: _ :: _ :: _, _, _, hn => simp at hn
    · cases h
  | .lset a, e, sc, X, W, c, tk, h => by
    unfold ckE at h
    split at h
    · rename_i l p1 r' p2 x p3 p4
      simp only [Bool.and_eq_true, decide_eq_true_eq] at h
      obtain ⟨⟨⟨⟨⟨rfl, hg1⟩, rfl⟩, hg2⟩, hs⟩, ha⟩ := h
      exact PE.imp (pe_lset c.calm (gl_of c hg1).1 (c.blt "len" (by decide)) (gl_of c hg2).1 (c.blt "set" (by decide)) (A_ok a x sc X W c tk ha) (star1 hs [])) fun σ H Q ⟨ρ, G, φ, r, z⟩ => lset_ok r z
    · cases h
  | .rev a, e, sc, X, W, c, tk, h => by
    unfold ckE at h
    split at h
    · simp only [Bool.and_eq_true, decide_eq_true_eq] at h
      obtain ⟨rfl, ha⟩ := h
      exact PE.imp (pe_revL (A_ok a _ sc X W c tk ha)) fun σ H Q ⟨ρ, G, φ, r, z⟩ => rev_ok r z
    · cases h
  | .lm k i x, e, sc, X, W, c, tk, h => by
    unfold ckE at h
    split at h
    · rename_i y p nm apos z cpos
      simp only [Bool.and_eq_true, decide_eq_true_eq] at h
      obtain ⟨⟨⟨⟨rfl, hn⟩, hl⟩, hs⟩, hx⟩ := h
      have hst : [z].all notStar = true := by rw [List.all_cons, hs]; rfl
      have pa : PA X [z] (tAs X.K xr W Φ [x]) := pa_cons (A_ok x z sc X W c tk hx) pa_nil (star1 hs [])
      exact PE.imp (pe_bm PySem.F.plainAttrs_list (slot_lm k) (type_lm k) (lm_mt (xr := xr) (W := W) c.hu k) (name_ok c hn) pa (by rfl) (few_of hst (show (1 : Nat) < 20 by omega)) hl (star1 hs []) (plain_of (by rfl))) fun σ H Q ⟨ρ, G, φ, r, z⟩ => lm_ok r z
    · cases h
  | .dcst o, e, sc, X, W, c, tk, h => by
    unfold ckE at h
    split at h
    · split at h
      · exact PE.imp pe_dnewK fun σ H Q ⟨ρ, G, φ, r, z⟩ => dct0_ok r z
      · rename_i k d ke ve
        simp only [Bool.and_eq_true] at h
        obtain ⟨p1, _⟩ := cst_ok (X := X) h.1
        obtain ⟨p2, ic⟩ := cst_ok (X := X) h.2
        rw [cst_kV] at p1
        exact PE.imp (pe_disp (pps_cons p1 p2 pps_nil) rfl rfl (fun z => nomatch z) (Nat.le_of_ble_eq_true rfl)) fun σ H Q ⟨ρ, G, φ, r, z⟩ => dct1_ok ic r z
      · cases h
    · cases h
  | .comp t it d x, e, sc, X, W, c, tk, h => by
    unfold ckE at h
    split at h
    · rename_i elt gs scope pos
      split at h
      · rename_i tg iter ifs k
        simp only [Bool.and_eq_true, beq_iff_eq] at h
        obtain ⟨⟨⟨⟨⟨⟨rfl, hb⟩, hi⟩, hs⟩, ht⟩, hd⟩, hx⟩ := h
        have nd : X.N.Nodup := by rw [c.N]; exact c.nd
        have q := pe_lc (pos := pos) (te := tE X.K xr (fun _ _ _ _ => False) (evE Φ x)) (tt := condT X.K xr Φ d) (g := tTg X.K t) (own := tgX C (tgs t)) c.calm nd (It_ok it tg iter sc X W c tk hi) (by rw [c.sc, c.N]; exact blkOk_by hb)
          (fun s H Ca cl fp => ckTg_ok (X := X.blk s H scope (compEnvC scope cl Ca X.env) fp) c.calm nd c.N (lcB_ok c.sc) ht)
          (fun s H Ca cl fp => C_ok d ifs (relS scope sc) (X.blk s H scope (compEnvC scope cl Ca X.env) fp) (c.blk s H scope Ca cl fp) hd)
          (fun s H Ca cl fp => E_ok x elt (relS scope sc) (X.blk s H scope (compEnvC scope cl Ca X.env) fp) _ (c.blk s H scope Ca cl fp) takesB hx) (folded hs)
        rw [tgX_snd] at q
        exact PE.imp q fun σ H Q ⟨ρ, G, φ, r, z⟩ => comp_ok r z
      · cases h
    · cases h
  | .comp2 t it d t1 it1 d1 x, e, sc, X, W, c, tk, h => by
    unfold ckE at h
    split at h
    · rename_i elt gs scope pos
      split at h
      · rename_i tg iter ifs k tg1 iter1 ifs1 k1
        simp only [Bool.and_eq_true, beq_iff_eq] at h
        obtain ⟨⟨⟨⟨⟨⟨⟨⟨⟨⟨⟨rfl, rfl⟩, hb⟩, hi⟩, hs⟩, hs1⟩, ht⟩, hd⟩, hi1⟩, ht1⟩, hd1⟩, hx⟩ := h
        have nd : X.N.Nodup := by rw [c.N]; exact c.nd
        have q := pe_lc2 (pos := pos) (te := tE X.K xr (fun _ _ _ _ => False) (evE Φ x)) (tt := condT X.K xr Φ d) (g := tTg X.K t) (wi1 := tIt X.K xr (fun _ _ _ _ => False) Φ it1) (tt1 := condT X.K xr Φ d1) (g1 := tTg X.K t1) (own := tgX C (tgs t ++ tgs t1)) (vs1 := tgs t1) c.calm nd (It_ok it tg iter sc X W c tk hi) (by rw [c.sc, c.N]; exact blkOk_by hb) (fun i hi => by rw [tgX_snd]; exact List.mem_append_right _ hi)
          (fun s H Ca cl fp => ckTg_ok (X := X.blk s H scope (compEnvC scope cl Ca X.env) fp) c.calm nd c.N (lcB_ok c.sc) ht)
          (fun s H Ca cl fp => C_ok d ifs (relS scope sc) (X.blk s H scope (compEnvC scope cl Ca X.env) fp) (c.blk s H scope Ca cl fp) hd)
          (fun s H Ca cl fp => It_ok it1 tg1 iter1 (relS scope sc) (X.blk s H scope (compEnvC scope cl Ca X.env) fp) _ (c.blk s H scope Ca cl fp) takesB hi1)
          (fun s H Ca cl fp => ckTg_ok (X := X.blk s H scope (compEnvC scope cl Ca X.env) fp) c.calm nd c.N (lcB_ok c.sc) ht1)
          (fun s H Ca cl fp => C_ok d1 ifs1 (relS scope sc) (X.blk s H scope (compEnvC scope cl Ca X.env) fp) (c.blk s H scope Ca cl fp) hd1)
          (fun s H Ca cl fp => E_ok x elt (relS scope sc) (X.blk s H scope (compEnvC scope cl Ca X.env) fp) _ (c.blk s H scope Ca cl fp) takesB hx) (folded hs) (fun _ => folded hs1)
        rw [tgX_snd] at q
        exact PE.imp q fun σ H Q ⟨ρ, G, φ, r, z⟩ => comp2_ok r z
      · cases h
    · cases h
termination_by p => (sizeOf p, 0)
decreasing_by
  all_goals first | decreasing_tactic | (subst_vars; decreasing_tactic) | (subst_vars; simp_wf; omega)
end
end
end VE

/-! VS11: statements. -/
namespace VE
open PySem L2 PySem.Spec PyProof.Rows

/-- only the names of a are stored -/
def Keep (a : List Nat) (σ σ' : L2.St) : Prop := σ'.length = σ.length ∧ ∀ j, j ∉ a → σ'[j]? = σ[j]?
theorem Keep.refl {a : List Nat} {σ : L2.St} : Keep a σ σ := ⟨rfl, fun _ _ => rfl⟩
theorem Keep.mono {a b : List Nat} {σ σ' : L2.St} (k : Keep a σ σ') (h : ∀ i ∈ a, i ∈ b) : Keep b σ σ' := ⟨k.1, fun j hj => k.2 j fun z => hj (h j z)⟩
theorem Keep.trans {a : List Nat} {σ σ' σ'' : L2.St} (k : Keep a σ σ') (l : Keep a σ' σ'') : Keep a σ σ'' := ⟨l.1.trans k.1, fun j hj => (l.2 j hj).trans (k.2 j hj)⟩
theorem Keep.set {a : List Nat} {σ : L2.St} {i : Nat} {o : Option V} (h : i ∈ a) : Keep a σ (σ.set i o) := ⟨List.length_set .., fun j hj => List.getElem?_set_ne fun z => hj (by rw [← z]; exact h)⟩
section
variable (K : PySem.W.Frag) (xr : XR) (W : WX)
/-- what is wanted behind a statement that began at σ, G, H, φ -/
def PoS (a : List Nat) (σ : L2.St) (G H : Hp) (φ : Nat → List Addr) (r : R F) (D : Ends) : Prop := match r with
  | .stk => False
  | .ok f ρ' => ∀ σ' G' H' φ', Keep a σ σ' → SR K G' H' ρ' σ' φ' → match f with
    | .nx => Stp G H (own φ) G' H' (own φ') → D.nx σ' H'
    | .brk => Stp G H (own φ) G' H' (own φ') → D.bk σ' H'
    | .cont => Stp G H (own φ) G' H' (own φ') → D.ct σ' H'
    | .ret s => ∀ v f, Stp G H (own φ) G' H' (fun b => own φ' b ∨ b ∈ f) → Tmp K G' H' s v f φ' → D.rt v H'
  | .exc c d ρ' => ∀ σ' G' H' φ' cls dd, Keep a σ σ' → Stp G H (own φ) G' H' (own φ') → SR K G' H' ρ' σ' φ' → xr c d cls dd H' → W cls dd σ' H'
def tS (a : List Nat) (ev : List S → R F) : TS := fun D σ H => ∃ ρ G φ, SR K G H ρ σ φ ∧ PoS K xr W a σ G H φ (ev ρ) D
end
section
variable {K : PySem.W.Frag} {xr : XR} {W : WX} {Φ : Fns} {a b : List Nat} {σ σ' : L2.St} {G H G' H' : Hp} {φ φ' : Nat → List Addr} {ρ : List S} {D : Ends}
theorem PoS.from {r : R F} (h : PoS K xr W a σ G H φ r D) (st : Stp G H (own φ) G' H' (own φ')) (k : Keep a σ σ') (hb : ∀ i ∈ b, i ∈ a) : PoS K xr W b σ' G' H' φ' r D := by
  cases r with
  | stk => exact h
  | exc c d ρ' => exact fun σ2 G2 H2 φ2 cls dd k2 s2 r2 x => h σ2 G2 H2 φ2 cls dd (k.trans (k2.mono hb)) (st.trans s2) r2 x
  | ok f ρ' =>
    intro σ2 G2 H2 φ2 k2 r2
    have q := h σ2 G2 H2 φ2 (k.trans (k2.mono hb)) r2
    cases f with
    | nx => exact fun s2 => q (st.trans s2)
    | brk => exact fun s2 => q (st.trans s2)
    | cont => exact fun s2 => q (st.trans s2)
    | ret s => exact fun v f s2 t => q v f (st.trans s2) t
theorem PoS.nx {ρ' : List S} (h : PoS K xr W a σ G H φ (.ok .nx ρ') D) (k : Keep a σ σ') (r : SR K G' H' ρ' σ' φ') (st : Stp G H (own φ) G' H' (own φ')) : D.nx σ' H' := h σ' G' H' φ' k r st
/-- an expression, then the rest -/
theorem then_ok {x : E} {k : S → List S → R F} {Q : VK} (r : SR K G H ρ σ φ) (h : PoS K xr W a σ G H φ ((evE Φ x ρ).bnd k) D)
    (hk : ∀ s ρ' v G' H' φ' f, SR K G' H' ρ' σ φ' → Tmp K G' H' s v f φ' → Stp G H (own φ) G' H' (fun b => own φ' b ∨ b ∈ f) → PoS K xr W a σ G H φ (k s ρ') D → Q v H') : tE K xr W (evE Φ x) σ H Q := by
  refine ⟨ρ, G, φ, r, ?_⟩
  cases e : evE Φ x ρ with
  | stk => rw [e] at h; exact h
  | exc c d ρ' =>
    rw [e] at h
    exact fun G' H' φ' cls dd st r' x => h σ G' H' φ' cls dd .refl st r' x
  | ok s ρ' =>
    rw [e] at h
    exact fun v G' H' φ' f st r' t => hk s ρ' v G' H' φ' f r' t st h
theorem thens_ok {as : List A} {k : List (Option S) → List S → R F} {Q : List V → Hp → Prop} (r : SR K G H ρ σ φ) (h : PoS K xr W a σ G H φ ((evAs Φ as ρ).bnd k) D)
    (hk : ∀ ts ρ' vs G' H' φ' fs, SR K G' H' ρ' σ φ' → Ops K G' H' σ as ts vs fs → (∀ a ∈ fs, G' a = none ∧ ¬ own φ' a) → Stp G H (own φ) G' H' (fun b => own φ' b ∨ b ∈ fs) → PoS K xr W a σ G H φ (k ts ρ') D → Q vs H') : tAs K xr W Φ as σ H Q := by
  refine ops as ρ G H φ Q r ?_
  cases e : evAs Φ as ρ with
  | stk => rw [e] at h; exact h
  | exc c d ρ' =>
    rw [e] at h
    exact fun G' H' φ' cls dd st r' x => h σ G' H' φ' cls dd .refl st r' x
  | ok ts ρ' =>
    rw [e] at h
    exact fun vs G' H' φ' fs st r' o hf => hk ts ρ' vs G' H' φ' fs r' o hf st h
/-- a test, then the rest -/
theorem test_S {c : E} {k : Bool → List S → R F} {Qr : Bool → Hp → Prop} (r : SR K G H ρ σ φ) (h : PoS K xr W a σ G H φ ((evE Φ c ρ).bnd fun s ρ' => match toBool s with
      | some true => k true ρ'
      | some false => k false ρ'
      | none => .stk) D)
    (hk : ∀ b ρ' G' H' φ', SR K G' H' ρ' σ φ' → Stp G H (own φ) G' H' (own φ') → PoS K xr W a σ G' H' φ' (k b ρ') D → Qr b H') : tTest (tE K xr W (evE Φ c)) σ H Qr := by
  refine then_ok r h fun s ρ' v G' H' φ' f r' t st q => ?_
  have st' : Stp G H (own φ) G' H' (own φ') := st.weak fun _ z => .inl z
  cases e : toBool s with
  | none => rw [e] at q; exact q.elim
  | some b =>
    rw [e] at q
    obtain rfl := toBool_some e
    have z := t.rel.1
    cases z
    refine ⟨b, rfl, hk b ρ' G' H' φ' r' st' ?_⟩
    cases b with
    | true => exact q.from st' .refl fun _ z => z
    | false => exact q.from st' .refl fun _ z => z
end

/-! ### the look at statements -/
mutual
def asgS : St → List Nat
  | .asg i _ => [i]
  | .par is _ => is
  | .unp is _ => is
  | .aug i _ _ => [i]
  | .ite _ a b => asgSs a ++ asgSs b
  | .for_ t _ _ b => tgs t ++ asgSs b
  | .while_ _ _ b => asgSs b
  | _ => []
def asgSs : List St → List Nat
  | [] => []
  | s :: r => asgS s ++ asgSs r
end
def notLc : Expr → Bool
  | .ListComp .. => false
  | .SetComp .. => false
  | .DictComp .. => false
  | _ => true
/-- a comprehension is stored before it is left -/
def swB (sc : Scope) (y : Str) (py : Pos) : Expr → Bool
  | .ListComp _ _ s pos => decide (sc.names.lookup y = some .local) && (py.line == pos.line) && !(s.names.any fun (n, k) => n == y && (k == .local || k == .cell))
  | _ => false
def locN (sc : Scope) (line : Nat) : Expr → Option Str
  | .Name id pos => if sc.names.lookup id == some .local && pos.line == line then some id else none
  | _ => none
def lineOf (ts : List Expr) : Nat := (ts.head?.map (·.pos.line)).getD 0
/-- several names are stored one after another, from the left -/
def swNone (sc : Scope) (ts vs : List Expr) : Bool := !(ts.length == 2 || ts.length == 3) || vs.length != ts.length || vs.any (fun e => !notStar e) || (ts.filterMap (locN sc (lineOf ts))).length != ts.length || vs.all (foldedForSure 8)
def swSome (sc : Scope) (ts vs : List Expr) : Bool := (ts.length == 2 || ts.length == 3) && vs.length == ts.length && vs.all notStar && !(vs.all (foldedForSure 8)) && !(vs.all (constantsAlone 8))
def isLoc (sc : Scope) (line : Nat) (C : Ck) (i : Nat) : Expr → Bool
  | .Name x pos => decide (C.N[i]? = some x) && decide (sc.names.lookup x = some .local) && pos.line == line
  | _ => false
def heldI : It → Option Nat
  | .seq (.pl i) => some i
  | .enum (.pl i) => some i
  | _ => none
def isComp : E → Bool
  | .comp .. => true
  | .comp2 .. => true
  | _ => false
section
variable (C : Ck) (sc : Scope)
mutual
def ckS : St → Stmt → Bool
  | .expr x, s => match s with
    | .Expr e _ => notLc e && ckE C sc x e
    | _ => false
  | .asg i x, s => match s with
    | .Assign [.Name y py] e _ => decide (C.N[i]? = some y) && loc sc y && ckE C sc x e && (notLc e || isComp x)
    | _ => false
  | .par is xs, s => match s with
    | .Assign [.Tuple ts _ _] (.Tuple vs _ _) _ => if swNone sc ts vs = true then ckNms C (loc sc) is ts && ckAs C sc xs vs && decide (is.length < 100 ∧ is.length = xs.length) else (match is, ts, vs with
      | [i, j], [p, q], [u, v] => decide (i ≠ j) && isLoc sc (lineOf [p, q]) C i p && isLoc sc (lineOf [p, q]) C j q && ckAs C sc xs [u, v] && swSome sc [p, q] [u, v]
      | [i, j, l], [p, q, r], [u, v, w] => decide (i ≠ j) && decide (i ≠ l) && decide (j ≠ l) && isLoc sc (lineOf [p, q, r]) C i p && isLoc sc (lineOf [p, q, r]) C j q && isLoc sc (lineOf [p, q, r]) C l r && ckAs C sc xs [u, v, w] && swSome sc [p, q, r] [u, v, w]
      | _, _, _ => false)
    | _ => false
  | .unp is x, s => match s with
    | .Assign [.Tuple ts _ _] e _ => ckNms C (loc sc) is ts && ckE C sc x e && notLc e && (match e with
      | .Tuple vs _ _ => swNone sc ts vs
      | _ => true)
    | _ => false
  | .setit i k x, s => match s with
    | .Assign [.Subscript (.Name y _) ie _] e _ => nameOk C sc i y && notSlice ie && ckA C sc k ie && ckE C sc x e && notLc e
    | _ => false
  | .aug i o a, s => match s with
    | .AugAssign (.Name y _) op e _ => decide (op = srcB o) && decide (C.N[i]? = some y) && loc sc y && ckA C sc a e
    | _ => false
  | .augl i x, s => match s with
    | .AugAssign (.Name y _) op e _ => decide (op = .Add) && decide (C.N[i]? = some y) && loc sc y && ckE C sc x e
    | _ => false
  | .ret x, s => match s with
    | .Return (some e) _ => ckE C sc x e
    | _ => false
  | .retN, s => match s with
    | .Return none _ => true
    | _ => false
  | .ite c a b, s => match s with
    | .If t p q _ => ckE C sc c t && notIf t && ckSs a p && ckSs b q
    | _ => false
  | .for_ t it h b, s => match s with
    | .For tg iter body [] _ => ckIt C sc it tg iter && notSet iter && ckTg C (loc sc) t tg && ckSs b body && (!h || (match heldI it with
      | some i => !(tgs t ++ asgSs b).contains i
      | none => false))
    | _ => false
  | .while_ _ c b, s => match s with
    | .While t body [] _ => ckE C sc c t && notIf t && ckSs b body
    | _ => false
  | .brk, s => match s with
    | .Break _ => true
    | _ => false
  | .cont, s => match s with
    | .Continue _ => true
    | _ => false
  | .pass, s => match s with
    | .Pass _ => true
    | _ => false
  | .never, _ => true
def ckSs : List St → List Stmt → Bool
  | [], ss => match ss with
    | [] => true
    | _ => false
  | p :: ps, ss => match ss with
    | s :: ss => ckS p s && ckSs ps ss
    | [] => false
end
end
/-! ### how the model stores -/
theorem swaps_not {e : Expr} {t : Option Expr} {l : Nat} {env : Env} (h : notLc e = true) : swapsWith e t l env = pure false := by
  cases e <;> first | rfl | cases h
theorem swaps_set {elt : Expr} {gs : List Comprehension} {s : Scope} {pos py : Pos} {y : Str} {l : Nat} {env : Env} (hk : env.blockKind = .function) : swapsWith (.ListComp elt gs s pos) (some (.Name y py)) l env = pure (swB env.scope y py (.ListComp elt gs s pos)) := by
  have e1 : (env.kindOf y == some NameKind.local) = decide (env.scope.names.lookup y = some .local) := by
    unfold Env.kindOf
    by_cases h : env.scope.names.lookup y = some .local
    · rw [h]; rfl
    · rw [decide_eq_false h]
      exact beq_false_of_ne h
  simp only [swapsWith, swB, hk, e1]
  rfl
theorem locN_eq {env : Env} {line : Nat} : (fun e => match e with
    | .Name id pos => if env.kindOf id == some .local && pos.line == line then some id else none
    | _ => none : Expr → Option Str) = locN env.scope line := by
  funext e
  cases e <;> rfl
theorem stores_none {ts vs : List Expr} {k k2 : Nat} {p p2 : Pos} {env : Env} (h : swNone env.scope ts vs = true) : swappedStores [.Tuple ts k p] (.Tuple vs k2 p2) env = pure none := by
  simp only [swNone, Bool.or_eq_true] at h
  simp only [swappedStores]
  split
  · rfl
  · rename_i h1
    split
    · rfl
    · rename_i h2
      split
      · rfl
      · rename_i h3
        split
        · rfl
        · rename_i h4
          exfalso
          rcases h with (((h | h) | h) | h) | h
          · exact h1 (by simp [h])
          · exact h1 (by simp [h])
          · apply h2
            rw [List.any_eq_true] at h ⊢
            obtain ⟨e, he, q⟩ := h
            refine ⟨e, he, ?_⟩
            cases e <;> first | rfl | cases q
          · apply h3
            simp only [Bool.or_eq_true]
            exact .inl h
          · exact h4 h
theorem stores_two {a b : Expr} {x y : Str} {px py : Pos} {k k2 : Nat} {p p2 : Pos} {env : Env} (hk : env.blockKind = .function) (hx : env.scope.names.lookup x = some .local) (hy : env.scope.names.lookup y = some .local) (hl : py.line = px.line) (hn : x ≠ y)
    (h : swSome env.scope [.Name x px, .Name y py] [a, b] = true) : swappedStores [.Tuple [.Name x px, .Name y py] k p] (.Tuple [a, b] k2 p2) env = pure (some [x, y]) := by
  simp only [swSome, Bool.and_eq_true, Bool.not_eq_true'] at h
  obtain ⟨⟨⟨⟨_, _⟩, h1⟩, h2⟩, h3⟩ := h
  have e1 : (env.kindOf x == some NameKind.local) = true := by unfold Env.kindOf; rw [hx]; rfl
  have e2 : (env.kindOf y == some NameKind.local) = true := by unfold Env.kindOf; rw [hy]; rfl
  have ne : (y == x) = false := beq_false_of_ne (Ne.symm hn)
  have ne' : (x == y) = false := beq_false_of_ne hn
  simp only [swappedStores, hk]
  rw [if_neg (by simp)]
  refine (if_neg fun hs => ?_).trans ?_
  · rw [List.any_eq_true] at hs
    obtain ⟨e, he, q⟩ := hs
    have q' := List.all_eq_true.mp h1 e he
    cases e <;> first | (cases q; done) | cases q'
  have key : (List.filterMap (locN env.scope px.line) [.Name x px, .Name y py]) = [x, y] := by
    simp [locN, hx, hy, hl]
  show (if ((List.filterMap (locN env.scope px.line) [.Name x px, .Name y py]).length != [a, b].length || (List.filterMap (locN env.scope px.line) [.Name x px, .Name y py]).eraseDups.length != (List.filterMap (locN env.scope px.line) [.Name x px, .Name y py]).length) = true then (pure none : Sem (Option (List Str))) else if [a, b].all (foldedForSure 8) = true then pure none else if [a, b].all (constantsAlone 8) = true then (do
    unsupported "assign.tuple-of-constant-expressions:order-of-the-stores"
    pure (some (List.filterMap (locN env.scope px.line) [.Name x px, .Name y py]))) else pure (some (List.filterMap (locN env.scope px.line) [.Name x px, .Name y py]))) = _
  rw [key, h2, h3]
  simp [List.eraseDups_cons, ne, ne']
theorem stores_three {a b c : Expr} {x y z : Str} {px py pz : Pos} {k k2 : Nat} {p p2 : Pos} {env : Env} (hk : env.blockKind = .function) (hx : env.scope.names.lookup x = some .local) (hy : env.scope.names.lookup y = some .local) (hz : env.scope.names.lookup z = some .local)
    (hl : py.line = px.line) (hl2 : pz.line = px.line) (hn : x ≠ y) (hn2 : x ≠ z) (hn3 : y ≠ z)
    (h : swSome env.scope [.Name x px, .Name y py, .Name z pz] [a, b, c] = true) : swappedStores [.Tuple [.Name x px, .Name y py, .Name z pz] k p] (.Tuple [a, b, c] k2 p2) env = pure (some [x, y, z]) := by
  simp only [swSome, Bool.and_eq_true, Bool.not_eq_true'] at h
  obtain ⟨⟨⟨⟨_, _⟩, h1⟩, h2⟩, h3⟩ := h
  have e1 : (env.kindOf x == some NameKind.local) = true := by unfold Env.kindOf; rw [hx]; rfl
  have e2 : (env.kindOf y == some NameKind.local) = true := by unfold Env.kindOf; rw [hy]; rfl
  have e3 : (env.kindOf z == some NameKind.local) = true := by unfold Env.kindOf; rw [hz]; rfl
  have ne : (y == x) = false := beq_false_of_ne (Ne.symm hn)
  have ne2 : (z == x) = false := beq_false_of_ne (Ne.symm hn2)
  have ne3 : (z == y) = false := beq_false_of_ne (Ne.symm hn3)
  simp only [swappedStores, hk]
  rw [if_neg (by simp)]
  refine (if_neg fun hs => ?_).trans ?_
  · rw [List.any_eq_true] at hs
    obtain ⟨e, he, q⟩ := hs
    have q' := List.all_eq_true.mp h1 e he
    cases e <;> first | (cases q; done) | cases q'
  have key : (List.filterMap (locN env.scope px.line) [.Name x px, .Name y py, .Name z pz]) = [x, y, z] := by
    simp [locN, hx, hy, hz, hl, hl2]
  show (if ((List.filterMap (locN env.scope px.line) [.Name x px, .Name y py, .Name z pz]).length != [a, b, c].length || (List.filterMap (locN env.scope px.line) [.Name x px, .Name y py, .Name z pz]).eraseDups.length != (List.filterMap (locN env.scope px.line) [.Name x px, .Name y py, .Name z pz]).length) = true then (pure none : Sem (Option (List Str))) else if [a, b, c].all (foldedForSure 8) = true then pure none else if [a, b, c].all (constantsAlone 8) = true then (do
    unsupported "assign.tuple-of-constant-expressions:order-of-the-stores"
    pure (some (List.filterMap (locN env.scope px.line) [.Name x px, .Name y py, .Name z pz]))) else pure (some (List.filterMap (locN env.scope px.line) [.Name x px, .Name y py, .Name z pz]))) = _
  rw [key, h2, h3]
  simp [List.eraseDups_cons, ne, ne2, ne3]
end VE

/-! VS12: a statement that passes the look is executed so. -/
namespace VE
open PySem L2 PySem.Spec PyProof.Rows

/-! ### loops -/
section
variable {K : PySem.W.Frag} {xr : XR} {W : WX} {Φ : Fns} {a : List Nat} {σ σ' : L2.St} {G H G' H' : Hp} {φ φ' : Nat → List Addr} {ρ : List S} {D : Ends}
def putH (h : Option (Nat × S)) (ρ : List S) : List S := match h with
  | none => ρ
  | some (i, s) => ρ.set i s
def finF (h : Option (Nat × S)) : R F → R F
  | .stk => .stk
  | .ok f ρ => .ok f (putH h ρ)
  | .exc c d ρ => .exc c d (putH h ρ)
def bodyF (Φ : Fns) (t : Tg) (b : List St) (d : PyData) (ρ : List S) : R F := match bindT t d ρ with
  | some ρ3 => evSs Φ b ρ3
  | none => .stk
theorem evS_for {t : Tg} {it : It} {h : Bool} {b : List St} : evS Φ (.for_ t it h b) ρ = (evIt Φ it ρ).bnd fun p ρ1 => if p.2.isNone || h then finF p.2 (loop (bodyF Φ t b) p.1 ρ1) else .stk := by
  rw [evS]
  congr
  funext p ρ1
  obtain ⟨xs, o⟩ := p
  cases o with
  | none =>
    show loop (bodyF Φ t b) xs ρ1 = finF none (loop (bodyF Φ t b) xs ρ1)
    cases loop (bodyF Φ t b) xs ρ1 <;> rfl
  | some q =>
    obtain ⟨i, s⟩ := q
    cases h with
    | true =>
      show (match loop (bodyF Φ t b) xs ρ1 with
        | .stk => .stk
        | .ok f ρ4 => .ok f (ρ4.set i s)
        | .exc c d ρ4 => .exc c d (ρ4.set i s)) = finF (some (i, s)) (loop (bodyF Φ t b) xs ρ1)
      cases loop (bodyF Φ t b) xs ρ1 <;> rfl
    | false => rfl
theorem fin_step {h : Option (Nat × S)} {s : S} {v : V} {f : List Addr} (hold : Hold σ h s v) (hn : ∀ i s', h = some (i, s') → i ∉ a) (k : Keep a σ σ') (r : SR K G H ρ σ' φ) (t : Tmp K G H s v f φ) :
    ∃ φ6, SR K G H (putH h ρ) σ' φ6 ∧ ∀ b, own φ6 b → own φ b ∨ b ∈ f := by
  cases h with
  | none => exact ⟨φ, r, fun _ z => .inl z⟩
  | some p =>
    obtain ⟨i, s'⟩ := p
    obtain ⟨rfl, hv⟩ := hold
    refine ⟨_, r.back t (by rw [k.2 i (hn i _ rfl)]; exact hv), fun b z => ?_⟩
    rcases own_upf z with y | y
    · split at y
      · exact .inr y
      · cases y
    · exact .inl y
theorem for_ok {t : Tg} {it : It} {h : Bool} {b : List St} (ha : ∀ i ∈ tgs t ++ asgSs b, i ∈ a) (hn : ∀ p ρ1 i s, evIt Φ it ρ = .ok p ρ1 → (p.2.isNone || h) = true → p.2 = some (i, s) → i ∉ a) (r : SR K G H ρ σ φ) (q : PoS K xr W a σ G H φ (evS Φ (.for_ t it h b) ρ) D) :
    tFor (tIt K xr W Φ it) (tTg K t) (tS K xr W (asgSs b) (evSs Φ b)) D σ H := by
  rw [evS_for] at q
  refine it_ok it r ?_
  cases e : evIt Φ it ρ with
  | stk => rw [e] at q; exact q
  | exc c d ρ' =>
    rw [e] at q
    exact fun G' H' φ' cls dd st r' x => q σ G' H' φ' cls dd .refl st r' x
  | ok p ρ1 =>
    rw [e] at q
    simp only [R.bnd_ok] at q
    intro J G1 H1 φ1 s v f st1 r1 t1 sh hold
    by_cases hc : (p.2.isNone || h) = true
    case neg => rw [if_neg hc] at q; exact q.elim
    rw [if_pos hc] at q
    have hn' := fun i s => hn p ρ1 i s e hc
    refine ⟨fun i m σ2 H2 => m = p.1.length - i ∧ i ≤ p.1.length ∧ ∃ G2 φ2 ρ2, Keep a σ σ2 ∧ Stp G H (own φ) G2 H2 (fun b => own φ2 b ∨ b ∈ f) ∧ SR K G2 H2 ρ2 σ2 φ2 ∧ Tmp K G2 H2 s v f φ2 ∧ PoS K xr W a σ G H φ (finF p.2 (loop (bodyF Φ t b) (p.1.drop i) ρ2)) D, ⟨_, rfl, Nat.zero_le _, G1, φ1, ρ1, .refl, st1, r1, t1, by rw [List.drop_zero]; exact q⟩, ?_⟩
    rintro i m σ2 H2 ⟨rfl, hi, G2, φ2, ρ2, k2, st2, r2, t2, q2⟩
    obtain ⟨hgo, hstop⟩ := sh.turn t2 r2 i
    by_cases hlt : i < p.1.length
    · right
      obtain ⟨jgo, jy⟩ := hgo p.1[i] (List.getElem?_eq_getElem hlt)
      rw [List.drop_eq_getElem_cons hlt, loop] at q2
      refine ⟨jgo, fun σ5 H5 => i + 1 ≤ p.1.length ∧ ∃ G2 φ2 ρ2, Keep a σ σ5 ∧ Stp G H (own φ) G2 H5 (fun b => own φ2 b ∨ b ∈ f) ∧ SR K G2 H5 ρ2 σ5 φ2 ∧ Tmp K G2 H5 s v f φ2 ∧ PoS K xr W a σ G H φ (finF p.2 (loop (bodyF Φ t b) (p.1.drop (i + 1)) ρ2)) D, fun σ' H' ⟨z1, z2⟩ => ⟨_, by omega, rfl, z1, z2⟩, fun y H3 hy => ?_⟩
      obtain ⟨G3, st3, r3, t3, hd3⟩ := jy y H3 hy
      cases eb : bindT t p.1[i] ρ2 with
      | none => rw [bodyF, eb] at q2; exact q2.elim
      | some ρ3 =>
        rw [bodyF, eb] at q2
        simp only at q2
        refine tg_ok eb hd3 r3 fun σ4 l4 k4 w4 r4 => ⟨ρ3, G3, _, r4, ?_⟩
        have t4 : Tmp K G3 H3 s v f (dropF φ2 (tgs t)) := ⟨t3.rel, t3.gn, fun a ha z => t3.off a ha (own_dropF z)⟩
        have f3 : ∀ b, b ∈ f → ¬ own φ2 b ∧ H2 b ≠ none := fun b hb => ⟨t2.off b hb, by obtain ⟨o, e⟩ := t2.rel.here b hb; rw [e]; exact fun z => nomatch z⟩
        have st3' : Stp G H (own φ) G3 H3 (fun b => own (dropF φ2 (tgs t)) b ∨ b ∈ f) := (st2.trans (st3.frame f3)).weak fun b z => z.imp own_dropF id
        have k4' : Keep a σ σ4 := k2.trans ⟨l4, fun j hj => k4 j fun z => hj (ha j (List.mem_append_left _ z))⟩
        -- behind the body
        have fin : ∀ {σ5 : L2.St} {G5 H5 : Hp} {φ5 : Nat → List Addr} {T : Addr → Prop}, Keep (asgSs b) σ4 σ5 → Stp G3 H3 (own (dropF φ2 (tgs t))) G5 H5 T → (∀ b, own φ5 b → T b) → Keep a σ σ5 ∧ Stp G H (own φ) G5 H5 (fun b => T b ∨ b ∈ f) ∧ Tmp K G5 H5 s v f φ5 ∧ ∀ b ∈ f, ¬ T b := fun {σ5 G5 H5 φ5 T} k5 st5 hT => by
          have f4 : ∀ b, b ∈ f → ¬ own (dropF φ2 (tgs t)) b ∧ H3 b ≠ none := fun b hb => ⟨t4.off b hb, by obtain ⟨o, e⟩ := t4.rel.here b hb; rw [e]; exact fun z => nomatch z⟩
          obtain ⟨p1, p2, p3⟩ := t4.frame st5 t4.off
          exact ⟨k4'.trans (k5.mono fun i hi => ha i (List.mem_append_right _ hi)), st3'.trans (st5.frame f4), ⟨p1, p2, fun b hb z => p3 b hb (hT b z)⟩, p3⟩
        cases ex : evSs Φ b ρ3 with
        | stk => rw [ex] at q2; exact q2.elim
        | exc c d ρ5 =>
          rw [ex] at q2
          intro σ5 G5 H5 φ5 cls dd k5 st5 r5 x5
          obtain ⟨k6, st6, t6, _⟩ := fin k5 st5 fun _ z => z
          obtain ⟨φ6, r6, o6⟩ := fin_step hold hn' k6 r5 t6
          exact q2 σ5 G5 H5 φ6 cls dd k6 (st6.weak o6) r6 x5
        | ok g ρ5 =>
          rw [ex] at q2
          simp only [R.bnd_ok] at q2
          intro σ5 G5 H5 φ5 k5 r5
          cases g with
          | nx =>
            intro st5
            obtain ⟨k6, st6, t6, _⟩ := fin k5 st5 fun _ z => z
            exact ⟨hlt, G5, φ5, ρ5, k6, st6, r5, t6, q2⟩
          | cont =>
            intro st5
            obtain ⟨k6, st6, t6, _⟩ := fin k5 st5 fun _ z => z
            exact ⟨hlt, G5, φ5, ρ5, k6, st6, r5, t6, q2⟩
          | brk =>
            intro st5
            obtain ⟨k6, st6, t6, _⟩ := fin k5 st5 fun _ z => z
            obtain ⟨φ6, r6, o6⟩ := fin_step hold hn' k6 r5 t6
            exact q2 σ5 G5 H5 φ6 k6 r6 (st6.weak o6)
          | ret s6 =>
            intro v6 f6 st5 t7
            obtain ⟨k6, st6, t6, no⟩ := fin (φ5 := φ5) k5 st5 fun _ z => .inl z
            obtain ⟨φ6, r6, o6⟩ := fin_step hold hn' k6 r5 t6
            refine q2 σ5 G5 H5 φ6 k6 r6 v6 f6 (st6.weak fun b z => ?_) ⟨t7.rel, t7.gn, fun b hb z => ?_⟩
            · rcases z with z | z
              · exact (o6 b z).imp .inl id
              · exact .inl (.inr z)
            · rcases o6 b z with y | y
              · exact t7.off b hb y
              · exact no b y (.inr hb)
    · left
      have e0 : p.1.drop i = [] := List.drop_eq_nil_of_le (Nat.le_of_not_lt hlt)
      refine ⟨hstop (Nat.le_of_not_lt hlt), ?_⟩
      rw [e0, loop] at q2
      obtain ⟨φ6, r6, o6⟩ := fin_step hold hn' k2 r2 t2
      exact q2 σ2 G2 H2 φ6 k2 r6 (st2.weak o6)
theorem while_ok {n : Nat} {c : E} {b : List St} (ha : ∀ i ∈ asgSs b, i ∈ a) (r : SR K G H ρ σ φ) (q : PoS K xr W a σ G H φ (evS Φ (.while_ n c b) ρ) D) :
    tWhile (tTest (tE K xr W (evE Φ c))) (tS K xr W (asgSs b) (evSs Φ b)) D σ H := by
  rw [evS] at q
  refine ⟨fun m σ2 H2 => ∃ G2 φ2 ρ2, SR K G2 H2 ρ2 σ2 φ2 ∧ PoS K xr W a σ2 G2 H2 φ2 (whl (evE Φ c) (evSs Φ b) m ρ2) D, ⟨n, G, φ, ρ, r, q⟩, ?_⟩
  rintro m σ2 H2 ⟨G2, φ2, ρ2, r2, q2⟩
  cases m with
  | zero => exact q2.elim
  | succ m =>
    rw [whl] at q2
    refine test_S (a := a) (D := D) (k := fun k ρ' => if k = true then ((evSs Φ b ρ').bnd fun r ρ'' => match r with
        | .nx => whl (evE Φ c) (evSs Φ b) m ρ''
        | .cont => whl (evE Φ c) (evSs Φ b) m ρ''
        | .brk => .ok .nx ρ''
        | .ret s => .ok (.ret s) ρ'') else .ok .nx ρ') r2 q2 fun k ρ3 G3 H3 φ3 r3 st3 q4 => ?_
    cases k with
    | false =>
      rw [if_neg Bool.false_ne_true] at q4 ⊢
      exact q4.nx .refl r3 Stp.refl
    | true =>
      rw [if_pos rfl]
      simp only [if_true] at q4
      refine ⟨fun σ5 H5 => ∃ G2 φ2 ρ2, SR K G2 H5 ρ2 σ5 φ2 ∧ PoS K xr W a σ5 G2 H5 φ2 (whl (evE Φ c) (evSs Φ b) m ρ2) D, fun σ' H' z => ⟨m, Nat.lt_succ_self m, z⟩, ρ3, G3, φ3, r3, ?_⟩
      cases ex : evSs Φ b ρ3 with
      | stk => rw [ex] at q4; exact q4.elim
      | exc c d ρ5 =>
        rw [ex] at q4
        intro σ5 G5 H5 φ5 cls dd k5 st5 r5 x5
        exact q4 σ5 G5 H5 φ5 cls dd (k5.mono ha) st5 r5 x5
      | ok g ρ5 =>
        rw [ex] at q4
        simp only [R.bnd_ok] at q4
        intro σ5 G5 H5 φ5 k5 r5
        have k5' := k5.mono ha
        cases g with
        | nx => exact fun st5 => ⟨G5, φ5, ρ5, r5, q4.from st5 k5' fun _ z => z⟩
        | cont => exact fun st5 => ⟨G5, φ5, ρ5, r5, q4.from st5 k5' fun _ z => z⟩
        | brk => exact q4 σ5 G5 H5 φ5 k5' r5
        | ret s6 => exact q4 σ5 G5 H5 φ5 k5' r5
end
end VE

/-! VS13: a statement that passes the look is executed so. -/
namespace VE
open PySem L2 PySem.Spec PyProof.Rows

structure Sok (C : Ck) (Φ : Fns) (xr : XR) (sc : Scope) (X : Cx) (W : WX) : Prop where
  toCok : Cok C Φ xr sc X
  kind : sc.kind = .function
  fn : ∀ x, X.fn x = true
  tk : Takes X W
  po : PassesOwn (model X.prog X.w) X.A X.env X.xe
section
variable {C : Ck} {Φ : Fns} {xr : XR} {sc : Scope} {X : Cx} {W : WX}
theorem PS.imp {s : Stmt} {t t' : TS} (h : PS X s t) (i : ∀ D σ H, t' D σ H → t D σ H) : PS X s t' := ⟨fun pins s σ H D I q => h.run pins s σ H D I (i D σ H q)⟩
theorem PSs.imp {s : List Stmt} {t t' : TS} (h : PSs X s t) (i : ∀ D σ H, t' D σ H → t D σ H) : PSs X s t' := ⟨fun pins s σ H D I q => h.run pins s σ H D I (i D σ H q)⟩
theorem Sok.nodup (c : Sok C Φ xr sc X W) : X.N.Nodup := by rw [c.toCok.N]; exact c.toCok.nd
theorem Sok.blockK (c : Sok C Φ xr sc X W) : X.env.blockKind = .function := by
  have e := c.kind
  have e2 := c.toCok.sc
  unfold Env.blockKind
  rw [e2, e]
  rfl
theorem Sok.lc (c : Sok C Φ xr sc X W) (x : Str) (h : loc sc x = true) : Loc X.env.scope x ∧ (X.fn x = true ∨ X.env.scope.names.lookup x = some .local) := by
  refine ⟨?_, .inl (c.fn x)⟩
  rw [c.toCok.sc]
  unfold loc at h
  split at h
  · exact .inl (by assumption)
  · exact .inr (by assumption)
  · cases h
theorem held_of {it : It} {ρ ρ1 : List S} {p : List PyData × Option (Nat × S)} {i : Nat} {s : S} (h : evIt Φ it ρ = .ok p ρ1) (hp : p.2 = some (i, s)) : heldI it = some i := by
  have hold : ∀ {a : A} {xs : List PyData} {ρ : List S}, holdO a xs ρ = .ok p ρ1 → ∃ j, a = .pl j ∧ j = i := by
    intro a xs ρ q
    unfold holdO at q
    split at q
    · split at q
      · cases q; cases hp
      · cases q; cases hp; exact ⟨_, rfl, rfl⟩
    · cases q; cases hp
  cases it with
  | rng1 a =>
    rw [evIt] at h
    cases e : evA Φ a ρ with
    | stk => rw [e] at h; cases h
    | exc _ _ _ => rw [e] at h; cases h
    | ok t ρ' =>
      rw [e] at h
      simp only [R.bnd_ok] at h
      split at h
      · split at h
        · cases h; cases hp
        · cases h
      · cases h
  | rng2 a b =>
    rw [evIt] at h
    cases e : evA Φ a ρ with
    | stk => rw [e] at h; cases h
    | exc _ _ _ => rw [e] at h; cases h
    | ok t ρ' =>
      rw [e] at h
      simp only [R.bnd_ok] at h
      cases e2 : evA Φ b ρ' with
      | stk => rw [e2] at h; cases h
      | exc _ _ _ => rw [e2] at h; cases h
      | ok u ρ2 =>
        rw [e2] at h
        simp only [R.bnd_ok] at h
        split at h
        · split at h
          · cases h; cases hp
          · cases h
        · cases h
  | rng3 as =>
    rw [evIt] at h
    cases e : evAs Φ as ρ with
    | stk => rw [e] at h; cases h
    | exc _ _ _ => rw [e] at h; cases h
    | ok t ρ' =>
      rw [e] at h
      simp only [R.bnd_ok] at h
      split at h
      · split at h
        · cases h; cases hp
        · cases h
      · cases h
  | seq a =>
    rw [evIt] at h
    cases e : evA Φ a ρ with
    | stk => rw [e] at h; cases h
    | exc _ _ _ => rw [e] at h; cases h
    | ok t ρ' =>
      rw [e] at h
      simp only [R.bnd_ok] at h
      split at h
      · split at h
        · obtain ⟨j, rfl, rfl⟩ := hold h
          rfl
        · cases h
      · cases h
  | enum a =>
    rw [evIt] at h
    cases e : evA Φ a ρ with
    | stk => rw [e] at h; cases h
    | exc _ _ _ => rw [e] at h; cases h
    | ok t ρ' =>
      rw [e] at h
      simp only [R.bnd_ok] at h
      split at h
      · obtain ⟨j, rfl, rfl⟩ := hold h
        rfl
      · cases h
  | chars a =>
    rw [evIt] at h
    cases e : evA Φ a ρ with
    | stk => rw [e] at h; cases h
    | exc _ _ _ => rw [e] at h; cases h
    | ok t ρ' =>
      rw [e] at h
      simp only [R.bnd_ok] at h
      split at h
      · cases h; cases hp
      · cases h
  | zip a b => rw [evIt] at h; cases h
theorem ps_comp {t : Tg} {it : It} {d : Option E} {x : E} {e : Expr} {i : Nat} {y : Str} {py spos : Pos} (c : Sok C Φ xr sc X W) (hi : C.N[i]? = some y) (h : ckE C sc (.comp t it d x) e = true) (hw : swB sc y py e = true) :
    PS X (.Assign [.Name y py] e spos) (tAsg (tE X.K xr W (evE Φ (.comp t it d x))) (gName i)) := by
  unfold ckE at h
  split at h
  · rename_i elt gs scope pos
    split at h
    · rename_i tg iter ifs k
      have hw0 := hw
      simp only [swB, Bool.and_eq_true, decide_eq_true_eq] at hw0
      simp only [Bool.and_eq_true, beq_iff_eq] at h
      obtain ⟨⟨⟨⟨⟨⟨rfl, hb⟩, hit⟩, hs⟩, ht⟩, hd⟩, hx⟩ := h
      have q := ps_setLc (pos := pos) (spos := spos) (py := py) (te := tE X.K xr (fun _ _ _ _ => False) (evE Φ x)) (tt := condT X.K xr Φ d) (g := tTg X.K t) (own := tgX C (tgs t)) c.toCok.calm c.nodup (by rw [c.toCok.N]; exact hi) (by rw [c.toCok.sc]; exact hw0.1.1)
        (by rw [swaps_set c.blockK, c.toCok.sc, hw]) (It_ok it tg iter sc X W c.toCok c.tk hit) (by rw [c.toCok.sc, c.toCok.N]; exact blkOk_by hb)
        (fun s H Ca cl fp => ckTg_ok (X := X.blk s H scope (compEnvC scope cl Ca X.env) fp) c.toCok.calm c.nodup c.toCok.N (lcB_ok c.toCok.sc) ht)
        (fun s H Ca cl fp => C_ok d ifs (relS scope sc) (X.blk s H scope (compEnvC scope cl Ca X.env) fp) (c.toCok.blk s H scope Ca cl fp) hd)
        (fun s H Ca cl fp => E_ok x elt (relS scope sc) (X.blk s H scope (compEnvC scope cl Ca X.env) fp) _ (c.toCok.blk s H scope Ca cl fp) takesB hx) (folded hs)
      rw [tgX_snd] at q
      exact PS.imp q fun D σ H z => by
        obtain ⟨ρ, G, φ, r, z⟩ := z
        exact comp_ok r z
    · cases h
  · cases h
theorem ps_comp2 {t : Tg} {it : It} {d : Option E} {t1 : Tg} {it1 : It} {d1 : Option E} {x : E} {e : Expr} {i : Nat} {y : Str} {py spos : Pos} (c : Sok C Φ xr sc X W) (hi : C.N[i]? = some y) (h : ckE C sc (.comp2 t it d t1 it1 d1 x) e = true) (hw : swB sc y py e = true) :
    PS X (.Assign [.Name y py] e spos) (tAsg (tE X.K xr W (evE Φ (.comp2 t it d t1 it1 d1 x))) (gName i)) := by
  unfold ckE at h
  split at h
  · rename_i elt gs scope pos
    split at h
    · rename_i tg iter ifs k tg1 iter1 ifs1 k1
      have hw0 := hw
      simp only [swB, Bool.and_eq_true, decide_eq_true_eq] at hw0
      simp only [Bool.and_eq_true, beq_iff_eq] at h
      obtain ⟨⟨⟨⟨⟨⟨⟨⟨⟨⟨⟨rfl, rfl⟩, hb⟩, hit⟩, hs⟩, hs1⟩, ht⟩, hd⟩, hi1⟩, ht1⟩, hd1⟩, hx⟩ := h
      have q := ps_setLc2 (pos := pos) (spos := spos) (py := py) (te := tE X.K xr (fun _ _ _ _ => False) (evE Φ x)) (tt := condT X.K xr Φ d) (g := tTg X.K t) (wi1 := tIt X.K xr (fun _ _ _ _ => False) Φ it1) (tt1 := condT X.K xr Φ d1) (g1 := tTg X.K t1) (own := tgX C (tgs t ++ tgs t1)) (vs1 := tgs t1) c.toCok.calm c.nodup (by rw [c.toCok.N]; exact hi) (by rw [c.toCok.sc]; exact hw0.1.1)
        (by rw [swaps_set c.blockK, c.toCok.sc, hw]) (It_ok it tg iter sc X W c.toCok c.tk hit) (by rw [c.toCok.sc, c.toCok.N]; exact blkOk_by hb) (fun i hi => by rw [tgX_snd]; exact List.mem_append_right _ hi)
          (fun s H Ca cl fp => ckTg_ok (X := X.blk s H scope (compEnvC scope cl Ca X.env) fp) c.toCok.calm c.nodup c.toCok.N (lcB_ok c.toCok.sc) ht)
          (fun s H Ca cl fp => C_ok d ifs (relS scope sc) (X.blk s H scope (compEnvC scope cl Ca X.env) fp) (c.toCok.blk s H scope Ca cl fp) hd)
          (fun s H Ca cl fp => It_ok it1 tg1 iter1 (relS scope sc) (X.blk s H scope (compEnvC scope cl Ca X.env) fp) _ (c.toCok.blk s H scope Ca cl fp) takesB hi1)
          (fun s H Ca cl fp => ckTg_ok (X := X.blk s H scope (compEnvC scope cl Ca X.env) fp) c.toCok.calm c.nodup c.toCok.N (lcB_ok c.toCok.sc) ht1)
          (fun s H Ca cl fp => C_ok d1 ifs1 (relS scope sc) (X.blk s H scope (compEnvC scope cl Ca X.env) fp) (c.toCok.blk s H scope Ca cl fp) hd1)
          (fun s H Ca cl fp => E_ok x elt (relS scope sc) (X.blk s H scope (compEnvC scope cl Ca X.env) fp) _ (c.toCok.blk s H scope Ca cl fp) takesB hx) (folded hs) (fun _ => folded hs1)
      rw [tgX_snd] at q
      exact PS.imp q fun D σ H z => by
        obtain ⟨ρ, G, φ, r, z⟩ := z
        exact comp2_ok r z
    · cases h
  · cases h
theorem augl_ok {a : List Nat} {i : Nat} {x : E} {σ : L2.St} {H : Hp} {D : Ends} (h : tS X.K xr W a (evS Φ (.augl i x)) D σ H) : tAug i (tE X.K xr W (evE Φ x)) rExt2 D σ H := by
  obtain ⟨ρ, G, φ, r, q⟩ := h
  rw [evS] at q
  cases e : slot ρ i with
  | lst xs0 =>
    rw [e] at q
    simp only at q
    obtain ⟨v, hv, q0⟩ := r.at (i := i) (by rw [e]; exact fun z => nomatch z)
    rw [e] at q0
    obtain ⟨l, vs0, rfl, hH0, _, hf0⟩ := q0
    refine ⟨_, hv, ?_⟩
    refine then_ok r q fun s ρ' v G' H' φ' f r' t st q' => ?_
    split at q'
    · rename_i xs ys e4
      split at q'
      · rename_i hlt
        obtain ⟨b, ws, rfl, hb, hd2, rfl⟩ := t.rel
        obtain ⟨w, hw, q2⟩ := r'.at (i := i) (by rw [e4]; exact fun z => nomatch z)
        rw [hv] at hw
        cases hw
        rw [e4] at q2
        obtain ⟨c', us, ec, hH, hdv, hf⟩ := q2
        cases ec
        obtain ⟨st2, sr⟩ := write_lst r' hv (slot_lt (by rw [e4]; exact fun z => nomatch z)) hf (hdv.app hd2)
        refine ⟨l, b, us, ws, rfl, rfl, hH, hb, by rw [hdv.length, hd2.length]; exact of_decide_eq_true hlt, ?_⟩
        have eσ : σ.set i (some (.ref l)) = σ := by
          obtain ⟨hil, hiv⟩ := List.getElem?_eq_some_iff.mp hv
          rw [← hiv, List.set_getElem_self]
        show D.nx (σ.set i (some (.ref l))) _
        rw [eσ]
        exact PoS.nx q' .refl sr ((st.weak fun _ z => .inl z).trans st2)
      · exact q'.elim
    · exact q'.elim
  | val _ => rw [e] at q; exact q.elim
  | dct _ => rw [e] at q; exact q.elim
  | dead => rw [e] at q; exact q.elim
theorem notLc_swB {e : Expr} {y : Str} {py : Pos} (h : notLc e = true) : swB sc y py e = false := by
  cases e <;> first | rfl | cases h
/-- one value, stored by a name -/
theorem asg_ok {a : List Nat} {i : Nat} {x : E} {σ : L2.St} {H : Hp} {D : Ends} (ha : i ∈ a) (h : tS X.K xr W a (evS Φ (.asg i x)) D σ H) : tAsg (tE X.K xr W (evE Φ x)) (gName i) D σ H := by
  obtain ⟨ρ, G, φ, r, q⟩ := h
  rw [evS] at q
  refine then_ok r q fun s ρ' v G' H' φ' f r' t st q' => ?_
  have r2 := r'.store (i := i) t
  refine PoS.nx q' (Keep.set ha) r2 (st.weak fun b z => ?_)
  rcases own_upf z with y | y
  · split at y
    · exact .inr y
    · cases y
  · exact .inl y
theorem set_lt {i : Nat} {ρ : List S} {s : S} : (ρ.set i s).length = ρ.length := List.length_set ..
/-! ### several names -/
def setsV : List Nat → List V → L2.St → L2.St
  | i :: is, v :: vs, σ => setsV is vs (σ.set i (some v))
  | _, _, σ => σ
theorem Keep.sets {a : List Nat} : ∀ {is : List Nat} {vs : List V} {σ : L2.St}, (∀ i ∈ is, i ∈ a) → Keep a σ (setsV is vs σ)
  | [], _, σ, _ => .refl
  | _ :: _, [], σ, _ => .refl
  | i :: is, v :: vs, σ, h => (Keep.set (h i List.mem_cons_self)).trans (Keep.sets (is := is) fun j hj => h j (List.mem_cons_of_mem _ hj))
theorem sets_S {K : PySem.W.Frag} {G H : Hp} {σ : L2.St} {ρ : List S} {φ : Nat → List Addr} (r : SR K G H ρ σ φ) : ∀ {as : List A} {ts : List (Option S)} {vs : List V} {fs : List Addr}, Ops K G H σ as ts vs fs → ∀ {ss : List S} {is : List Nat} {ρ2 : List S} {σ2 : L2.St} {φ2 : Nat → List Addr},
    resS as ts ρ = some ss → is.length = ss.length → SR K G H ρ2 σ2 φ2 → (∀ b ∈ fs, G b = none ∧ ¬ own φ2 b) → ∃ φ3, SR K G H (sets is ss ρ2) (setsV is vs σ2) φ3 ∧ ∀ b, own φ3 b → own φ2 b ∨ b ∈ fs := by
  intro as ts vs fs o
  induction o with
  | nil =>
    intro ss is ρ2 σ2 φ2 h hl r2 hf
    cases h
    cases is with
    | nil => exact ⟨φ2, r2, fun _ z => .inl z⟩
    | cons _ _ => simp at hl
  | @cons a as t ts v vs f g o os dj ih =>
    intro ss is ρ2 σ2 φ2 h hl r2 hf
    obtain ⟨s, ss', rfl, hs, tm⟩ : ∃ s ss', ss = s :: ss' ∧ resS as ts ρ = some ss' ∧ Tmp K G H s v f φ2 := by
      cases a with
      | pl i =>
        obtain ⟨rfl, hv⟩ := o
        rw [resS] at h
        split at h
        · rename_i d ds e1 e2
          cases h
          obtain ⟨w, hw, q⟩ := r.at (i := i) (by rw [e1]; exact fun z => nomatch z)
          rw [hv] at hw
          cases hw
          rw [e1] at q
          exact ⟨_, _, rfl, e2, ⟨q.1, rfl⟩, (fun _ z => nomatch z), fun _ z => nomatch z⟩
        · cases h
      | e x =>
        obtain ⟨s, rfl, q⟩ := o
        rw [resS] at h
        split at h
        · rename_i ds e2
          cases h
          exact ⟨_, _, rfl, e2, q, fun b hb => (hf b (List.mem_append_left _ hb)).1, fun b hb => (hf b (List.mem_append_left _ hb)).2⟩
        · cases h
    cases is with
    | nil => simp at hl
    | cons i is =>
      have sub : ∀ b, own (upf φ2 i (if i < ρ2.length then f else [])) b → own φ2 b ∨ b ∈ f := fun b z => by
        rcases own_upf z with y | y
        · split at y
          · exact .inr y
          · cases y
        · exact .inl y
      obtain ⟨φ3, r3, o3⟩ := ih (is := is) hs (by simpa using hl) (r2.store (i := i) tm) fun b hb => ⟨(hf b (List.mem_append_right _ hb)).1, fun z => (sub b z).elim (hf b (List.mem_append_right _ hb)).2 fun y => dj b y hb⟩
      refine ⟨φ3, r3, fun b z => ?_⟩
      rcases o3 b z with y | y
      · exact (sub b y).imp id (List.mem_append_left _)
      · exact .inr (List.mem_append_right _ y)
theorem par_ok {a : List Nat} {is : List Nat} {as : List A} {σ : L2.St} {H : Hp} {D : Ends} (ha : ∀ i ∈ is, i ∈ a) (h : tS X.K xr W a (evS Φ (.par is as)) D σ H) {Q : List V → Hp → Prop} (hQ : ∀ vs H', vs.length = as.length → D.nx (setsV is vs σ) H' → Q vs H') : tAs X.K xr W Φ as σ H Q := by
  obtain ⟨ρ, G, φ, r, q⟩ := h
  rw [evS] at q
  refine thens_ok r q fun ts ρ' vs G' H' φ' fs r' o hf st q' => ?_
  split at q'
  · rename_i ss hs
    split at q'
    · rename_i hl
      obtain ⟨φ3, r3, o3⟩ := sets_S r' o hs hl r' hf
      exact hQ vs H' o.len (PoS.nx q' (Keep.sets ha) r3 (st.weak o3))
    · exact q'.elim
  · exact q'.elim
theorem tSets_V {K : PySem.W.Frag} {Q : L2.St → Hp → Prop} {H : Hp} : ∀ {is : List Nat} {vs : List V} {σ : L2.St}, is.length = vs.length → Q (setsV is vs σ) H → tSets K is vs σ H Q
  | [], [], _, _, q => ⟨rfl, q⟩
  | [], _ :: _, _, h, _ => by simp at h
  | _ :: _, [], _, h, _ => by simp at h
  | i :: is, v :: vs, σ, h, q => ⟨v, vs, rfl, tSets_V (is := is) (by simpa using h) q⟩
theorem parT_ok {a : List Nat} {is : List Nat} {as : List A} {σ : L2.St} {H : Hp} {D : Ends} (hl : is.length < 100) (hw : is.length = as.length) (ha : ∀ i ∈ is, i ∈ a) (h : tS X.K xr W a (evS Φ (.par is as)) D σ H) : tAsg (tTup (tAs X.K xr W Φ as)) (gTup X.K is.length (tSets X.K is)) D σ H := by
  have hz : (100 : Nat) ≤ sizeLine := by decide
  obtain ⟨ρ, G, φ, r, q⟩ := h
  rw [evS] at q
  refine thens_ok r q fun ts ρ' vs G' H' φ' fs r' o hf st q' => ?_
  split at q'
  · rename_i ss hs
    split at q'
    · rename_i hl2
      obtain ⟨φ3, r3, o3⟩ := sets_S r' o hs hl2 r' hf
      have ol := o.len
      refine ⟨by omega, fun p hp => ⟨p, vs, rfl, .inl (.inl upd_same), by omega, tSets_V (by omega) ?_⟩⟩
      refine PoS.nx q' (Keep.sets ha) (r3.newH hp) ((st.trans (Stp.newH hp)).weak fun b z => ?_)
      exact .inl (o3 b z)
    · exact q'.elim
  · exact q'.elim
theorem unp_ok {a : List Nat} {is : List Nat} {x : E} {σ : L2.St} {H : Hp} {D : Ends} (ha : ∀ i ∈ is, i ∈ a) (h : tS X.K xr W a (evS Φ (.unp is x)) D σ H) : tAsg (tE X.K xr W (evE Φ x)) (gTup X.K is.length (tSets X.K is)) D σ H := by
  obtain ⟨ρ, G, φ, r, q⟩ := h
  rw [evS] at q
  refine then_ok r q fun s ρ' v G' H' φ' f r' t st q' => ?_
  split at q'
  · rename_i d hd
    split at q'
    · rename_i ds hu
      unfold unpk at hu
      split at hu
      · split at hu
        · rename_i ds' hl
          cases hu
          obtain ⟨p, vs, rfl, h1, h2⟩ := (VW.of t.rel hd).tuple
          refine ⟨p, vs, rfl, Same.seqT r'.gh h1, by rw [h2.length]; exact hl, ?_⟩
          refine sets_ok (by rw [h2.length]; exact hl.symm) h2 r' fun σ' l k _ r2 => ?_
          exact PoS.nx q' ⟨l, fun j hj => k j fun z => hj (ha j z)⟩ r2 (st.weak fun b z => .inl (own_dropF z))
        · cases hu
      · cases hu
    · exact q'.elim
  · exact q'.elim
theorem thens_eq {K : PySem.W.Frag} {a : List Nat} {σ : L2.St} {G H : Hp} {φ : Nat → List Addr} {ρ : List S} {D : Ends} {as : List A} {k : List (Option S) → List S → R F} {Q : List V → Hp → Prop} (r : SR K G H ρ σ φ) (h : PoS K xr W a σ G H φ ((evAs Φ as ρ).bnd k) D)
    (hk : ∀ ts ρ' vs G' H' φ' fs, evAs Φ as ρ = .ok ts ρ' → SR K G' H' ρ' σ φ' → Ops K G' H' σ as ts vs fs → (∀ a ∈ fs, G' a = none ∧ ¬ own φ' a) → Stp G H (own φ) G' H' (fun b => own φ' b ∨ b ∈ fs) → Q vs H') : tAs K xr W Φ as σ H Q := by
  refine ops as ρ G H φ Q r ?_
  cases e : evAs Φ as ρ with
  | stk => rw [e] at h; exact h
  | exc c d ρ' =>
    rw [e] at h
    exact fun G' H' φ' cls dd st r' x => h σ G' H' φ' cls dd .refl st r' x
  | ok ts ρ' => exact fun vs G' H' φ' fs st r' o hf => hk ts ρ' vs G' H' φ' fs e r' o hf st
theorem setit_ok {a : List Nat} {i : Nat} {k : A} {x : E} {σ : L2.St} {H : Hp} {D : Ends} (h : tS X.K xr W a (evS Φ (.setit i k x)) D σ H) : tAsg (tE X.K xr W (evE Φ x)) (gSub (tVar i) (tA X.K xr W Φ k) rSetL) D σ H := by
  obtain ⟨ρ, G, φ, r, q⟩ := h
  rw [evS] at q
  refine then_ok r q fun s ρ1 v G1 H1 φ1 f r1 t1 st1 q1 => ?_
  split at q1
  · rename_i xs0 e0
    obtain ⟨w, hw, q2⟩ := r1.at (i := i) (by rw [e0]; exact fun z => nomatch z)
    refine ⟨w, hw, ?_⟩
    have key : tAs X.K xr W Φ [k] σ H1 (fun vs H2 => match vs with
        | [y] => rSetL w y v H2 fun H3 => D.nx σ H3
        | _ => False) := by
      have q3 : PoS X.K xr W a σ G1 H1 φ1 ((evAs Φ [k] ρ1).bnd fun ts ρ'' => match ts with
          | [t] => (match view s, res k (t.bind view) ρ'', slot ρ'' i with
            | some d, some (.int j), .lst xs => match ixN xs.length j with
              | some n => .ok .nx (ρ''.set i (.lst (xs.set n d)))
              | none => .stk
            | _, _, _ => .stk)
          | _ => .stk) D := by
        have q2 := q1.from (st1.weak fun _ z => .inl z) .refl fun _ z => z
        simp only [evAs]
        cases e1 : evA Φ k ρ1 with
        | stk => rw [e1] at q2; exact q2
        | exc _ _ _ => rw [e1] at q2; exact q2
        | ok t ρ2 => rw [e1] at q2; exact q2
      refine thens_eq r1 q3 fun ts ρ2 vs G2 H2 φ2 fs eq r2 o hf st2 => ?_
      obtain ⟨t, y, g, rfl, rfl, oy, rfl⟩ := o.one
      have q4 := q1
      simp only [evAs] at eq
      cases e1 : evA Φ k ρ1 with
      | stk => rw [e1] at eq; cases eq
      | exc _ _ _ => rw [e1] at eq; cases eq
      | ok t' ρ2' =>
      rw [e1] at eq q4
      simp only [R.bnd_ok] at eq q4
      cases eq
      split at q4
      · rename_i d j xs ev ek es
        have hy := (oy.vw r2 ek).int
        subst hy
        split at q4
        · rename_i n hn
          obtain ⟨p1, p2, p3⟩ := t1.frame st2 t1.off
          have t2 : Tmp X.K G2 H2 s v f φ2 := ⟨p1, p2, fun b hb z => p3 b hb (.inl z)⟩
          obtain ⟨G3, st3, r3, hd3, _⟩ := t2.freeze r2 ev
          obtain ⟨w2, hw2, q5⟩ := r3.at (i := i) (by rw [es]; exact fun z => nomatch z)
          rw [hw] at hw2
          cases hw2
          rw [es] at q5
          obtain ⟨p, us, rfl, hp, hdu, hfu⟩ := q5
          obtain ⟨st4, r4⟩ := write_lst r3 hw (slot_lt (by rw [es]; exact fun z => nomatch z)) hfu (hdu.set hd3 n)
          refine ⟨p, us, j, n, rfl, rfl, hp, by rw [hdu.length]; exact hn, ?_⟩
          have f1 : ∀ b, b ∈ f → ¬ own φ1 b ∧ H1 b ≠ none := fun b hb => ⟨t1.off b hb, by obtain ⟨o, e⟩ := t1.rel.here b hb; rw [e]; exact fun z => nomatch z⟩
          have st2' : Stp G H (own φ) G2 H2 (fun b => own φ2 b ∨ b ∈ f) := (st1.trans (st2.frame f1)).weak fun b z => z.imp .inl id
          exact PoS.nx q4 .refl r4 ((st2'.trans st3).trans st4)
        · exact q4.elim
      · exact q4.elim
    exact key
  · exact q1.elim
/-! ### name op= e -/
def rAug (o : Bop) : V → V → Hp → VK → Prop := fun x y H Q => ∃ a b c, x = .int a ∧ y = .int b ∧ opAug o (.int a) (.int b) = some c ∧ Q (.int c) H
theorem pip_aug (o : Bop) : PIp X (srcB o) (rAug o) := by
  intro pins s σ H x y v u Q I rx ry h
  obtain ⟨a, b, c, rfl, rfl, e, q⟩ := h
  cases o with
  | add =>
    cases e
    exact ip_add pins s σ H _ _ v u Q I rx ry ⟨_, _, rfl, rfl, q⟩
  | sub =>
    cases e
    exact ip_sub pins s σ H _ _ v u Q I rx ry ⟨_, _, rfl, rfl, q⟩
  | mul =>
    have e : (if (decide (a.natAbs < 2 ^ 64) || decide (b.natAbs < 2 ^ 64)) = true then some (a * b) else none) = some c := e
    split at e
    · rename_i hc
      cases e
      simp only [Bool.or_eq_true, decide_eq_true_eq] at hc
      rcases hc with hc | hc
      · exact iop_mul pins s σ H _ _ v u Q I rx ry ⟨_, _, rfl, rfl, .inl (by omega), q⟩
      · exact iop_mul pins s σ H _ _ v u Q I rx ry ⟨_, _, rfl, rfl, .inr (by omega), q⟩
    · cases e
  | _ => cases e
theorem aug_ok {a : List Nat} {i : Nat} {o : Bop} {x : A} {σ : L2.St} {H : Hp} {D : Ends} (ha : i ∈ a) (h : tS X.K xr W a (evS Φ (.aug i o x)) D σ H) : tAug i (tA X.K xr W Φ x) (rAug o) D σ H := by
  obtain ⟨ρ, G, φ, r, q⟩ := h
  rw [evS] at q
  split at q
  · rename_i d hd
    obtain ⟨v, hv, q2⟩ := r.at (i := i) (by rw [hd]; exact fun z => nomatch z)
    rw [hd] at q2
    refine ⟨v, hv, ?_⟩
    have q3 : PoS X.K xr W a σ G H φ ((evAs Φ [x] ρ).bnd fun ts ρ' => match ts with
        | [t] => (match res x (t.bind view) ρ' with
          | some d' => match opAug o d d' with
            | some c => .ok .nx (ρ'.set i (.val (.int c)))
            | none => .stk
          | none => .stk)
        | _ => .stk) D := by
      simp only [evAs]
      cases e1 : evA Φ x ρ with
      | stk => rw [e1] at q; exact q
      | exc _ _ _ => rw [e1] at q; exact q
      | ok t ρ2 => rw [e1] at q; exact q
    have key : tAs X.K xr W Φ [x] σ H (fun vs H1 => match vs with
        | [y] => rAug o v y H1 fun z H2 => D.nx (σ.set i (some z)) H2
        | _ => False) := by
      refine thens_ok r q3 fun ts ρ' vs G' H' φ' fs r' op hf st q4 => ?_
      obtain ⟨t, y, g, rfl, rfl, oy, rfl⟩ := op.one
      simp only at q4
      split at q4
      · rename_i d' hd'
        have vy := oy.vw r' hd'
        split at q4
        · rename_i c hc
          obtain ⟨m, n, rfl, rfl⟩ : ∃ m n, d = .int m ∧ d' = .int n := by
            unfold opAug at hc
            split at hc
            · exact ⟨_, _, rfl, rfl⟩
            · exact ⟨_, _, rfl, rfl⟩
            · exact ⟨_, _, rfl, rfl⟩
            · cases hc
          have e1 : v = .int m := by
            have z := q2.1
            cases z
            rfl
          have e2 := vy.int
          subst e1 e2
          refine ⟨m, n, c, rfl, rfl, hc, ?_⟩
          have tm : Tmp X.K G' H' (.val (.int c)) (.int c) [] φ' := ⟨⟨.int c, rfl⟩, (fun _ z => nomatch z), fun _ z => nomatch z⟩
          refine PoS.nx q4 (Keep.set ha) (r'.store (i := i) tm) (st.weak fun b z => ?_)
          rcases own_upf z with y | y
          · split at y <;> cases y
          · exact .inl y
        · exact q4.elim
      · exact q4.elim
    exact key
  · exact q.elim
end
end VE

/-! VS14: the look at statements is right. -/
namespace VE
open PySem L2 PySem.Spec PyProof.Rows
section
variable {C : Ck} {Φ : Fns} {xr : XR} {sc : Scope} {X : Cx} {W : WX}
theorem tup_assign {ts : List Expr} {k : Nat} {p : Pos} {env : Env} : (assignEach [.Tuple ts k p] env).map (·.2) = [assign (.Tuple ts k p) env] := rfl
theorem sole_tup {ts : List Expr} {k : Nat} {p : Pos} {e : Expr} {l : Nat} {env : Env} (h : notLc e = true) : swapsWithSole [.Tuple ts k p] e l env = pure false := by
  unfold swapsWithSole
  exact swaps_not h
theorem sole_sub {o i : Expr} {p : Pos} {e : Expr} {l : Nat} {env : Env} (h : notLc e = true) : swapsWithSole [.Subscript o i p] e l env = pure false := by
  unfold swapsWithSole
  exact swaps_not h
theorem stores_sub {o i e : Expr} {p : Pos} {env : Env} : swappedStores [.Subscript o i p] e env = pure none := by
  cases e <;> rfl
theorem stores_nt {ts : List Expr} {k : Nat} {p : Pos} {e : Expr} {env : Env} (h : ∀ vs k2 p2, e ≠ .Tuple vs k2 p2) : swappedStores [.Tuple ts k p] e env = pure none := by
  cases e <;> first | rfl | exact absurd rfl (h _ _ _)
theorem subAssign {o i : Expr} {pos : Pos} {env : Env} (h : notSlice i = true) (v : Value) : assign (.Subscript o i pos) env v = (do
      let ov ← holding [v] (eval o env)
      let iv ← holding [v, ov] (eval i env)
      standAt pos
      holding [v, ov, iv] (setItem ov iv v)
      release [v, ov, iv] []) := by
  cases i <;> first | rfl | cases h
theorem isLoc_of {line : Nat} {i : Nat} {e : Expr} (h : isLoc sc line C i e = true) : ∃ x pos, e = .Name x pos ∧ C.N[i]? = some x ∧ sc.names.lookup x = some .local ∧ pos.line = line := by
  unfold isLoc at h
  split at h
  · simp only [Bool.and_eq_true, decide_eq_true_eq, beq_iff_eq] at h
    exact ⟨_, _, rfl, h.1.1, h.1.2, h.2⟩
  · cases h
theorem nodup_ne {l : List Str} (hn : l.Nodup) {i j : Nat} {x y : Str} (hi : l[i]? = some x) (hj : l[j]? = some y) (h : i ≠ j) : x ≠ y := by
  intro e
  subst e
  obtain ⟨h1, h2⟩ := List.getElem?_eq_some_iff.mp hi
  obtain ⟨h3, h4⟩ := List.getElem?_eq_some_iff.mp hj
  exact h ((List.getElem_inj hn).mp (h2.trans h4.symm))
mutual
theorem S_ok : ∀ (p : St) (s : Stmt), Sok C Φ xr sc X W → ckS C sc p s = true → PS X s (tS X.K xr W (asgS p) (evS Φ p))
  | .expr x, s, c, h => by
    unfold ckS at h
    split at h
    · simp only [Bool.and_eq_true] at h
      refine PS.imp (ps_expr (E_ok x _ sc X W c.toCok c.tk h.2) (swaps_not h.1)) fun D σ H ⟨ρ, G, φ, r, q⟩ => ?_
      rw [evS] at q
      exact then_ok r q fun s ρ' v G' H' φ' f r' t st q' => PoS.nx q' .refl r' (st.weak fun _ z => .inl z)
    · cases h
  | .asg i x, s, c, h => by
    unfold ckS at h
    split at h
    · rename_i y py e pos
      simp only [Bool.and_eq_true, decide_eq_true_eq, Bool.or_eq_true] at h
      obtain ⟨⟨⟨hi, hl⟩, he⟩, hc⟩ := h
      have hm : i ∈ asgS (.asg i x) := List.mem_singleton.mpr rfl
      have hi' : X.N[i]? = some y := by rw [c.toCok.N]; exact hi
      cases hw : swB sc y py e with
      | false =>
        have hs : swapsWith e (some (.Name y py)) pos.line X.env = pure false := by
          rcases hc with hc | hc
          · exact swaps_not hc
          · cases x with
            | comp t it d x =>
              unfold ckE at he
              split at he
              · rw [swaps_set c.blockK, c.toCok.sc, hw]
              · cases he
            | comp2 t it d t1 it1 d1 x =>
              unfold ckE at he
              split at he
              · rw [swaps_set c.blockK, c.toCok.sc, hw]
              · cases he
            | _ => cases hc
        exact PS.imp (ps_set c.nodup hi' (c.lc y hl).1 (E_ok x e sc X W c.toCok c.tk he) hs (.inl (c.fn y))) fun D σ H q => asg_ok hm q
      | true =>
        rcases hc with hc | hc
        · rw [notLc_swB hc] at hw; cases hw
        · cases x with
          | comp t it d x => exact PS.imp (ps_comp c hi he hw) fun D σ H q => asg_ok hm q
          | comp2 t it d t1 it1 d1 x => exact PS.imp (ps_comp2 c hi he hw) fun D σ H q => asg_ok hm q
          | _ => cases hc
    · cases h
  | .par is xs, s, c, h => by
    unfold ckS at h
    split at h
    · rename_i ts kt pt vs kv pv pos
      split at h
      · rename_i hw
        simp only [Bool.and_eq_true, decide_eq_true_eq] at h
        obtain ⟨⟨hn, ha⟩, hl⟩ := h
        obtain ⟨h1, h2, h3⟩ := ckNms_ok c.nodup c.toCok.N c.lc hn
        obtain ⟨pa, hst, hlen⟩ := As_ok xs vs sc X W c.toCok c.tk ha
        exact PS.imp (ps_asg (pe_tup pa) (pg_tup c.toCok.calm h1 h2 h3) (sole_tup rfl) (stores_none (by rw [c.toCok.sc]; exact hw)) tup_assign) fun D σ H q => parT_ok hl.1 hl.2 (fun i hi => hi) q
      split at h
      · rename_i i j p q u v hneg
        simp only [Bool.and_eq_true, decide_eq_true_eq] at h
        obtain ⟨⟨⟨⟨hij, hp⟩, hq⟩, ha⟩, hs⟩ := h
        obtain ⟨x, px, rfl, hx, hxl, hpx⟩ := isLoc_of hp
        obtain ⟨y, py, rfl, hy, hyl, hpy⟩ := isLoc_of hq
        have hN := c.toCok.N
        have hsc := c.toCok.sc
        refine PS.imp (ps_par c.toCok.calm c.nodup (by rw [hN]; exact hx) (by rw [hN]; exact hy) hij (by rw [hsc]; exact hxl) (by rw [hsc]; exact hyl) (As_ok xs _ sc X W c.toCok c.tk ha).1
          (stores_two c.blockK (by rw [hsc]; exact hxl) (by rw [hsc]; exact hyl) (by rw [hpy, hpx]) (nodup_ne c.toCok.nd hx hy hij) (by rw [hsc]; exact hs)) (sole_tup rfl)) fun D σ H q => ?_
        have hl := (As_ok xs _ sc X W c.toCok c.tk ha).2.2
        match xs, hl with
        | [a, b], _ =>
          refine par_ok (is := [i, j]) (as := [a, b]) (fun i hi => hi) q fun vs H' hl z => ?_
          match vs, hl with
          | [v, w], _ => exact ⟨v, w, rfl, z⟩
      · rename_i i j l p q r u v w hneg
        simp only [Bool.and_eq_true, decide_eq_true_eq] at h
        obtain ⟨⟨⟨⟨⟨⟨⟨hij, hil⟩, hjl⟩, hp⟩, hq⟩, hr⟩, ha⟩, hs⟩ := h
        obtain ⟨x, px, rfl, hx, hxl, hpx⟩ := isLoc_of hp
        obtain ⟨y, py, rfl, hy, hyl, hpy⟩ := isLoc_of hq
        obtain ⟨z, pz, rfl, hz, hzl, hpz⟩ := isLoc_of hr
        have hN := c.toCok.N
        have hsc := c.toCok.sc
        refine PS.imp (ps_par3 c.toCok.calm c.nodup (by rw [hN]; exact hx) (by rw [hN]; exact hy) (by rw [hN]; exact hz) hij hil hjl (by rw [hsc]; exact hxl) (by rw [hsc]; exact hyl) (by rw [hsc]; exact hzl) (As_ok xs _ sc X W c.toCok c.tk ha).1
          (stores_three c.blockK (by rw [hsc]; exact hxl) (by rw [hsc]; exact hyl) (by rw [hsc]; exact hzl) (by rw [hpy, hpx]) (by rw [hpz, hpx]) (nodup_ne c.toCok.nd hx hy hij) (nodup_ne c.toCok.nd hx hz hil) (nodup_ne c.toCok.nd hy hz hjl) (by rw [hsc]; exact hs)) (sole_tup rfl)) fun D σ H q => ?_
        have hl := (As_ok xs _ sc X W c.toCok c.tk ha).2.2
        match xs, hl with
        | [a, b, d], _ =>
          refine par_ok (is := [i, j, l]) (as := [a, b, d]) (fun i hi => hi) q fun vs H' hl z => ?_
          match vs, hl with
          | [u, v, w], _ => exact ⟨u, v, w, rfl, z⟩
      · cases h
    · cases h
  | .unp is x, s, c, h => by
    unfold ckS at h
    split at h
    · rename_i ts kt pt e pos
      simp only [Bool.and_eq_true] at h
      obtain ⟨⟨⟨hn, he⟩, hl⟩, hw⟩ := h
      obtain ⟨h1, h2, h3⟩ := ckNms_ok c.nodup c.toCok.N c.lc hn
      refine PS.imp (ps_asg (E_ok x e sc X W c.toCok c.tk he) (pg_tup c.toCok.calm h1 h2 h3) (sole_tup hl) ?_ tup_assign) fun D σ H q => unp_ok (fun i hi => hi) q
      split at hw
      · exact stores_none (by rw [c.toCok.sc]; exact hw)
      · rename_i hnt
        exact stores_nt fun vs k2 p2 z => hnt vs k2 p2 z
    · cases h
  | .setit i k x, s, c, h => by
    unfold ckS at h
    split at h
    · rename_i y py ie ps e pos
      simp only [Bool.and_eq_true] at h
      obtain ⟨⟨⟨⟨hn, hsl⟩, hk⟩, he⟩, hl⟩ := h
      exact PS.imp (ps_asg (E_ok x e sc X W c.toCok c.tk he) (pg_sub (name_ok c.toCok hn) (A_ok k ie sc X W c.toCok c.tk hk) set_list (subAssign hsl)) (sole_sub hl) stores_sub rfl) fun D σ H q => setit_ok q
    · cases h
  | .aug i o a, s, c, h => by
    unfold ckS at h
    split at h
    · rename_i y py op e pos
      simp only [Bool.and_eq_true, decide_eq_true_eq] at h
      obtain ⟨⟨⟨rfl, hi⟩, hl⟩, ha⟩ := h
      exact PS.imp (ps_aug c.nodup (by rw [c.toCok.N]; exact hi) (c.lc y hl).1 (A_ok a e sc X W c.toCok c.tk ha) (pip_aug o) (.inl (c.fn y))) fun D σ H q => aug_ok (List.mem_singleton.mpr rfl) q
    · cases h
  | .augl i x, s, c, h => by
    unfold ckS at h
    split at h
    · rename_i y py op e pos
      simp only [Bool.and_eq_true, decide_eq_true_eq] at h
      obtain ⟨⟨⟨rfl, hi⟩, hl⟩, he⟩ := h
      exact PS.imp (ps_aug c.nodup (by rw [c.toCok.N]; exact hi) (c.lc y hl).1 (E_ok x e sc X W c.toCok c.tk he) iop_ext (.inl (c.fn y))) fun D σ H q => augl_ok q
    · cases h
  | .ret x, s, c, h => by
    unfold ckS at h
    split at h
    · refine PS.imp (ps_ret (E_ok x _ sc X W c.toCok c.tk h)) fun D σ H ⟨ρ, G, φ, r, q⟩ => ?_
      rw [evS] at q
      exact then_ok r q fun s ρ' v G' H' φ' f r' t st q' => q' σ G' H' φ' .refl r' v f st t
    · cases h
  | .retN, s, c, h => by
    unfold ckS at h
    split at h
    · refine PS.imp ps_retN fun D σ H ⟨ρ, G, φ, r, q⟩ => ?_
      rw [evS] at q
      exact q σ G H φ .refl r .non [] (Stp.refl.weak fun b z => z.elim id fun y => nomatch y) Tmp.non
    · cases h
  | .ite d a b, s, c, h => by
    unfold ckS at h
    split at h
    · rename_i t p q pos
      simp only [Bool.and_eq_true] at h
      obtain ⟨⟨⟨h1, h2⟩, h3⟩, h4⟩ := h
      refine PS.imp (ps_if (T_ok d t sc X W c.toCok c.tk h1 h2) (Ss_ok a p c h3) (Ss_ok b q c h4)) fun D σ H ⟨ρ, G, φ, r, z⟩ => ?_
      rw [evS] at z
      refine test_S (a := asgS (.ite d a b)) (D := D) (k := fun k ρ' => if k = true then evSs Φ a ρ' else evSs Φ b ρ') r z fun k ρ' G' H' φ' r' st z' => ?_
      cases k with
      | true =>
        rw [if_pos rfl] at z' ⊢
        exact ⟨ρ', G', φ', r', z'.from Stp.refl .refl fun i hi => List.mem_append_left _ hi⟩
      | false =>
        rw [if_neg Bool.false_ne_true] at z' ⊢
        exact ⟨ρ', G', φ', r', z'.from Stp.refl .refl fun i hi => List.mem_append_right _ hi⟩
    · cases h
  | .for_ t it hd b, s, c, h => by
    unfold ckS at h
    split at h
    · rename_i tg iter body pos
      simp only [Bool.and_eq_true] at h
      obtain ⟨⟨⟨⟨h1, h2⟩, h3⟩, h4⟩, h5⟩ := h
      refine PS.imp (ps_for c.po c.toCok.calm (It_ok it tg iter sc X W c.toCok c.tk h1) (ckTg_ok c.toCok.calm c.nodup c.toCok.N c.lc h3) (Ss_ok b body c h4) (folded h2)) fun D σ H ⟨ρ, G, φ, r, z⟩ => ?_
      refine for_ok (fun i hi => hi) (fun p ρ1 i s e1 e2 e3 => ?_) r z
      have e4 := held_of e1 e3
      rw [e3] at e2
      have e5 : hd = true := by simpa using e2
      rw [e5, e4] at h5
      have e6 : (tgs t ++ asgSs b).contains i = false := by simpa using h5
      intro hm
      have e7 : (tgs t ++ asgSs b).contains i = true := by
        rw [List.contains_iff_mem]
        exact hm
      rw [e6] at e7
      cases e7
    · cases h
  | .while_ n d b, s, c, h => by
    unfold ckS at h
    split at h
    · simp only [Bool.and_eq_true] at h
      exact PS.imp (ps_while c.po (T_ok d _ sc X W c.toCok c.tk h.1.1 h.1.2) (Ss_ok b _ c h.2)) fun D σ H ⟨ρ, G, φ, r, z⟩ => while_ok (fun i hi => hi) r z
    · cases h
  | .brk, s, c, h => by
    unfold ckS at h
    split at h
    · refine PS.imp ps_break fun D σ H ⟨ρ, G, φ, r, q⟩ => ?_
      rw [evS] at q
      exact q σ G H φ .refl r Stp.refl
    · cases h
  | .cont, s, c, h => by
    unfold ckS at h
    split at h
    · refine PS.imp ps_continue fun D σ H ⟨ρ, G, φ, r, q⟩ => ?_
      rw [evS] at q
      exact q σ G H φ .refl r Stp.refl
    · cases h
  | .pass, s, c, h => by
    unfold ckS at h
    split at h
    · refine PS.imp ps_pass fun D σ H ⟨ρ, G, φ, r, q⟩ => ?_
      rw [evS] at q
      exact q σ G H φ .refl r Stp.refl
    · cases h
  | .never, s, c, h => PS.imp ps_never fun D σ H ⟨ρ, G, φ, r, q⟩ => by
      rw [evS] at q
      exact q
theorem Ss_ok : ∀ (ps : List St) (ss : List Stmt), Sok C Φ xr sc X W → ckSs C sc ps ss = true → PSs X ss (tS X.K xr W (asgSs ps) (evSs Φ ps))
  | [], ss, c, h => by
    unfold ckSs at h
    split at h
    · refine PSs.imp pss_nil fun D σ H ⟨ρ, G, φ, r, q⟩ => ?_
      rw [evSs] at q
      exact q σ G H φ .refl r Stp.refl
    · cases h
  | p :: ps, ss, c, h => by
    unfold ckSs at h
    split at h
    · rename_i s ss
      simp only [Bool.and_eq_true] at h
      refine PSs.imp (pss_cons (S_ok p s c h.1) (Ss_ok ps ss c h.2)) fun D σ H ⟨ρ, G, φ, r, q⟩ => ?_
      rw [evSs] at q
      refine ⟨ρ, G, φ, r, ?_⟩
      have hl : ∀ i ∈ asgS p, i ∈ asgSs (p :: ps) := fun i hi => List.mem_append_left _ hi
      have hr : ∀ i ∈ asgSs ps, i ∈ asgSs (p :: ps) := fun i hi => List.mem_append_right _ hi
      cases e : evS Φ p ρ with
      | stk => rw [e] at q; exact q
      | exc d v ρ' =>
        rw [e] at q
        exact fun σ' G' H' φ' cls dd k st r' x => q σ' G' H' φ' cls dd (k.mono hl) st r' x
      | ok f ρ' =>
        rw [e] at q
        simp only [R.bnd_ok] at q
        intro σ' G' H' φ' k r'
        cases f with
        | nx => exact fun st => ⟨ρ', G', φ', r', PoS.from q st (k.mono hl) hr⟩
        | brk => exact q σ' G' H' φ' (k.mono hl) r'
        | cont => exact q σ' G' H' φ' (k.mono hl) r'
        | ret s => exact q σ' G' H' φ' (k.mono hl) r'
    · cases h
end
end
end VE

/-! VS15: a def whose text passes the look keeps the promise of its evaluation. -/
namespace VE
open PySem L2 PySem.Spec PyProof.Rows
section
variable {K : PySem.W.Frag} {xr : XR} {G H : Hp} {φ : Nat → List Addr} {σ σ' : L2.St} {ρ : List S}
theorem slot_none {i : Nat} (h : ρ.length ≤ i) : slot ρ i = .dead := by
  unfold slot
  rw [List.getD_eq_getElem?_getD, List.getElem?_eq_none h]
  rfl
theorem slot_app {ss : List S} {m : Nat} {i : Nat} : slot (ss ++ List.replicate m .dead) i = slot ss i := by
  unfold slot
  rw [List.getD_eq_getElem?_getD, List.getD_eq_getElem?_getD]
  by_cases h : i < ss.length
  · rw [List.getElem?_append_left h]
  · have h' : ss.length ≤ i := Nat.le_of_not_lt h
    rw [List.getElem?_append_right h', List.getElem?_eq_none h']
    rw [List.getElem?_replicate]
    split <;> rfl
theorem SR.ext {ss : List S} {τ : L2.St} {m : Nat} (r : SR K G H ss τ φ) : SR K G H (ss ++ List.replicate m .dead) (τ ++ List.replicate m none) φ where
  len := by rw [List.length_append, List.length_append, List.length_replicate, List.length_replicate, r.len]
  gh := r.gh
  rel i := by
    rw [slot_app]
    refine (r.rel i).imp id fun ⟨v, hv, q⟩ => ⟨v, ?_, q⟩
    rw [List.getElem?_append_left (List.getElem?_eq_some_iff.mp hv).1]
    exact hv
  dj := r.dj
  gn := r.gn
theorem slot_fins {asg : List Nat} {n j : Nat} : slot (fins asg n ρ) j = if j < n ∧ j ∉ asg then slot ρ j else .dead := by
  unfold fins
  by_cases h : j < n
  · have e : slot ((List.range n).map fun j => if j ∈ asg then S.dead else slot ρ j) j = if j ∈ asg then S.dead else slot ρ j := by
      show ((List.range n).map fun j => if j ∈ asg then S.dead else slot ρ j).getD j .dead = _
      rw [List.getD_eq_getElem?_getD, List.getElem?_map, List.getElem?_range h]
      rfl
    rw [e]
    by_cases h2 : j ∈ asg
    · rw [if_pos h2, if_neg fun z => z.2 h2]
    · rw [if_neg h2, if_pos ⟨h, h2⟩]
  · rw [if_neg fun z => h z.1]
    exact slot_none (by simpa using h)
def finφ (asg : List Nat) (n : Nat) (φ : Nat → List Addr) : Nat → List Addr := fun j => if j < n ∧ j ∉ asg then φ j else []
theorem own_finφ {asg : List Nat} {n : Nat} {a : Addr} (h : own (finφ asg n φ) a) : own φ a := by
  obtain ⟨j, hj⟩ := h
  unfold finφ at hj
  split at hj
  · exact ⟨j, hj⟩
  · cases hj
theorem SR.fins {asg : List Nat} {τ : L2.St} {r0 : L2.St} (r : SR K G H ρ σ' φ) (k : Keep asg (τ ++ r0) σ') : SR K G H (VE.fins asg τ.length ρ) τ (finφ asg τ.length φ) where
  len := by simp [VE.fins]
  gh := r.gh
  rel j := by
    rw [slot_fins]
    unfold finφ
    by_cases h : j < τ.length ∧ j ∉ asg
    · rw [if_pos h, if_pos h]
      refine (r.rel j).imp id fun ⟨v, hv, q⟩ => ⟨v, ?_, q⟩
      rw [k.2 j h.2, List.getElem?_append_left h.1] at hv
      exact hv
    · rw [if_neg h, if_neg h]
      exact .inl ⟨rfl, rfl⟩
  dj i j a hi hj := by
    unfold finφ at hi hj
    split at hi
    · split at hj
      · exact r.dj i j a hi hj
      · cases hj
    · cases hi
  gn i a hi := by
    unfold finφ at hi
    split at hi
    · exact r.gn i a hi
    · cases hi
end
section
variable {P : Program} {w : World} {K : PySem.W.Frag} {mg : Str → Option Value} {base : Heap}
/-- the callees by number -/
def Fok (P : Program) (w : World) (K : PySem.W.Frag) (mg : Str → Option Value) (base : Heap) (xr : XR) (k : Nat) (fn : Nat → List S → R S) : Nat → List (Str × Nat) → Prop
  | _, [] => True
  | i, (x, n) :: r => (∃ j a fd ps, FnG P w K mg base (L2.CX P w) j a fd ps (spOf K xr n (fn i)) ∧ j ≤ k ∧ mg x = some (.ref a) ∧ PySem.W.keepIn K (.ref a) = true ∧ Binds K fd ps []) ∧ Fok P w K mg base xr k fn (i + 1) r
theorem Fok.at {xr : XR} {k : Nat} {fn : Nat → List S → R S} : ∀ {l : List (Str × Nat)} {i f : Nat} {x : Str} {n : Nat}, Fok P w K mg base xr k fn i l → l[f]? = some (x, n) →
    ∃ j a fd ps, FnG P w K mg base (L2.CX P w) j a fd ps (spOf K xr n (fn (i + f))) ∧ j ≤ k ∧ mg x = some (.ref a) ∧ PySem.W.keepIn K (.ref a) = true ∧ Binds K fd ps []
  | [], _, _, _, _, _, h => by cases h
  | (y, m) :: r, i, 0, x, n, q, h => by cases h; exact q.1
  | (y, m) :: r, i, f + 1, x, n, q, h => by
    have z := Fok.at (l := r) (f := f) q.2 h
    rw [show i + 1 + f = i + (f + 1) by omega] at z
    exact z
/-- the constants by number -/
def Gok (K : PySem.W.Frag) (mg : Str → Option Value) (gv : Nat → PyData) : Nat → List Str → Prop
  | _, [] => True
  | i, x :: r => (∃ u v, mg x = some u ∧ L2.RelV v u ∧ ∀ G, DP K G v (gv i)) ∧ Gok K mg gv (i + 1) r
theorem Gok.at {gv : Nat → PyData} : ∀ {l : List Str} {i g : Nat} {x : Str}, Gok K mg gv i l → l[g]? = some x → ∃ u v, mg x = some u ∧ L2.RelV v u ∧ ∀ G, DP K G v (gv (i + g))
  | [], _, _, _, _, h => by cases h
  | y :: r, i, 0, x, q, h => by cases h; exact q.1
  | y :: r, i, g + 1, x, q, h => by
    have z := Gok.at (l := r) (g := g) q.2 h
    rw [show i + 1 + g = i + (g + 1) by omega] at z
    exact z
def bltNames : List String := ["len", "repr", "min", "max", "list", "isinstance", "int", "tuple", "range", "enumerate", "sum", "all", "any", "str", "bool", "sorted", "set", "dict", "zip"]
theorem def_ok {xr : XR} {Φ : Fns} {x qual : Str} {st : Stmt} {f : Addr} {fd : FuncData} {N ps : List Str} {fns : List (Str × Nat)} {gls : List Str} {body : List St} {k : Nat} (F : L2.Fun K x qual st f fd) (Sc : FnScope N ps (defScope st))
    (hf : Fok P w K mg base xr k Φ.fn 0 fns) (hg : Gok K mg Φ.gl 0 gls) (hb : ∀ x ∈ bltNames, mg (Str.ofString x) = none) (hk : ckSs ⟨N, fns, gls⟩ (defScope st) body (defBody st) = true) :
    FnG P w K mg base (L2.CX P w) (k + 1) f fd ps (spOf K xr ps.length (evDef Φ ps.length (N.length - ps.length) (asgSs body) body)) := by
  refine Fun.okG F Sc (fun vs H Q E h => h.1) fun cdv A outer s H vs Q E hr hgd hsp => ?_
  obtain ⟨hl, ss, G, φ, hss, r, h⟩ := hsp
  have sok : Sok ⟨N, fns, gls⟩ Φ xr (defScope st) (cxOf (L2.CX P w) P w K mg base N qual (defScope st) f cdv A outer s H E) (fun cls dd _ H' => E cls dd H') := {
    toCok := {
      N := rfl
      nd := Sc.nd
      sc := rfl
      calm := rfl
      gd := hgd
      hu := by have := hr.un; show (A.deeper (envOfC qual (defScope st) s.heap.objs.size f cdv)).units + 70 < cLine; omega
      fns := fun f x n e => by
        obtain ⟨j, a, fd, ps, h1, h2, h3, h4, h5⟩ := hf.at e
        rw [Nat.zero_add] at h1
        exact ⟨j, a, fd, ps, h1, hr.mono h2, h3, h4, h5⟩
      gls := fun g x e => by
        obtain ⟨u, v, h1, h2, h3⟩ := hg.at e
        rw [Nat.zero_add] at h3
        exact ⟨u, v, h1, h2, h3⟩
      blt := hb }
    kind := Sc.kind
    fn := fun _ => rfl
    tk := takes_of rfl rfl rfl rfl
    po := passes_of rfl }
  refine ⟨_, Ss_ok body (defBody st) sok hk, ss ++ List.replicate (N.length - ps.length) .dead, G, φ, ?_, ?_⟩
  · have z := r.ext (m := N.length - ps.length)
    unfold L2.start
    rw [hl]
    exact z
  · have eσ : L2.start N vs = vs.map some ++ List.replicate (N.length - vs.length) none := rfl
    have en : (vs.map some).length = ps.length := by rw [List.length_map]; exact hl
    rw [evDef, if_pos hss] at h
    cases e : evSs Φ body (ss ++ List.replicate (N.length - ps.length) .dead) with
    | stk => rw [e] at h; exact h
    | exc c d ρ =>
      rw [e] at h
      intro σ' G' H' φ' cls dd kp st' r' x'
      rw [eσ] at kp
      have z := r'.fins kp
      rw [en] at z
      exact h G' H' _ cls dd (st'.weak fun b => own_finφ) z x'
    | ok g ρ =>
      rw [e] at h
      intro σ' G' H' φ' kp r'
      rw [eσ] at kp
      have z := r'.fins kp
      rw [en] at z
      cases g with
      | nx =>
        intro st'
        exact h .non G' H' _ [] (st'.weak fun b y => y.elim own_finφ fun y => nomatch y) z Tmp.non
      | brk => exact h.elim
      | cont => exact h.elim
      | ret s =>
        intro v f' st' t
        exact h v G' H' _ f' (st'.weak fun b y => y.imp own_finφ id) z ⟨t.rel, t.gn, fun a ha y => t.off a ha (own_finφ y)⟩
/-- a def of the module keeps its promise -/
def Dok (P : Program) (w : World) (K : PySem.W.Frag) (mg : Str → Option Value) (base : Heap) (xr : XR) (x : Str) (n k : Nat) (sem : List S → R S) : Prop :=
  ∃ a fd ps, FnG P w K mg base (L2.CX P w) k a fd ps (spOf K xr n sem) ∧ mg x = some (.ref a) ∧ PySem.W.keepIn K (.ref a) = true ∧ Binds K fd ps []
theorem Fok.nil {xr : XR} {k i : Nat} {fn : Nat → List S → R S} : Fok P w K mg base xr k fn i [] := trivial
theorem Fok.cons {xr : XR} {k i j n : Nat} {fn : Nat → List S → R S} {x : Str} {r : List (Str × Nat)} {sem : List S → R S} (d : Dok P w K mg base xr x n j sem) (hj : j ≤ k) (e : fn i = sem) (q : Fok P w K mg base xr k fn (i + 1) r) : Fok P w K mg base xr k fn i ((x, n) :: r) := by
  obtain ⟨a, fd, ps, h1, h2, h3, h4⟩ := d
  subst e
  exact ⟨⟨j, a, fd, ps, h1, hj, h2, h3, h4⟩, q⟩
theorem Gok.nil {i : Nat} {gv : Nat → PyData} : Gok K mg gv i [] := trivial
theorem Gok.int {i t : Nat} {n : Int} {gv : Nat → PyData} {x : Str} {r : List Str} (h : mg x = some (.int n t)) (e : gv i = .int n) (q : Gok K mg gv (i + 1) r) : Gok K mg gv i (x :: r) := by
  refine ⟨⟨_, .int n, h, ⟨_, rfl⟩, fun G => ?_⟩, q⟩
  rw [e]
  exact .int n
theorem Gok.str {i t : Nat} {n : Str} {gv : Nat → PyData} {x : Str} {r : List Str} (h : mg x = some (.str n t)) (e : gv i = .str n) (q : Gok K mg gv (i + 1) r) : Gok K mg gv i (x :: r) := by
  refine ⟨⟨_, .str n, h, ⟨_, rfl⟩, fun G => ?_⟩, q⟩
  rw [e]
  exact .str n
theorem Gok.tup {i : Nat} {a : Addr} {o : Obj} {its : Array Value} {m : Nat} {vs : List V} {ds : List PyData} {gv : Nat → PyData} {x : Str} {r : List Str} (h : mg x = some (.ref a)) (hk : K.lookup a = some o) (hc : o.cls = .type "tuple")
    (hdt : o.data = .seq its m) (hz : its.size ≤ sizeLine) (hv : Vals vs its.toList) (hp : ∀ G, DPs K G vs ds) (e : gv i = .tuple ds) (q : Gok K mg gv (i + 1) r) : Gok K mg gv i (x :: r) := by
  refine ⟨⟨_, .ref a, h, rfl, fun G => ?_⟩, q⟩
  rw [e]
  exact .tup (.inr ⟨o, its, m, hk, hc, hdt, hz, hv⟩) (hp G)
theorem def_Dok {xr : XR} {Φ : Fns} {x qual : Str} {st : Stmt} {f : Addr} {fd : FuncData} {N ps : List Str} {fns : List (Str × Nat)} {gls : List Str} {body : List VE.St} {k : Nat} {sem : List S → R S} (F : L2.Fun K x qual st f fd) (hm : mg x = some (.ref f)) (b : Binds K fd ps []) (Sc : FnScope N ps (defScope st))
    (hf : Fok P w K mg base xr k Φ.fn 0 fns) (hg : Gok K mg Φ.gl 0 gls) (hb : ∀ x ∈ bltNames, mg (Str.ofString x) = none) (hk : ckSs ⟨N, fns, gls⟩ (defScope st) body (defBody st) = true)
    (e : sem = evDef Φ ps.length (N.length - ps.length) (asgSs body) body) : Dok P w K mg base xr x ps.length (k + 1) sem := by
  subst e
  exact ⟨f, fd, ps, def_ok F Sc hf hg hb hk, hm, F.kp, b⟩
theorem def_okE {xr : XR} {Φ : Fns} {x qual : Str} {st : Stmt} {f : Addr} {fd : FuncData} {N ps : List Str} {fns : List (Str × Nat)} {gls : List Str} {body : List VE.St} {k n : Nat} {sem : List S → R S} (F : L2.Fun K x qual st f fd) (Sc : FnScope N ps (defScope st))
    (hf : Fok P w K mg base xr k Φ.fn 0 fns) (hg : Gok K mg Φ.gl 0 gls) (hb : ∀ x ∈ bltNames, mg (Str.ofString x) = none) (hk : ckSs ⟨N, fns, gls⟩ (defScope st) body (defBody st) = true)
    (e : sem = evDef Φ ps.length (N.length - ps.length) (asgSs body) body) (en : ps.length = n) : FnG P w K mg base (L2.CX P w) (k + 1) f fd ps (spOf K xr n sem) := by
  subst e en
  exact def_ok F Sc hf hg hb hk
end
end VE

/-! VS16: the law's call. -/
namespace VE
open PySem L2 PySem.Spec PyProof.Rows
section
variable {P : Program} {w : World} {K : PySem.W.Frag} {mg mb : Str → Option Value} {k : Nat} {fa p : Addr} {fd : FuncData} {x : Str} {sem : List S → R S} {t : Shared} {us : List Value} {zs : List Int}
abbrev scrO (us : List Value) : Obj := { cls := .type "list", data := .seq us.toArray }
/-- the list of the script, if it is tracked at all -/
def HpS (K : PySem.W.Frag) (p : Addr) (us : List Value) (zs : List Int) : Hp := fun b => if b = p ∧ (K.lookup p).isNone = true then some (.frz (scrO us) (.lst (zs.map V.int))) else none
theorem HpS_some {b : Addr} {u : HO} (h : HpS K p us zs b = some u) : b = p ∧ K.lookup p = none ∧ u = .frz (scrO us) (.lst (zs.map V.int)) := by
  unfold HpS at h
  split at h
  · rename_i q
    cases h
    exact ⟨q.1, Option.isNone_iff_eq_none.mp q.2, rfl⟩
  · cases h
theorem HpS_none {b : Addr} (h : b ≠ p) : HpS K p us zs b = none := if_neg fun q => h q.1
theorem HpS_list (kin : K.In t.heap) (hp : t.heap.get? p = some (scrO us)) (hz : IntsAre us zs) (hn : zs.length ≤ sizeLine) : SqL K (HpS K p us zs) p (zs.map V.int) := by
  cases e : K.lookup p with
  | none =>
    have q : HpS K p us zs p = some (.frz (scrO us) (.lst (zs.map V.int))) := if_pos ⟨rfl, by rw [e]; rfl⟩
    exact .inl (.inr ⟨_, q⟩)
  | some o =>
    have e2 := kin p o e
    rw [hp] at e2
    cases e2
    exact .inr ⟨_, us.toArray, _, e, rfl, rfl, rfl, by rw [List.size_toArray, hz.length]; exact hn, by simpa using vals_ints hz⟩
theorem HpS_ok (hp : t.heap.get? p = some (scrO us)) (hz : IntsAre us zs) (hn : zs.length ≤ sizeLine) : HOk P w (HpS K p us zs) t.heap := by
  intro b u h
  obtain ⟨rfl, _, rfl⟩ := HpS_some h
  exact ⟨hp, by rw [List.length_map]; exact hn, us, _, vals_ints hz, hp⟩
/-- what is in the heap and no list stands in what the proof knows beforehand -/
theorem hid_of {b : Addr} {o : Obj} (hp : t.heap.get? p = some (scrO us)) (e : t.heap.get? b = some o) (h : (∀ es ep, o.data = .dict es ep → False) → K.lookup b ≠ none) : (hidT t.heap (HpS K p us zs)).get? b = some o := by
  refine hidT_get e ?_
  cases q : HpS K p us zs b with
  | none => rfl
  | some u =>
    obtain ⟨rfl, hk, _⟩ := HpS_some q
    rw [hp] at e
    cases e
    exact absurd hk (h fun es ep z => nomatch z)
theorem hid_ns {b : Addr} {m : Str → Option Value} (hp : t.heap.get? p = some (scrO us)) (h : t.heap.Ns b m) : (hidT t.heap (HpS K p us zs)).Ns b m := by
  obtain ⟨o, es, ep, e, d, r⟩ := h
  exact ⟨o, es, ep, hid_of hp e fun z => (z es ep d).elim, d, r⟩
theorem lawG (kin : K.In t.heap) (nsm : t.heap.Ns mainGlobals mg) (nsb : t.heap.Ns builtinsNs mb) (boot : ∀ y : Str, y ≠ "__name__" → mb y = bootBuiltins y) (free : t.heap.NoLimit) (gens : t.gens = #[])
    (hp : t.heap.get? p = some (scrO us)) (hz : IntsAre us zs) (hn : zs.length ≤ sizeLine) (room : Room k callerA) (F : ∀ base : Heap, K.In base → base.Ns mainGlobals mg → FnG P w K mg base (L2.CX P w) k fa fd [x] (spOf K (fun _ _ _ _ _ => False) 1 sem))
    (bind : ∀ (s : Shared) (u : Value), BindsTo s fd ⟨[u], []⟩ [(x, u)]) (law : ∃ ρ, sem [.val (.list (zs.map .int))] = .ok (.val (.bool true)) ρ) :
    codeAny (model P w) callerA (.call (.ref fa) ⟨[.ref p], []⟩) (fun r t' => r = .ok (.ret (.bool true)) ∧ OldK t.heap t'.heap ∧ t'.os = t.os ∧ AllBare t'.gens) t := by
  have inb : K.In (hidT t.heap (HpS K p us zs)) := fun b o e => hid_of hp (kin b o e) fun _ z => by rw [z] at e; cases e
  have md : Mod K mg (hidT t.heap (HpS K p us zs)) := by
    refine ⟨inb, hid_ns hp nsm, ⟨mb, hid_ns hp nsb, boot⟩, ?_⟩
    obtain ⟨m, h1, h2⟩ := free
    exact ⟨m, hid_ns hp h1, h2⟩
  have hL : SqL K (HpS K p us zs) p (zs.map V.int) := HpS_list kin hp hz hn
  have dps : ∀ zs : List Int, DPs K (HpS K p us zs) (zs.map V.int) (zs.map .int) := fun l => by
    have : ∀ (G : Hp) (l : List Int), DPs K G (l.map V.int) (l.map .int) := fun G l => by
      induction l with
      | nil => exact .nil
      | cons i l ih => exact .cons (.int i) ih
    exact this _ l
  have st0 : spOf K (fun _ _ _ _ _ => False) 1 sem [.ref p] (HpS K p us zs) (fun v _ => v = .bl true) (fun _ _ _ => False) := by
    refine ⟨rfl, [.val (.list (zs.map .int))], HpS K p us zs, fun _ => [], rfl, ?_, ?_⟩
    · refine ⟨rfl, Same.refl _, fun i => ?_, (fun _ _ _ z => nomatch z), fun _ _ z => nomatch z⟩
      cases i with
      | zero => exact .inr ⟨_, rfl, .lst hL (dps zs), rfl⟩
      | succ i => exact .inl ⟨by cases i <;> rfl, rfl⟩
    · obtain ⟨ρ, e⟩ := law
      rw [e]
      intro v G' H' φ' f _ _ tm
      have q := tm.rel.1
      cases q
      rfl
  have e0 : Env0 P w K mg (hidT t.heap (HpS K p us zs)) callerA [] t (HpS K p us zs) := by
    refine ⟨rfl, md, fun b o e => of_hidT e, Nat.le_of_eq (hidT_size _ _), trivial, ?_, HpS_ok hp hz hn, .of_eq gens⟩
    intro b hb
    cases hb
  refine codeAny_mono ((F _ inb (hid_ns hp nsm)).go callerA [] t _ ⟨[.ref p], []⟩ [.ref p] [.ref p] _ _ room rfl e0 (bind t _) (.cons rfl .nil) st0) ?_
  intro r t' h
  match r, h with
  | .error e, h =>
    obtain ⟨_, _, _, _, _, _, _, _, _, _, _, _, z⟩ := h
    exact z.elim
  | .ok (.ret u), h =>
    obtain ⟨v, H', os, bare, un, ok', rv, rfl⟩ := h
    have eu : u = Value.bool true := rv
    subst eu
    refine ⟨rfl, OldK.of_keep fun b o e => ?_, os, bare⟩
    cases q : HpS K p us zs b with
    | none => exact un.keep b o e q (fun z => nomatch z) (fun z => nomatch z)
    | some y =>
      obtain ⟨rfl, _, rfl⟩ := HpS_some q
      obtain ⟨e2, _⟩ := ok' _ _ (un.frzs _ _ _ q)
      rw [hp] at e
      cases e
      exact e2
end
/-- the goal that the head leaves, from the law's evaluation -/
theorem walkG {l : PySem.W.OpenLaw} {n k : Nat} {q : Program} {loose : List Str} {XP : (Str → Option Value) → Heap → Prop} {YP : World → Heap → Prop} {d : DefRec} {K : Params → PySem.W.Frag} {x : Str} {sem : List S → R S}
    (most : l.most = some n) (small : n ≤ sizeLine) (dflt : d.params.defaults = []) (room : Room k callerA) (known : ∀ (w : World) (h : Heap), YP w h → (K w.params).In h)
    (law : ∀ zs : List Int, zs.length ≤ n → ∃ ρ, sem [.val (.list (zs.map .int))] = .ok (.val (.bool true)) ρ)
    (F : ∀ (w : World) (mg : Str → Option Value) (fa : Addr) (h : Heap), (K w.params).In h → h.Ns mainGlobals mg → mg d.name = some (.ref fa) →
      ∃ fd : FuncData, (∀ (s : Shared) (u : Value), BindsTo s fd ⟨[u], []⟩ [(x, u)]) ∧ ∀ base : Heap, (K w.params).In base → base.Ns mainGlobals mg → FnG l.prog w (K w.params) mg base (L2.CX l.prog w) k fa fd [x] (spOf (K w.params) (fun _ _ _ _ _ => False) 1 sem)) :
    PySem.W.WalkO q loose XP YP l.row.toRowW d [] (fun f vs => PySem.call f vs) := by
  refine Att.attach_call most dflt ?_
  intro w s t mg mb fa o pm cd doc p us zs G Y _ _ _ hmg hp hz hn hg
  obtain ⟨fd, hb, hF⟩ := F w mg fa _ (known w _ Y) G.T.g hmg
  exact lawG (known w _ Y) G.T.g G.T.b G.T.builtins G.T.nolimit hg hp hz (Nat.le_trans hn small) room hF hb (law zs hn)
end VE

/-! VH: what defs by hand want beside the layer. -/
namespace VE
open PySem L2 PySem.Spec PyProof.Rows
theorem ifB {b : Bool} {p q : Prop} (hb : b = true) (h : p) : if b = true then p else q := by rw [if_pos hb]; exact h
theorem ifN {b : Bool} {p q : Prop} (hb : b = false) (h : q) : if b = true then p else q := by rw [if_neg (by rw [hb]; exact Bool.false_ne_true)]; exact h
theorem _root_.L2.Same.put {H0 H : Hp} {a : Addr} {o : HO} (s : Same H0 H) (h : H0 a = none) : Same H0 (upd H a o) := fun b u e => by
  rw [upd_ne fun z => by rw [z, h] at e; cases e]
  exact s b u e
section
variable {X : Cx}
/-- xs[i], by values -/
def rGetL (K : PySem.W.Frag) : V → V → Hp → VK → Prop := fun o i H Q => ∃ p xs k v, o = .ref p ∧ i = .int k ∧ 0 ≤ k ∧ SqL K H p xs ∧ L2.atI xs k = some v ∧ Q v H
theorem get_list : PGet X (rGetL X.K) := by
  intro pins s σ H o i ov iv Q I ro ri h
  obtain ⟨p, xs, k, v, rfl, rfl, h0, hq, he, q⟩ := h
  cases ro
  obtain ⟨t, rfl⟩ := ri
  obtain ⟨its, r, pl, hz⟩ := I.list hq
  obtain ⟨j, h1, h2, h3, h4, h5⟩ := atI_get he
  obtain ⟨w, ew, rw'⟩ := r.get h2
  have hl := r.length
  have hn := line63
  have hj : k.toNat = j := by
    rw [seqIndex_of h0 h5] at h1
    exact Option.some.inj h1
  exact wpAny_getItem_list pl.isList h0 (by omega) (by rw [hj]; simpa using ew) ⟨v, H, I, rw', q⟩
/-! ### match -/
structure PMc (X : Cx) (cs : List MatchCase) (t : V → TS) : Prop where
  run : ∀ (first : Bool) (pins : List (Addr × Obj)) (s : Shared) (σ : L2.St) (H : Hp) (v : V) (u : Value) (D : Ends), L2.Inv X pins σ H s → RelV v u → t v D σ H → wpAny (model X.prog X.w) X.A (matchCases cs X.env u first) (SP X pins D) X.xe s
theorem pmc_nil : PMc X [] (fun _ D σ H => D.nx σ H) := ⟨fun first pins s σ H v u D I r h => wpAny_matchCases_nil ⟨σ, H, I, h⟩⟩
/-- case n -/
theorem pmc_int {n : Int} {p1 p2 : Pos} {k : Nat} {body : List Stmt} {cs : List MatchCase} {tb : TS} {t : V → TS} (hb : PSs X body tb) (hc : PMc X cs t) :
    PMc X (⟨.MatchValue (.Constant (.int n) k p1) p2, none, body⟩ :: cs) (fun v D σ H => ∃ i, v = .int i ∧ (if i = n then tb D σ H else t v D σ H)) := by
  refine ⟨fun first pins s σ H v u D I r h => ?_⟩
  obtain ⟨i, rfl, h⟩ := h
  refine wpAny_matchCases_cons (wpAny_matchPattern_Value (thn ((pe_int (X := X) (i := n) (j := k) (pos := p1)).run pins s σ H (fun x H1 => x = .int n ∧ H1 = H) I ⟨rfl, rfl⟩) fun w s1 ⟨x, H1, I1, r1, q1⟩ => ?_))
  obtain ⟨rfl, rfl⟩ := q1
  refine thn (op_eq pins s1 σ H1 _ _ u w (fun x H2 => x = .bl (decide (V.int i = V.int n)) ∧ H2 = H1) I1 r r1 ⟨rfl, rfl, rfl⟩) fun c s2 ⟨x, H2, I2, r2, q2⟩ => ?_
  obtain ⟨rfl, rfl⟩ := q2
  cases r2
  refine wpAny_truthy_bool ?_
  by_cases e : i = n
  · subst e
    rw [if_pos rfl] at h
    rw [if_pos (decide_eq_true rfl)]
    exact wpAny_assignInOrder_none (hb.run pins s2 σ H2 D I2 h)
  · rw [if_neg e] at h
    rw [if_neg (by simpa using e)]
    exact hc.run false pins s2 σ H2 _ u D I2 r h
/-- case _ -/
theorem pmc_any {p : Pos} {body : List Stmt} {cs : List MatchCase} {tb : TS} (hb : PSs X body tb) : PMc X (⟨.MatchAs none none p, none, body⟩ :: cs) (fun _ D σ H => tb D σ H) :=
  ⟨fun first pins s σ H v u D I r h => wpAny_matchCases_cons (wpAny_matchPattern_Capture (wpAny_assignInOrder_none (hb.run pins s σ H D I h)))⟩
theorem ps_match {e : Expr} {cs : List MatchCase} {pos : Pos} {te : TE} {t : V → TS} (he : PE X e te) (hc : PMc X cs t) : PS X (.Match e cs pos) (fun D σ H => te σ H fun v H1 => t v D σ H1) :=
  ⟨fun pins s σ H D I h => wpAny_Match (thn (he.run pins s σ H _ I h) fun u s1 ⟨v, H1, I1, r1, q1⟩ => hc.run true pins s1 σ H1 v u D I1 r1 q1)⟩
/-! ### a method where no repr runs -/
variable {CX : CXT} {k : Nat} {f C : Addr} {fd : FuncData} {ps : List Str} {sp : Sp} {E : L2.St → XK} {m : Str} {pos apos : Pos} {e o : Expr} {es : List Expr} {ta : TE} {t : TA}
theorem pe_methG {pl : Sem Bool} (he : PE X o ta) (c : Cls X.K C) (hm : Meth X.K C m f) (F : FnG X.prog X.w X.K X.mg X.base CX k f fd ps sp) (hr : Room k X.A) (hgd : X.A.guards = some []) (hb : Binds X.K fd ps []) (hx : ∀ σ, PassesAt CX X σ (E σ)) (ha : PA X (e :: es) t)
    (hst : starEach (e :: es) X.env = (false, eval e X.env) :: starEach es X.env := by rfl) (hpl : (backTo pos (starEach es X.env)).any (·.1) = false := by rfl)
    (ht : eval (.Call (.Attribute o m apos) (e :: es) [] pos) X.env = (do
      let ov ← eval o X.env
      standAt apos.atName
      let (g, first) ← holding [ov] (getMethod ov m pl)
      callWith pos g first (backTo pos (starEach (e :: es) X.env)) (backToKw pos (keywordEach [] X.env))) := by rfl) :
    PE X (.Call (.Attribute o m apos) (e :: es) [] pos) (fun σ H Q => ta σ H fun x H1 => ∃ a dx fs, x = .ref a ∧ H1 a = some (.ins C dx fs) ∧ fs.lookup m = none ∧ t σ H1 fun vs H2 => sp (x :: vs) H2 Q (E σ)) := by
  refine ⟨fun pins s σ H Q I h => ?_⟩
  refine PySem.W.methodCall_KW (pl := pl) (thn (he.run pins s σ H _ I h) fun u s1 ⟨x, H1, I1, rx, a, dx, fs, ex, ea, l, q⟩ => ?_) ht
  subst ex
  obtain rfl : u = Value.ref a := rx
  refine getmeth_ok I1 ea c hm l ?_
  refine PySem.W.callWith_K (first := [.ref a]) (h₀ := X.base) I.ok.mod.kin hm.kp (thn (ha.run pos pins s1 σ H1 _ I1 q) fun us s2 ⟨vs, H2, I2, r, q2⟩ => ⟨I2.kIn, ?_⟩) hst hpl
  exact FnG.at (us := .ref a :: us) (vs := .ref a :: vs) F hr hgd hb (hx σ) I2 (.cons rfl r) q2
end
/-! ### a def that the evaluator knows, called by hand with data -/
theorem sr_vals {K : PySem.W.Frag} {H : Hp} : ∀ {vs : List V} {ds : List PyData}, DPs K H vs ds → SR K H H (ds.map S.val) (vs.map some) (fun _ => [])
  | _, _, .nil => SR.nil (Same.refl H)
  | _, _, .cons h r => by
    have q := SR.cons (s := .val _) (f := []) (sr_vals r) ⟨⟨h, rfl⟩, (fun _ z => nomatch z), fun _ z => nomatch z⟩
    have e : consF [] (fun _ => ([] : List Addr)) = fun _ => [] := by
      funext i
      cases i <;> rfl
    rw [e] at q
    exact q
theorem spOf_vals {K : PySem.W.Frag} {xr : XR} {n : Nat} {sem : List S → R S} {vs : List V} {ds : List PyData} {d : PyData} {ρ : List S} {H : Hp} {Q : VK} {E : XK} (hd : DPs K H vs ds) (hn : ds.length = n) (e : sem (ds.map S.val) = .ok (.val d) ρ)
    (h : ∀ v H', Same H H' → DP K H' v d → Q v H') : spOf K xr n sem vs H Q E := by
  refine ⟨by rw [hd.length]; exact hn, ds.map S.val, H, fun _ => [], by rw [List.length_map]; exact hn, sr_vals hd, ?_⟩
  rw [e]
  intro v G' H' φ' f st sr tm
  refine h v H' (fun a o z => st.keep a o z fun ⟨i, y⟩ => nomatch y) ?_
  exact tm.rel.1.mono sr.gh
end VE

/-! M1: equations for evaluating by simp; loops; draws. -/
namespace VE
open PySem L2
section
variable {Φ : Fns} {ρ : List S} {s : S}
@[simp] theorem slot_zero : slot (s :: ρ) 0 = s := rfl
@[simp] theorem slot_succ {i : Nat} : slot (s :: ρ) (i + 1) = slot ρ i := rfl
@[simp] theorem view_val {d : PyData} : view (.val d) = some d := rfl
@[simp] theorem view_lst {d : List PyData} : view (.lst d) = some (.list d) := rfl
@[simp] theorem view_dct {d : List (PyData × PyData)} : view (.dct d) = some (.dict d) := rfl
@[simp] theorem isVal_dct {d : List (PyData × PyData)} : isVal (.dct d) = false := rfl
@[simp] theorem dctO_none : dctO none = [] := rfl
@[simp] theorem dctO_str {k : Str} {d : PyData} : dctO (some (.inr k, d)) = [(.str k, d)] := rfl
@[simp] theorem dctO_int {k : Int} {d : PyData} : dctO (some (.inl k, d)) = [(.int k, d)] := rfl
@[simp] theorem toBool_bool {b : Bool} : VE.toBool (.val (.bool b)) = some b := rfl
@[simp] theorem isVal_val {d : PyData} : isVal (.val d) = true := rfl
@[simp] theorem isVal_lst {d : List PyData} : isVal (.lst d) = false := rfl
@[simp] theorem bare_val {d : PyData} : bare (.val d) = true := rfl
@[simp] theorem bare_dead : bare .dead = true := rfl
@[simp] theorem bare_lst {d : List PyData} : bare (.lst d) = false := rfl
@[simp] theorem res_pl {i : Nat} {t : Option PyData} : res (.pl i) t ρ = view (slot ρ i) := rfl
@[simp] theorem res_e {x : E} {t : Option PyData} : res (.e x) t ρ = t := rfl
@[simp] theorem fin1_eq {a : A} {t : Option S} {g : PyData → Option S} : fin1 a t ρ g = match res a (t.bind view) ρ with
  | some d => ofO (g d) ρ
  | none => .stk := rfl
@[simp] theorem fin2_eq {a b : A} {t u : Option S} {g : PyData → PyData → Option S} : fin2 a b t u ρ g = match res a (t.bind view) ρ, res b (u.bind view) ρ with
  | some d, some d' => ofO (g d d') ρ
  | _, _ => .stk := rfl
@[simp] theorem ress_nil : ress [] [] ρ = some [] := rfl
@[simp] theorem ress_cons {a : A} {as : List A} {t : Option PyData} {ts : List (Option PyData)} : ress (a :: as) (t :: ts) ρ = match res a t ρ, ress as ts ρ with
    | some d, some ds => some (d :: ds)
    | _, _ => none := rfl
@[simp] theorem resV_nil : resV [] [] ρ = some [] := rfl
@[simp] theorem resV_e {x : E} {as : List A} {s : S} {ts : List (Option S)} : resV (.e x :: as) (some s :: ts) ρ = match view s, resV as ts ρ with
    | some d, some ds => some (d :: ds)
    | _, _ => none := rfl
@[simp] theorem resS_nil : resS [] [] ρ = some [] := rfl
@[simp] theorem resS_e {x : E} {as : List A} {s : S} {ts : List (Option S)} : resS (.e x :: as) (some s :: ts) ρ = match resS as ts ρ with
    | some ds => some (s :: ds)
    | _ => none := rfl
@[simp] theorem lend_nil : lend [] [] ρ = some ([], ρ) := rfl
@[simp] theorem lend_pl {i : Nat} {as : List A} {t : Option S} {ts : List (Option S)} : lend (.pl i :: as) (t :: ts) ρ = match slot ρ i with
    | .dead => none
    | .val d => (lend as ts ρ).map fun (r, ρ') => (.val d :: r, ρ')
    | s => (lend as ts (ρ.set i .dead)).map fun (r, ρ') => (s :: r, ρ') := rfl
@[simp] theorem lend_e {x : E} {as : List A} {s : S} {ts : List (Option S)} : lend (.e x :: as) (some s :: ts) ρ = (lend as ts ρ).map fun (r, ρ') => (s :: r, ρ') := rfl
@[simp] theorem giveBack_nil {ss fs : List S} : giveBack [] ss fs ρ = ρ := rfl
@[simp] theorem giveBack_pl {i : Nat} {as : List A} {f : S} {ss fs : List S} : giveBack (.pl i :: as) (s :: ss) (f :: fs) ρ = giveBack as ss fs (if isVal s then ρ else ρ.set i f) := rfl
@[simp] theorem giveBack_e {x : E} {as : List A} {f : S} {ss fs : List S} : giveBack (.e x :: as) (s :: ss) (f :: fs) ρ = giveBack as ss fs ρ := rfl
@[simp] theorem evA_pl {i : Nat} : evA Φ (.pl i) ρ = match slot ρ i with
    | .dead => .stk
    | _ => .ok none ρ := by rw [evA] <;> rfl
@[simp] theorem evA_e {x : E} : evA Φ (.e x) ρ = (evE Φ x ρ).bnd fun s ρ' => .ok (some s) ρ' := by rw [evA] <;> rfl
@[simp] theorem evAs_nil : evAs Φ [] ρ = .ok [] ρ := by rw [evAs] <;> rfl
@[simp] theorem evAs_cons {a : A} {as : List A} : evAs Φ (a :: as) ρ = (evA Φ a ρ).bnd fun s ρ' => (evAs Φ as ρ').bnd fun ss ρ'' => .ok (s :: ss) ρ'' := by rw [evAs] <;> rfl
@[simp] theorem evBs_one {k : Bool} {x : E} : evBs Φ k [x] ρ = evE Φ x ρ := by rw [evBs] <;> rfl
@[simp] theorem evBs_cons {k : Bool} {x y : E} {r : List E} : evBs Φ k (x :: y :: r) ρ = (evE Φ x ρ).bnd fun s ρ' => match VE.toBool s with
    | some b => if b = k then evBs Φ k (y :: r) ρ' else .ok (.val (.bool b)) ρ'
    | none => .stk := by rw [evBs] <;> rfl
@[simp] theorem evC_none : evC Φ none ρ = .ok true ρ := by rw [evC] <;> rfl
@[simp] theorem evC_some {c : E} : evC Φ (some c) ρ = (evE Φ c ρ).bnd fun s ρ' => ofO (VE.toBool s) ρ' := by rw [evC] <;> rfl
@[simp] theorem evE_rd_val {i : Nat} {m : Bool} : evE Φ (.rd i m) ρ = match slot ρ i with
    | .dead => .stk
    | .val d => .ok (.val d) ρ
    | s => if m then .ok s (ρ.set i .dead) else match view s with
      | some d => .ok (.val d) (ρ.set i (.val d))
      | none => .stk := by rw [evE] <;> rfl
@[simp] theorem evE_cst {d : PyData} : evE Φ (.cst d) ρ = .ok (.val d) ρ := by rw [evE] <;> rfl
@[simp] theorem evE_glob {g : Nat} : evE Φ (.glob g) ρ = .ok (.val (Φ.gl g)) ρ := by rw [evE] <;> rfl
@[simp] theorem evE_bin {o : Bop} {a b : A} : evE Φ (.bin o a b) ρ = (evA Φ a ρ).bnd fun t ρ' => (evA Φ b ρ').bnd fun u ρ'' => fin2 a b t u ρ'' (opB o) := by rw [evE] <;> rfl
@[simp] theorem evE_neg {a : A} : evE Φ (.neg a) ρ = (evA Φ a ρ).bnd fun t ρ' => fin1 a t ρ' opNeg := by rw [evE] <;> rfl
@[simp] theorem evE_not {a : E} : evE Φ (.not a) ρ = (evE Φ a ρ).bnd fun s ρ' => match VE.toBool s with
    | some b => .ok (.val (.bool (!b))) ρ'
    | none => .stk := by rw [evE] <;> rfl
@[simp] theorem evE_cmp {o : Cop} {a b : A} : evE Φ (.cmp o a b) ρ = (evA Φ a ρ).bnd fun t ρ' => (evA Φ b ρ').bnd fun u ρ'' => fin2 a b t u ρ'' (cmpS o) := by rw [evE] <;> rfl
@[simp] theorem evE_chain {o₁ o₂ : Cop} {a b c : A} : evE Φ (.chain o₁ o₂ a b c) ρ = (evA Φ a ρ).bnd fun t ρ' => (evA Φ b ρ').bnd fun u ρ'' => match res a (t.bind view) ρ'', res b (u.bind view) ρ'' with
    | some d, some d' => match opC o₁ d d' with
      | some true => (evA Φ c ρ'').bnd fun z ρ3 => fin2 b c u z ρ3 (cmpS o₂)
      | some false => .ok (.val (.bool false)) ρ''
      | none => .stk
    | _, _ => .stk := by rw [evE] <;> rfl
@[simp] theorem evE_bop {k : Bool} {es : List E} : evE Φ (.bop k es) ρ = evBs Φ k es ρ := by rw [evE] <;> rfl
@[simp] theorem evE_ite {c a b : E} : evE Φ (.ite c a b) ρ = (evE Φ c ρ).bnd fun s ρ' => match VE.toBool s with
    | some true => evE Φ a ρ'
    | some false => evE Φ b ρ'
    | none => .stk := by rw [evE] <;> rfl
@[simp] theorem evE_idx {a b : A} : evE Φ (.idx a b) ρ = (evA Φ a ρ).bnd fun t ρ' => (evA Φ b ρ').bnd fun u ρ'' => fin2 a b t u ρ'' ixS := by rw [evE] <;> rfl
@[simp] theorem evE_slice {k : Sl} {as : List A} : evE Φ (.slice k as) ρ = (evAs Φ as ρ).bnd fun ts ρ' => match ress as (ts.map (·.bind view)) ρ' with
    | some ds => ofO (opSl k ds) ρ'
    | none => .stk := by rw [evE] <;> rfl
@[simp] theorem evE_tup {as : List A} : evE Φ (.tup as) ρ = (evAs Φ as ρ).bnd fun ts ρ' => match resV as ts ρ' with
    | some ds => if decide (ds.length ≤ sizeLine) then .ok (.val (.tuple ds)) ρ' else .stk
    | none => .stk := by rw [evE] <;> rfl
@[simp] theorem evE_lst {as : List A} : evE Φ (.lst as) ρ = (evAs Φ as ρ).bnd fun ts ρ' => match resV as ts ρ' with
    | some ds => if decide (ds.length ≤ sizeLine) then .ok (.lst ds) ρ' else .stk
    | none => .stk := by rw [evE] <;> rfl
@[simp] theorem evE_call {f : Nat} {as : List A} : evE Φ (.call f as) ρ = (evAs Φ as ρ).bnd fun ts ρ' => match lend as ts ρ' with
    | some (ss, ρ'') => match Φ.fn f ss with
      | .stk => .stk
      | .ok s fs => .ok s (giveBack as ss fs ρ'')
      | .exc c d fs => .exc c d (giveBack as ss fs ρ'')
    | none => .stk := by rw [evE] <;> rfl
@[simp] theorem evE_blt {f : Blt} {as : List A} : evE Φ (.blt f as) ρ = (evAs Φ as ρ).bnd fun ts ρ' => match ress as (ts.map (·.bind view)) ρ' with
    | some ds => ofO (opBlt f ds) ρ'
    | none => .stk := by rw [evE] <;> rfl
@[simp] theorem evE_mut {m : Mut} {i : Nat} {as : List A} : evE Φ (.mut m i as) ρ = match slot ρ i with
    | .lst _ => (evAs Φ as ρ).bnd fun ts ρ' => match slot ρ' i, resV as ts ρ' with
      | .lst xs, some ds => match opMut m xs ds with
        | some (d, ys) => .ok (.val d) (ρ'.set i (.lst ys))
        | none => .stk
      | _, _ => .stk
    | _ => .stk := by rw [evE] <;> rfl
@[simp] theorem evE_ext {i : Nat} {x : E} : evE Φ (.ext i x) ρ = match slot ρ i with
    | .lst _ => (evE Φ x ρ).bnd fun s ρ' => match slot ρ' i, s with
      | .lst xs, .lst ys => if decide (xs.length + ys.length ≤ sizeLine) then .ok (.val .none) (ρ'.set i (.lst (xs ++ ys))) else .stk
      | _, _ => .stk
    | _ => .stk := by rw [evE] <;> rfl
@[simp] theorem evE_sm {k : SM} {o x : A} : evE Φ (.sm k o x) ρ = (evA Φ o ρ).bnd fun t ρ' => match res o (t.bind view) ρ' with
    | some (.str a) => (evA Φ x ρ').bnd fun u ρ'' => fin1 x u ρ'' (opSm k a)
    | _ => .stk := by rw [evE] <;> rfl
@[simp] theorem evE_lrg {as : List A} : evE Φ (.lrg as) ρ = (evAs Φ as ρ).bnd fun ts ρ' => match ress as (ts.map (·.bind view)) ρ' with
    | some [.int n] => if rgOk 0 n then .ok (.lst (rng 0 n)) ρ' else .stk
    | some [.int m, .int n] => if rgOk m n then .ok (.lst (rng m n)) ρ' else .stk
    | _ => .stk := by rw [evE] <;> rfl
@[simp] theorem evE_lset {a : A} : evE Φ (.lset a) ρ = (evA Φ a ρ).bnd fun t ρ' => fin1 a t ρ' opSetLen := by rw [evE]
@[simp] theorem evS_expr {x : E} : evS Φ (.expr x) ρ = (evE Φ x ρ).bnd fun _ ρ' => .ok .nx ρ' := by rw [evS] <;> rfl
@[simp] theorem evS_asg {i : Nat} {x : E} : evS Φ (.asg i x) ρ = (evE Φ x ρ).bnd fun s ρ' => .ok .nx (ρ'.set i s) := by rw [evS] <;> rfl
@[simp] theorem evS_par {is : List Nat} {as : List A} : evS Φ (.par is as) ρ = (evAs Φ as ρ).bnd fun ts ρ' => match resS as ts ρ' with
    | some ss => if is.length = ss.length then .ok .nx (sets is ss ρ') else .stk
    | none => .stk := by rw [evS] <;> rfl
@[simp] theorem evS_unp {is : List Nat} {x : E} : evS Φ (.unp is x) ρ = (evE Φ x ρ).bnd fun s ρ' => match view s with
    | some d => match unpk is.length d with
      | some ds => .ok .nx (sets is (ds.map S.val) ρ')
      | none => .stk
    | none => .stk := by rw [evS] <;> rfl
@[simp] theorem evS_setit {i : Nat} {k : A} {x : E} : evS Φ (.setit i k x) ρ = (evE Φ x ρ).bnd fun s ρ' => match slot ρ' i with
    | .lst _ => (evA Φ k ρ').bnd fun t ρ'' => match view s, res k (t.bind view) ρ'', slot ρ'' i with
      | some d, some (.int j), .lst xs => match ixN xs.length j with
        | some n => .ok .nx (ρ''.set i (.lst (xs.set n d)))
        | none => .stk
      | _, _, _ => .stk
    | _ => .stk := by rw [evS] <;> rfl
@[simp] theorem evS_augl {i : Nat} {x : E} : evS Φ (.augl i x) ρ = match slot ρ i with
    | .lst _ => (evE Φ x ρ).bnd fun s ρ' => match slot ρ' i, s with
      | .lst xs, .lst ys => if decide (xs.length + ys.length ≤ sizeLine) then .ok .nx (ρ'.set i (.lst (xs ++ ys))) else .stk
      | _, _ => .stk
    | _ => .stk := by rw [evS] <;> rfl
@[simp] theorem evS_ret {x : E} : evS Φ (.ret x) ρ = (evE Φ x ρ).bnd fun s ρ' => .ok (.ret s) ρ' := by rw [evS] <;> rfl
@[simp] theorem evS_retN : evS Φ .retN ρ = .ok (.ret (.val .none)) ρ := by rw [evS] <;> rfl
@[simp] theorem evS_ite {c : E} {a b : List St} : evS Φ (.ite c a b) ρ = (evE Φ c ρ).bnd fun s ρ' => match VE.toBool s with
    | some true => evSs Φ a ρ'
    | some false => evSs Φ b ρ'
    | none => .stk := by rw [evS] <;> rfl
@[simp] theorem evS_while {n : Nat} {c : E} {b : List St} : evS Φ (.while_ n c b) ρ = whl (evE Φ c) (evSs Φ b) n ρ := by rw [evS] <;> rfl
@[simp] theorem evS_brk : evS Φ .brk ρ = .ok .brk ρ := by rw [evS] <;> rfl
@[simp] theorem evS_cont : evS Φ .cont ρ = .ok .cont ρ := by rw [evS] <;> rfl
@[simp] theorem evS_pass : evS Φ .pass ρ = .ok .nx ρ := by rw [evS] <;> rfl
@[simp] theorem evSs_nil : evSs Φ [] ρ = .ok .nx ρ := by rw [evSs] <;> rfl
@[simp] theorem evSs_cons {s : St} {r : List St} : evSs Φ (s :: r) ρ = (evS Φ s ρ).bnd fun f ρ' => match f with
    | .nx => evSs Φ r ρ'
    | f => .ok f ρ' := by rw [evSs] <;> rfl
@[simp] theorem evS_aug {i : Nat} {o : Bop} {a : A} : evS Φ (.aug i o a) ρ = match slot ρ i with
    | .val d => (evA Φ a ρ).bnd fun t ρ' => match res a (t.bind view) ρ' with
      | some d' => match opAug o d d' with
        | some c => .ok .nx (ρ'.set i (.val (.int c)))
        | none => .stk
      | none => .stk
    | _ => .stk := by rw [evS] <;> rfl
@[simp] theorem opAug_add {a b : Int} : opAug .add (.int a) (.int b) = some (a + b) := rfl
@[simp] theorem opAug_sub {a b : Int} : opAug .sub (.int a) (.int b) = some (a - b) := rfl
@[simp] theorem opAug_mul {a b : Int} : opAug .mul (.int a) (.int b) = if decide (a.natAbs < 2 ^ 64) || decide (b.natAbs < 2 ^ 64) then some (a * b) else none := rfl
@[simp] theorem sets_nil {ss : List S} : sets [] ss ρ = ρ := rfl
@[simp] theorem sets_cons {i : Nat} {is : List Nat} {ss : List S} : sets (i :: is) (s :: ss) ρ = sets is ss (ρ.set i s) := rfl
@[simp] theorem kill_nil : kill [] ρ = ρ := rfl
@[simp] theorem kill_cons {i : Nat} {is : List Nat} : kill (i :: is) ρ = kill is (ρ.set i .dead) := rfl
@[simp] theorem putBack_nil {σ : List S} : putBack σ [] ρ = ρ := rfl
@[simp] theorem putBack_cons {σ : List S} {i : Nat} {is : List Nat} : putBack σ (i :: is) ρ = putBack σ is (ρ.set i (slot σ i)) := rfl
@[simp] theorem tgs_nm {i : Nat} : tgs (.nm i) = [i] := rfl
@[simp] theorem tgs_tp {is : List Nat} : tgs (.tp is) = is := rfl
@[simp] theorem bindT_nm {i : Nat} {d : PyData} : bindT (.nm i) d ρ = some (ρ.set i (.val d)) := rfl
@[simp] theorem bindT_tp {is : List Nat} {ds : List PyData} : bindT (.tp is) (.tuple ds) ρ = if ds.length = is.length then some (sets is (ds.map S.val) ρ) else none := rfl
@[simp] theorem fins_zero {asg : List Nat} : fins asg 0 ρ = [] := rfl
@[simp] theorem fins_succ {asg : List Nat} {n : Nat} : fins asg (n + 1) ρ = fins asg n ρ ++ [if n ∈ asg then .dead else slot ρ n] := by
  unfold fins
  rw [List.range_succ, List.map_append]
  rfl
@[simp] theorem opB_add {a b : Int} : opB .add (.int a) (.int b) = some (.val (.int (a + b))) := rfl
@[simp] theorem opB_sub {a b : Int} : opB .sub (.int a) (.int b) = some (.val (.int (a - b))) := rfl
@[simp] theorem opB_mul {a b : Int} : opB .mul (.int a) (.int b) = if mulOk a b then some (.val (.int (a * b))) else none := rfl
@[simp] theorem opB_fdiv {a b : Int} : opB .fdiv (.int a) (.int b) = if divOk b then some (.val (.int (a / b))) else none := rfl
@[simp] theorem opB_mod {a b : Int} : opB .mod (.int a) (.int b) = if decide (0 < b) then some (.val (.int (a % b))) else none := rfl
@[simp] theorem opB_pow {a b : Int} : opB .pow (.int a) (.int b) = if powOk a b then some (.val (.int (a ^ b.toNat))) else none := rfl
@[simp] theorem opB_lcat {a b : List PyData} : opB .add (.list a) (.list b) = if decide (a.length + b.length ≤ sizeLine) then some (.lst (a ++ b)) else none := rfl
@[simp] theorem opB_lrep {a : List PyData} {k : Int} : opB .mul (.list a) (.int k) = if (decide (0 ≤ k) && decide (k < 2 ^ 63)) && decide (a.length * k.toNat ≤ sizeLine) then some (.lst (List.replicate k.toNat a).flatten) else none := rfl
@[simp] theorem opNeg_int {a : Int} : opNeg (.int a) = some (.val (.int (-a))) := rfl
@[simp] theorem cmpS_eq {o : Cop} {d e : PyData} : cmpS o d e = (opC o d e).map fun k => .val (.bool k) := rfl
@[simp] theorem ixS_eq {d e : PyData} : ixS d e = (opIx d e).map .val := rfl
@[simp] theorem opIx_list {xs : List PyData} {i : Int} : opIx (.list xs) (.int i) = atI xs i := rfl
@[simp] theorem opIx_tup {xs : List PyData} {i : Int} : opIx (.tuple xs) (.int i) = atI xs i := rfl
@[simp] theorem opC_lt {a b : Int} : opC .lt (.int a) (.int b) = some (decide (a < b)) := rfl
@[simp] theorem opC_le {a b : Int} : opC .le (.int a) (.int b) = some (decide (a ≤ b)) := rfl
@[simp] theorem opC_gt {a b : Int} : opC .gt (.int a) (.int b) = some (decide (b < a)) := rfl
@[simp] theorem opC_ge {a b : Int} : opC .ge (.int a) (.int b) = some (decide (b ≤ a)) := rfl
theorem sh_int {a : Int} : SeqAt.shaped (.int a) = true := rfl
@[simp] theorem opC_eqI {a b : Int} : opC .eq (.int a) (.int b) = some (decide (a = b)) := by
  show (if SeqAt.shaped (.int a) && SeqAt.shaped (.int b) then some (PyData.eqv (.int a) (.int b)) else none) = _
  rw [sh_int, sh_int]
  simp [PyData.eqv]
  by_cases h : a = b <;> simp [h]
@[simp] theorem opC_neI {a b : Int} : opC .ne (.int a) (.int b) = some (decide (a ≠ b)) := by
  show (if SeqAt.shaped (.int a) && SeqAt.shaped (.int b) then some (!PyData.eqv (.int a) (.int b)) else none) = _
  rw [sh_int, sh_int]
  simp [PyData.eqv]
  by_cases h : a = b <;> simp [h]
end
/-- small numbers -/
theorem log2_lt {a : Int} {n : Nat} (hn : 0 < n) (h : -(2 : Int) ^ n < a) (h2 : a < 2 ^ n) : a.natAbs.log2 < n := by
  by_cases e : a.natAbs = 0
  · rw [e]; simpa using hn
  · rw [Nat.log2_lt e]
    have q : ((2 : Int) ^ n) = ((2 ^ n : Nat) : Int) := by simp
    rw [q] at h h2
    omega
end VE
namespace VE
open PySem L2
section
variable {Φ : Fns} {ρ : List S}
@[simp] theorem evIt_rng1 {a : A} : evIt Φ (.rng1 a) ρ = (evA Φ a ρ).bnd fun t ρ' => match res a (t.bind view) ρ' with
    | some (.int n) => if decide (n.natAbs < 2 ^ 60) then .ok (rng 0 n, none) ρ' else .stk
    | _ => .stk := by rw [evIt] <;> rfl
@[simp] theorem evIt_rng2 {a b : A} : evIt Φ (.rng2 a b) ρ = (evA Φ a ρ).bnd fun t ρ' => (evA Φ b ρ').bnd fun u ρ'' => match res a (t.bind view) ρ'', res b (u.bind view) ρ'' with
    | some (.int m), some (.int n) => if decide (m.natAbs < 2 ^ 60 ∧ n.natAbs < 2 ^ 60) then .ok (rng m n, none) ρ'' else .stk
    | _, _ => .stk := by rw [evIt] <;> rfl
@[simp] theorem evIt_rng3 {as : List A} : evIt Φ (.rng3 as) ρ = (evAs Φ as ρ).bnd fun ts ρ' => match ress as (ts.map (·.bind view)) ρ' with
    | some [.int i, .int j, .int k] => if decide (i.natAbs < 2 ^ 60 ∧ j.natAbs < 2 ^ 60 ∧ 0 < k ∧ k < 1000000000) then .ok (rngC i k (cntC i j k), none) ρ' else .stk
    | _ => .stk := by rw [evIt] <;> rfl
@[simp] theorem evE_rev {a : A} : evE Φ (.rev a) ρ = (evA Φ a ρ).bnd fun t ρ' => fin1 a t ρ' opRev := by rw [evE]
@[simp] theorem evE_lm {k : LM} {i : Nat} {x : A} : evE Φ (.lm k i x) ρ = match view (slot ρ i) with
    | some (.list _) => (evA Φ x ρ).bnd fun u ρ' => fin2 (.pl i) x none u ρ' (opLm k)
    | _ => .stk := by rw [evE] <;> rfl
@[simp] theorem evE_dcst {o : Option (Key × PyData)} : evE Φ (.dcst o) ρ = .ok (.dct (dctO o)) ρ := by rw [evE]
@[simp] theorem evIt_seq {a : A} : evIt Φ (.seq a) ρ = (evA Φ a ρ).bnd fun t ρ' => match res a (t.bind view) ρ' with
    | some d => match items d with
      | some xs => holdO a xs ρ'
      | none => .stk
    | none => .stk := by rw [evIt] <;> rfl
@[simp] theorem evIt_chars {a : A} : evIt Φ (.chars a) ρ = (evA Φ a ρ).bnd fun t ρ' => match res a (t.bind view) ρ' with
    | some (.str z) => .ok (chars z, none) ρ'
    | _ => .stk := by rw [evIt] <;> rfl
@[simp] theorem evIt_enum {a : A} : evIt Φ (.enum a) ρ = (evA Φ a ρ).bnd fun t ρ' => match res a (t.bind view) ρ' with
    | some (.list xs) => holdO a (enumFrom xs) ρ'
    | _ => .stk := by rw [evIt] <;> rfl
@[simp] theorem items_list {xs : List PyData} : items (.list xs) = some xs := rfl
@[simp] theorem items_tuple {xs : List PyData} : items (.tuple xs) = some xs := rfl
@[simp] theorem holdO_pl {i : Nat} {xs : List PyData} : holdO (.pl i) xs ρ = if isVal (slot ρ i) = true then .ok (xs, none) ρ else .ok (xs, some (i, slot ρ i)) (ρ.set i .dead) := rfl
@[simp] theorem holdO_e {x : E} {xs : List PyData} : holdO (.e x) xs ρ = .ok (xs, none) ρ := rfl
@[simp] theorem noExc_ok' {α : Type} {a : α} : noExc (R.ok a ρ) = R.ok a ρ := rfl
@[simp] theorem putH_none : putH none ρ = ρ := rfl
@[simp] theorem putH_some {i : Nat} {s : S} : putH (some (i, s)) ρ = ρ.set i s := rfl
@[simp] theorem finF_ok {h : Option (Nat × S)} {f : F} : finF h (.ok f ρ) = .ok f (putH h ρ) := rfl
@[simp] theorem restore_none {t : Tg} {ρ1 ρ6 : List S} : restore none t ρ1 ρ6 = putBack ρ1 (tgs t) ρ6 := rfl
@[simp] theorem restore_some {t : Tg} {ρ1 ρ6 : List S} {i : Nat} {s : S} : restore (some (i, s)) t ρ1 ρ6 = (putBack ρ1 (tgs t) ρ6).set i s := rfl
@[simp] theorem bodyF_eq {t : Tg} {b : List St} {d : PyData} : bodyF Φ t b d ρ = match bindT t d ρ with
  | some ρ3 => evSs Φ b ρ3
  | none => .stk := rfl
@[simp] theorem turnF_eq {t : Tg} {c : Option E} {x : E} {d : PyData} : turnF Φ t c x d ρ = match bindT t d ρ with
      | some ρ3 => (evC Φ c ρ3).bnd fun k ρ4 => if k = true then (evE Φ x ρ4).bnd fun s ρ5 => match view s with
          | some v => .ok (some v) (kill (tgs t) ρ5)
          | none => .stk
        else .ok none (kill (tgs t) ρ4)
      | none => .stk := rfl
theorem turns_ok {f : PyData → List S → R (Option PyData)} {g : PyData → Option PyData} {ρ : List S} : ∀ (xs acc : List PyData), (∀ x ∈ xs, f x ρ = .ok (g x) ρ) → acc.length + xs.length ≤ sizeLine → turns f xs acc ρ = .ok (acc ++ xs.filterMap g) ρ
  | [], acc, _, _ => by simp [turns]
  | x :: xs, acc, h, hl => by
    rw [turns, h x List.mem_cons_self]
    simp only [R.bnd_ok]
    have hl' : acc.length + (xs.length + 1) ≤ sizeLine := hl
    cases e : g x with
    | none =>
      simp only [List.filterMap_cons, e]
      exact turns_ok xs acc (fun y hy => h y (List.mem_cons_of_mem _ hy)) (by omega)
    | some d =>
      simp only [List.filterMap_cons, e]
      rw [if_pos (by omega), turns_ok xs (acc ++ [d]) (fun y hy => h y (List.mem_cons_of_mem _ hy)) (by rw [List.length_append, List.length_singleton]; omega), List.append_assoc]
      rfl
theorem loop_ok {f : PyData → List S → R F} (I : Nat → List S → Prop) : ∀ (xs : List PyData) (i : Nat) (ρ : List S), I i ρ → (∀ j x ρ, xs[j]? = some x → I (i + j) ρ → ∃ ρ', (f x ρ = .ok .nx ρ' ∨ f x ρ = .ok .cont ρ') ∧ I (i + j + 1) ρ') → ∃ ρ', loop f xs ρ = .ok .nx ρ' ∧ I (i + xs.length) ρ'
  | [], i, ρ, h, _ => ⟨ρ, rfl, h⟩
  | x :: xs, i, ρ, h, hs => by
    obtain ⟨ρ1, e1, h1⟩ := hs 0 x ρ rfl h
    obtain ⟨ρ2, e2, h2⟩ := loop_ok I xs (i + 1) ρ1 h1 fun j y ρ hy hI => by
      have q := hs (j + 1) y ρ hy (by rw [show i + (j + 1) = i + 1 + j by omega]; exact hI)
      rw [show i + (j + 1) + 1 = i + 1 + j + 1 by omega] at q
      exact q
    refine ⟨ρ2, ?_, by rw [List.length_cons, show i + (xs.length + 1) = i + 1 + xs.length by omega]; exact h2⟩
    rw [loop]
    rcases e1 with e1 | e1 <;> rw [e1] <;> exact e2
theorem rng_get {n : Nat} {j : Nat} {x : PyData} (h : (rng 0 (n : Int))[j]? = some x) : j < n ∧ x = .int j := by
  unfold rng at h
  rw [List.getElem?_map] at h
  have e : ((n : Int) - 0).toNat = n := by omega
  rw [e] at h
  by_cases hj : j < n
  · rw [List.getElem?_range hj] at h
    refine ⟨hj, ?_⟩
    simpa using h.symm
  · rw [List.getElem?_eq_none (by simpa using hj)] at h
    cases h
theorem rng_len {n : Nat} : (rng 0 (n : Int)).length = n := by
  unfold rng
  simp
theorem loop_rng {f : PyData → List S → R F} (I : Nat → List S → Prop) (n : Nat) {ρ : List S} (h0 : I 0 ρ) (hs : ∀ i ρ, i < n → I i ρ → ∃ ρ', (f (.int i) ρ = .ok .nx ρ' ∨ f (.int i) ρ = .ok .cont ρ') ∧ I (i + 1) ρ') : ∃ ρ', loop f (rng 0 (n : Int)) ρ = .ok .nx ρ' ∧ I n ρ' := by
  have q := loop_ok (f := f) I (rng 0 (n : Int)) 0 ρ h0 fun j x ρ hx hI => by
    obtain ⟨h1, rfl⟩ := rng_get hx
    rw [Nat.zero_add] at hI ⊢
    exact hs j ρ h1 hI
  rw [rng_len, Nat.zero_add] at q
  exact q
theorem mem_rng {n : Nat} {x : PyData} (h : x ∈ rng 0 (n : Int)) : ∃ i : Nat, i < n ∧ x = .int i := by
  obtain ⟨j, hj⟩ := List.getElem?_of_mem h
  exact ⟨j, (rng_get hj).1, (rng_get hj).2⟩
theorem mulOk_l {a b : Int} (h : a.natAbs < 2 ^ 64) : mulOk a b = true := by
  unfold mulOk
  rw [decide_eq_true h]
  rfl
theorem mulOk_r {a b : Int} (h : b.natAbs < 2 ^ 64) : mulOk a b = true := by
  unfold mulOk
  rw [decide_eq_true h, Bool.or_true, Bool.true_or]
theorem mulOk_b {a b : Int} (ha : -(2 : Int) ^ 1000 < a) (ha2 : a < 2 ^ 1000) (hb : -(2 : Int) ^ 1000 < b) (hb2 : b < 2 ^ 1000) : mulOk a b = true := by
  have h1 := log2_lt (by omega) ha ha2
  have h2 := log2_lt (by omega) hb hb2
  unfold mulOk
  rw [decide_eq_true (p := a.natAbs.log2 + b.natAbs.log2 < 1000000) (by omega), Bool.or_true]
theorem divOk_of {b : Int} (h : 0 < b) (h2 : b < 2 ^ 1000) : divOk b = true := by
  have h1 := log2_lt (n := 1000) (by omega) (show -(2 : Int) ^ 1000 < b by omega) h2
  unfold divOk
  rw [decide_eq_true h, decide_eq_true (p := b.natAbs.log2 < 9000) (by omega)]
  rfl
theorem powOk_of {a b : Int} (h : 0 ≤ b) (h2 : b ≤ 1000) (ha : -(2 : Int) ^ 1000 < a) (ha2 : a < 2 ^ 1000) : powOk a b = true := by
  have h1 := log2_lt (by omega) ha ha2
  unfold powOk
  rw [decide_eq_true h, decide_eq_true h2, decide_eq_true h1]
  rfl
end
end VE
namespace VE
open PySem L2
theorem repr_int {n : Int} (h : -(2 : Int) ^ 1000 < n) (h2 : n < 2 ^ 1000) : opBlt .repr [.int n] = some (.val (.str (Str.ofString (toString n)))) := by
  have h3 := log2_lt (by omega) h h2
  have e : (PyData.int n).shown = Str.ofString (toString n) := rfl
  have q : (PyData.int n).shown.length ≤ sizeLine := by
    rw [e]
    exact int_text_fits (by omega)
  have s1 : (PyData.int n).showable = true := decide_eq_true (by omega)
  show (if PyData.showable (.int n) && decide ((PyData.int n).shown.length ≤ sizeLine) && decide ((PyData.int n).depth ≤ 60) && !(PyData.int n).hasDict then some (S.val (.str (PyData.int n).shown)) else none) = _
  rw [decide_eq_true q, s1]
  rfl
@[simp] theorem opC_neStr {a b : Str} : opC .ne (.str a) (.str b) = some (!decide (a = b)) := rfl
@[simp] theorem opC_eqStr {a b : Str} : opC .eq (.str a) (.str b) = some (decide (a = b)) := rfl
@[simp] theorem opC_neNil : opC .ne (.list []) (.list []) = some false := by
  decide
@[simp] theorem opBlt_max2 {a b : Int} : opBlt .max2 [.int a, .int b] = some (.val (.int (if b > a then b else a))) := rfl
@[simp] theorem opBlt_min2 {a b : Int} : opBlt .min2 [.int a, .int b] = some (.val (.int (if b < a then b else a))) := rfl
@[simp] theorem opBlt_len {a : List PyData} : opBlt .len [.list a] = if decide (a.length ≤ sizeLine) then some (.val (.int a.length)) else none := rfl
@[simp] theorem opBlt_lenT {a : List PyData} : opBlt .len [.tuple a] = if decide (a.length ≤ sizeLine) then some (.val (.int a.length)) else none := rfl
@[simp] theorem unpk_tup {n : Nat} {ds : List PyData} : unpk n (.tuple ds) = if ds.length = n then some ds else none := rfl
@[simp] theorem opRev_list {xs : List PyData} : opRev (.list xs) = some (.lst xs.reverse) := rfl
@[simp] theorem opSl_hi {xs : List PyData} {j : Int} : opSl .hi [.list xs, .int j] = some (.lst (cutD xs none (some j))) := rfl
@[simp] theorem opSl_lo {xs : List PyData} {i : Int} : opSl .lo [.list xs, .int i] = some (.lst (cutD xs (some i) none)) := rfl
theorem cutD_sub {xs : List PyData} {lo hi : Option Int} : (cutD xs lo hi).Sublist xs := (List.take_sublist ..).trans (List.drop_sublist ..)
theorem atI_in {α : Type} {xs : List α} {i : Int} (h : 0 ≤ i) (h2 : i < xs.length) : ∃ d ∈ xs, atI xs i = some d := by
  obtain ⟨n, rfl⟩ := Int.eq_ofNat_of_zero_le h
  have hn : n < xs.length := by omega
  exact ⟨xs[n], List.getElem_mem hn, atI_nat (List.getElem?_eq_getElem hn)⟩
end VE

namespace VEL
open PySem L2 PySem.Spec PyProof.Rows VE
def top (i : Nat) : Stmt := PySem.Challenge.pw_splitnames_k03_schedules_with_an_outcome.main.body.getD i (.Pass ⟨0, 0, 0, 0⟩)
def g_RESULTS : PyData := (.tuple [(.str ("stop" : Str)), (.str ("right" : Str)), (.str ("down" : Str))])
def g_STOP : PyData := (.str ("stop" : Str))
def g_RIGHT : PyData := (.str ("right" : Str))
def g_DOWN : PyData := (.str ("down" : Str))
def g_MOST_COUNT : PyData := (.int 40)
/-! _law_cup(script, k): 0 script, 1 k, 2 cell -/
def b__law_cup : List VE.St := [(.asg 2 (.cst (.int 0))), (.ite (.cmp .lt (.pl 1) (.e (.blt .len [(.pl 0)]))) [(.asg 2 (.idx (.pl 0) (.pl 1)))] []), (.ret (.lst [(.e (.blt .max2 [(.e (.cst (.int 0))), (.e (.bin .sub (.pl 2) (.e (.bin .pow (.e (.cst (.int 10))) (.e (.cst (.int 18)))))))])), (.e (.bin .add (.e (.bin .add (.e (.bin .mod (.pl 2) (.e (.bin .add (.e (.bin .pow (.e (.cst (.int 10))) (.e (.cst (.int 38))))) (.e (.cst (.int 343))))))) (.e (.bin .mul (.e (.cst (.int 700171))) (.pl 1))))) (.e (.cst (.int 3))))), (.e (.cst (.int 0)))]))]
theorem a__law_cup : asgSs b__law_cup = [2, 2] := by decide +kernel
def p__law_cup : Fns := ⟨fun i => match i with  | _ => fun _ => .stk, fun i => match i with  | _ => .none⟩
def s__law_cup : List S → R S := evDef p__law_cup 2 1 (asgSs b__law_cup) b__law_cup
theorem u__law_cup (ss : List S) : s__law_cup ss = evDef p__law_cup 2 1 [2, 2] b__law_cup ss := by
  unfold s__law_cup
  rw [a__law_cup]
theorem sc__law_cup : FnScope ["script", "k", "cell"] ["script", "k"] (defScope (top 21)) := ⟨rfl, rfl, rfl, by decide +kernel, rfl, by decide +kernel, by decide +kernel⟩
theorem ck__law_cup : ckSs ⟨["script", "k", "cell"], [], []⟩ (defScope (top 21)) b__law_cup (defBody (top 21)) = true := by decide +kernel
/-! _law_sip(cup, many): 0 cup, 1 many, 2 mixed, 3 found -/
def b__law_sip : List VE.St := [(.ite (.cmp .gt (.e (.idx (.pl 0) (.e (.cst (.int 0))))) (.e (.cst (.int 0)))) [(.asg 3 (.bin .mod (.e (.idx (.pl 0) (.e (.cst (.int 0))))) (.pl 1))), (.setit 0 (.e (.cst (.int 0))) (.bin .fdiv (.e (.idx (.pl 0) (.e (.cst (.int 0))))) (.pl 1))), (.ret (.rd 3 true))] []), (.setit 0 (.e (.cst (.int 2))) (.bin .add (.e (.idx (.pl 0) (.e (.cst (.int 2))))) (.e (.cst (.int 1))))), (.asg 2 (.bin .mod (.e (.bin .pow (.e (.bin .add (.e (.idx (.pl 0) (.e (.cst (.int 1))))) (.e (.bin .mul (.e (.cst (.int 49979693))) (.e (.idx (.pl 0) (.e (.cst (.int 2))))))))) (.e (.cst (.int 3))))) (.e (.bin .add (.e (.bin .pow (.e (.cst (.int 10))) (.e (.cst (.int 41))))) (.e (.cst (.int 109))))))), (.asg 2 (.bin .mod (.e (.bin .pow (.e (.bin .add (.pl 2) (.e (.bin .mul (.e (.cst (.int 86028157))) (.e (.idx (.pl 0) (.e (.cst (.int 2))))))))) (.e (.cst (.int 3))))) (.e (.bin .add (.e (.bin .pow (.e (.cst (.int 10))) (.e (.cst (.int 40))))) (.e (.cst (.int 121))))))), (.ret (.bin .mod (.e (.bin .fdiv (.pl 2) (.e (.cst (.int 1000003))))) (.pl 1)))]
theorem a__law_sip : asgSs b__law_sip = [3, 2, 2] := by decide +kernel
def p__law_sip : Fns := ⟨fun i => match i with  | _ => fun _ => .stk, fun i => match i with  | _ => .none⟩
def s__law_sip : List S → R S := evDef p__law_sip 2 2 (asgSs b__law_sip) b__law_sip
theorem u__law_sip (ss : List S) : s__law_sip ss = evDef p__law_sip 2 2 [3, 2, 2] b__law_sip ss := by
  unfold s__law_sip
  rw [a__law_sip]
theorem sc__law_sip : FnScope ["cup", "many", "mixed", "found"] ["cup", "many"] (defScope (top 22)) := ⟨rfl, rfl, rfl, by decide +kernel, rfl, by decide +kernel, by decide +kernel⟩
theorem ck__law_sip : ckSs ⟨["cup", "many", "mixed", "found"], [], []⟩ (defScope (top 22)) b__law_sip (defBody (top 22)) = true := by decide +kernel
/-! _law_outcome(cup, many): 0 cup, 1 many, 2 found, 3 at, 4 turn -/
def x__law_outcome_1 : VE.E := (.idx (.e (.lst [(.e (.cst (.str ("right" : Str)))), (.e (.cst (.str ("down" : Str))))])) (.e (.call 0 [(.pl 0), (.e (.cst (.int 2)))])))
def b__law_outcome : List VE.St := [(.asg 2 (.comp (.nm 4) (.rng1 (.pl 1)) none x__law_outcome_1)), (.ite (.cmp .eq (.e (.call 0 [(.pl 0), (.e (.cst (.int 3)))])) (.e (.cst (.int 0)))) [(.asg 2 (.bin .mul (.e (.lst [(.e (.idx (.e (.lst [(.e (.cst (.str ("right" : Str)))), (.e (.cst (.str ("down" : Str))))])) (.e (.call 0 [(.pl 0), (.e (.cst (.int 2)))]))))])) (.pl 1)))] []), (.asg 3 (.call 0 [(.pl 0), (.pl 1)])), (.ite (.bop false [(.cmp .eq (.pl 1) (.e (.cst (.int 1)))), (.cmp .eq (.e (.call 0 [(.pl 0), (.e (.cst (.int 2)))])) (.e (.cst (.int 0))))]) [(.setit 2 (.pl 3) (.cst (.str ("stop" : Str))))] [(.setit 2 (.pl 3) (.cst (.str ("right" : Str)))), (.setit 2 (.e (.bin .mod (.e (.bin .add (.e (.bin .add (.pl 3) (.e (.cst (.int 1))))) (.e (.call 0 [(.pl 0), (.e (.bin .sub (.pl 1) (.e (.cst (.int 1)))))])))) (.pl 1))) (.cst (.str ("down" : Str))))]), (.ret (.rd 2 true))]
theorem a__law_outcome : asgSs b__law_outcome = [2, 2, 3] := by decide +kernel
def p__law_outcome : Fns := ⟨fun i => match i with | 0 => s__law_sip | _ => fun _ => .stk, fun i => match i with  | _ => .none⟩
def s__law_outcome : List S → R S := evDef p__law_outcome 2 3 (asgSs b__law_outcome) b__law_outcome
theorem u__law_outcome (ss : List S) : s__law_outcome ss = evDef p__law_outcome 2 3 [2, 2, 3] b__law_outcome ss := by
  unfold s__law_outcome
  rw [a__law_outcome]
theorem sc__law_outcome : FnScope ["cup", "many", "found", "at", "turn"] ["cup", "many"] (defScope (top 24)) := ⟨rfl, rfl, rfl, by decide +kernel, rfl, by decide +kernel, by decide +kernel⟩
theorem ck__law_outcome : ckSs ⟨["cup", "many", "found", "at", "turn"], [("_law_sip", 2)], []⟩ (defScope (top 24)) b__law_outcome (defBody (top 24)) = true := by decide +kernel
/-! is_outcome(value): 0 value, 1 many, 2 result -/
def x_is_outcome_1 : VE.E := (.bop true [(.blt (.isi .str) [(.pl 2)]), (.cmp .mem (.pl 2) (.e (.glob 0)))])
def b_is_outcome : List VE.St := [(.ite (.bop false [(.not (.blt (.isi .list) [(.pl 0)])), (.cmp .eq (.pl 0) (.e (.lst [])))]) [(.ret (.cst (.bool false)))] []), (.ite (.not (.blt .all [(.e (.comp (.nm 2) (.seq (.pl 0)) none x_is_outcome_1))])) [(.ret (.cst (.bool false)))] []), (.asg 1 (.blt .len [(.pl 0)])), (.ret (.bop true [(.cmp .le (.e (.lm .count 0 (.e (.glob 1)))) (.e (.cst (.int 1)))), (.cmp .lt (.e (.lm .count 0 (.e (.glob 2)))) (.pl 1)), (.cmp .lt (.e (.lm .count 0 (.e (.glob 3)))) (.pl 1))]))]
theorem a_is_outcome : asgSs b_is_outcome = [1] := by decide +kernel
def p_is_outcome : Fns := ⟨fun i => match i with  | _ => fun _ => .stk, fun i => match i with | 0 => g_RESULTS | 1 => g_STOP | 2 => g_RIGHT | 3 => g_DOWN | _ => .none⟩
def s_is_outcome : List S → R S := evDef p_is_outcome 1 2 (asgSs b_is_outcome) b_is_outcome
theorem u_is_outcome (ss : List S) : s_is_outcome ss = evDef p_is_outcome 1 2 [1] b_is_outcome ss := by
  unfold s_is_outcome
  rw [a_is_outcome]
theorem sc_is_outcome : FnScope ["value", "many", "result"] ["value"] (defScope (top 16)) := ⟨rfl, rfl, rfl, by decide +kernel, rfl, by decide +kernel, by decide +kernel⟩
theorem ck_is_outcome : ckSs ⟨["value", "many", "result"], [], ["RESULTS", "STOP", "RIGHT", "DOWN"]⟩ (defScope (top 16)) b_is_outcome (defBody (top 16)) = true := by decide +kernel
/-! processes_with(outcome, result): 0 outcome, 1 result, 2 process, 3 other -/
def c_processes_with_1 : VE.E := (.cmp .eq (.pl 3) (.pl 1))
def x_processes_with_1 : VE.E := (.rd 2 false)
def b_processes_with : List VE.St := [(.ret (.comp (.tp [2, 3]) (.enum (.pl 0)) (some c_processes_with_1) x_processes_with_1))]
theorem a_processes_with : asgSs b_processes_with = [] := by decide +kernel
def p_processes_with : Fns := ⟨fun i => match i with  | _ => fun _ => .stk, fun i => match i with  | _ => .none⟩
def s_processes_with : List S → R S := evDef p_processes_with 2 2 (asgSs b_processes_with) b_processes_with
theorem u_processes_with (ss : List S) : s_processes_with ss = evDef p_processes_with 2 2 [] b_processes_with ss := by
  unfold s_processes_with
  rw [a_processes_with]
theorem sc_processes_with : FnScope ["outcome", "result", "process", "other"] ["outcome", "result"] (defScope (top 17)) := ⟨rfl, rfl, rfl, by decide +kernel, rfl, by decide +kernel, by decide +kernel⟩
theorem ck_processes_with : ckSs ⟨["outcome", "result", "process", "other"], [], []⟩ (defScope (top 17)) b_processes_with (defBody (top 17)) = true := by decide +kernel
/-! schedule_in(outcome): 0 outcome, 1 right, 2 found, 3 stopping, 4 down, 5 process, 6 turn -/
def x_schedule_in_1 : VE.E := (.rd 5 false)
def x_schedule_in_2 : VE.E := (.rd 5 false)
def x_schedule_in_3 : VE.E := (.rd 5 false)
def x_schedule_in_4 : VE.E := (.rd 5 false)
def b_schedule_in : List VE.St := [(.par [3, 4] [(.e (.call 0 [(.pl 0), (.e (.glob 0))])), (.e (.call 0 [(.pl 0), (.e (.glob 1))]))]), (.asg 1 (.call 0 [(.pl 0), (.e (.glob 2))])), (.asg 2 (.comp2 (.nm 5) (.seq (.pl 4)) none (.nm 6) (.rng1 (.e (.cst (.int 2)))) none x_schedule_in_1)), (.ite (.cmp .ne (.pl 3) (.e (.lst []))) [(.augl 2 (.bin .mul (.pl 3) (.e (.cst (.int 4))))), (.augl 2 (.comp2 (.nm 5) (.seq (.pl 4)) none (.nm 6) (.rng1 (.e (.cst (.int 2)))) none x_schedule_in_2))] [(.expr (.mut .append 2 [(.e (.idx (.pl 1) (.e (.cst (.int 0)))))])), (.augl 2 (.comp2 (.nm 5) (.seq (.pl 4)) none (.nm 6) (.rng1 (.e (.cst (.int 2)))) none x_schedule_in_3)), (.expr (.mut .append 2 [(.e (.idx (.pl 1) (.e (.cst (.int 0)))))])), (.asg 1 (.slice .lo [(.pl 1), (.e (.cst (.int 1)))]))]), (.ret (.bin .add (.pl 2) (.e (.comp2 (.nm 5) (.seq (.pl 1)) none (.nm 6) (.rng1 (.e (.cst (.int 2)))) none x_schedule_in_4))))]
theorem a_schedule_in : asgSs b_schedule_in = [3, 4, 1, 2, 1] := by decide +kernel
def p_schedule_in : Fns := ⟨fun i => match i with | 0 => s_processes_with | _ => fun _ => .stk, fun i => match i with | 0 => g_STOP | 1 => g_DOWN | 2 => g_RIGHT | _ => .none⟩
def s_schedule_in : List S → R S := evDef p_schedule_in 1 6 (asgSs b_schedule_in) b_schedule_in
theorem u_schedule_in (ss : List S) : s_schedule_in ss = evDef p_schedule_in 1 6 [3, 4, 1, 2, 1] b_schedule_in ss := by
  unfold s_schedule_in
  rw [a_schedule_in]
theorem sc_schedule_in : FnScope ["outcome", "right", "found", "stopping", "down", "process", "turn"] ["outcome"] (defScope (top 18)) := ⟨rfl, rfl, rfl, by decide +kernel, rfl, by decide +kernel, by decide +kernel⟩
theorem ck_schedule_in : ckSs ⟨["outcome", "right", "found", "stopping", "down", "process", "turn"], [("processes_with", 2)], ["STOP", "DOWN", "RIGHT"]⟩ (defScope (top 18)) b_schedule_in (defBody (top 18)) = true := by decide +kernel
/-! outcome_schedule(outcome): 0 outcome -/
def b_outcome_schedule : List VE.St := [(.ite (.not (.call 0 [(.pl 0)])) [.never] []), (.ret (.call 1 [(.pl 0)]))]
theorem a_outcome_schedule : asgSs b_outcome_schedule = [] := by decide +kernel
def p_outcome_schedule : Fns := ⟨fun i => match i with | 0 => s_is_outcome | 1 => s_schedule_in | _ => fun _ => .stk, fun i => match i with  | _ => .none⟩
def s_outcome_schedule : List S → R S := evDef p_outcome_schedule 1 0 (asgSs b_outcome_schedule) b_outcome_schedule
theorem u_outcome_schedule (ss : List S) : s_outcome_schedule ss = evDef p_outcome_schedule 1 0 [] b_outcome_schedule ss := by
  unfold s_outcome_schedule
  rw [a_outcome_schedule]
theorem sc_outcome_schedule : FnScope ["outcome"] ["outcome"] (defScope (top 19)) := ⟨rfl, rfl, rfl, by decide +kernel, rfl, by decide +kernel, by decide +kernel⟩
theorem ck_outcome_schedule : ckSs ⟨["outcome"], [("is_outcome", 1), ("schedule_in", 1)], []⟩ (defScope (top 19)) b_outcome_schedule (defBody (top 19)) = true := by decide +kernel
/-! _law_ran(count, schedule): 0 count, 1 schedule, 2 process, 3 owner, 4 is_set, 5 done, 6 found, 7 number -/
def l__law_ran_1 : List VE.St := [(.asg 7 (.idx (.pl 5) (.pl 2))), (.setit 5 (.pl 2) (.bin .add (.pl 7) (.e (.cst (.int 1))))), (.ite (.cmp .eq (.pl 7) (.e (.cst (.int 0)))) [(.asg 3 (.rd 2 false))] []), (.ite (.bop true [(.cmp .eq (.pl 7) (.e (.cst (.int 1)))), (.rd 4 false)]) [(.setit 6 (.pl 2) (.cst (.str ("right" : Str))))] []), (.ite (.cmp .eq (.pl 7) (.e (.cst (.int 2)))) [(.asg 4 (.cst (.bool true)))] []), (.ite (.cmp .eq (.pl 7) (.e (.cst (.int 3)))) [(.setit 6 (.pl 2) (.ite (.cmp .eq (.pl 3) (.pl 2)) (.cst (.str ("stop" : Str))) (.cst (.str ("down" : Str)))))] [])]
def b__law_ran : List VE.St := [(.par [3, 4, 5, 6] [(.e (.cst .none)), (.e (.cst (.bool false))), (.e (.bin .mul (.e (.lst [(.e (.cst (.int 0)))])) (.pl 0))), (.e (.bin .mul (.e (.lst [(.e (.cst .none))])) (.pl 0)))]), (.for_ (.nm 2) (.seq (.pl 1)) true l__law_ran_1), (.ret (.rd 6 true))]
theorem a__law_ran : asgSs b__law_ran = [3, 4, 5, 6, 2, 7, 3, 4] := by decide +kernel
def p__law_ran : Fns := ⟨fun i => match i with  | _ => fun _ => .stk, fun i => match i with  | _ => .none⟩
def s__law_ran : List S → R S := evDef p__law_ran 2 6 (asgSs b__law_ran) b__law_ran
theorem u__law_ran (ss : List S) : s__law_ran ss = evDef p__law_ran 2 6 [3, 4, 5, 6, 2, 7, 3, 4] b__law_ran ss := by
  unfold s__law_ran
  rw [a__law_ran]
theorem sc__law_ran : FnScope ["count", "schedule", "process", "owner", "is_set", "done", "found", "number"] ["count", "schedule"] (defScope (top 23)) := ⟨rfl, rfl, rfl, by decide +kernel, rfl, by decide +kernel, by decide +kernel⟩
theorem ck__law_ran : ckSs ⟨["count", "schedule", "process", "owner", "is_set", "done", "found", "number"], [], []⟩ (defScope (top 23)) b__law_ran (defBody (top 23)) = true := by decide +kernel
/-! is_integer(value, least, most): 0 value, 1 least, 2 most -/
def b_is_integer : List VE.St := [(.ret (.bop true [(.blt (.isi .int) [(.pl 0)]), (.not (.blt (.isi .bool) [(.pl 0)])), (.chain .le .le (.pl 1) (.pl 0) (.pl 2))]))]
theorem a_is_integer : asgSs b_is_integer = [] := by decide +kernel
def p_is_integer : Fns := ⟨fun i => match i with  | _ => fun _ => .stk, fun i => match i with  | _ => .none⟩
def s_is_integer : List S → R S := evDef p_is_integer 3 0 (asgSs b_is_integer) b_is_integer
theorem u_is_integer (ss : List S) : s_is_integer ss = evDef p_is_integer 3 0 [] b_is_integer ss := by
  unfold s_is_integer
  rw [a_is_integer]
theorem sc_is_integer : FnScope ["value", "least", "most"] ["value", "least", "most"] (defScope (top 6)) := ⟨rfl, rfl, rfl, by decide +kernel, rfl, by decide +kernel, by decide +kernel⟩
theorem ck_is_integer : ckSs ⟨["value", "least", "most"], [], []⟩ (defScope (top 6)) b_is_integer (defBody (top 6)) = true := by decide +kernel
/-! run_splitter, by hand -/
def sSp : Stmt := top 13
def sSpI : Stmt := inClass sSp 0
def sSpC : Stmt := inClass sSp 1
def sSpP : Stmt := inClass sSp 2
def sSpA : Stmt := top 14
def sSpR : Stmt := top 15
/-- a splitter: who wrote X last, Y, the steps, the results -/
structure Q4 where
  o : Option Nat
  f : Bool
  ns : List Nat
  rs : List (Option Str)
def Q4.ini (c : Nat) : Q4 := ⟨none, false, List.replicate c 0, List.replicate c none⟩
def Q4.step (q : Q4) (p : Nat) : Q4 :=
  let n := q.ns.getD p 0
  if n = 0 then { q with o := some p, ns := q.ns.set p (n + 1) }
  else if n = 1 then { q with ns := q.ns.set p (n + 1), rs := if q.f then q.rs.set p (some "right") else q.rs }
  else if n = 2 then { q with f := true, ns := q.ns.set p (n + 1) }
  else { q with ns := q.ns.set p (n + 1), rs := q.rs.set p (some (if q.o = some p then "stop" else "down")) }
def Q4.can (q : Q4) (p : Nat) : Bool := q.rs[p]? == some none
def Q4.runs : Q4 → List Nat → Option Q4
  | q, [] => some q
  | q, p :: ps => if q.can p then (q.step p).runs ps else none
def natsOf : List PyData → Option (List Nat)
  | [] => some []
  | .int i :: r => if 0 ≤ i then (natsOf r).map (i.toNat :: ·) else none
  | _ => none
def oD : Option Str → PyData
  | none => .none
  | some z => .str z
def oV : Option Str → V
  | none => .non
  | some z => .str z
def wV : Option Nat → V
  | none => .non
  | some n => .int n
def s_run_splitter : List S → R S
  | [.val (.int i), s] => match view s with
    | some (.list ds) => match natsOf ds with
      | some ps => if 1 ≤ i ∧ i ≤ 40 then (match (Q4.ini i.toNat).runs ps with
          | some q => .ok (.lst (q.rs.map oD)) [.val (.int i), s]
          | none => .stk) else .stk
      | none => .stk
    | _ => .stk
  | _ => .stk
theorem natsOf_map : ∀ {ds : List PyData} {ps : List Nat}, natsOf ds = some ps → ds = ps.map fun n : Nat => .int (n : Int)
  | [], ps, h => by cases h; rfl
  | .int i :: r, ps, h => by
    simp only [natsOf] at h
    split at h
    · rename_i hi
      cases e : natsOf r with
      | none => rw [e] at h; cases h
      | some ms =>
        rw [e] at h
        cases h
        rw [natsOf_map e, List.map_cons]
        congr 2
        omega
    · cases h
  | .none :: _, _, h => by simp [natsOf] at h
  | .bool _ :: _, _, h => by simp [natsOf] at h
  | .str _ :: _, _, h => by simp [natsOf] at h
  | .list _ :: _, _, h => by simp [natsOf] at h
  | .tuple _ :: _, _, h => by simp [natsOf] at h
  | .dict _ :: _, _, h => by simp [natsOf] at h
theorem natsOf_of : ∀ (ps : List Nat), natsOf (ps.map fun n : Nat => PyData.int (n : Int)) = some ps
  | [] => rfl
  | p :: ps => by
    simp only [List.map_cons, natsOf]
    rw [if_pos (by omega), natsOf_of ps]
    simp
theorem dps_oV {K : PySem.W.Frag} {G : Hp} : ∀ rs : List (Option Str), DPs K G (rs.map oV) (rs.map oD)
  | [] => .nil
  | none :: r => .cons .non (dps_oV r)
  | some z :: r => .cons (.str z) (dps_oV r)
theorem dps_nat {K : PySem.W.Frag} {G : Hp} : ∀ ps : List Nat, DPs K G (ps.map fun n : Nat => V.int (n : Int)) (ps.map fun n : Nat => .int (n : Int))
  | [] => .nil
  | _ :: r => .cons (.int _) (dps_nat r)
theorem Q4.lens {c : Nat} : (Q4.ini c).ns.length = c ∧ (Q4.ini c).rs.length = c := ⟨List.length_replicate, List.length_replicate⟩
theorem Q4.step_lens (q : Q4) (p : Nat) : (q.step p).ns.length = q.ns.length ∧ (q.step p).rs.length = q.rs.length := by
  unfold Q4.step
  simp only
  split
  · simp
  · split
    · constructor
      · simp
      · show (if q.f = true then q.rs.set p (some "right") else q.rs).length = _
        split <;> simp
    · split <;> simp
/-! its heap -/
theorem sn1 : ¬ (("flag" : Str) = "owner") := by decide +kernel
theorem sn2 : ¬ (("performed" : Str) = "owner") := by decide +kernel
theorem sn3 : ¬ (("results" : Str) = "owner") := by decide +kernel
theorem sn4 : ¬ (("performed" : Str) = "flag") := by decide +kernel
theorem sn5 : ¬ (("results" : Str) = "flag") := by decide +kernel
theorem sn6 : ¬ (("results" : Str) = "performed") := by decide +kernel
def sF (o f lp lr : V) : List (Str × V) := [("owner", o), ("flag", f), ("performed", lp), ("results", lr)]
theorem put1 (o : V) : putF "owner" o [] = [(("owner" : Str), o)] := rfl
theorem put2 (o f : V) : putF "flag" f [(("owner" : Str), o)] = [(("owner" : Str), o), (("flag" : Str), f)] := by
  simp [putF, sn1, Ne.symm sn1]
theorem put3 (o f p : V) : putF "performed" p [(("owner" : Str), o), (("flag" : Str), f)] = [(("owner" : Str), o), (("flag" : Str), f), (("performed" : Str), p)] := by
  simp [putF, Ne.symm sn2, Ne.symm sn4]
theorem put4 (o f p r : V) : putF "results" r [(("owner" : Str), o), (("flag" : Str), f), (("performed" : Str), p)] = sF o f p r := by
  simp [putF, sF, Ne.symm sn3, Ne.symm sn5, Ne.symm sn6]
theorem putO (o o' f p r : V) : putF "owner" o' (sF o f p r) = sF o' f p r := by
  simp [putF, sF]
theorem putFl (o f f' p r : V) : putF "flag" f' (sF o f p r) = sF o f' p r := by
  simp [putF, sF, Ne.symm sn1]
theorem lkO (o f p r : V) : (sF o f p r).lookup ("owner" : Str) = some o := by
  simp [sF, List.lookup]
theorem lkF (o f p r : V) : (sF o f p r).lookup ("flag" : Str) = some f := by
  simp [sF, List.lookup, beq_false_of_ne sn1]
theorem lkP (o f p r : V) : (sF o f p r).lookup ("performed" : Str) = some p := by
  simp [sF, List.lookup, beq_false_of_ne sn2, beq_false_of_ne sn4]
theorem lkR (o f p r : V) : (sF o f p r).lookup ("results" : Str) = some r := by
  simp [sF, List.lookup, beq_false_of_ne sn3, beq_false_of_ne sn5, beq_false_of_ne sn6]
theorem lkN {m : Str} (o f p r : V) (h1 : ¬ m = "owner") (h2 : ¬ m = "flag") (h3 : ¬ m = "performed") (h4 : ¬ m = "results") : (sF o f p r).lookup m = none := by
  simp [sF, List.lookup, beq_false_of_ne h1, beq_false_of_ne h2, beq_false_of_ne h3, beq_false_of_ne h4]
/-- behind H0 a splitter stands at x -/
def SpAt (C : Addr) (H0 H : Hp) (x : Addr) (q : Q4) : Prop :=
  Same H0 H ∧ H0 x = none ∧ ∃ dx lp lr : Addr, H0 lp = none ∧ H0 lr = none ∧ lp ≠ lr ∧ x ≠ lp ∧ x ≠ lr ∧ H x = some (.ins C dx (sF (wV q.o) (.bl q.f) (.ref lp) (.ref lr))) ∧ H lp = some (.lst (q.ns.map fun n : Nat => V.int (n : Int))) ∧ H lr = some (.lst (q.rs.map oV))
structure SpTxt (K : PySem.W.Frag) (mg : Str → Option Value) (C : Addr) : Prop where
  cl : Cls K C
  nO : NoAttr K C "owner"
  nF : NoAttr K C "flag"
  nP : NoAttr K C "performed"
  nR : NoAttr K C "results"
  mgC : mg "Splitter" = some (.ref C)
  len : mg "len" = none
  isi : mg "isinstance" = none
  lst : mg "list" = none
  stop : ∃ t, mg "STOP" = some (.str ("stop" : Str) t)
  right : ∃ t, mg "RIGHT" = some (.str ("right" : Str) t)
  down : ∃ t, mg "DOWN" = some (.str ("down" : Str) t)
  most : ∃ t, mg "MOST_COUNT" = some (.int 40 t)
def spSpI (C : Addr) : Sp := fun vs H Q _ => ∃ (H0 : Hp) (x dx : Addr) (c : Nat), vs = [.ref x, .int c] ∧ Same H0 H ∧ H0 x = none ∧ H x = some (.ins C dx []) ∧ c ≤ 40 ∧ ∀ H' : Hp, SpAt C H0 H' x (Q4.ini c) → Q .non H'
def spSpC (C : Addr) : Sp := fun vs H Q _ => ∃ (H0 : Hp) (x : Addr) (p : Nat) (q : Q4), vs = [.ref x, .int p] ∧ SpAt C H0 H x q ∧ q.rs.length ≤ 40 ∧ q.can p = true ∧ ∀ H' : Hp, SpAt C H0 H' x q → Q (.bl true) H'
def spSpP (C : Addr) : Sp := fun vs H Q _ => ∃ (H0 : Hp) (x : Addr) (p : Nat) (q : Q4), vs = [.ref x, .int p] ∧ SpAt C H0 H x q ∧ p < q.ns.length ∧ p < q.rs.length ∧ ∀ H' : Hp, SpAt C H0 H' x (q.step p) → Q .non H'
def spSpA (K : PySem.W.Frag) (C : Addr) : Sp := fun vs H Q _ => ∃ (c : Nat) (a : Addr) (ps : List Nat) (q : Q4), vs = [.int c, .ref a] ∧ DP K H (.ref a) (.list (ps.map fun n : Nat => .int (n : Int))) ∧ 1 ≤ c ∧ c ≤ 40 ∧ (Q4.ini c).runs ps = some q ∧ ∀ (H' : Hp) (x : Addr), SpAt C H H' x q → Q (.ref x) H'
section
variable {P : Program} {w : World} {K : PySem.W.Frag} {mg : Str → Option Value} {base : Heap}
theorem sc_SpI : FnScope ["self", "count"] ["self", "count"] (defScope sSpI) := ⟨rfl, rfl, rfl, by decide +kernel, rfl, by decide +kernel, by decide +kernel⟩
theorem ok_SpI {f C : Addr} {fd : FuncData} (F : L2.Fun K "__init__" "Splitter.__init__" sSpI f fd) (T : SpTxt K mg C) : FnOk P w K mg base CX0 1 f fd ["self", "count"] (spSpI C) := by
  refine F.ok sc_SpI (fun vs H Q E h => ?_) (fun cdv A outer s H vs Q E hr h => ?_)
  · obtain ⟨H0, x, dx, c, rfl, _⟩ := h
    rfl
  · obtain ⟨H0, x, dx, c, rfl, s0, x0, hx, hc, k⟩ := h
    refine ⟨_, pss_cons (ps_fld (pv 0) pe_non rfl) (pss_cons (ps_fld (pv 0) pe_bl rfl) (pss_cons (ps_fld (pv 0) (pe_op op_repL (pe_lst (pa_cons pe_int pa_nil)) (pv 1)) rfl) (pss_one (ps_fld (pv 0) (pe_op op_repL (pe_lst (pa_cons pe_non pa_nil)) (pv 1)) rfl)))), ?_⟩
    have hsz : (40 : Nat) ≤ sizeLine := by decide
    refine ⟨_, rfl, x, C, dx, _, rfl, hx, T.cl, T.nO, (by show 0 < 1000; decide), _, rfl, x, C, dx, _, rfl, upd_same, T.cl, T.nF, (by rw [put1]; show 1 < 1000; decide), ?_⟩
    have s1 := (s0.put (o := .ins C dx (putF "owner" .non [])) x0).put (o := .ins C dx (putF "flag" (.bl false) (putF "owner" .non []))) x0
    rw [put1, put2] at s1
    refine ⟨(by show 1 ≤ sizeLine; omega), fun l1 hl1 => ?_⟩
    rw [put1, put2] at hl1 ⊢
    have l10 := s1.free hl1
    have nl1 : x ≠ l1 := fun z => by rw [z, upd_same] at hl1; cases hl1
    have s2 := s1.put (o := .lst [.int 0]) l10
    refine ⟨_, rfl, l1, (c : Int), _, rfl, rfl, .inl (.inl upd_same), by omega, by omega, (by show 1 * _ ≤ _; omega), fun lp hlp => ?_⟩
    have lp0 := s2.free hlp
    have nlp : x ≠ lp := fun z => by
      rw [← z, upd_ne nl1, upd_same] at hlp
      cases hlp
    have s3 := s2.put (o := .lst (List.replicate (c : Int).toNat [V.int 0]).flatten) lp0
    refine ⟨_, rfl, x, C, dx, _, rfl, (by rw [upd_ne nlp, upd_ne nl1, upd_same]), T.cl, T.nP, (by show 2 < 1000; decide), ?_⟩
    rw [put3]
    have s4 := s3.put (o := .ins C dx [(("owner" : Str), V.non), (("flag" : Str), V.bl false), (("performed" : Str), V.ref lp)]) x0
    refine ⟨(by show 1 ≤ sizeLine; omega), fun l2 hl2 => ?_⟩
    have l20 := s4.free hl2
    have nl2 : x ≠ l2 := fun z => by rw [z, upd_same] at hl2; cases hl2
    have nl2p : lp ≠ l2 := fun z => by
      rw [← z, upd_ne (Ne.symm nlp), upd_same] at hl2
      cases hl2
    have s5 := s4.put (o := .lst [.non]) l20
    refine ⟨_, rfl, l2, (c : Int), _, rfl, rfl, .inl (.inl upd_same), by omega, by omega, (by show 1 * _ ≤ _; omega), fun lr hlr => ?_⟩
    have lr0 := s5.free hlr
    have nlr : x ≠ lr := fun z => by
      rw [← z, upd_ne nl2, upd_same] at hlr
      cases hlr
    have nlrp : lp ≠ lr := fun z => by
      rw [← z, upd_ne nl2p, upd_ne (Ne.symm nlp), upd_same] at hlr
      cases hlr
    have s6 := s5.put (o := .lst (List.replicate (c : Int).toNat [V.non]).flatten) lr0
    refine ⟨_, rfl, x, C, dx, _, rfl, (by rw [upd_ne nlr, upd_ne nl2, upd_same]), T.cl, T.nR, (by show 3 < 1000; decide), ?_⟩
    rw [put4]
    have e1 : (List.replicate (c : Int).toNat [V.int 0]).flatten = ((Q4.ini c).ns.map fun n : Nat => V.int (n : Int)) := by
      show _ = (List.replicate c 0).map _
      rw [List.map_replicate, Int.toNat_natCast]
      induction c with
      | zero => rfl
      | succ c ih => rw [List.replicate_succ, List.replicate_succ, List.flatten_cons]; simp
    have e2 : (List.replicate (c : Int).toNat [V.non]).flatten = ((Q4.ini c).rs.map oV) := by
      show _ = (List.replicate c none).map _
      rw [List.map_replicate, Int.toNat_natCast]
      induction c with
      | zero => rfl
      | succ c ih => rw [List.replicate_succ, List.replicate_succ, List.flatten_cons]; simp [oV]
    refine k _ ⟨s6.put x0, x0, dx, lp, lr, lp0, lr0, nlrp, nlp, nlr, upd_same, ?_, ?_⟩
    · rw [upd_ne (Ne.symm nlp), upd_ne nlrp, upd_ne nl2p, upd_ne (Ne.symm nlp), upd_same, e1]
    · rw [upd_ne (Ne.symm nlr), upd_same, e2]
theorem sc_SpC : FnScope ["self", "process"] ["self", "process"] (defScope sSpC) := ⟨rfl, rfl, rfl, by decide +kernel, rfl, by decide +kernel, by decide +kernel⟩
theorem can_get {q : Q4} {p : Nat} (h : q.can p = true) : q.rs[p]? = some none := by simpa [Q4.can] using h
theorem can_lt {q : Q4} {p : Nat} (h : q.can p = true) : p < q.rs.length := (List.getElem?_eq_some_iff.mp (can_get h)).1
theorem SpAt.mono {C : Addr} {H0 H H' : Hp} {x : Addr} {q : Q4} (h : SpAt C H0 H x q) (s : Same H H') : SpAt C H0 H' x q := by
  obtain ⟨h1, h2, dx, lp, lr, h3, h4, h5, h6, h7, h8, h9, h10⟩ := h
  exact ⟨h1.trans s, h2, dx, lp, lr, h3, h4, h5, h6, h7, s _ _ h8, s _ _ h9, s _ _ h10⟩
theorem ok_SpC {f C : Addr} {fd : FuncData} {sI : List S → R S} (F : L2.Fun K "can_step" "Splitter.can_step" sSpC f fd) (T : SpTxt K mg C) (hI : Dok P w K mg base (fun _ _ _ _ _ => False) "is_integer" 3 1 sI)
    (eI : ∀ a l m : Int, l ≤ a → a ≤ m → sI [.val (.int a), .val (.int l), .val (.int m)] = .ok (.val (.bool true)) [.val (.int a), .val (.int l), .val (.int m)]) : FnG P w K mg base (L2.CX P w) 2 f fd ["self", "process"] (spSpC C) := by
  obtain ⟨aI, fdI, psI, FI, mI, kI, bI⟩ := hI
  refine Fun.okG F sc_SpC (fun vs H Q E h => ?_) fun cdv A outer s H vs Q E hr hgd h => ?_
  · obtain ⟨H0, x, p, q, rfl, _⟩ := h
    rfl
  · obtain ⟨H0, x, p, q, rfl, hS, hl, hc, k⟩ := h
    refine ⟨_, pss_one (ps_ret (pe_and (pe_callG (E := fun _ => E) FI hr hgd rfl mI kI bI (fun σ => passAt (takes_of rfl rfl rfl rfl) σ) (pa_cons (pv 1) (pa_cons pe_int (pa_cons (pe_op op_sub (pe_callB call_len_seq (by rfl) T.len PySem.boot_len (pa_cons (pe_fld (pv 0) rfl) pa_nil)) pe_int) pa_nil))) (by decide) (by rfl) (by rfl))
      (pe_one (pe_cmpR op_isN (pe_ix ix_list (pe_fld (pv 0) rfl) (pv 1) (fun _ _ => rfl)) pe_non (nomark _))))), ?_⟩
    have hS' := hS
    obtain ⟨h1, h2, dx, lp, lr, h3, h4, h5, h6, h7, h8, h9, h10⟩ := hS'
    have hp := can_lt hc
    have hlen : ((q.rs.map oV).length : Int) = (q.rs.length : Int) := by rw [List.length_map]
    refine ⟨_, rfl, _, rfl, x, C, dx, _, _, rfl, h8, T.cl, T.nR, lkR _ _ _ _, lr, _, rfl, .inl (.inl (.inl h10)), _, _, rfl, rfl, ?_⟩
    refine spOf_vals (ds := [.int p, .int 0, .int ((q.rs.map oV).length - 1)]) (.cons (.int _) (.cons (.int _) (.cons (.int _) .nil))) rfl (eI _ _ _ (by omega) (by rw [hlen]; omega)) fun v H' same hv => ?_
    cases hv
    refine ⟨true, rfl, ?_⟩
    rw [if_pos rfl]
    have hS2 := hS.mono same
    refine ⟨_, rfl, x, C, dx, _, _, rfl, same _ _ h8, T.cl, T.nR, lkR _ _ _ _, _, rfl, lr, _, _, .non, rfl, rfl, .inl (.inl (same _ _ h10)), ?_, ?_⟩
    · refine atI_nat ?_
      rw [List.getElem?_map, can_get hc]
      rfl
    · exact ⟨rfl, k _ hS2⟩
theorem sc_SpP : FnScope ["self", "process", "number"] ["self", "process"] (defScope sSpP) := ⟨rfl, rfl, rfl, by decide +kernel, rfl, by decide +kernel, by decide +kernel⟩
theorem ok_SpP {f C : Addr} {fd : FuncData} (F : L2.Fun K "perform" "Splitter.perform" sSpP f fd) (T : SpTxt K mg C) : FnOk P w K mg base CX0 1 f fd ["self", "process"] (spSpP C) := by
  refine F.ok sc_SpP (fun vs H Q E h => ?_) (fun cdv A outer s H vs Q E hr h => ?_)
  · obtain ⟨H0, x, p, q, rfl, _⟩ := h
    rfl
  · obtain ⟨H0, x, p, q, rfl, hS, hp, hp2, k⟩ := h
    obtain ⟨tS, gS⟩ := T.stop
    obtain ⟨tR, gR⟩ := T.right
    obtain ⟨tD, gD⟩ := T.down
    refine ⟨_, pss_cons (ps_set (i := 2) sc_SpP.nd rfl (.inl rfl) (pe_ix ix_list (pe_fld (pv 0) rfl) (pv 1) (fun _ _ => rfl)))
      (pss_cons (ps_augS (pe_fld (pv 0) rfl) (pv 1) get_list pe_int ip_add set_list)
      (pss_one (ps_match (pv 2) (pmc_int (pss_one (ps_fld (pv 0) (pv 1) rfl))
        (pmc_int (pss_one (ps_if (pt_val (pe_fld (pv 0) rfl)) (pss_one (ps_asg (pe_glob (v := .str "right") rfl gR ⟨_, rfl⟩) (pg_sub (pe_fld (pv 0) rfl) (pv 1) set_list (by intros; rfl)))) pss_nil))
        (pmc_int (pss_one (ps_fld (pv 0) pe_bl rfl))
        (pmc_any (pss_one (ps_asg (pe_ifExp (pt_cmpR op_eq (pe_fld (pv 0) rfl) (pv 1) (nomark _)) (pe_glob (v := .str "stop") rfl gS ⟨_, rfl⟩) (pe_glob (v := .str "down") rfl gD ⟨_, rfl⟩)) (pg_sub (pe_fld (pv 0) rfl) (pv 1) set_list (by intros; rfl))))))))))), ?_⟩
    obtain ⟨h1, h2, dx, lp, lr, h3, h4, h5, h6, h7, h8, h9, h10⟩ := hS
    have hn : (q.ns.map fun n : Nat => V.int (n : Int))[p]? = some (.int ((q.ns.getD p 0 : Nat) : Int)) := by
      rw [List.getElem?_map, List.getElem?_eq_getElem hp, List.getD_eq_getElem?_getD, List.getElem?_eq_getElem hp]
      rfl
    have ix : ixN (q.ns.map fun n : Nat => V.int (n : Int)).length (p : Int) = some p := by
      unfold ixN
      rw [if_pos (by omega), if_pos (by rw [List.length_map]; omega)]
      simp
    have ix2 : ixN (q.rs.map oV).length (p : Int) = some p := by
      unfold ixN
      rw [if_pos (by omega), if_pos (by rw [List.length_map]; omega)]
      simp
    refine ⟨_, rfl, x, C, dx, _, _, rfl, h8, T.cl, T.nP, lkP _ _ _ _, _, rfl, lp, _, _, _, rfl, rfl, .inl (.inl h9), atI_nat hn, ?_⟩
    refine ⟨_, rfl, x, C, dx, _, _, rfl, h8, T.cl, T.nP, lkP _ _ _ _, _, rfl, lp, _, _, _, rfl, rfl, by omega, .inl (.inl h9), atI_nat hn, ?_⟩
    refine ⟨_, _, rfl, rfl, lp, _, _, p, rfl, rfl, h9, ix, ?_⟩
    have s1 := h1.put (o := .lst ((q.ns.map fun n : Nat => V.int (n : Int)).set p (.int (((q.ns.getD p 0 : Nat) : Int) + 1)))) h3
    have e1 : (q.ns.map fun n : Nat => V.int (n : Int)).set p (.int (((q.ns.getD p 0 : Nat) : Int) + 1)) = (q.ns.set p (q.ns.getD p 0 + 1)).map fun n : Nat => V.int (n : Int) := by
      rw [List.map_set]; rfl
    rw [e1] at s1 ⊢
    have x8 : upd H lp (.lst ((q.ns.set p (q.ns.getD p 0 + 1)).map fun n : Nat => V.int (n : Int))) x = some (.ins C dx (sF (wV q.o) (.bl q.f) (.ref lp) (.ref lr))) := by rw [upd_ne h6]; exact h8
    have x10 : upd H lp (.lst ((q.ns.set p (q.ns.getD p 0 + 1)).map fun n : Nat => V.int (n : Int))) lr = some (.lst (q.rs.map oV)) := by rw [upd_ne (Ne.symm h5)]; exact h10
    generalize hN : q.ns.getD p 0 = N at *
    refine ⟨_, rfl, _, rfl, ?_⟩
    by_cases n0 : N = 0
    · rw [if_pos (by omega)]
      refine ⟨_, rfl, _, rfl, x, C, dx, _, rfl, x8, T.cl, T.nO, (by show 4 < 1000; decide), ?_⟩
      rw [putO]
      refine k _ ?_
      have e : q.step p = { q with o := some p, ns := q.ns.set p (N + 1) } := by
        unfold Q4.step
        simp only [hN]
        rw [if_pos n0]
      rw [e]
      exact ⟨s1.put h2, h2, dx, lp, lr, h3, h4, h5, h6, h7, upd_same, by rw [upd_ne (Ne.symm h6), upd_same], by rw [upd_ne (Ne.symm h7)]; exact x10⟩
    · rw [if_neg (by omega)]
      refine ⟨_, rfl, ?_⟩
      by_cases n1 : N = 1
      · rw [if_pos (by omega)]
        refine ⟨_, rfl, x, C, dx, _, _, rfl, x8, T.cl, T.nF, lkF _ _ _ _, q.f, rfl, ?_⟩
        have e : q.step p = { q with ns := q.ns.set p (N + 1), rs := if q.f then q.rs.set p (some "right") else q.rs } := by
          unfold Q4.step
          simp only [hN]
          rw [if_neg n0, if_pos n1]
        cases hf : q.f with
        | true =>
          refine ifB rfl ?_
          refine ⟨_, rfl, x, C, dx, _, _, rfl, x8, T.cl, T.nR, lkR _ _ _ _, _, rfl, lr, _, _, p, rfl, rfl, x10, ix2, ?_⟩
          refine k _ ?_
          rw [e, hf]
          rw [hf] at x8
          exact ⟨s1.put h4, h2, dx, lp, lr, h3, h4, h5, h6, h7, by rw [upd_ne h7]; exact x8, by rw [upd_ne h5, upd_same], by rw [upd_same]; simp only [if_true, List.map_set]; rfl⟩
        | false =>
          refine ifN rfl ?_
          refine k _ ?_
          rw [e, hf]
          exact ⟨s1, h2, dx, lp, lr, h3, h4, h5, h6, h7, by rw [hf] at x8; exact x8, upd_same, x10⟩
      · rw [if_neg (by omega)]
        refine ⟨_, rfl, ?_⟩
        by_cases n2 : N = 2
        · rw [if_pos (by omega)]
          refine ⟨_, rfl, x, C, dx, _, rfl, x8, T.cl, T.nF, (by show 4 < 1000; decide), ?_⟩
          rw [putFl]
          refine k _ ?_
          have e : q.step p = { q with f := true, ns := q.ns.set p (N + 1) } := by
            unfold Q4.step
            simp only [hN]
            rw [if_neg n0, if_neg n1, if_pos n2]
          rw [e]
          exact ⟨s1.put h2, h2, dx, lp, lr, h3, h4, h5, h6, h7, upd_same, by rw [upd_ne (Ne.symm h6), upd_same], by rw [upd_ne (Ne.symm h7)]; exact x10⟩
        · rw [if_neg (by omega)]
          have e : q.step p = { q with ns := q.ns.set p (N + 1), rs := q.rs.set p (some (if q.o = some p then "stop" else "down")) } := by
            unfold Q4.step
            simp only [hN]
            rw [if_neg n0, if_neg n1, if_neg n2]
          have ed : decide (wV q.o = V.int (p : Int)) = decide (q.o = some p) := by
            rw [decide_eq_decide]
            cases q.o with
            | none => simp [wV]
            | some m =>
              constructor
              · intro z
                have z' : (m : Int) = (p : Int) := V.int.inj z
                rw [show m = p by omega]
              · intro z
                rw [Option.some.inj z]; rfl
          have sc : scal (wV q.o) (V.int (p : Int)) = true := by cases q.o <;> rfl
          refine ⟨_, rfl, x, C, dx, _, _, rfl, x8, T.cl, T.nO, lkO _ _ _ _, _, rfl, sc, _, rfl, ?_⟩
          by_cases eo : q.o = some p
          · refine ifB (by rw [ed]; exact decide_eq_true eo) ?_
            refine ⟨_, rfl, x, C, dx, _, _, rfl, x8, T.cl, T.nR, lkR _ _ _ _, _, rfl, lr, _, _, p, rfl, rfl, x10, ix2, ?_⟩
            refine k _ ?_
            rw [e, if_pos eo]
            exact ⟨s1.put h4, h2, dx, lp, lr, h3, h4, h5, h6, h7, by rw [upd_ne h7]; exact x8, by rw [upd_ne h5, upd_same], by rw [upd_same]; simp only [List.map_set]; rfl⟩
          · refine ifN (by rw [ed]; exact decide_eq_false eo) ?_
            refine ⟨_, rfl, x, C, dx, _, _, rfl, x8, T.cl, T.nR, lkR _ _ _ _, _, rfl, lr, _, _, p, rfl, rfl, x10, ix2, ?_⟩
            refine k _ ?_
            rw [e, if_neg eo]
            exact ⟨s1.put h4, h2, dx, lp, lr, h3, h4, h5, h6, h7, by rw [upd_ne h7]; exact x8, by rw [upd_ne h5, upd_same], by rw [upd_same]; simp only [List.map_set]; rfl⟩
theorem step_lens' {q : Q4} {p : Nat} {c : Nat} (h : q.ns.length = c ∧ q.rs.length = c) : (q.step p).ns.length = c ∧ (q.step p).rs.length = c := by
  obtain ⟨h1, h2⟩ := q.step_lens p
  exact ⟨h1.trans h.1, h2.trans h.2⟩
/-- the run's states -/
def Q4.at : Q4 → List Nat → Nat → Q4
  | q, _, 0 => q
  | q, [], _ + 1 => q
  | q, p :: ps, i + 1 => (q.step p).at ps i
theorem runs_at : ∀ (ps : List Nat) (q r : Q4), q.runs ps = some r → (∀ i p, ps[i]? = some p → (q.at ps i).can p = true ∧ q.at ps (i + 1) = (q.at ps i).step p) ∧ q.at ps ps.length = r
  | [], q, r, h => by
    cases h
    exact ⟨fun i p h => (by simp at h), rfl⟩
  | p :: ps, q, r, h => by
    simp only [Q4.runs] at h
    split at h
    · rename_i hc
      obtain ⟨h1, h2⟩ := runs_at ps (q.step p) r h
      refine ⟨fun i p' hi => ?_, h2⟩
      cases i with
      | zero =>
        have e : p = p' := by simpa using hi
        subst e
        refine ⟨hc, ?_⟩
        cases ps <;> rfl
      | succ i => exact h1 i p' (by simpa using hi)
    · cases h
theorem at_lens {c : Nat} : ∀ (ps : List Nat) (i : Nat) (q : Q4), (q.ns.length = c ∧ q.rs.length = c) → (q.at ps i).ns.length = c ∧ (q.at ps i).rs.length = c
  | _, 0, _, h => by
    cases ‹List Nat› <;> exact h
  | [], _ + 1, _, h => h
  | p :: ps, i + 1, q, h => at_lens ps i (q.step p) (step_lens' h)
theorem sc_SpA : FnScope ["count", "schedule", "splitter", "process"] ["count", "schedule"] (defScope sSpA) := ⟨rfl, rfl, rfl, by decide +kernel, rfl, by decide +kernel, by decide +kernel⟩
theorem ok_SpA {f C fI fC fP : Addr} {fd fdI fdC fdP : FuncData} {sI : List S → R S} (F : L2.Fun K "splitter_after" "splitter_after" sSpA f fd) (T : SpTxt K mg C) (M : Mk K C fI)
    (FI : L2.Fun K "__init__" "Splitter.__init__" sSpI fI fdI) (bI : Binds K fdI ["self", "count"] []) (FC : L2.Fun K "can_step" "Splitter.can_step" sSpC fC fdC) (bC : Binds K fdC ["self", "process"] []) (mC : Meth K C "can_step" fC)
    (FP : L2.Fun K "perform" "Splitter.perform" sSpP fP fdP) (bP : Binds K fdP ["self", "process"] []) (mP : Meth K C "perform" fP) (hI : Dok P w K mg base (fun _ _ _ _ _ => False) "is_integer" 3 1 sI)
    (eI : ∀ a l m : Int, l ≤ a → a ≤ m → sI [.val (.int a), .val (.int l), .val (.int m)] = .ok (.val (.bool true)) [.val (.int a), .val (.int l), .val (.int m)]) : FnG P w K mg base (L2.CX P w) 3 f fd ["count", "schedule"] (spSpA K C) := by
  have GI : FnOk P w K mg base CX0 1 fI fdI ["self", "count"] (spSpI C) := ok_SpI FI T
  have GC : FnG P w K mg base (L2.CX P w) 2 fC fdC ["self", "process"] (spSpC C) := ok_SpC FC T hI eI
  have GP : FnOk P w K mg base CX0 1 fP fdP ["self", "process"] (spSpP C) := ok_SpP FP T
  obtain ⟨aI, fdJ, psI, FJ, mI, kI, bJ⟩ := hI
  refine Fun.okG F sc_SpA (fun vs H Q E h => ?_) fun cdv A outer s H vs Q E hr hgd h => ?_
  · obtain ⟨c, a, ps, q, rfl, _⟩ := h
    rfl
  · obtain ⟨c, a, ps, q, rfl, hd, hc1, hc2, hq, k⟩ := h
    obtain ⟨tM, gM⟩ := T.most
    have hr1 := hr.mono (show 1 ≤ 2 by decide)
    refine ⟨_, pss_cons (ps_if (pt_not (pt_val (pe_callG (E := fun _ => E) FJ hr1 hgd rfl mI kI bJ (fun σ => passAt (takes_of rfl rfl rfl rfl) σ) (pa_cons (pv 0) (pa_cons pe_int (pa_cons (pe_glob (v := .int 40) rfl gM ⟨_, rfl⟩) pa_nil))) (by decide) (by rfl) (by rfl)))) (pss_one ps_never) pss_nil)
      (pss_cons (ps_if (pt_not (pt_val (pe_callB call_isi (by rfl) T.isi (blt_boot (.isi .list)) (pa_cons (pv 1) (pa_cons (pe_bltn (v := .ty "list") (by rfl) T.lst (ty_boot .list) rfl) pa_nil))))) (pss_one ps_never) pss_nil)
      (pss_cons (ps_set (i := 2) sc_SpA.nd rfl (.inl rfl) (pe_make (E := E) M GI hr rfl T.mgC bI .nil pass0 (pa_cons (pv 0) pa_nil)))
      (pss_cons (ps_for (passes_of rfl) rfl (pi_list (pv 1)) (pg_name (i := 3) sc_SpA.nd rfl (.inl rfl))
        (pss_cons (ps_if (pt_not (pt_val (pe_methG (E := fun _ => E) (pv 2) T.cl mC GC hr hgd bC (fun σ => passAt (takes_of rfl rfl rfl rfl) σ) (pa_cons (pv 3) pa_nil)))) (pss_one ps_never) pss_nil)
        (pss_one (ps_expr (pe_meth (E := E) (pv 2) T.cl mP GP hr1 bP .nil pass0 (pa_cons (pv 3) pa_nil))))))
      (pss_one (ps_ret (pv 2)))))), ?_⟩
    obtain ⟨ra, rl⟩ := runs_at ps _ q hq
    refine ⟨_, rfl, ?_⟩
    refine spOf_vals (ds := [.int c, .int 1, .int 40]) (.cons (.int _) (.cons (.int _) (.cons (.int _) .nil))) rfl (eI _ _ _ (by omega) (by omega)) fun v H1 sa1 hv => ?_
    cases hv
    refine ⟨true, rfl, ?_⟩
    refine ifN rfl ?_
    have hd1 := hd.mono sa1
    refine ⟨_, rfl, _, _, _, _, _, rfl, .ty _, hd1.tyX, kit_ty (ty_kit .list (.list (ps.map fun n : Nat => .int (n : Int)))), true, rfl, ?_⟩
    refine ifN rfl ?_
    refine ⟨_, rfl, fun x dx nx ndx nex => ?_⟩
    have s0 : Same H1 (upd (upd H1 dx (.own x)) x (.ins C dx [])) := fun b o e => by
      rw [upd_ne (ne_of_none e nx), upd_ne (ne_of_none e ndx)]
      exact e
    refine ⟨H1, x, dx, c, rfl, s0, nx, upd_same, hc2, fun H2 R2 => ⟨rfl, ?_⟩⟩
    have hS : ∃ ws, SqL K H1 a ws ∧ DPs K H1 ws (ps.map fun n : Nat => .int (n : Int)) := by
      cases hd1 with
      | lst z1 z2 => exact ⟨_, z1, z2⟩
    obtain ⟨ws, hws, hds⟩ := hS
    have ew : ws = ps.map fun n : Nat => V.int (n : Int) := by
      have e2 : (ps.map fun n : Nat => PyData.int (n : Int)) = (ps.map fun n : Nat => (n : Int)).map PyData.int := by rw [List.map_map]; rfl
      rw [e2] at hds
      rw [hds.ints, List.map_map]
      rfl
    subst ew
    refine ⟨_, rfl, a, rfl, ⟨_, R2.1.seq hws⟩, for_list (K := K) (a := a) (xs := ps.map fun n : Nat => V.int (n : Int)) (fun i σ H' => ∃ v, σ = [some (.int c), some (.ref a), some (.ref x), v] ∧ SpAt C H1 H' x ((Q4.ini c).at ps i))
      ⟨none, rfl, by cases ps <;> exact R2⟩ (fun i σ H' _ ⟨_, _, R⟩ => R.1.seq hws) ?_ ?_⟩
    · rintro i y σ H' hi ⟨v, rfl, R⟩
      obtain ⟨p, hp, rfl⟩ : ∃ p, ps[i]? = some p ∧ y = V.int (p : Int) := by
        rw [List.getElem?_map] at hi
        cases e : ps[i]? with
        | none => rw [e] at hi; cases hi
        | some p => rw [e] at hi; exact ⟨p, rfl, (Option.some.inj hi).symm⟩
      obtain ⟨hcan, hstep⟩ := ra i p hp
      obtain ⟨l1, l2⟩ := at_lens ps i (Q4.ini c) Q4.lens
      have hlt := can_lt hcan
      have noC : ∀ o f lp lr, (sF o f lp lr).lookup ("can_step" : Str) = none := fun _ _ _ _ => lkN _ _ _ _ (by decide +kernel) (by decide +kernel) (by decide +kernel) (by decide +kernel)
      have noP : ∀ o f lp lr, (sF o f lp lr).lookup ("perform" : Str) = none := fun _ _ _ _ => lkN _ _ _ _ (by decide +kernel) (by decide +kernel) (by decide +kernel) (by decide +kernel)
      obtain ⟨_, _, dp, lp, lr, _, _, _, _, _, hx, _, _⟩ := id R
      refine ⟨_, rfl, x, dp, _, rfl, hx, noC _ _ _ _, _, rfl, H1, x, p, _, rfl, R, by omega, hcan, fun H3 R3 => ⟨true, rfl, ?_⟩⟩
      refine ifN rfl ?_
      obtain ⟨_, _, dp3, lp3, lr3, _, _, _, _, _, hx3, _, _⟩ := id R3
      refine ⟨_, rfl, x, dp3, _, rfl, hx3, noP _ _ _ _, _, rfl, H1, x, p, _, rfl, R3, by omega, by omega, fun H4 R4 => ?_⟩
      exact ⟨_, rfl, by rw [hstep]; exact R4⟩
    · rintro σ H' ⟨v, rfl, R⟩
      rw [List.length_map, rl] at R
      obtain ⟨z1, z2, z3⟩ := R
      refine ⟨_, rfl, k _ x ⟨sa1.trans z1, sa1.free z2, ?_⟩⟩
      obtain ⟨dx', lp, lr, w1, w2, w3⟩ := z3
      exact ⟨dx', lp, lr, sa1.free w1, sa1.free w2, w3⟩
theorem sc_SpR : FnScope ["count", "schedule"] ["count", "schedule"] (defScope sSpR) := ⟨rfl, rfl, rfl, by decide +kernel, rfl, by decide +kernel, by decide +kernel⟩
theorem ok_SpR {f C fA : Addr} {fd fdA : FuncData} (F : L2.Fun K "run_splitter" "run_splitter" sSpR f fd) (T : SpTxt K mg C) (GA : FnG P w K mg base (L2.CX P w) 3 fA fdA ["count", "schedule"] (spSpA K C)) (mA : mg "splitter_after" = some (.ref fA)) (kA : PySem.W.keepIn K (.ref fA) = true) (bA : Binds K fdA ["count", "schedule"] []) :
    FnG P w K mg base (L2.CX P w) 4 f fd ["count", "schedule"] (spOf K (fun _ _ _ _ _ => False) 2 s_run_splitter) := by
  refine Fun.okG F sc_SpR (fun vs H Q E h => h.1) fun cdv A outer s H vs Q E hr hgd h => ?_
  obtain ⟨hl, ss, G, φ, hss, r, h⟩ := h
  unfold s_run_splitter at h
  split at h
  · rename_i i s1
    split at h
    · rename_i ds hv
      split at h
      · rename_i ps hps
        split at h
        · rename_i hi
          split at h
          · rename_i q hq
            match vs, hl with
            | [v0, v1], _ =>
              obtain ⟨u0, e0, t0⟩ := r.at (i := 0) (fun z => nomatch z)
              have e0' : some (some v0) = some (some u0) := e0
              cases e0'
              have t0' : DP K G v0 (.int i) := t0.1
              cases t0'
              have nd : slot [.val (.int i), s1] 1 ≠ .dead := fun z => by
                have z' : s1 = .dead := z
                rw [z'] at hv; cases hv
              obtain ⟨u1, e1, t1⟩ := r.at (i := 1) nd
              have e1' : some (some v1) = some (some u1) := e1
              cases e1'
              have vw : VW K G H v1 (.list ds) := VW.of t1 hv
              obtain ⟨a, ws, rfl, _, _⟩ := vw.list r.gh
              have dp := vw.dp r.gh
              rw [natsOf_map hps] at dp
              refine ⟨_, pss_one (ps_ret (pe_fld (pe_callG (E := fun _ => E) GA hr hgd rfl mA kA bA (fun σ => passAt (takes_of rfl rfl rfl rfl) σ) (pa_cons (pv 0) (pa_cons (pv 1) pa_nil)) (by decide) (by rfl) (by rfl)) rfl)), ?_⟩
              have ei : i = ((i.toNat : Nat) : Int) := by omega
              refine ⟨_, rfl, _, rfl, i.toNat, a, ps, q, by rw [← ei], dp, by omega, by omega, hq, fun H' x R => ?_⟩
              obtain ⟨z1, z2, dx, lp, lr, z3, z4, z5, z6, z7, z8, z9, z10⟩ := R
              refine ⟨x, C, dx, _, _, rfl, z8, T.cl, T.nR, lkR _ _ _ _, ?_⟩
              have st0 : Stp G H (fun _ => False) G H' (fun _ => False) := ⟨Same.refl G, fun b o e _ => z1 b o e, fun b y => y.elim, fun b y y' => absurd y y', fun b y => by
                cases e : H b with
                | none => exact absurd e y
                | some o => rw [z1 _ _ e]; exact fun y => nomatch y⟩
              have gl : G lr = none := r.gh.free z4
              have of : ¬ own φ lr := fun y => by
                obtain ⟨o, e⟩ := r.here y
                rw [z4] at e; cases e
              refine h (.ref lr) G H' φ [lr] ⟨Same.refl G, fun b o e _ => z1 b o e, fun b y => ?_, fun b y y' => absurd y y', st0.there⟩ (r.step st0 (r.gh.trans z1) fun b _ y => y) ⟨⟨lr, _, rfl, z10, dps_oV _, rfl⟩, fun b y => ?_, fun b y => ?_⟩
              · rcases y with y | y
                · exact .inl y
                · rw [List.mem_singleton.mp y]; exact .inr z4
              · rw [List.mem_singleton.mp y]; exact gl
              · rw [List.mem_singleton.mp y]; exact of
          · exact h.elim
        · exact h.elim
      · exact h.elim
    · exact h.elim
  · exact h.elim
end
/-! _law_right(outcome): 0 outcome, 1 schedule, 2 first, 3 process, 4 kept, 5 many, 6 numbers, 7 found, 8 result -/
def x__law_right_1 : VE.E := (.tup [(.e (.blt .str [(.pl 3)])), (.e (.cst (.bool true)))])
def l__law_right_1 : List VE.St := [(.ite (.cmp .notmem (.e (.blt .repr [(.pl 3)])) (.pl 6)) [(.ret (.cst (.bool false)))] []), (.setit 7 (.pl 3) (.bin .add (.e (.idx (.pl 7) (.pl 3))) (.e (.cst (.int 1)))))]
def x__law_right_2 : VE.E := (.idx (.e (.lst [(.e (.cst (.int 4))), (.e (.cst (.int 2)))])) (.e (.blt .int [(.e (.cmp .eq (.pl 8) (.e (.cst (.str ("right" : Str))))))])))
def b__law_right : List VE.St := [(.par [4, 5] [(.e (.blt .repr [(.pl 0)])), (.e (.blt .len [(.pl 0)]))]), (.asg 1 (.call 0 [(.pl 0)])), (.asg 2 (.blt .repr [(.pl 1)])), (.ite (.bop false [(.not (.blt (.isi .list) [(.pl 1)])), (.cmp .ne (.e (.blt .repr [(.pl 0)])) (.pl 4))]) [(.ret (.cst (.bool false)))] []), (.par [6, 7] [(.e (.blt .dict [(.e (.comp (.nm 3) (.rng1 (.pl 5)) none x__law_right_1))])), (.e (.bin .mul (.e (.lst [(.e (.cst (.int 0)))])) (.pl 5)))]), (.for_ (.nm 3) (.seq (.pl 1)) true l__law_right_1), (.ite (.cmp .ne (.pl 7) (.e (.comp (.nm 8) (.seq (.pl 0)) none x__law_right_2))) [(.ret (.cst (.bool false)))] []), (.ite (.bop false [(.cmp .ne (.e (.call 1 [(.pl 5), (.pl 1)])) (.pl 0)), (.bop true [(.cmp .lt (.pl 5) (.e (.cst (.int 41)))), (.cmp .ne (.e (.call 2 [(.pl 5), (.pl 1)])) (.pl 0))])]) [(.ret (.cst (.bool false)))] []), (.expr (.mut .append 1 [(.e (.cst (.str ("more" : Str))))])), (.ret (.cmp .eq (.e (.blt .repr [(.e (.call 0 [(.pl 0)]))])) (.pl 2)))]
theorem a__law_right : asgSs b__law_right = [4, 5, 1, 2, 6, 7, 3] := by decide +kernel
def p__law_right : Fns := ⟨fun i => match i with | 0 => s_outcome_schedule | 1 => s__law_ran | 2 => s_run_splitter | _ => fun _ => .stk, fun i => match i with  | _ => .none⟩
def s__law_right : List S → R S := evDef p__law_right 1 8 (asgSs b__law_right) b__law_right
theorem u__law_right (ss : List S) : s__law_right ss = evDef p__law_right 1 8 [4, 5, 1, 2, 6, 7, 3] b__law_right ss := by
  unfold s__law_right
  rw [a__law_right]
theorem sc__law_right : FnScope ["outcome", "schedule", "first", "process", "kept", "many", "numbers", "found", "result"] ["outcome"] (defScope (top 25)) := ⟨rfl, rfl, rfl, by decide +kernel, rfl, by decide +kernel, by decide +kernel⟩
theorem ck__law_right : ckSs ⟨["outcome", "schedule", "first", "process", "kept", "many", "numbers", "found", "result"], [("outcome_schedule", 1), ("_law_ran", 2), ("run_splitter", 2)], []⟩ (defScope (top 25)) b__law_right (defBody (top 25)) = true := by decide +kernel
/-! law(script): 0 script, 1 k, 2 cup, 3 turn, 4 many, 5 outcome -/
def l_law_1 : List VE.St := [(.asg 4 (.bin .add (.e (.cst (.int 1))) (.e (.call 1 [(.pl 2), (.e (.idx (.e (.lst [(.e (.cst (.int 4))), (.e (.cst (.int 12))), (.e (.idx (.e (.lst [(.e (.cst (.int 40))), (.e (.cst (.int 300)))])) (.e (.blt .int [(.e (.cmp .eq (.pl 1) (.e (.cst (.int 0)))))]))))])) (.e (.call 1 [(.pl 2), (.e (.cst (.int 3)))]))))])))), (.ite (.bop true [(.cmp .eq (.e (.bin .add (.pl 1) (.pl 3))) (.e (.cst (.int 0)))), (.cmp .eq (.e (.call 1 [(.pl 2), (.e (.cst (.int 6)))])) (.e (.cst (.int 5))))]) [(.asg 4 (.idx (.e (.lst [(.e (.cst (.int 300))), (.e (.cst (.int 2000)))])) (.e (.call 1 [(.pl 2), (.e (.cst (.int 2)))]))))] []), (.asg 5 (.call 2 [(.pl 2), (.pl 4)])), (.ite (.bop false [(.not (.call 3 [(.pl 5)])), (.not (.call 3 [(.e (.rev (.pl 5)))]))]) [(.ret (.cst (.bool false)))] [])]
def l_law_2 : List VE.St := [(.asg 2 (.call 0 [(.pl 0), (.pl 1)])), (.for_ (.nm 3) (.rng1 (.e (.cst (.int 10)))) false l_law_1)]
def b_law : List VE.St := [(.for_ (.nm 1) (.rng1 (.e (.blt .max2 [(.e (.cst (.int 1))), (.e (.blt .min2 [(.e (.cst (.int 6))), (.e (.blt .len [(.pl 0)]))]))]))) false l_law_2), (.ret (.bop true [(.call 3 [(.e (.lst [(.e (.cst (.str ("stop" : Str))))]))]), (.call 3 [(.e (.lst [(.e (.cst (.str ("down" : Str)))), (.e (.cst (.str ("right" : Str))))]))])]))]
theorem a_law : asgSs b_law = [1, 2, 3, 4, 4, 5] := by decide +kernel
def p_law : Fns := ⟨fun i => match i with | 0 => s__law_cup | 1 => s__law_sip | 2 => s__law_outcome | 3 => s__law_right | _ => fun _ => .stk, fun i => match i with  | _ => .none⟩
def s_law : List S → R S := evDef p_law 1 5 (asgSs b_law) b_law
theorem u_law (ss : List S) : s_law ss = evDef p_law 1 5 [1, 2, 3, 4, 4, 5] b_law ss := by
  unfold s_law
  rw [a_law]
theorem sc_law : FnScope ["script", "k", "cup", "turn", "many", "outcome"] ["script"] (defScope (top 26)) := ⟨rfl, rfl, rfl, by decide +kernel, rfl, by decide +kernel, by decide +kernel⟩
theorem ck_law : ckSs ⟨["script", "k", "cup", "turn", "many", "outcome"], [("_law_cup", 2), ("_law_sip", 2), ("_law_outcome", 2), ("_law_right", 1)], []⟩ (defScope (top 26)) b_law (defBody (top 26)) = true := by decide +kernel
abbrev noX : XR := fun _ _ _ _ _ => False
section
variable {P : Program} {w : World} {K : PySem.W.Frag} {mg : Str → Option Value} {base : Heap} {f : Addr} {fd : FuncData}
theorem is_integer_ok (a l m : Int) (h1 : l ≤ a) (h2 : a ≤ m) : s_is_integer [.val (.int a), .val (.int l), .val (.int m)] = .ok (.val (.bool true)) [.val (.int a), .val (.int l), .val (.int m)] := by
  simp [u_is_integer, evDef, b_is_integer, opBlt, ty, h1, h2]
theorem d__law_cup (F : L2.Fun K "_law_cup" "_law_cup" (top 21) f fd) (hm : mg "_law_cup" = some (.ref f)) (b : Binds K fd ["script", "k"] []) (hb : ∀ x ∈ bltNames, mg (Str.ofString x) = none) : Dok P w K mg base noX "_law_cup" 2 1 s__law_cup :=
  def_Dok (k := 0) (Φ := p__law_cup) F hm b sc__law_cup .nil .nil hb ck__law_cup rfl
theorem d__law_sip (F : L2.Fun K "_law_sip" "_law_sip" (top 22) f fd) (hm : mg "_law_sip" = some (.ref f)) (b : Binds K fd ["cup", "many"] []) (hb : ∀ x ∈ bltNames, mg (Str.ofString x) = none) : Dok P w K mg base noX "_law_sip" 2 1 s__law_sip :=
  def_Dok (k := 0) (Φ := p__law_sip) F hm b sc__law_sip .nil .nil hb ck__law_sip rfl
theorem p__law_outcome_f0 : p__law_outcome.fn 0 = s__law_sip := by
  unfold p__law_outcome
  rfl
theorem d__law_outcome (F : L2.Fun K "_law_outcome" "_law_outcome" (top 24) f fd) (hm : mg "_law_outcome" = some (.ref f)) (b : Binds K fd ["cup", "many"] []) (hb : ∀ x ∈ bltNames, mg (Str.ofString x) = none) (h0 : Dok P w K mg base noX "_law_sip" 2 1 s__law_sip) : Dok P w K mg base noX "_law_outcome" 2 2 s__law_outcome :=
  def_Dok (k := 1) (Φ := p__law_outcome) F hm b sc__law_outcome (.cons h0 (by decide) p__law_outcome_f0 .nil) .nil hb ck__law_outcome rfl
theorem p_is_outcome_g0 : p_is_outcome.gl 0 = (.tuple [(.str ("stop" : Str)), (.str ("right" : Str)), (.str ("down" : Str))]) := by
  unfold p_is_outcome
  rfl
theorem p_is_outcome_g1 : p_is_outcome.gl 1 = (.str ("stop" : Str)) := by
  unfold p_is_outcome
  rfl
theorem p_is_outcome_g2 : p_is_outcome.gl 2 = (.str ("right" : Str)) := by
  unfold p_is_outcome
  rfl
theorem p_is_outcome_g3 : p_is_outcome.gl 3 = (.str ("down" : Str)) := by
  unfold p_is_outcome
  rfl
theorem d_is_outcome (F : L2.Fun K "is_outcome" "is_outcome" (top 16) f fd) (hm : mg "is_outcome" = some (.ref f)) (b : Binds K fd ["value"] []) (hb : ∀ x ∈ bltNames, mg (Str.ofString x) = none) {ga0 : Addr} {gt0_0 gt0_1 gt0_2 : Tok} {gm0 : Nat} {gd0 : Option Addr} {gs0 : Array (Option Value)} (g0 : mg "RESULTS" = some (.ref ga0)) (gl0 : K.lookup ga0 = some ⟨.type "tuple", gd0, .seq #[.str ("stop" : Str) gt0_0, .str ("right" : Str) gt0_1, .str ("down" : Str) gt0_2] gm0, gs0⟩) {t1 : Nat} (g1 : mg "STOP" = some (.str ("stop" : Str) t1)) {t2 : Nat} (g2 : mg "RIGHT" = some (.str ("right" : Str) t2)) {t3 : Nat} (g3 : mg "DOWN" = some (.str ("down" : Str) t3)) : Dok P w K mg base noX "is_outcome" 1 1 s_is_outcome :=
  def_Dok (k := 0) (Φ := p_is_outcome) F hm b sc_is_outcome .nil (Gok.tup (vs := [V.str ("stop" : Str), V.str ("right" : Str), V.str ("down" : Str)]) g0 gl0 rfl rfl (show (3 : Nat) ≤ sizeLine by decide) (.cons ⟨_, rfl⟩ (.cons ⟨_, rfl⟩ (.cons ⟨_, rfl⟩ .nil))) (fun _ => (.cons (.str _) (.cons (.str _) (.cons (.str _) .nil)))) p_is_outcome_g0 (.str g1 p_is_outcome_g1 (.str g2 p_is_outcome_g2 (.str g3 p_is_outcome_g3 .nil)))) hb ck_is_outcome rfl
theorem d_processes_with (F : L2.Fun K "processes_with" "processes_with" (top 17) f fd) (hm : mg "processes_with" = some (.ref f)) (b : Binds K fd ["outcome", "result"] []) (hb : ∀ x ∈ bltNames, mg (Str.ofString x) = none) : Dok P w K mg base noX "processes_with" 2 1 s_processes_with :=
  def_Dok (k := 0) (Φ := p_processes_with) F hm b sc_processes_with .nil .nil hb ck_processes_with rfl
theorem p_schedule_in_f0 : p_schedule_in.fn 0 = s_processes_with := by
  unfold p_schedule_in
  rfl
theorem p_schedule_in_g0 : p_schedule_in.gl 0 = (.str ("stop" : Str)) := by
  unfold p_schedule_in
  rfl
theorem p_schedule_in_g1 : p_schedule_in.gl 1 = (.str ("down" : Str)) := by
  unfold p_schedule_in
  rfl
theorem p_schedule_in_g2 : p_schedule_in.gl 2 = (.str ("right" : Str)) := by
  unfold p_schedule_in
  rfl
theorem d_schedule_in (F : L2.Fun K "schedule_in" "schedule_in" (top 18) f fd) (hm : mg "schedule_in" = some (.ref f)) (b : Binds K fd ["outcome"] []) (hb : ∀ x ∈ bltNames, mg (Str.ofString x) = none) (h0 : Dok P w K mg base noX "processes_with" 2 1 s_processes_with) {t0 : Nat} (g0 : mg "STOP" = some (.str ("stop" : Str) t0)) {t1 : Nat} (g1 : mg "DOWN" = some (.str ("down" : Str) t1)) {t2 : Nat} (g2 : mg "RIGHT" = some (.str ("right" : Str) t2)) : Dok P w K mg base noX "schedule_in" 1 2 s_schedule_in :=
  def_Dok (k := 1) (Φ := p_schedule_in) F hm b sc_schedule_in (.cons h0 (by decide) p_schedule_in_f0 .nil) (.str g0 p_schedule_in_g0 (.str g1 p_schedule_in_g1 (.str g2 p_schedule_in_g2 .nil))) hb ck_schedule_in rfl
theorem p_outcome_schedule_f0 : p_outcome_schedule.fn 0 = s_is_outcome := by
  unfold p_outcome_schedule
  rfl
theorem p_outcome_schedule_f1 : p_outcome_schedule.fn 1 = s_schedule_in := by
  unfold p_outcome_schedule
  rfl
theorem d_outcome_schedule (F : L2.Fun K "outcome_schedule" "outcome_schedule" (top 19) f fd) (hm : mg "outcome_schedule" = some (.ref f)) (b : Binds K fd ["outcome"] []) (hb : ∀ x ∈ bltNames, mg (Str.ofString x) = none) (h0 : Dok P w K mg base noX "is_outcome" 1 1 s_is_outcome) (h1 : Dok P w K mg base noX "schedule_in" 1 2 s_schedule_in) : Dok P w K mg base noX "outcome_schedule" 1 3 s_outcome_schedule :=
  def_Dok (k := 2) (Φ := p_outcome_schedule) F hm b sc_outcome_schedule (.cons h0 (by decide) p_outcome_schedule_f0 (.cons h1 (by decide) p_outcome_schedule_f1 .nil)) .nil hb ck_outcome_schedule rfl
theorem d__law_ran (F : L2.Fun K "_law_ran" "_law_ran" (top 23) f fd) (hm : mg "_law_ran" = some (.ref f)) (b : Binds K fd ["count", "schedule"] []) (hb : ∀ x ∈ bltNames, mg (Str.ofString x) = none) : Dok P w K mg base noX "_law_ran" 2 1 s__law_ran :=
  def_Dok (k := 0) (Φ := p__law_ran) F hm b sc__law_ran .nil .nil hb ck__law_ran rfl
theorem d_is_integer (F : L2.Fun K "is_integer" "is_integer" (top 6) f fd) (hm : mg "is_integer" = some (.ref f)) (b : Binds K fd ["value", "least", "most"] []) (hb : ∀ x ∈ bltNames, mg (Str.ofString x) = none) : Dok P w K mg base noX "is_integer" 3 1 s_is_integer :=
  def_Dok (k := 0) (Φ := p_is_integer) F hm b sc_is_integer .nil .nil hb ck_is_integer rfl
theorem p__law_right_f0 : p__law_right.fn 0 = s_outcome_schedule := by
  unfold p__law_right
  rfl
theorem p__law_right_f1 : p__law_right.fn 1 = s__law_ran := by
  unfold p__law_right
  rfl
theorem p__law_right_f2 : p__law_right.fn 2 = s_run_splitter := by
  unfold p__law_right
  rfl
theorem d__law_right (F : L2.Fun K "_law_right" "_law_right" (top 25) f fd) (hm : mg "_law_right" = some (.ref f)) (b : Binds K fd ["outcome"] []) (hb : ∀ x ∈ bltNames, mg (Str.ofString x) = none) (h0 : Dok P w K mg base noX "outcome_schedule" 1 3 s_outcome_schedule) (h1 : Dok P w K mg base noX "_law_ran" 2 1 s__law_ran) (h2 : Dok P w K mg base noX "run_splitter" 2 4 s_run_splitter) : Dok P w K mg base noX "_law_right" 1 5 s__law_right :=
  def_Dok (k := 4) (Φ := p__law_right) F hm b sc__law_right (.cons h0 (by decide) p__law_right_f0 (.cons h1 (by decide) p__law_right_f1 (.cons h2 (by decide) p__law_right_f2 .nil))) .nil hb ck__law_right rfl
theorem p_law_f0 : p_law.fn 0 = s__law_cup := by
  unfold p_law
  rfl
theorem p_law_f1 : p_law.fn 1 = s__law_sip := by
  unfold p_law
  rfl
theorem p_law_f2 : p_law.fn 2 = s__law_outcome := by
  unfold p_law
  rfl
theorem p_law_f3 : p_law.fn 3 = s__law_right := by
  unfold p_law
  rfl
theorem d_law (F : L2.Fun K "law" "law" (top 26) f fd) (hb : ∀ x ∈ bltNames, mg (Str.ofString x) = none) (h0 : Dok P w K mg base noX "_law_cup" 2 1 s__law_cup) (h1 : Dok P w K mg base noX "_law_sip" 2 1 s__law_sip) (h2 : Dok P w K mg base noX "_law_outcome" 2 2 s__law_outcome) (h3 : Dok P w K mg base noX "_law_right" 1 5 s__law_right) : FnG P w K mg base (L2.CX P w) 6 f fd ["script"] (spOf K noX 1 s_law) :=
  def_okE (k := 5) (Φ := p_law) F sc_law (.cons h0 (by decide) p_law_f0 (.cons h1 (by decide) p_law_f1 (.cons h2 (by decide) p_law_f2 (.cons h3 (by decide) p_law_f3 .nil)))) .nil hb ck_law rfl rfl
end
end VEL
namespace VEL
open PySem L2 PySem.Spec PyProof.Rows VE
/-! data that can be shown; its weight -/
mutual
/-- its texts may be compared -/
def tOk : PyData → Bool
  | .str x => PyData.canLay0 (.str x)
  | .list xs => tOks xs
  | .tuple xs => tOks xs
  | _ => true
def tOks : List PyData → Bool
  | [] => true
  | x :: xs => tOk x && tOks xs
end
structure Nc (D : Nat) (d : PyData) : Prop where
  sh : d.showable = true
  lv : d.leavesShort 13 = true
  fl : flatK d = true
  tk : tOk d = true
  dp : d.depth ≤ D
theorem Nc.mono {D D' : Nat} {d : PyData} (h : Nc D d) (k : D ≤ D') : Nc D' d := ⟨h.sh, h.lv, h.fl, h.tk, Nat.le_trans h.dp k⟩
theorem nc_all {D : Nat} : ∀ {xs : List PyData}, (∀ x ∈ xs, Nc D x) → PyData.showableAll xs = true ∧ PyData.leavesShortAll 13 xs = true ∧ flatKs xs = true ∧ tOks xs = true ∧ PyData.depthAll xs ≤ D
  | [], _ => ⟨rfl, rfl, rfl, rfl, Nat.zero_le _⟩
  | x :: xs, h => by
    obtain ⟨a1, a2, a3, a4, a5⟩ := h x List.mem_cons_self
    obtain ⟨b1, b2, b3, b4, b5⟩ := nc_all (xs := xs) fun y hy => h y (List.mem_cons_of_mem _ hy)
    refine ⟨?_, ?_, ?_, ?_, ?_⟩
    · show (x.showable && PyData.showableAll xs) = true
      rw [a1, b1]; rfl
    · show (x.leavesShort 13 && PyData.leavesShortAll 13 xs) = true
      rw [a2, b2]; rfl
    · show (flatK x && flatKs xs) = true
      rw [a3, b3]; rfl
    · show (tOk x && tOks xs) = true
      rw [a4, b4]; rfl
    · exact Nat.max_le.mpr ⟨a5, b5⟩
theorem nc_list {D : Nat} {xs : List PyData} (h : ∀ x ∈ xs, Nc D x) : Nc (D + 1) (.list xs) := by
  obtain ⟨b1, b2, b3, b4, b5⟩ := nc_all h
  exact ⟨b1, b2, b3, b4, Nat.succ_le_succ b5⟩
theorem nc_tuple {D : Nat} {xs : List PyData} (h : ∀ x ∈ xs, Nc D x) : Nc (D + 1) (.tuple xs) := by
  obtain ⟨b1, b2, b3, b4, b5⟩ := nc_all h
  exact ⟨b1, b2, b3, b4, Nat.succ_le_succ b5⟩
theorem nc_items {D : Nat} {xs : List PyData} (h : Nc (D + 1) (.list xs)) : ∀ x ∈ xs, Nc D x := by
  have key : ∀ (xs : List PyData), PyData.showableAll xs = true → PyData.leavesShortAll 13 xs = true → flatKs xs = true → tOks xs = true → PyData.depthAll xs ≤ D → ∀ x ∈ xs, Nc D x := by
    intro xs
    induction xs with
    | nil => intro _ _ _ _ _ x hx; cases hx
    | cons y ys ih =>
      intro h1 h2 h3 h4 h5 x hx
      have h1' : (y.showable && PyData.showableAll ys) = true := h1
      have h2' : (y.leavesShort 13 && PyData.leavesShortAll 13 ys) = true := h2
      have h3' : (flatK y && flatKs ys) = true := h3
      have h4' : (tOk y && tOks ys) = true := h4
      have h5' : max y.depth (PyData.depthAll ys) ≤ D := h5
      rw [Bool.and_eq_true] at h1' h2' h3' h4'
      rcases List.mem_cons.mp hx with rfl | hx
      · exact ⟨h1'.1, h2'.1, h3'.1, h4'.1, by omega⟩
      · exact ih h1'.2 h2'.2 h3'.2 h4'.2 (by omega) x hx
  exact key xs h.sh h.lv h.fl h.tk (Nat.le_of_succ_le_succ h.dp)
theorem wt_app : ∀ (xs ys : List PyData), PyData.weightAll (xs ++ ys) = PyData.weightAll xs + PyData.weightAll ys
  | [], ys => (Nat.zero_add _).symm
  | x :: xs, ys => by
    show x.weight + 1 + PyData.weightAll (xs ++ ys) = x.weight + 1 + PyData.weightAll xs + PyData.weightAll ys
    rw [wt_app xs ys]
    omega
theorem wt_sub {xs ys : List PyData} (h : xs.Sublist ys) : PyData.weightAll xs ≤ PyData.weightAll ys := by
  induction h with
  | slnil => exact Nat.le_refl _
  | cons a _ ih => exact Nat.le_trans ih (Nat.le_add_left _ _)
  | cons_cons a _ ih => exact Nat.add_le_add_left ih _
theorem wt_rev : ∀ (xs : List PyData), PyData.weightAll xs.reverse = PyData.weightAll xs
  | [] => rfl
  | x :: xs => by
    rw [List.reverse_cons, wt_app, wt_rev xs]
    show PyData.weightAll xs + (x.weight + 1 + 0) = x.weight + 1 + PyData.weightAll xs
    omega
theorem wt_len : ∀ (xs : List PyData), xs.length ≤ PyData.weightAll xs
  | [] => Nat.le_refl _
  | x :: xs => by
    have := wt_len xs
    show xs.length + 1 ≤ x.weight + 1 + PyData.weightAll xs
    omega
theorem repr_n {d : PyData} (h : Nc 50 d) (hw : d.weight ≤ 1000000) : opBlt .repr [d] = some (.val (.str d.shown)) := by
  obtain ⟨h1, h2, h3, _, h4⟩ := h
  have q := PyData.shown_le 13 (by decide) d h2
  have hs : (16000000 : Nat) ≤ sizeLine := by decide
  show (if PyData.showable d && decide (d.shown.length ≤ sizeLine) && decide (d.depth ≤ 60) && flatK d then some (S.val (.str d.shown)) else none) = _
  rw [h1, h3, decide_eq_true (show d.depth ≤ 60 by omega), decide_eq_true (show d.shown.length ≤ sizeLine by omega)]
  rfl
/-! the draws -/
theorem cup_ok (ds : List PyData) (k : Nat) (hk : k < 1000) (hl : ds.length ≤ 63) (hi : ∀ d ∈ ds, ∃ i, d = .int i) : ∃ a b : Int, s__law_cup [.val (.list ds), .val (.int k)] = .ok (.lst [.int a, .int b, .int 0]) [.val (.list ds), .val (.int k)] ∧ 0 ≤ a ∧ 0 ≤ b ∧ b < 2 ^ 150 := by
  have hz : ds.length ≤ sizeLine := by have : (63 : Nat) ≤ sizeLine := by decide
                                       omega
  have p1 : powOk 10 18 = true := by decide
  have p2 : powOk 10 38 = true := by decide
  have m2 : ∀ a : Int, mulOk 700171 a = true := fun a => mulOk_l (by decide)
  by_cases h : k < ds.length
  · obtain ⟨i, hi⟩ := hi ds[k] (List.getElem_mem h)
    have e : atI ds (k : Int) = some (.int i) := atI_nat (by rw [List.getElem?_eq_getElem h, hi])
    have hk' : (k : Int) < (ds.length : Int) := by omega
    refine ⟨if i - 10 ^ 18 > 0 then i - 10 ^ 18 else 0, i % (10 ^ 38 + 343) + 700171 * k + 3, ?_, ?_, ?_, ?_⟩
    · simp [u__law_cup, evDef, b__law_cup, hz, hk', e, p1, p2, m2]
      simp [sizeLine]
    · split <;> omega
    · omega
    · omega
  · have hk' : ¬ (k : Int) < (ds.length : Int) := by omega
    refine ⟨0, 700171 * k + 3, ?_, ?_, ?_, ?_⟩
    · simp [u__law_cup, evDef, b__law_cup, hz, hk', p1, p2, m2]
      simp [sizeLine]
    · omega
    · omega
    · omega
theorem sip_ok (a b c n : Int) (ha : 0 ≤ a) (hb : 0 ≤ b) (hb2 : b < 2 ^ 150) (hc : 0 ≤ c) (hc2 : c < 2 ^ 40) (hn : 0 < n) (hn2 : n < 2 ^ 200) : ∃ v a' c' : Int, s__law_sip [.lst [.int a, .int b, .int c], .val (.int n)] = .ok (.val (.int v)) [.lst [.int a', .int b, .int c'], .val (.int n)] ∧ 0 ≤ v ∧ v < n ∧ 0 ≤ a' ∧ 0 ≤ c' ∧ c' ≤ c + 1 := by
  have dn : divOk n = true := divOk_of hn (by omega)
  have i0 : ∀ x y z : PyData, atI [x, y, z] 0 = some x := fun _ _ _ => rfl
  have i1 : ∀ x y z : PyData, atI [x, y, z] 1 = some y := fun _ _ _ => rfl
  have i2 : ∀ x y z : PyData, atI [x, y, z] 2 = some z := fun _ _ _ => rfl
  have j0 : ixN 3 0 = some 0 := rfl
  have j2 : ixN 3 2 = some 2 := rfl
  by_cases h : 0 < a
  · refine ⟨a % n, a / n, c, ?_, Int.emod_nonneg _ (by omega), Int.emod_lt_of_pos _ hn, Int.ediv_nonneg ha (by omega), hc, by omega⟩
    simp [u__law_sip, evDef, b__law_sip, i0, i1, i2, j0, j2, h, hn, dn]
  · have m1 : ∀ a : Int, mulOk 49979693 a = true := fun a => mulOk_l (by decide)
    have m2 : ∀ a : Int, mulOk 86028157 a = true := fun a => mulOk_l (by decide)
    have p0 : powOk 10 41 = true := by decide
    have p2 : powOk 10 40 = true := by decide
    have p1 : powOk (b + 49979693 * (c + 1)) 3 = true := powOk_of (by omega) (by omega) (by omega) (by omega)
    have d1 : divOk 1000003 = true := by decide
    have h1 := Int.emod_nonneg ((b + 49979693 * (c + 1)) ^ 3) (show (10 ^ 41 + 109 : Int) ≠ 0 by decide)
    have h2 := Int.emod_lt_of_pos ((b + 49979693 * (c + 1)) ^ 3) (show (0 : Int) < 10 ^ 41 + 109 by decide)
    have p3 : powOk ((b + 49979693 * (c + 1)) ^ 3 % (10 ^ 41 + 109) + 86028157 * (c + 1)) 3 = true := powOk_of (by omega) (by omega) (by omega) (by omega)
    simp at p3
    refine ⟨((b + 49979693 * (c + 1)) ^ 3 % (10 ^ 41 + 109) + 86028157 * (c + 1)) ^ 3 % (10 ^ 40 + 121) / 1000003 % n, a, c + 1, ?_, Int.emod_nonneg _ (by omega), Int.emod_lt_of_pos _ hn, ha, by omega, by omega⟩
    simp [u__law_sip, evDef, b__law_sip, i0, i1, i2, j0, j2, h, hn, dn, m1, m2, p0, p1, p2, p3, d1]
/-! ### the plain run -/
def nD (ps : List Nat) : List PyData := ps.map fun n : Nat => .int (n : Int)
def Is (s : S) (d : PyData) : Prop := s = .val d ∨ ∃ xs, s = .lst xs ∧ d = .list xs
theorem ixN_n {n j : Nat} (h : j < n) : ixN n (j : Int) = some j := by
  unfold ixN
  rw [if_pos (by omega), if_pos (by omega)]
  simp
/-- a result's process has made at most three steps -/
structure Gd (c : Nat) (q : Q4) : Prop where
  ns : q.ns.length = c
  rs : q.rs.length = c
  le : ∀ p, q.rs[p]? = some none → q.ns.getD p 0 ≤ 3
theorem gd_ini (c : Nat) : Gd c (Q4.ini c) := ⟨Q4.lens.1, Q4.lens.2, fun p _ => by
  unfold Q4.ini
  simp only [List.getD_eq_getElem?_getD, List.getElem?_replicate]
  split <;> simp⟩
theorem gd_step {c : Nat} {q : Q4} {p : Nat} (g : Gd c q) (h : q.can p = true) : Gd c (q.step p) := by
  obtain ⟨l1, l2⟩ := step_lens' (p := p) ⟨g.ns, g.rs⟩
  refine ⟨l1, l2, fun r hr => ?_⟩
  have hp := can_lt h
  have hn := g.le p (can_get h)
  have hpn : p < q.ns.length := by rw [g.ns, ← g.rs]; exact hp
  have gd : ∀ (v : Nat), (q.ns.set p v).getD r 0 = if p = r then v else q.ns.getD r 0 := fun v => by
    rw [List.getD_eq_getElem?_getD, List.getD_eq_getElem?_getD, List.getElem?_set]
    split
    · rename_i e
      subst e
      first | rfl | (rw [if_pos hpn]; rfl)
    · rfl
  have rset : ∀ (z : Str), (q.rs.set p (some z))[r]? = some none → p ≠ r ∧ q.rs[r]? = some none := fun z e => by
    rw [List.getElem?_set] at e
    split at e
    · rename_i e0
      subst e0
      first | cases e | (rw [if_pos hp] at e; cases e)
    · rename_i ne
      exact ⟨ne, e⟩
  unfold Q4.step at hr ⊢
  simp only at hr ⊢
  by_cases n0 : q.ns.getD p 0 = 0
  · rw [if_pos n0] at hr ⊢
    simp only at hr ⊢
    rw [gd]
    split
    · omega
    · exact g.le r hr
  · rw [if_neg n0] at hr ⊢
    by_cases n1 : q.ns.getD p 0 = 1
    · rw [if_pos n1] at hr ⊢
      simp only at hr ⊢
      rw [gd]
      split
      · omega
      · rename_i ne
        refine g.le r ?_
        cases hf : q.f with
        | true =>
          rw [hf] at hr
          exact (rset _ hr).2
        | false =>
          rw [hf] at hr
          exact hr
    · rw [if_neg n1] at hr ⊢
      by_cases n2 : q.ns.getD p 0 = 2
      · rw [if_pos n2] at hr ⊢
        simp only at hr ⊢
        rw [gd]
        split
        · omega
        · exact g.le r hr
      · rw [if_neg n2] at hr ⊢
        simp only at hr ⊢
        obtain ⟨ne, e⟩ := rset _ hr
        rw [gd, if_neg ne]
        exact g.le r e
theorem gd_runs {c : Nat} : ∀ (ps : List Nat) {q r : Q4}, Gd c q → q.runs ps = some r → Gd c r
  | [], q, r, g, h => by cases h; exact g
  | p :: ps, q, r, g, h => by
    simp only [Q4.runs] at h
    split at h
    · rename_i hc
      exact gd_runs ps (gd_step g hc) h
    · cases h
theorem runs_app : ∀ (ps qs : List Nat) (q : Q4), q.runs (ps ++ qs) = (q.runs ps).bind fun r => r.runs qs
  | [], qs, q => rfl
  | p :: ps, qs, q => by
    simp only [List.cons_append, Q4.runs]
    split
    · exact runs_app ps qs _
    · rfl
theorem runs_take {ps : List Nat} {q r : Q4} (n : Nat) (h : q.runs ps = some r) : ∃ r', q.runs (ps.take n) = some r' := by
  have e := runs_app (ps.take n) (ps.drop n) q
  rw [List.take_append_drop, h] at e
  cases e2 : q.runs (ps.take n) with
  | none => rw [e2] at e; cases e
  | some r' => exact ⟨r', rfl⟩
theorem runs_snoc {ps : List Nat} {q r : Q4} {p : Nat} (h : q.runs ps = some r) (hc : r.can p = true) : q.runs (ps ++ [p]) = some (r.step p) := by
  rw [runs_app, h]
  show r.runs [p] = _
  simp only [Q4.runs]
  rw [if_pos hc]
/-- the law's own run -/
def oO : Option Nat → PyData
  | none => .none
  | some n => .int (n : Int)
theorem ran_loop {c : Nat} (v0 v1 : S) : ∀ (ps : List Nat) (q r : Q4) (o2 o7 : S), Gd c q → q.runs ps = some r →
    ∃ o2' o7', loop (bodyF p__law_ran (.nm 2) l__law_ran_1) (nD ps) [v0, v1, o2, .val (oO q.o), .val (.bool q.f), .lst (nD q.ns), .lst (q.rs.map oD), o7] = .ok .nx [v0, v1, o2', .val (oO r.o), .val (.bool r.f), .lst (nD r.ns), .lst (r.rs.map oD), o7']
  | [], q, r, o2, o7, _, h => by
    cases h
    exact ⟨o2, o7, rfl⟩
  | p :: ps, q, r, o2, o7, g, h => by
    simp only [Q4.runs] at h
    split at h
    · rename_i hc
      have hp := can_lt hc
      have hpc : p < c := by rw [← g.rs]; exact hp
      have hn3 := g.le p (can_get hc)
      have at1 : atI (nD q.ns) (p : Int) = some (.int ((q.ns.getD p 0 : Nat) : Int)) := by
        refine atI_nat ?_
        unfold nD
        rw [List.getElem?_map, List.getD_eq_getElem?_getD, List.getElem?_eq_getElem (by rw [g.ns]; exact hpc)]
        rfl
      have ix1 : ixN (nD q.ns).length (p : Int) = some p := ixN_n (by unfold nD; rw [List.length_map, g.ns]; exact hpc)
      have ix2 : ixN q.rs.length (p : Int) = some p := ixN_n hp
      have st : (nD q.ns).set p (.int (((q.ns.getD p 0 : Nat) : Int) + 1)) = nD (q.ns.set p (q.ns.getD p 0 + 1)) := by
        unfold nD
        rw [List.map_set]; rfl
      have sr : ∀ z : Str, (q.rs.map oD).set p (.str z) = (q.rs.set p (some z)).map oD := fun z => by rw [List.map_set]; rfl
      obtain ⟨o2', o7', e⟩ := ran_loop v0 v1 ps (q.step p) r (.val (.int p)) (.val (.int ((q.ns.getD p 0 : Nat) : Int))) (gd_step g hc) h
      refine ⟨o2', o7', ?_⟩
      have step : bodyF p__law_ran (.nm 2) l__law_ran_1 (.int p) [v0, v1, o2, .val (oO q.o), .val (.bool q.f), .lst (nD q.ns), .lst (q.rs.map oD), o7] = .ok .nx [v0, v1, .val (.int p), .val (oO (q.step p).o), .val (.bool (q.step p).f), .lst (nD (q.step p).ns), .lst ((q.step p).rs.map oD), .val (.int ((q.ns.getD p 0 : Nat) : Int))] := by
        clear e
        generalize hN : q.ns.getD p 0 = N at *
        unfold Q4.step
        simp only [hN]
        obtain rfl | rfl | rfl | rfl : N = 0 ∨ N = 1 ∨ N = 2 ∨ N = 3 := by omega
        · simp [l__law_ran_1, at1, ix1, st]
          simp [← st, oO]
        · cases hf : q.f with
          | true =>
            simp [l__law_ran_1, at1, ix1, ix2, st, sr]
            simp [← st]
          | false =>
            simp [l__law_ran_1, at1, ix1, ix2, st, sr]
            simp [← st]
        · simp [l__law_ran_1, at1, ix1, st]
          simp [← st]
        · have eo : opC .eq (oO q.o) (.int (p : Int)) = some (decide (q.o = some p)) := by
            cases hq : q.o with
            | none => rfl
            | some m =>
              show opC .eq (.int (m : Int)) (.int (p : Int)) = _
              rw [opC_eqI]
              congr 1
              rw [decide_eq_decide]
              constructor
              · intro z; rw [show m = p by omega]
              · intro z; rw [Option.some.inj z]
          by_cases hq : q.o = some p
          · rw [decide_eq_true hq] at eo
            rw [if_pos hq, hq]
            simp [l__law_ran_1, at1, ix1, ix2, st, sr, oO]
            simp [← st, ← sr]
          · rw [decide_eq_false hq] at eo
            simp [l__law_ran_1, at1, ix1, ix2, st, sr, eo, hq]
            simp [← st]
      show loop _ (.int (p : Int) :: nD ps) _ = _
      rw [loop, step]
      exact e
    · cases h
end VEL

namespace VEL
open PySem L2 PySem.Spec PyProof.Rows VE
theorem flat1 (c : Nat) (x : PyData) : (List.replicate c [x]).flatten = List.replicate c x := by
  induction c with
  | zero => rfl
  | succ c ih => rw [List.replicate_succ, List.replicate_succ, List.flatten_cons, ih]; rfl
theorem nD_rep (c : Nat) : nD (List.replicate c 0) = List.replicate c (.int 0) := by
  unfold nD
  rw [List.map_replicate]
  rfl
theorem rs_rep (c : Nat) : (List.replicate c (none : Option Str)).map oD = List.replicate c .none := by
  rw [List.map_replicate]
  rfl
theorem rep1 (c : Nat) (x : PyData) (c2 : c ≤ 10000) : opB .mul (.list [x]) (.int c) = some (.lst (List.replicate c x)) := by
  have c1 : (c : Int) < 9223372036854775808 := by omega
  have c3 : c ≤ 16777216 := by omega
  simp [flat1, c1, c3, sizeLine]
theorem ran_core (Φ : Fns) (y : PyData) (s0 s1 : S) (c : Nat) (xs rs : List PyData) (o2 o7 a b d : S) (hv : s0 = .val (.list xs) ∧ s1 = s0 ∨ s0 = .lst xs ∧ s1 = .dead) (hy : ∀ x, opB .mul (.list [x]) y = some (.lst (List.replicate c x)))
    (e : loop (bodyF Φ (.nm 2) l__law_ran_1) xs [.val y, s1, .dead, .val .none, .val (.bool false), .lst (List.replicate c (.int 0)), .lst (List.replicate c .none), .dead] = .ok .nx [.val y, s1, o2, a, b, d, .lst rs, o7]) :
    evDef Φ 2 6 [3, 4, 5, 6, 2, 7, 3, 4] b__law_ran [.val y, s0] = .ok (.lst rs) [.val y, s0] := by
  rcases hv with ⟨rfl, rfl⟩ | ⟨rfl, rfl⟩
  · simp [evDef, b__law_ran, hy, evS_for, e, sizeLine]
  · simp [evDef, b__law_ran, hy, evS_for, e, sizeLine]
theorem ran_ok {c : Nat} {ps : List Nat} {q : Q4} {s : S} (hs : Is s (.list (nD ps))) (hc : c ≤ 10000) (h : (Q4.ini c).runs ps = some q) : s__law_ran [.val (.int c), s] = .ok (.lst (q.rs.map oD)) [.val (.int c), s] := by
  rw [u__law_ran]
  rcases hs with rfl | ⟨xs, rfl, e⟩
  · obtain ⟨o2', o7', e⟩ := ran_loop (.val (.int c)) (.val (.list (nD ps))) ps _ q .dead .dead (gd_ini c) h
    change loop (bodyF p__law_ran (.nm 2) l__law_ran_1) (nD ps) [.val (.int c), .val (.list (nD ps)), .dead, .val .none, .val (.bool false), .lst (nD (List.replicate c 0)), .lst ((List.replicate c none).map oD), .dead] = _ at e
    rw [nD_rep, rs_rep] at e
    exact ran_core p__law_ran (.int c) (.val (.list (nD ps))) (.val (.list (nD ps))) c (nD ps) _ _ _ _ _ _ (.inl ⟨rfl, rfl⟩) (fun x => rep1 c x hc) e
  · cases e
    obtain ⟨o2', o7', e⟩ := ran_loop (.val (.int c)) .dead ps _ q .dead .dead (gd_ini c) h
    change loop (bodyF p__law_ran (.nm 2) l__law_ran_1) (nD ps) [.val (.int c), .dead, .dead, .val .none, .val (.bool false), .lst (nD (List.replicate c 0)), .lst ((List.replicate c none).map oD), .dead] = _ at e
    rw [nD_rep, rs_rep] at e
    exact ran_core p__law_ran (.int c) (.lst (nD ps)) .dead c (nD ps) _ _ _ _ _ _ (.inr ⟨rfl, rfl⟩) (fun x => rep1 c x hc) e
theorem Is.view {s : S} {d : PyData} (h : Is s d) : VE.view s = some d := by
  rcases h with rfl | ⟨xs, rfl, rfl⟩ <;> rfl
theorem run_ok {c : Nat} {ps : List Nat} {q : Q4} {s : S} (hs : Is s (.list (nD ps))) (h0 : 1 ≤ c) (hc : c ≤ 40) (h : (Q4.ini c).runs ps = some q) : s_run_splitter [.val (.int c), s] = .ok (.lst (q.rs.map oD)) [.val (.int c), s] := by
  unfold s_run_splitter
  simp only [hs.view]
  have e : natsOf (nD ps) = some ps := natsOf_of ps
  simp only [e]
  rw [if_pos (by omega), Int.toNat_natCast, h]
theorem nc_nat : ∀ n : Nat, n < 2001 → Nc 0 (.int (n : Int)) ∧ PyData.weight (.int (n : Int)) ≤ 11 := fun n hn =>
  have key : ∀ n ∈ List.range 2001, (PyData.showable (.int (n : Int)) && PyData.leavesShort 13 (.int (n : Int)) && flatK (.int (n : Int)) && tOk (.int (n : Int)) && decide (PyData.depth (.int (n : Int)) ≤ 0) && decide (PyData.weight (.int (n : Int)) ≤ 11)) = true := by decide +kernel
  have k := key n (List.mem_range.mpr hn)
  by
    simp only [Bool.and_eq_true, decide_eq_true_eq] at k
    obtain ⟨⟨⟨⟨⟨k1, k2⟩, k3⟩, k4⟩, k5⟩, k6⟩ := k
    exact ⟨⟨k1, k2, k3, k4, k5⟩, k6⟩
theorem nc_o (z : Option Str) (h : z = none ∨ z = some "stop" ∨ z = some "right" ∨ z = some "down") : Nc 0 (oD z) ∧ (oD z).weight ≤ 5 := by
  rcases h with rfl | rfl | rfl | rfl <;> exact ⟨⟨by decide +kernel, by decide +kernel, by decide +kernel, by decide +kernel, by decide +kernel⟩, by decide +kernel⟩
theorem wt_all {k : Nat} : ∀ {xs : List PyData}, (∀ x ∈ xs, x.weight ≤ k) → PyData.weightAll xs ≤ (k + 1) * xs.length
  | [], _ => Nat.zero_le _
  | x :: xs, h => by
    have h1 := h x List.mem_cons_self
    have h2 := wt_all (xs := xs) fun y hy => h y (List.mem_cons_of_mem _ hy)
    show x.weight + 1 + PyData.weightAll xs ≤ (k + 1) * (xs.length + 1)
    rw [Nat.mul_succ]
    omega
/-- what a result may be -/
def rsOk (rs : List (Option Str)) : Prop := ∀ z ∈ rs, z = none ∨ z = some "stop" ∨ z = some "right" ∨ z = some "down"
theorem rs_set {rs : List (Option Str)} {p : Nat} {z : Option Str} (h : rsOk rs) (hz : z = none ∨ z = some "stop" ∨ z = some "right" ∨ z = some "down") : rsOk (rs.set p z) := fun y hy => by
  rcases List.mem_or_eq_of_mem_set hy with hy | rfl
  · exact h y hy
  · exact hz
theorem rs_step {q : Q4} {p : Nat} (h : rsOk q.rs) : rsOk (q.step p).rs := by
  unfold Q4.step
  simp only
  split
  · exact h
  · split
    · show rsOk (if q.f then _ else _)
      split
      · exact rs_set h (.inr (.inr (.inl rfl)))
      · exact h
    · split
      · exact h
      · refine rs_set h ?_
        split
        · exact .inr (.inl rfl)
        · exact .inr (.inr (.inr rfl))
theorem rs_runs : ∀ (ps : List Nat) {q r : Q4}, rsOk q.rs → q.runs ps = some r → rsOk r.rs
  | [], q, r, g, h => by cases h; exact g
  | p :: ps, q, r, g, h => by
    simp only [Q4.runs] at h
    split at h
    · exact rs_runs ps (rs_step g) h
    · cases h
theorem lt_runs : ∀ (ps : List Nat) {c : Nat} {q r : Q4}, Gd c q → q.runs ps = some r → ∀ p ∈ ps, p < c
  | [], c, q, r, g, h, p, hp => by cases hp
  | a :: ps, c, q, r, g, h, p, hp => by
    simp only [Q4.runs] at h
    split at h
    · rename_i hc
      rcases List.mem_cons.mp hp with rfl | hp
      · have := can_lt hc
        rw [g.rs] at this
        exact this
      · exact lt_runs ps (gd_step g hc) h p hp
    · cases h
end VEL

namespace VEL
open PySem L2 PySem.Spec PyProof.Rows VE
/-! the two judgements -/
def resT : List PyData := [.str ("stop" : Str), .str ("right" : Str), .str ("down" : Str)]
def isR : PyData → Bool
  | .str z => resT.any fun q => PyData.eqv q (.str z)
  | _ => false
def ct (x : Str) (xs : List PyData) : Nat := xs.countP fun z => PyData.eqv z (.str x)
def due : PyData → Bool
  | .list xs => !xs.isEmpty && (xs.all isR && (decide (((ct "stop" xs : Nat) : Int) ≤ 1) && (decide (ct "right" xs < xs.length) && decide (ct "down" xs < xs.length))))
  | _ => false
def okS (z : Str) : Prop := (PyData.str z).canLay0 = true
theorem sh_str {z : Str} (h : okS z) : SeqAt.shaped (.str z) = true := by
  have e : (PyData.str z).canLay0 = true := h
  show ((PyData.str z).canLay0 && decide (0 ≤ 64)) = true
  rw [e]; rfl
theorem nc_str {D : Nat} {z : Str} (h : Nc D (.str z)) : okS z := h.tk
theorem isR_cases {x : PyData} (h : isR x = true) : x ∈ resT := by
  cases x with
  | str z =>
    have h' : (resT.any fun q => PyData.eqv q (.str z)) = true := h
    rw [List.any_eq_true] at h'
    obtain ⟨q, hq, e⟩ := h'
    simp only [resT, List.mem_cons, List.mem_nil_iff, or_false] at hq
    rcases hq with rfl | rfl | rfl
    all_goals
      have e' := beq_iff_eq.mp (show (_ == z) = true from e)
      subst e'
      simp [resT]
  | _ => cases h
theorem sh_all : ∀ {xs : List PyData}, xs.all isR = true → PyData.canLayAll0 xs = true ∧ PyData.depthAll xs = 0
  | [], _ => ⟨rfl, rfl⟩
  | x :: xs, h => by
    rw [List.all_cons, Bool.and_eq_true] at h
    obtain ⟨h1, h2⟩ := sh_all h.2
    have hx : x.canLay0 = true ∧ x.depth = 0 := by
      have z := isR_cases h.1
      simp only [resT, List.mem_cons, List.mem_nil_iff, or_false] at z
      rcases z with rfl | rfl | rfl
      all_goals decide +kernel
    refine ⟨?_, ?_⟩
    · show (x.canLay0 && PyData.canLayAll0 xs) = true
      rw [hx.1, h1]; rfl
    · show max x.depth (PyData.depthAll xs) = 0
      rw [hx.2, h2]; rfl
theorem sh_list {xs : List PyData} (h : xs.all isR = true) : SeqAt.shaped (.list xs) = true := by
  obtain ⟨h1, h2⟩ := sh_all h
  show (PyData.canLayAll0 xs && decide (PyData.depthAll xs + 1 ≤ 64)) = true
  rw [h1, h2]; rfl
theorem cnt_ok {xs : List PyData} {x : Str} (h : xs.all isR = true) (hx : okS x) : opLm .count (.list xs) (.str x) = some (.val (.int (ct x xs : Nat))) := by
  show (if SeqAt.shaped (.str x) && SeqAt.shaped (.list xs) then some (S.val (.int ((xs.countP fun z => PyData.eqv z (.str x) : Nat) : Int))) else none) = _
  rw [sh_list h, sh_str hx]; rfl
theorem ok1 : okS "stop" := show (PyData.str "stop").canLay0 = true by decide +kernel
theorem ok2 : okS "right" := show (PyData.str "right").canLay0 = true by decide +kernel
theorem ok3 : okS "down" := show (PyData.str "down").canLay0 = true by decide +kernel
theorem bools_map (f : PyData → Bool) : ∀ xs : List PyData, allBools (xs.map fun x => .bool (f x)) = some (xs.map f)
  | [] => rfl
  | x :: xs => by
    rw [List.map_cons, allBools, bools_map f xs]; rfl
theorem eq_nil {xs : List PyData} : opC .eq (.list xs) (.list []) = some xs.isEmpty := rfl
theorem mem_r {z : Str} (h : okS z) : opC .mem (.str z) (.tuple resT) = some (isR (.str z)) := by
  show (if SeqAt.shaped (.str z) && SeqAt.shaped (.tuple resT) then some (resT.any fun q => PyData.eqv q (.str z)) else none) = _
  rw [show SeqAt.shaped (.tuple resT) = true by decide +kernel, sh_str h]; rfl
theorem notmem_r {z : Str} (h : okS z) : opC .notmem (.str z) (.list resT) = some (!isR (.str z)) := by
  show (if SeqAt.shaped (.str z) && SeqAt.shaped (.list resT) then some (!resT.any fun q => PyData.eqv q (.str z)) else none) = _
  rw [show SeqAt.shaped (.list resT) = true by decide +kernel, sh_str h]; rfl
theorem isi_eq {t : Ty} {d : PyData} : opBlt (.isi t) [d] = some (.val (.bool (ty t d))) := rfl
theorem r_turn (ρ : List S) (v m : S) (hρ : ρ = [v, m, .dead]) (x : PyData) {D : Nat} (hx : Nc D x) : turnF p_is_outcome (.nm 2) none x_is_outcome_1 x ρ = .ok (some (.bool (isR x))) ρ := by
  subst hρ
  cases x with
  | str z =>
    have m1 : opC .mem (.str z) (.tuple [.str ("stop" : Str), .str ("right" : Str), .str ("down" : Str)]) = some (isR (.str z)) := mem_r (nc_str hx)
    simp [x_is_outcome_1, isi_eq, ty, p_is_outcome_g0, m1]
  | _ => simp [x_is_outcome_1, isi_eq, ty, isR]
theorem outcome_ok {s : S} {d : PyData} (h : Is s d) {D : Nat} (hn : Nc (D + 1) d) (hz : ∀ xs, d = .list xs → xs.length ≤ 1000000) : s_is_outcome [s] = .ok (.val (.bool (due d))) [s] := by
  have hs : (1000000 : Nat) ≤ sizeLine := by decide
  cases d with
  | list xs =>
    have hx := hz xs rfl
    have hx' : xs.length ≤ sizeLine := by omega
    cases hxs : xs with
    | nil =>
      subst hxs
      rcases h with rfl | ⟨ys, rfl, e⟩
      · simp [u_is_outcome, evDef, b_is_outcome, isi_eq, ty, eq_nil, due, sizeLine]
      · cases e
        simp [u_is_outcome, evDef, b_is_outcome, isi_eq, ty, eq_nil, due, sizeLine]
    | cons y ys =>
      have ne : xs.isEmpty = false := by rw [hxs]; rfl
      rw [← hxs]
      clear hxs
      have fm : xs.filterMap (fun x => some (PyData.bool (isR x))) = xs.map fun x => .bool (isR x) := by
        rw [List.filterMap_eq_map']
      have t := fun v m => turns_ok (f := turnF p_is_outcome (.nm 2) none x_is_outcome_1) (g := fun x => some (.bool (isR x))) (ρ := [v, m, .dead]) xs [] (fun x hx => r_turn _ v m rfl x (nc_items hn x hx)) (by simpa using hx')
      simp only [fm, List.nil_append] at t
      have al : opBlt .all [.list (xs.map fun x => .bool (isR x))] = some (.val (.bool (xs.all isR))) := by
        show (match allBools (xs.map fun x => .bool (isR x)) with
          | some bs => some (S.val (.bool (bs.all id)))
          | none => none) = _
        rw [bools_map]
        simp [List.all_map]
      by_cases ha : xs.all isR = true
      · have c1 := cnt_ok (x := "stop") ha ok1
        have c2 := cnt_ok (x := "right") ha ok2
        have c3 := cnt_ok (x := "down") ha ok3
        have key : due (.list xs) = (decide (((ct "stop" xs : Nat) : Int) ≤ 1) && (decide (ct "right" xs < xs.length) && decide (ct "down" xs < xs.length))) := by
          simp only [due, ne, ha]; rfl
        rw [key]
        rw [ha] at al
        rcases h with rfl | ⟨zs, rfl, e⟩
        · by_cases d1 : ((ct "stop" xs : Nat) : Int) ≤ 1
          · by_cases d2 : ct "right" xs < xs.length
            · simp [u_is_outcome, evDef, b_is_outcome, isi_eq, ty, eq_nil, ne, evE_comp, t, al, c1, c2, c3, p_is_outcome_g1, p_is_outcome_g2, p_is_outcome_g3, hx', d1, d2]
            · simp [u_is_outcome, evDef, b_is_outcome, isi_eq, ty, eq_nil, ne, evE_comp, t, al, c1, c2, c3, p_is_outcome_g1, p_is_outcome_g2, p_is_outcome_g3, hx', d1, d2]
          · simp [u_is_outcome, evDef, b_is_outcome, isi_eq, ty, eq_nil, ne, evE_comp, t, al, c1, c2, c3, p_is_outcome_g1, p_is_outcome_g2, p_is_outcome_g3, hx', d1]
        · cases e
          by_cases d1 : ((ct "stop" xs : Nat) : Int) ≤ 1
          · by_cases d2 : ct "right" xs < xs.length
            · simp [u_is_outcome, evDef, b_is_outcome, isi_eq, ty, eq_nil, ne, evE_comp, t, al, c1, c2, c3, p_is_outcome_g1, p_is_outcome_g2, p_is_outcome_g3, hx', d1, d2]
            · simp [u_is_outcome, evDef, b_is_outcome, isi_eq, ty, eq_nil, ne, evE_comp, t, al, c1, c2, c3, p_is_outcome_g1, p_is_outcome_g2, p_is_outcome_g3, hx', d1, d2]
          · simp [u_is_outcome, evDef, b_is_outcome, isi_eq, ty, eq_nil, ne, evE_comp, t, al, c1, c2, c3, p_is_outcome_g1, p_is_outcome_g2, p_is_outcome_g3, hx', d1]
      · have ha' : xs.all isR = false := by simpa using ha
        have key : due (.list xs) = false := by
          simp only [due, ha']; simp
        rw [key]
        rw [ha'] at al
        rcases h with rfl | ⟨zs, rfl, e⟩
        · simp [u_is_outcome, evDef, b_is_outcome, isi_eq, ty, eq_nil, ne, evE_comp, t, al]
        · cases e
          simp [u_is_outcome, evDef, b_is_outcome, isi_eq, ty, eq_nil, ne, evE_comp, t, al]
  | _ =>
    rcases h with rfl | ⟨ys, rfl, e⟩
    · simp [u_is_outcome, evDef, b_is_outcome, isi_eq, ty, due]
    · cases e
end VEL

namespace VEL
open PySem L2 PySem.Spec PyProof.Rows VE
/-! ### the plain law of outcome_schedule -/
def idxF (z : Str) : List Str → Nat → List Nat
  | [], _ => []
  | r :: rs, k => if r = z then k :: idxF z rs (k + 1) else idxF z rs (k + 1)
def dbl : List Nat → List Nat
  | [] => []
  | p :: r => p :: p :: dbl r
def sched (rs : List Str) : List Nat :=
  let st := idxF "stop" rs 0
  let dn := idxF "down" rs 0
  let rt := idxF "right" rs 0
  if st = [] then (((dbl dn ++ [rt.getD 0 0]) ++ dbl dn) ++ [rt.getD 0 0]) ++ dbl (rt.drop 1)
  else ((dbl dn ++ (List.replicate 4 st).flatten) ++ dbl dn) ++ dbl rt
theorem mem_idx {z : Str} : ∀ {rs : List Str} {k p : Nat}, p ∈ idxF z rs k ↔ k ≤ p ∧ rs[p - k]? = some z
  | [], k, p => by simp [idxF]
  | r :: rs, k, p => by
    have ih := mem_idx (z := z) (rs := rs) (k := k + 1) (p := p)
    have tail : (k + 1 ≤ p ∧ rs[p - (k + 1)]? = some z) ↔ (k < p ∧ (r :: rs)[p - k]? = some z) := by
      constructor
      · rintro ⟨h1, h2⟩
        refine ⟨h1, ?_⟩
        rw [show p - k = (p - (k + 1)) + 1 by omega, List.getElem?_cons_succ]
        exact h2
      · rintro ⟨h1, h2⟩
        refine ⟨h1, ?_⟩
        rw [show p - k = (p - (k + 1)) + 1 by omega, List.getElem?_cons_succ] at h2
        exact h2
    rw [tail] at ih
    rw [idxF]
    by_cases h : r = z
    · rw [if_pos h, List.mem_cons, ih]
      constructor
      · rintro (rfl | ⟨h1, h2⟩)
        · exact ⟨Nat.le_refl _, by rw [Nat.sub_self, List.getElem?_cons_zero, h]⟩
        · exact ⟨by omega, h2⟩
      · rintro ⟨h1, h2⟩
        by_cases e : p = k
        · exact .inl e
        · exact .inr ⟨by omega, h2⟩
    · rw [if_neg h, ih]
      constructor
      · rintro ⟨h1, h2⟩
        exact ⟨by omega, h2⟩
      · rintro ⟨h1, h2⟩
        refine ⟨?_, h2⟩
        rcases Nat.lt_or_ge k p with h3 | h3
        · exact h3
        · have e : p - k = 0 := by omega
          rw [e, List.getElem?_cons_zero] at h2
          exact absurd (Option.some.inj h2) h
theorem nodup_idx {z : Str} : ∀ {rs : List Str} {k : Nat}, (idxF z rs k).Nodup
  | [], k => List.nodup_nil
  | r :: rs, k => by
    rw [idxF]
    split
    · rw [List.nodup_cons]
      exact ⟨fun h => by have := (mem_idx.mp h).1; omega, nodup_idx⟩
    · exact nodup_idx
theorem len_idx {z : Str} : ∀ {rs : List Str} {k : Nat}, (idxF z rs k).length ≤ rs.length
  | [], _ => Nat.le_refl _
  | r :: rs, k => by
    have := len_idx (z := z) (rs := rs) (k := k + 1)
    rw [idxF]
    split
    · rw [List.length_cons, List.length_cons]; omega
    · rw [List.length_cons]; omega
theorem len_dbl : ∀ (xs : List Nat), (dbl xs).length = 2 * xs.length
  | [] => rfl
  | x :: xs => by
    show (dbl xs).length + 1 + 1 = 2 * (xs.length + 1)
    rw [len_dbl xs]; omega
def up {α : Type} (N : Nat → α) (p : Nat) (v : α) : Nat → α := fun r => if r = p then v else N r
structure St4 (c : Nat) (q : Q4) (f : Bool) (o : Option Nat) (N : Nat → Nat) (R : Nat → Option Str) : Prop where
  l1 : q.ns.length = c
  l2 : q.rs.length = c
  f : q.f = f
  o : q.o = o
  n : ∀ p, p < c → q.ns.getD p 0 = N p
  r : ∀ p, p < c → q.rs[p]? = some (R p)
section
variable {c : Nat} {q : Q4} {f : Bool} {o : Option Nat} {N : Nat → Nat} {R : Nat → Option Str} {p : Nat}
theorem getD_set {ns : List Nat} {p r v : Nat} (h : r < ns.length) : (ns.set p v).getD r 0 = if r = p then v else ns.getD r 0 := by
  rw [List.getD_eq_getElem?_getD, List.getD_eq_getElem?_getD, List.getElem?_set]
  by_cases e : p = r
  · subst e
    rw [if_pos rfl, if_pos h, if_pos rfl]
    rfl
  · rw [if_neg e, if_neg (Ne.symm e)]
theorem get_set {rs : List (Option Str)} {p r : Nat} {v : Option Str} (h : r < rs.length) : (rs.set p v)[r]? = if r = p then some v else rs[r]? := by
  rw [List.getElem?_set]
  by_cases e : p = r
  · subst e
    rw [if_pos rfl, if_pos h, if_pos rfl]
  · rw [if_neg e, if_neg (Ne.symm e)]
theorem St4.can (h : St4 c q f o N R) (hp : p < c) (hr : R p = none) : q.can p = true := by
  unfold Q4.can
  rw [h.r p hp, hr]
  rfl
theorem St4.s0 (h : St4 c q f o N R) (hp : p < c) (hn : N p = 0) : St4 c (q.step p) f (some p) (up N p 1) R := by
  have e := (h.n p hp).trans hn
  have s : q.step p = { q with o := some p, ns := q.ns.set p 1 } := by unfold Q4.step; simp only [e]; rfl
  rw [s]
  refine ⟨by simp [h.l1], h.l2, h.f, rfl, fun r hr => ?_, h.r⟩
  show (q.ns.set p 1).getD r 0 = _
  rw [getD_set (by rw [h.l1]; exact hr), h.n r hr]
  rfl
theorem St4.s1 (h : St4 c q false o N R) (hp : p < c) (hn : N p = 1) : St4 c (q.step p) false o (up N p 2) R := by
  have e := (h.n p hp).trans hn
  have s : q.step p = { q with ns := q.ns.set p 2 } := by unfold Q4.step; simp only [e, h.f]; rfl
  rw [s]
  refine ⟨by simp [h.l1], h.l2, h.f, h.o, fun r hr => ?_, h.r⟩
  show (q.ns.set p 2).getD r 0 = _
  rw [getD_set (by rw [h.l1]; exact hr), h.n r hr]
  rfl
theorem St4.s1t (h : St4 c q true o N R) (hp : p < c) (hn : N p = 1) : St4 c (q.step p) true o (up N p 2) (up R p (some "right")) := by
  have e := (h.n p hp).trans hn
  have s : q.step p = { q with ns := q.ns.set p 2, rs := q.rs.set p (some "right") } := by unfold Q4.step; simp only [e, h.f]; rfl
  rw [s]
  refine ⟨by simp [h.l1], by simp [h.l2], h.f, h.o, fun r hr => ?_, fun r hr => ?_⟩
  · show (q.ns.set p 2).getD r 0 = _
    rw [getD_set (by rw [h.l1]; exact hr), h.n r hr]
    rfl
  · show (q.rs.set p (some "right"))[r]? = _
    rw [get_set (by rw [h.l2]; exact hr), h.r r hr]
    unfold up
    split <;> rfl
theorem St4.s2 (h : St4 c q f o N R) (hp : p < c) (hn : N p = 2) : St4 c (q.step p) true o (up N p 3) R := by
  have e := (h.n p hp).trans hn
  have s : q.step p = { q with f := true, ns := q.ns.set p 3 } := by unfold Q4.step; simp only [e]; rfl
  rw [s]
  refine ⟨by simp [h.l1], h.l2, rfl, h.o, fun r hr => ?_, h.r⟩
  show (q.ns.set p 3).getD r 0 = _
  rw [getD_set (by rw [h.l1]; exact hr), h.n r hr]
  rfl
theorem St4.s3 (h : St4 c q f o N R) (hp : p < c) (hn : N p = 3) : St4 c (q.step p) f o (up N p 4) (up R p (some (if o = some p then "stop" else "down"))) := by
  have e := (h.n p hp).trans hn
  have s : q.step p = { q with ns := q.ns.set p 4, rs := q.rs.set p (some (if o = some p then "stop" else "down")) } := by unfold Q4.step; simp only [e, h.o]; rfl
  rw [s]
  refine ⟨by simp [h.l1], by simp [h.l2], h.f, h.o, fun r hr => ?_, fun r hr => ?_⟩
  · show (q.ns.set p 4).getD r 0 = _
    rw [getD_set (by rw [h.l1]; exact hr), h.n r hr]
    rfl
  · show (q.rs.set p _)[r]? = _
    rw [get_set (by rw [h.l2]; exact hr), h.r r hr]
    unfold up
    split <;> rfl
theorem St4.same {N' : Nat → Nat} {R' : Nat → Option Str} (h : St4 c q f o N R) (hN : ∀ r, N r = N' r) (hR : ∀ r, R r = R' r) : St4 c q f o N' R' := by
  rw [← funext hN, ← funext hR]
  exact h
theorem runs_cons (h : q.can p = true) {ps : List Nat} : q.runs (p :: ps) = (q.step p).runs ps := by
  rw [Q4.runs, if_pos h]
theorem runs_two {xs : List Nat} {q' : Q4} (h : q.can p = true) (h' : (q.step p).can p = true) (e : ((q.step p).step p).runs xs = some q') : q.runs (p :: p :: xs) = some q' := by
  rw [runs_cons h, runs_cons h']
  exact e
/-- X written, Y read as false -/
theorem runA : ∀ (xs : List Nat) {q : Q4} {o : Option Nat} {N : Nat → Nat}, xs.Nodup → (∀ p ∈ xs, p < c ∧ N p = 0 ∧ R p = none) → St4 c q false o N R → ∃ q' o', q.runs (dbl xs) = some q' ∧ St4 c q' false o' (fun r => if r ∈ xs then 2 else N r) R
  | [], q, o, N, _, _, h => ⟨q, o, rfl, h.same (fun r => by simp) fun _ => rfl⟩
  | p :: xs, q, o, N, nd, hx, h => by
    rw [List.nodup_cons] at nd
    obtain ⟨h1, h2, h3⟩ := hx p List.mem_cons_self
    have a := h.s0 h1 h2
    have b := a.s1 h1 (by simp [up])
    obtain ⟨q', o', e, k⟩ := runA xs (N := up (up N p 1) p 2) nd.2 (fun r hr => by
      obtain ⟨g1, g2, g3⟩ := hx r (List.mem_cons_of_mem _ hr)
      have ne : r ≠ p := fun z => nd.1 (z ▸ hr)
      exact ⟨g1, by simp [up, ne, g2], g3⟩) b
    refine ⟨q', o', runs_two (h.can h1 h3) (a.can h1 h3) e, k.same (fun r => ?_) fun _ => rfl⟩
    by_cases hr : r ∈ xs
    · rw [if_pos hr, if_pos (List.mem_cons_of_mem _ hr)]
    · rw [if_neg hr]
      by_cases e : r = p
      · subst e; simp [up]
      · simp [up, e, hr]
/-- Y set, X read as another's -/
theorem runC : ∀ (xs : List Nat) {q : Q4} {f : Bool} {N : Nat → Nat} {R : Nat → Option Str}, xs.Nodup → (∀ p ∈ xs, p < c ∧ N p = 2 ∧ R p = none ∧ o ≠ some p) → St4 c q f o N R →
    ∃ q', q.runs (dbl xs) = some q' ∧ St4 c q' (f || !xs.isEmpty) o (fun r => if r ∈ xs then 4 else N r) (fun r => if r ∈ xs then some "down" else R r)
  | [], q, f, N, R, _, _, h => ⟨q, rfl, by simpa using h⟩
  | p :: xs, q, f, N, R, nd, hx, h => by
    rw [List.nodup_cons] at nd
    obtain ⟨h1, h2, h3, h4⟩ := hx p List.mem_cons_self
    have a := h.s2 h1 h2
    have b := a.s3 h1 (by simp [up])
    rw [if_neg h4] at b
    obtain ⟨q', e, k⟩ := runC xs nd.2 (fun r hr => by
      obtain ⟨g1, g2, g3, g4⟩ := hx r (List.mem_cons_of_mem _ hr)
      have ne : r ≠ p := fun z => nd.1 (z ▸ hr)
      exact ⟨g1, by simp [up, ne, g2], by simp [up, ne, g3], g4⟩) b
    refine ⟨q', runs_two (h.can h1 h3) (a.can h1 h3) e, ?_⟩
    have k' := k
    rw [Bool.true_or] at k'
    rw [show (f || !(p :: xs).isEmpty) = true by simp]
    refine k'.same (fun r => ?_) fun r => ?_
    · by_cases hr : r ∈ xs
      · rw [if_pos hr, if_pos (List.mem_cons_of_mem _ hr)]
      · rw [if_neg hr]
        by_cases e : r = p
        · subst e; simp [up]
        · simp [up, e, hr]
    · by_cases hr : r ∈ xs
      · rw [if_pos hr, if_pos (List.mem_cons_of_mem _ hr)]
      · rw [if_neg hr]
        by_cases e : r = p
        · subst e; simp [up]
        · simp [up, e, hr]
/-- Y read as true -/
theorem runD : ∀ (xs : List Nat) {q : Q4} {o : Option Nat} {N : Nat → Nat} {R : Nat → Option Str}, xs.Nodup → (∀ p ∈ xs, p < c ∧ N p = 0 ∧ R p = none) → St4 c q true o N R →
    ∃ q' o', q.runs (dbl xs) = some q' ∧ St4 c q' true o' (fun r => if r ∈ xs then 2 else N r) (fun r => if r ∈ xs then some "right" else R r)
  | [], q, o, N, R, _, _, h => ⟨q, o, rfl, by simpa using h⟩
  | p :: xs, q, o, N, R, nd, hx, h => by
    rw [List.nodup_cons] at nd
    obtain ⟨h1, h2, h3⟩ := hx p List.mem_cons_self
    have a := h.s0 h1 h2
    have b := a.s1t h1 (by simp [up])
    obtain ⟨q', o', e, k⟩ := runD xs nd.2 (fun r hr => by
      obtain ⟨g1, g2, g3⟩ := hx r (List.mem_cons_of_mem _ hr)
      have ne : r ≠ p := fun z => nd.1 (z ▸ hr)
      exact ⟨g1, by simp [up, ne, g2], by simp [up, ne, g3]⟩) b
    refine ⟨q', o', runs_two (h.can h1 h3) (a.can h1 h3) e, k.same (fun r => ?_) fun r => ?_⟩
    · by_cases hr : r ∈ xs
      · rw [if_pos hr, if_pos (List.mem_cons_of_mem _ hr)]
      · rw [if_neg hr]
        by_cases e : r = p
        · subst e; simp [up]
        · simp [up, e, hr]
    · by_cases hr : r ∈ xs
      · rw [if_pos hr, if_pos (List.mem_cons_of_mem _ hr)]
      · rw [if_neg hr]
        by_cases e : r = p
        · subst e; simp [up]
        · simp [up, e, hr]
theorem runs_then {ps qs : List Nat} {q q' q'' : Q4} (h : q.runs ps = some q') (h' : q'.runs qs = some q'') : q.runs (ps ++ qs) = some q'' := by
  rw [runs_app, h]
  exact h'
end
/-- an outcome -/
structure Oc (rs : List Str) : Prop where
  all : ∀ z ∈ rs, z = ("stop" : Str) ∨ z = ("right" : Str) ∨ z = ("down" : Str)
  one : ∀ i j : Nat, rs[i]? = some ("stop" : Str) → rs[j]? = some ("stop" : Str) → i = j
  nr : ∃ (i : Nat) (z : Str), rs[i]? = some z ∧ z ≠ ("right" : Str)
  nd : ∃ (i : Nat) (z : Str), rs[i]? = some z ∧ z ≠ ("down" : Str)
def nOf (z : Str) : Nat := if z = "right" then 2 else 4
theorem ne1 : ¬ (("stop" : Str) = "right") := by decide +kernel
theorem ne2 : ¬ (("stop" : Str) = "down") := by decide +kernel
theorem ne3 : ¬ (("right" : Str) = "down") := by decide +kernel
theorem st_ini (c : Nat) : St4 c (Q4.ini c) false none (fun _ => 0) (fun _ => none) := ⟨Q4.lens.1, Q4.lens.2, rfl, rfl, fun p hp => by
  show (List.replicate c 0).getD p 0 = 0
  rw [List.getD_eq_getElem?_getD, List.getElem?_replicate]
  split <;> rfl, fun p hp => by
  show (List.replicate c none)[p]? = _
  rw [List.getElem?_replicate, if_pos hp]⟩
theorem idx_lt {z : Str} {rs : List Str} {p : Nat} (h : p ∈ idxF z rs 0) : p < rs.length := (List.getElem?_eq_some_iff.mp (mem_idx.mp h).2).1
theorem idx_iff {z : Str} {rs : List Str} {p : Nat} : p ∈ idxF z rs 0 ↔ rs[p]? = some z := by
  rw [mem_idx]
  simp
theorem sched_ok {rs : List Str} (h : Oc rs) : ∃ q, (Q4.ini rs.length).runs (sched rs) = some q ∧ q.rs = rs.map some ∧ q.ns = rs.map nOf := by
  have fin : ∀ {q : Q4} {f : Bool} {o : Option Nat} {N : Nat → Nat} {R : Nat → Option Str}, St4 rs.length q f o N R → (∀ p z, rs[p]? = some z → N p = nOf z ∧ R p = some z) → q.rs = rs.map some ∧ q.ns = rs.map nOf := fun {q f o N R} k hk => by
    refine ⟨List.ext_getElem? fun p => ?_, List.ext_getElem? fun p => ?_⟩
    · by_cases hp : p < rs.length
      · have e := List.getElem?_eq_getElem hp
        rw [k.r p hp, (hk p _ e).2, List.getElem?_map, e]
        rfl
      · rw [List.getElem?_eq_none (by rw [k.l2]; omega), List.getElem?_eq_none (by rw [List.length_map]; omega)]
    · by_cases hp : p < rs.length
      · have e := List.getElem?_eq_getElem hp
        have n1 := k.n p hp
        rw [(hk p _ e).1, List.getD_eq_getElem?_getD, List.getElem?_eq_getElem (by rw [k.l1]; exact hp)] at n1
        rw [List.getElem?_eq_getElem (by rw [k.l1]; exact hp), List.getElem?_map, e]
        exact congrArg some n1
      · rw [List.getElem?_eq_none (by rw [k.l1]; omega), List.getElem?_eq_none (by rw [List.length_map]; omega)]
  have dis : ∀ {p : Nat} {y z : Str}, p ∈ idxF y rs 0 → p ∈ idxF z rs 0 → y = z := fun {p y z} h1 h2 => Option.some.inj ((idx_iff.mp h1).symm.trans (idx_iff.mp h2))
  obtain ⟨q1, o1, e1, k1⟩ := runA (c := rs.length) (R := fun _ => none) (idxF "down" rs 0) nodup_idx (fun p hp => ⟨idx_lt hp, rfl, rfl⟩) (st_ini rs.length)
  unfold sched
  simp only
  by_cases hst : idxF "stop" rs 0 = []
  · rw [if_pos hst]
    have nostop : ∀ p : Nat, rs[p]? ≠ some ("stop" : Str) := fun p z => by
      have := idx_iff.mpr z
      rw [hst] at this
      cases this
    -- one goes right, one down
    obtain ⟨i, z, hi, hz⟩ := h.nd
    have hir : rs[i]? = some ("right" : Str) := by
      rcases h.all z (List.mem_of_getElem? hi) with rfl | rfl | rfl
      · exact absurd hi (nostop i)
      · exact hi
      · exact absurd rfl hz
    obtain ⟨j, y, hj, hy⟩ := h.nr
    have hjd : rs[j]? = some ("down" : Str) := by
      rcases h.all y (List.mem_of_getElem? hj) with rfl | rfl | rfl
      · exact absurd hj (nostop j)
      · exact absurd rfl hy
      · exact hj
    have hdn : (idxF "down" rs 0).isEmpty = false := by
      cases e : idxF "down" rs 0 with
      | nil =>
        have := idx_iff.mpr hjd
        rw [e] at this
        cases this
      | cons _ _ => rfl
    obtain ⟨w, rt, hrt⟩ : ∃ w rt, idxF "right" rs 0 = w :: rt := by
      cases e : idxF "right" rs 0 with
      | nil =>
        have := idx_iff.mpr hir
        rw [e] at this
        cases this
      | cons w rt => exact ⟨w, rt, rfl⟩
    have hw : w ∈ idxF "right" rs 0 := by rw [hrt]; exact List.mem_cons_self
    have wd : w ∉ idxF "down" rs 0 := fun z => ne3 (dis hw z)
    have nd : (w :: rt).Nodup := by rw [← hrt]; exact nodup_idx
    rw [List.nodup_cons] at nd
    rw [hrt]
    show ∃ q, (Q4.ini rs.length).runs ((((dbl (idxF "down" rs 0) ++ [w]) ++ dbl (idxF "down" rs 0)) ++ [w]) ++ dbl rt) = some q ∧ _
    have c1 := k1.can (p := w) (idx_lt hw) rfl
    have k2 := k1.s0 (p := w) (idx_lt hw) (by simp [wd])
    have e2 : q1.runs [w] = some (q1.step w) := by rw [runs_cons c1]; rfl
    obtain ⟨q3, e3, k3⟩ := runC (c := rs.length) (idxF "down" rs 0) nodup_idx (fun p hp => ⟨idx_lt hp, by
      have ne : p ≠ w := fun z => wd (z ▸ hp)
      simp [up, ne, hp], rfl, fun z => wd (by cases z; exact hp)⟩) k2
    rw [hdn] at k3
    have c3 := k3.can (p := w) (idx_lt hw) (by simp [wd])
    have k4 := k3.s1t (p := w) (idx_lt hw) (by simp [wd, up])
    have e4 : q3.runs [w] = some (q3.step w) := by rw [runs_cons c3]; rfl
    obtain ⟨q5, o5, e5, k5⟩ := runD (c := rs.length) rt nd.2 (fun p hp => by
      have m : p ∈ idxF "right" rs 0 := by rw [hrt]; exact List.mem_cons_of_mem _ hp
      have n1 : p ∉ idxF "down" rs 0 := fun z => ne3 (dis m z)
      have n2 : p ≠ w := fun z => nd.1 (z ▸ hp)
      exact ⟨idx_lt m, by simp [up, n1, n2], by simp [up, n1, n2]⟩) k4
    refine ⟨q5, runs_then (runs_then (runs_then (runs_then e1 e2) e3) e4) e5, fin k5 fun p z hp => ?_⟩
    have hm := idx_iff.mpr hp
    rcases h.all z (List.mem_of_getElem? hp) with rfl | rfl | rfl
    · exact absurd hp (nostop p)
    · have n1 : p ∉ idxF "down" rs 0 := fun z => ne3 (dis hm z)
      rw [hrt] at hm
      by_cases hr : p ∈ rt
      · simp [hr, nOf]
      · have e : p = w := (List.mem_cons.mp hm).resolve_right hr
        subst e
        simp [hr, up, nOf]
    · have n1 : p ∉ rt := fun z => ne3 (dis (by rw [hrt]; exact List.mem_cons_of_mem _ z) hm)
      have n2 : p ≠ w := fun z => wd (z ▸ hm)
      simp [n1, n2, up, hm, nOf, Ne.symm ne3]
  · rw [if_neg hst]
    obtain ⟨w, hw1⟩ : ∃ w, idxF "stop" rs 0 = [w] := by
      cases e : idxF "stop" rs 0 with
      | nil => exact absurd e hst
      | cons w r =>
        cases r with
        | nil => exact ⟨w, rfl⟩
        | cons v r =>
          have m1 : w ∈ idxF "stop" rs 0 := by rw [e]; exact List.mem_cons_self
          have m2 : v ∈ idxF "stop" rs 0 := by rw [e]; exact List.mem_cons_of_mem _ List.mem_cons_self
          have nd : (idxF "stop" rs 0).Nodup := nodup_idx
          rw [e, List.nodup_cons] at nd
          exact absurd (h.one w v (idx_iff.mp m1) (idx_iff.mp m2) ▸ List.mem_cons_self) nd.1
    have hw : w ∈ idxF "stop" rs 0 := by rw [hw1]; exact List.mem_cons_self
    have wd : w ∉ idxF "down" rs 0 := fun z => ne2 (dis hw z)
    have wr : w ∉ idxF "right" rs 0 := fun z => ne1 (dis hw z)
    have lw := idx_lt hw
    rw [hw1]
    show ∃ q, (Q4.ini rs.length).runs (((dbl (idxF "down" rs 0) ++ [w, w, w, w]) ++ dbl (idxF "down" rs 0)) ++ dbl (idxF "right" rs 0)) = some q ∧ _
    have a1 := k1.s0 lw (by simp [wd])
    have a2 := a1.s1 lw (by simp [up])
    have a3 := a2.s2 lw (by simp [up])
    have a4 := a3.s3 lw (by simp [up])
    rw [if_pos rfl] at a4
    have e2 : q1.runs [w, w, w, w] = some ((((q1.step w).step w).step w).step w) := by
      rw [runs_cons (k1.can lw rfl), runs_cons (a1.can lw rfl), runs_cons (a2.can lw rfl), runs_cons (a3.can lw rfl)]
      rfl
    obtain ⟨q3, e3, k3⟩ := runC (c := rs.length) (idxF "down" rs 0) nodup_idx (fun p hp => by
      have ne : p ≠ w := fun z => wd (z ▸ hp)
      exact ⟨idx_lt hp, by simp [up, ne, hp], by simp [up, ne], fun z => ne (by cases z; rfl)⟩) a4
    rw [Bool.true_or] at k3
    obtain ⟨q5, o5, e5, k5⟩ := runD (c := rs.length) (idxF "right" rs 0) nodup_idx (fun p hp => by
      have n1 : p ∉ idxF "down" rs 0 := fun z => ne3 (dis hp z)
      have n2 : p ≠ w := fun z => wr (z ▸ hp)
      exact ⟨idx_lt hp, by simp [up, n1, n2], by simp [up, n1, n2]⟩) k3
    refine ⟨q5, runs_then (runs_then (runs_then e1 e2) e3) e5, fin k5 fun p z hp => ?_⟩
    have hm := idx_iff.mpr hp
    rcases h.all z (List.mem_of_getElem? hp) with rfl | rfl | rfl
    · rw [hw1] at hm
      obtain rfl := List.mem_singleton.mp hm
      simp [wd, wr, up, nOf, ne1]
    · simp [hm, nOf]
    · have n1 : p ∉ idxF "right" rs 0 := fun z => ne3 (dis z hm)
      have n2 : p ≠ w := fun z => wd (z ▸ hm)
      simp [n1, n2, up, hm, nOf, Ne.symm ne3]
end VEL

namespace VEL
open PySem L2 PySem.Spec PyProof.Rows VE
theorem evSs_then {Φ : Fns} {s : VE.St} {r : List VE.St} {ρ ρ' : List S} {X : R F} (h : evS Φ s ρ = .ok .nx ρ') (k : evSs Φ r ρ' = X) : evSs Φ (s :: r) ρ = X := by
  rw [evSs_cons, h]
  exact k
theorem nD_len (ps : List Nat) : (nD ps).length = ps.length := List.length_map _
theorem nD_app (ps qs : List Nat) : nD (ps ++ qs) = nD ps ++ nD qs := List.map_append ..
def oS (rs : List Str) : List PyData := rs.map .str
theorem oS_len (rs : List Str) : (oS rs).length = rs.length := List.length_map _
theorem fm_idx (z : Str) : ∀ (rs : List Str) (k : Nat), (((oS rs).zipIdx k).map fun p => PyData.tuple [.int p.2, p.1]).filterMap (fun x => match x with
    | .tuple [.int p, .str y] => if y = z then some (PyData.int p) else none
    | _ => none) = nD (idxF z rs k)
  | [], _ => rfl
  | r :: rs, k => by
    show (PyData.tuple [.int (k : Int), .str r] :: ((oS rs).zipIdx (k + 1)).map fun p => PyData.tuple [.int p.2, p.1]).filterMap _ = _
    rw [List.filterMap_cons, idxF, fm_idx z rs (k + 1)]
    by_cases h : r = z
    · simp only [if_pos h]
      rfl
    · simp only [if_neg h]
theorem mem_enum {rs : List Str} {x : PyData} (h : x ∈ enumFrom (oS rs)) : ∃ (n : Int) (y : Str), x = .tuple [.int n, .str y] := by
  obtain ⟨j, hj⟩ := List.getElem?_of_mem h
  rw [getElem?_enum] at hj
  unfold oS at hj
  rw [List.getElem?_map] at hj
  cases e : rs[j]? with
  | none => rw [e] at hj; cases hj
  | some y =>
    rw [e] at hj
    cases hj
    exact ⟨_, y, rfl⟩
theorem pw_turns (z : Str) (s0 : S) {rs : List Str} (hl : rs.length ≤ 10000) : turns (turnF p_processes_with (.tp [2, 3]) (some c_processes_with_1) x_processes_with_1) (enumFrom (oS rs)) [] [s0, .val (.str z), .dead, .dead] = .ok (nD (idxF z rs 0)) [s0, .val (.str z), .dead, .dead] := by
  have t := turns_ok (f := turnF p_processes_with (.tp [2, 3]) (some c_processes_with_1) x_processes_with_1) (g := fun x => match x with
    | .tuple [.int p, .str y] => if y = z then some (PyData.int p) else none
    | _ => none) (ρ := [s0, .val (.str z), .dead, .dead]) (enumFrom (oS rs)) [] (by
      intro x hx
      obtain ⟨n, y, rfl⟩ := mem_enum hx
      by_cases h : y = z
      · simp [c_processes_with_1, x_processes_with_1, h]
      · simp [c_processes_with_1, x_processes_with_1, h]) (by
      rw [enum_len, oS_len, List.length_nil]
      exact Nat.le_trans (show 0 + rs.length ≤ 10000 by omega) (by decide))
  rw [t, List.nil_append]
  exact congrArg (fun l => R.ok l _) (fm_idx z rs 0)
theorem pw_ok {s : S} {rs : List Str} (z : Str) (h : Is s (.list (oS rs))) (hl : rs.length ≤ 10000) : s_processes_with [s, .val (.str z)] = .ok (.lst (nD (idxF z rs 0))) [s, .val (.str z)] := by
  rcases h with rfl | ⟨xs, rfl, e⟩
  · have t := pw_turns z (.val (.list (oS rs))) hl
    simp [u_processes_with, evDef, b_processes_with, evE_comp, t]
  · cases e
    have t := pw_turns z .dead hl
    simp [u_processes_with, evDef, b_processes_with, evE_comp, t]
/-! each twice -/
theorem turns2_dbl (Φ : Fns) (a0 a1 a2 a3 a4 : S) : ∀ (xs : List Nat) (acc : List PyData), acc.length + 2 * xs.length ≤ 100000 → turns2 (innF Φ (.nm 5) none (.nm 6) (.rng1 (.e (.cst (.int 2)))) none (.rd 5 false)) (nD xs) acc [a0, a1, a2, a3, a4, .dead, .dead] = .ok (acc ++ nD (dbl xs)) [a0, a1, a2, a3, a4, .dead, .dead]
  | [], acc, _ => by
    rw [show nD ([] : List Nat) = [] from rfl, turns2]
    show _ = R.ok (acc ++ []) _
    rw [List.append_nil]
  | p :: xs, acc, h => by
    rw [List.length_cons] at h
    have ih := turns2_dbl Φ a0 a1 a2 a3 a4 xs (acc ++ [.int (p : Int), .int (p : Int)]) (by rw [List.length_append]; simp; omega)
    have e : rng 0 2 = [.int 0, .int 1] := rfl
    have z1 : acc.length < sizeLine := Nat.lt_of_le_of_lt (show acc.length ≤ 100000 by omega) (by decide)
    have z2 : acc.length + 1 < sizeLine := Nat.lt_of_le_of_lt (show acc.length + 1 ≤ 100000 by omega) (by decide)
    have step : innF Φ (.nm 5) none (.nm 6) (.rng1 (.e (.cst (.int 2)))) none (.rd 5 false) (.int (p : Int)) acc [a0, a1, a2, a3, a4, .dead, .dead] = .ok (acc ++ [.int (p : Int), .int (p : Int)]) [a0, a1, a2, a3, a4, .dead, .dead] := by
      simp [innF, e, turns, z1, z2]
    show turns2 _ (PyData.int (p : Int) :: nD xs) acc _ = _
    rw [turns2, step]
    simp only [R.bnd_ok]
    rw [ih, List.append_assoc]
    rfl
theorem dbl4 (Φ : Fns) (a0 a1 a2 a3 : S) (xs : List Nat) (h : xs.length ≤ 10000) : evE Φ (.comp2 (.nm 5) (.seq (.pl 4)) none (.nm 6) (.rng1 (.e (.cst (.int 2)))) none (.rd 5 false)) [a0, a1, a2, a3, .lst (nD xs), .dead, .dead] = .ok (.lst (nD (dbl xs))) [a0, a1, a2, a3, .lst (nD xs), .dead, .dead] := by
  have t := turns2_dbl Φ a0 a1 a2 a3 .dead xs [] (by rw [List.length_nil]; omega)
  simp [evE_comp2, t, restore2]
theorem dbl1 (Φ : Fns) (a0 a2 a3 a4 : S) (xs : List Nat) (h : xs.length ≤ 10000) : evE Φ (.comp2 (.nm 5) (.seq (.pl 1)) none (.nm 6) (.rng1 (.e (.cst (.int 2)))) none (.rd 5 false)) [a0, .lst (nD xs), a2, a3, a4, .dead, .dead] = .ok (.lst (nD (dbl xs))) [a0, .lst (nD xs), a2, a3, a4, .dead, .dead] := by
  have t := turns2_dbl Φ a0 .dead a2 a3 a4 xs [] (by rw [List.length_nil]; omega)
  simp [evE_comp2, t, restore2]
section
variable (Φ : Fns) (s0 : S) (F dn rt st : List Nat)
theorem si_two (t2 : S) (t3 : S) (h : dn.length ≤ 10000) : evS Φ (.asg 2 (.comp2 (.nm 5) (.seq (.pl 4)) none (.nm 6) (.rng1 (.e (.cst (.int 2)))) none (.rd 5 false))) [s0, .lst (nD rt), t2, t3, .lst (nD dn), .dead, .dead] = .ok .nx [s0, .lst (nD rt), .lst (nD (dbl dn)), t3, .lst (nD dn), .dead, .dead] := by
  rw [evS_asg, dbl4 Φ _ _ _ _ _ h]
  rfl
theorem si_augl (s1 t3 : S) (h : dn.length ≤ 10000) (hF : F.length ≤ 100000) : evS Φ (.augl 2 (.comp2 (.nm 5) (.seq (.pl 4)) none (.nm 6) (.rng1 (.e (.cst (.int 2)))) none (.rd 5 false))) [s0, s1, .lst (nD F), t3, .lst (nD dn), .dead, .dead] = .ok .nx [s0, s1, .lst (nD (F ++ dbl dn)), t3, .lst (nD dn), .dead, .dead] := by
  have z : (nD F).length + (nD (dbl dn)).length ≤ sizeLine := by
    rw [nD_len, nD_len, len_dbl]
    exact Nat.le_trans (show F.length + 2 * dn.length ≤ 120000 by omega) (by decide)
  rw [evS_augl]
  simp only [slot_succ, slot_zero]
  rw [dbl4 Φ _ _ _ _ _ h]
  simp only [R.bnd_ok, slot_succ, slot_zero]
  rw [if_pos (decide_eq_true z), nD_app]
  rfl
theorem si_rep (s1 s4 : S) (x : List PyData) (hm : opB .mul (.list (nD st)) (.int 4) = some (.lst x)) (hz : (nD F).length + x.length ≤ sizeLine) : evS Φ (.augl 2 (.bin .mul (.pl 3) (.e (.cst (.int 4))))) [s0, s1, .lst (nD F), .lst (nD st), s4, .dead, .dead] = .ok .nx [s0, s1, .lst (nD F ++ x), .lst (nD st), s4, .dead, .dead] := by
  simp [hm, hz, -opB_lrep]
theorem si_app (s3 s4 : S) (w : PyData) (hw : opIx (.list (nD rt)) (.int 0) = some w) (hF : opMut .append (nD F) [w] = some (.none, nD F ++ [w])) : evS Φ (.expr (.mut .append 2 [(.e (.idx (.pl 1) (.e (.cst (.int 0)))))])) [s0, .lst (nD rt), .lst (nD F), s3, s4, .dead, .dead] = .ok .nx [s0, .lst (nD rt), .lst (nD F ++ [w]), s3, s4, .dead, .dead] := by
  simp [hw, hF, -opIx_list]
theorem si_cut (s2 s3 s4 : S) (r2 : List PyData) (hw : opSl .lo [.list (nD rt), .int 1] = some (.lst r2)) : evS Φ (.asg 1 (.slice .lo [(.pl 1), (.e (.cst (.int 1)))])) [s0, .lst (nD rt), s2, s3, s4, .dead, .dead] = .ok .nx [s0, .lst r2, s2, s3, s4, .dead, .dead] := by
  simp [hw, -opSl_lo]
end
theorem cut_one (rt : List Nat) : opSl .lo [.list (nD rt), .int 1] = some (.lst (nD (rt.drop 1))) := by
  rw [opSl_lo]
  unfold VE.cutD nD
  have e : HT.sIx (rt.map fun n : Nat => PyData.int (n : Int)).length 0 (some 1) = min 1 (rt.map fun n : Nat => PyData.int (n : Int)).length := HT.sIx_nat _ 0 1
  rw [e, HT.sIx_none, List.length_map]
  cases rt with
  | nil => rfl
  | cons r rs =>
    rw [show min 1 (r :: rs).length = 1 by rw [List.length_cons]; omega]
    simp
    exact List.take_of_length_le (by rw [List.length_map]; exact Nat.le_refl _)
end VEL

namespace VEL
open PySem L2 PySem.Spec PyProof.Rows VE
theorem shaped_nD (ns : List Nat) : SeqAt.shaped (.list (nD ns)) = true := by
  have a : PyData.canLayAll0 (nD ns) = true := by
    induction ns with
    | nil => rfl
    | cons n r ih => exact ih
  have b : PyData.depthAll (nD ns) = 0 := by
    clear a
    induction ns with
    | nil => rfl
    | cons n r ih =>
      show max 0 (PyData.depthAll (nD r)) = 0
      rw [ih] <;> rfl
  show (PyData.canLayAll0 (nD ns) && decide (PyData.depthAll (nD ns) + 1 ≤ 64)) = true
  rw [a, b]
  rfl
theorem ne_nil (st : List Nat) : opC .ne (.list (nD st)) (.list []) = some (!st.isEmpty) := by
  show (if SeqAt.shaped (.list (nD st)) && SeqAt.shaped (.list []) then some (!PyData.eqv (.list (nD st)) (.list [])) else none) = _
  rw [shaped_nD, show SeqAt.shaped (.list []) = true from rfl]
  cases st <;> rfl
theorem rep_nD (st : List Nat) (h : st.length ≤ 1) : opB .mul (.list (nD st)) (.int 4) = some (.lst (nD (List.replicate 4 st).flatten)) := by
  have z : (nD st).length * 4 ≤ sizeLine := by
    rw [nD_len]
    exact Nat.le_trans (show st.length * 4 ≤ 4 by omega) (by decide)
  rw [opB_lrep]
  rw [show ((4 : Int).toNat) = 4 from rfl]
  rw [decide_eq_true z]
  show some (S.lst (List.replicate 4 (nD st)).flatten) = _
  congr 2
  unfold nD
  rw [List.map_flatten, List.map_replicate]
/-- the end of it -/
theorem si_ret (Φ : Fns) (s0 s3 s4 : S) (F rt : List Nat) (hF : F.length ≤ 100000) (h : rt.length ≤ 10000) : evSs Φ [.ret (.bin .add (.pl 2) (.e (.comp2 (.nm 5) (.seq (.pl 1)) none (.nm 6) (.rng1 (.e (.cst (.int 2)))) none x_schedule_in_4)))] [s0, .lst (nD rt), .lst (nD F), s3, s4, .dead, .dead] = .ok (.ret (.lst (nD (F ++ dbl rt)))) [s0, .lst (nD rt), .lst (nD F), s3, s4, .dead, .dead] := by
  have d := dbl1 Φ s0 (.lst (nD F)) s3 s4 rt h
  have ha : opB .add (.list (nD F)) (.list (nD (dbl rt))) = some (.lst (nD (F ++ dbl rt))) := by
    rw [opB_lcat, nD_len, nD_len, len_dbl, decide_eq_true (show F.length + 2 * rt.length ≤ sizeLine from Nat.le_trans (show _ ≤ 120000 by omega) (by decide)), nD_app]
    rfl
  simp [x_schedule_in_4, d, ha, -opB_lcat]
theorem si_core (Φ : Fns) (s0 : S) (rs : List Str) (o : Oc rs) (hl : rs.length ≤ 2000) (hs : Is s0 (.list (oS rs)))
    (f0 : ∀ z : Str, Φ.fn 0 [s0, .val (.str z)] = .ok (.lst (nD (idxF z rs 0))) [s0, .val (.str z)]) (g0 : Φ.gl 0 = .str "stop") (g1 : Φ.gl 1 = .str "down") (g2 : Φ.gl 2 = .str "right") :
    evDef Φ 1 6 [3, 4, 1, 2, 1] b_schedule_in [s0] = .ok (.lst (nD (sched rs))) [s0] := by
  have ls : ∀ z, (idxF z rs 0).length ≤ 2000 := fun z => Nat.le_trans len_idx hl
  have l1 := ls "stop"
  have l2 := ls "down"
  have l3 := ls "right"
  have one : (idxF "stop" rs 0).length ≤ 1 := by
    cases e : idxF "stop" rs 0 with
    | nil => exact Nat.zero_le _
    | cons w r =>
      cases r with
      | nil => exact Nat.le_refl _
      | cons v r =>
        have m1 : w ∈ idxF "stop" rs 0 := by rw [e]; exact List.mem_cons_self
        have m2 : v ∈ idxF "stop" rs 0 := by rw [e]; exact List.mem_cons_of_mem _ List.mem_cons_self
        have nd : (idxF "stop" rs 0).Nodup := nodup_idx
        rw [e, List.nodup_cons] at nd
        exact absurd (o.one w v (idx_iff.mp m1) (idx_iff.mp m2) ▸ List.mem_cons_self) nd.1
  have hne := ne_nil (idxF "stop" rs 0)
  have rtne : idxF "stop" rs 0 = [] → ∃ w rt, idxF "right" rs 0 = w :: rt := fun hst => by
    obtain ⟨i, z, hi, hz⟩ := o.nd
    have hir : rs[i]? = some ("right" : Str) := by
      rcases o.all z (List.mem_of_getElem? hi) with rfl | rfl | rfl
      · have := idx_iff.mpr hi
        rw [hst] at this
        cases this
      · exact hi
      · exact absurd rfl hz
    cases e : idxF "right" rs 0 with
    | nil =>
      have := idx_iff.mpr hir
      rw [e] at this
      cases this
    | cons w rt => exact ⟨w, rt, rfl⟩
  have f1 := f0 "stop"
  have f2 := f0 "down"
  have f3 := f0 "right"
  have p1 : evS Φ (.par [3, 4] [(.e (.call 0 [(.pl 0), (.e (.glob 0))])), (.e (.call 0 [(.pl 0), (.e (.glob 1))]))]) [s0, .dead, .dead, .dead, .dead, .dead, .dead] = .ok .nx [s0, .dead, .dead, .lst (nD (idxF "stop" rs 0)), .lst (nD (idxF "down" rs 0)), .dead, .dead] := by
    rcases hs with rfl | ⟨xs, rfl, e⟩
    · simp [g0, g1, f1, f2]
    · simp [g0, g1, f1, f2]
  have p2 : evS Φ (.asg 1 (.call 0 [(.pl 0), (.e (.glob 2))])) [s0, .dead, .dead, .lst (nD (idxF "stop" rs 0)), .lst (nD (idxF "down" rs 0)), .dead, .dead] = .ok .nx [s0, .lst (nD (idxF "right" rs 0)), .dead, .lst (nD (idxF "stop" rs 0)), .lst (nD (idxF "down" rs 0)), .dead, .dead] := by
    rcases hs with rfl | ⟨xs, rfl, e⟩
    · simp [g2, f3]
    · simp [g2, f3]
  have body : ∃ ρ1 : List S, evSs Φ b_schedule_in [s0, .dead, .dead, .dead, .dead, .dead, .dead] = .ok (.ret (.lst (nD (sched rs)))) (s0 :: ρ1) := by
    unfold sched
    simp only
    generalize idxF "stop" rs 0 = st at *
    generalize idxF "down" rs 0 = dn at *
    generalize idxF "right" rs 0 = rt at *
    have p3 := si_two Φ s0 dn rt .dead (.lst (nD st)) (by omega)
    by_cases hst : st = []
    · rw [if_pos hst]
      obtain ⟨w, r, rfl⟩ := rtne hst
      subst hst
      have hw : opIx (.list (nD (w :: r))) (.int 0) = some (.int (w : Int)) := by
        show atI (nD (w :: r)) ((0 : Nat) : Int) = _
        exact atI_nat rfl
      have a1 : opMut .append (nD (dbl dn)) [.int (w : Int)] = some (.none, nD (dbl dn) ++ [.int (w : Int)]) := by
        show (if decide ((nD (dbl dn)).length < sizeLine) then _ else _) = _
        rw [nD_len, len_dbl, decide_eq_true (show 2 * dn.length < sizeLine from Nat.lt_of_le_of_lt (show _ ≤ 4000 by omega) (by decide))]
        rfl
      have p4 := si_app Φ s0 (dbl dn) (w :: r) (.lst (nD [])) (.lst (nD dn)) _ hw a1
      have p5 := si_augl Φ s0 (dbl dn ++ [w]) dn (.lst (nD (w :: r))) (.lst (nD [])) (by omega) (by rw [List.length_append, len_dbl, List.length_singleton]; omega)
      have e5 : nD (dbl dn ++ [w]) = nD (dbl dn) ++ [.int (w : Int)] := nD_app _ _
      rw [← e5] at p4
      have a2 : opMut .append (nD ((dbl dn ++ [w]) ++ dbl dn)) [.int (w : Int)] = some (.none, nD ((dbl dn ++ [w]) ++ dbl dn) ++ [.int (w : Int)]) := by
        show (if decide ((nD ((dbl dn ++ [w]) ++ dbl dn)).length < sizeLine) then _ else _) = _
        rw [nD_len, List.length_append, List.length_append, len_dbl, List.length_singleton, decide_eq_true (show 2 * dn.length + 1 + 2 * dn.length < sizeLine from Nat.lt_of_le_of_lt (show _ ≤ 9000 by omega) (by decide))]
        rfl
      have p6 := si_app Φ s0 ((dbl dn ++ [w]) ++ dbl dn) (w :: r) (.lst (nD [])) (.lst (nD dn)) _ hw a2
      have e6 : nD (((dbl dn ++ [w]) ++ dbl dn) ++ [w]) = nD ((dbl dn ++ [w]) ++ dbl dn) ++ [.int (w : Int)] := nD_app _ _
      rw [← e6] at p6
      have p7 := si_cut Φ s0 (w :: r) (.lst (nD (((dbl dn ++ [w]) ++ dbl dn) ++ [w]))) (.lst (nD [])) (.lst (nD dn)) _ (cut_one (w :: r))
      have p8 := si_ret Φ s0 (.lst (nD [])) (.lst (nD dn)) (((dbl dn ++ [w]) ++ dbl dn) ++ [w]) ((w :: r).drop 1) (by simp [len_dbl]; omega) (by rw [List.length_cons] at l3; simp; omega)
      refine ⟨_, evSs_then p1 (evSs_then p2 (evSs_then p3 (evSs_then ?_ p8)))⟩
      rw [evS_ite]
      have hc : evE Φ (.cmp .ne (.pl 3) (.e (.lst []))) [s0, .lst (nD (w :: r)), .lst (nD (dbl dn)), .lst (nD []), .lst (nD dn), .dead, .dead] = .ok (.val (.bool false)) [s0, .lst (nD (w :: r)), .lst (nD (dbl dn)), .lst (nD []), .lst (nD dn), .dead, .dead] := by
        simp [hne, sizeLine]
      rw [hc]
      simp only [R.bnd_ok, toBool_bool]
      exact evSs_then p4 (evSs_then p5 (evSs_then p6 (evSs_then p7 evSs_nil)))
    · rw [if_neg hst]
      have hb : (!st.isEmpty) = true := by
        cases st with
        | nil => exact absurd rfl hst
        | cons _ _ => rfl
      rw [hb] at hne
      have lr : (List.replicate 4 st).flatten.length ≤ 4 := by
        simp
        omega
      have p4 := si_rep Φ s0 (dbl dn) st (.lst (nD rt)) (.lst (nD dn)) _ (rep_nD st one) (by
        rw [nD_len, nD_len, len_dbl]
        exact Nat.le_trans (show _ ≤ 9000 by omega) (by decide))
      rw [← nD_app] at p4
      have p5 := si_augl Φ s0 (dbl dn ++ (List.replicate 4 st).flatten) dn (.lst (nD rt)) (.lst (nD st)) (by omega) (by rw [List.length_append, len_dbl]; omega)
      have p8 := si_ret Φ s0 (.lst (nD st)) (.lst (nD dn)) ((dbl dn ++ (List.replicate 4 st).flatten) ++ dbl dn) rt (by rw [List.length_append, List.length_append, len_dbl]; omega) (by omega)
      refine ⟨_, evSs_then p1 (evSs_then p2 (evSs_then p3 (evSs_then ?_ p8)))⟩
      rw [evS_ite]
      have hc : evE Φ (.cmp .ne (.pl 3) (.e (.lst []))) [s0, .lst (nD rt), .lst (nD (dbl dn)), .lst (nD st), .lst (nD dn), .dead, .dead] = .ok (.val (.bool true)) [s0, .lst (nD rt), .lst (nD (dbl dn)), .lst (nD st), .lst (nD dn), .dead, .dead] := by
        simp [hne, sizeLine]
      rw [hc]
      simp only [R.bnd_ok, toBool_bool]
      exact evSs_then p4 (evSs_then p5 evSs_nil)
  obtain ⟨ρ1, e⟩ := body
  simp [evDef, e]
theorem due_oc {rs : List Str} (o : Oc rs) : due (.list (oS rs)) = true := by
  have heq : ∀ y z : Str, PyData.eqv (.str y) (.str z) = decide (y = z) := fun y z => by
    show (y == z) = _
    rw [Bool.eq_iff_iff, beq_iff_eq, decide_eq_true_eq]
  have hall : (oS rs).all isR = true := by
    rw [List.all_eq_true]
    intro x hx
    obtain ⟨z, hz, rfl⟩ := List.mem_map.mp hx
    rcases o.all z hz with rfl | rfl | rfl <;> decide +kernel
  have hne : rs ≠ [] := fun e => by
    obtain ⟨i, z, hi, _⟩ := o.nr
    rw [e] at hi
    cases hi
  have ct_eq : ∀ x : Str, ct x (oS rs) = rs.countP fun z => decide (z = x) := fun x => by
    unfold ct oS
    rw [List.countP_map]
    congr 1
  have lt_of : ∀ x : Str, (∃ (i : Nat) (z : Str), rs[i]? = some z ∧ z ≠ x) → ct x (oS rs) < (oS rs).length := fun x ⟨i, z, hi, hz⟩ => by
    rw [ct_eq, oS_len]
    refine Nat.lt_of_le_of_ne List.countP_le_length fun e => ?_
    rw [List.countP_eq_length] at e
    exact hz (of_decide_eq_true (e z (List.mem_of_getElem? hi)))
  have le1 : ct "stop" (oS rs) ≤ 1 := by
    rw [ct_eq]
    have key : ∀ (rs : List Str), (∀ i j : Nat, rs[i]? = some ("stop" : Str) → rs[j]? = some ("stop" : Str) → i = j) → (rs.countP fun z => decide (z = ("stop" : Str))) ≤ 1 := by
      intro rs
      induction rs with
      | nil => intro _; exact Nat.zero_le _
      | cons r rs ih =>
        intro h
        rw [List.countP_cons]
        by_cases e : r = ("stop" : Str)
        · have z0 : (rs.countP fun z => decide (z = ("stop" : Str))) = 0 := by
            rw [List.countP_eq_zero]
            intro y hy hy2
            obtain ⟨j, hj⟩ := List.getElem?_of_mem hy
            have := h 0 (j + 1) (by rw [e]; rfl) (by rw [List.getElem?_cons_succ, hj, of_decide_eq_true hy2])
            omega
          rw [z0, if_pos (decide_eq_true e)]
          omega
        · rw [if_neg (by simpa using e)]
          exact ih fun i j hi hj => by
            have := h (i + 1) (j + 1) (by rw [List.getElem?_cons_succ]; exact hi) (by rw [List.getElem?_cons_succ]; exact hj)
            omega
    exact key rs o.one
  have h1 := lt_of "right" o.nr
  have h2 := lt_of "down" o.nd
  have hie : (oS rs).isEmpty = false := by
    cases rs with
    | nil => exact absurd rfl hne
    | cons _ _ => rfl
  show (!(oS rs).isEmpty && ((oS rs).all isR && (decide (((ct "stop" (oS rs) : Nat) : Int) ≤ 1) && (decide (ct "right" (oS rs) < (oS rs).length) && decide (ct "down" (oS rs) < (oS rs).length))))) = true
  rw [hie, hall, decide_eq_true h1, decide_eq_true h2, decide_eq_true (show ((ct "stop" (oS rs) : Nat) : Int) ≤ 1 by omega)]
  rfl
theorem nc_oS {rs : List Str} (o : Oc rs) : Nc (0 + 1) (.list (oS rs)) ∧ PyData.weight (.list (oS rs)) ≤ 6 * rs.length := by
  have key : ∀ x ∈ oS rs, Nc 0 x ∧ x.weight ≤ 5 := fun x hx => by
    obtain ⟨z, hz, rfl⟩ := List.mem_map.mp hx
    exact nc_o (some z) (.inr (by
      rcases o.all z hz with rfl | rfl | rfl
      · exact .inl rfl
      · exact .inr (.inl rfl)
      · exact .inr (.inr rfl)))
  refine ⟨nc_list fun x hx => (key x hx).1, ?_⟩
  have := wt_all fun x hx => (key x hx).2
  rw [oS_len] at this
  exact this
theorem os_core (Φ : Fns) (s0 : S) (d : PyData) (P : List PyData) (hs : Is s0 d) (f0 : Φ.fn 0 [s0] = .ok (.val (.bool true)) [s0]) (f1 : Φ.fn 1 [s0] = .ok (.lst P) [s0]) : evDef Φ 1 0 [] b_outcome_schedule [s0] = .ok (.lst P) [s0] := by
  rcases hs with rfl | ⟨xs, rfl, e⟩
  · simp [evDef, b_outcome_schedule, f0, f1]
  · simp [evDef, b_outcome_schedule, f0, f1]
theorem os_ok {s0 : S} {rs : List Str} (o : Oc rs) (hl : rs.length ≤ 2000) (hs : Is s0 (.list (oS rs))) : s_outcome_schedule [s0] = .ok (.lst (nD (sched rs))) [s0] := by
  rw [u_outcome_schedule]
  refine os_core _ s0 _ _ hs ?_ ?_
  · rw [p_outcome_schedule_f0, outcome_ok hs (nc_oS o).1 (fun xs e => by cases e; rw [oS_len]; omega), due_oc o]
  · rw [p_outcome_schedule_f1, u_schedule_in]
    exact si_core _ s0 rs o hl hs (fun z => by rw [p_schedule_in_f0]; exact pw_ok z hs (by omega)) p_schedule_in_g0 p_schedule_in_g1 p_schedule_in_g2
end VEL

namespace VEL
open PySem L2 PySem.Spec PyProof.Rows VE
/-! ### the drawn outcome -/
theorem rd_in {v : Int} (h : 0 ≤ v) (h2 : v < 2) : ∃ z : Str, (z = ("right" : Str) ∨ z = ("down" : Str)) ∧ atI [PyData.str ("right" : Str), .str ("down" : Str)] v = some (.str z) := by
  obtain ⟨x, m, i⟩ := atI_in (xs := [PyData.str ("right" : Str), .str ("down" : Str)]) h (by simpa using h2)
  simp only [List.mem_cons, List.mem_nil_iff, or_false] at m
  rcases m with rfl | rfl
  · exact ⟨_, .inl rfl, i⟩
  · exact ⟨_, .inr rfl, i⟩
def RD (rs : List Str) : Prop := ∀ z ∈ rs, z = ("right" : Str) ∨ z = ("down" : Str)
theorem oc_turns (b : Int) (hb : 0 ≤ b) (hb2 : b < 2 ^ 150) (y : PyData) (s2 s3 : S) : ∀ (xs : List PyData) (acc : List Str) (a c : Int), 0 ≤ a → 0 ≤ c → c + xs.length < 2 ^ 40 → RD acc → acc.length + xs.length ≤ 2000 →
    ∃ (rs : List Str) (a' c' : Int), turns (turnF p__law_outcome (.nm 4) none x__law_outcome_1) xs (oS acc) [.lst [.int a, .int b, .int c], .val y, s2, s3, .dead] = .ok (oS rs) [.lst [.int a', .int b, .int c'], .val y, s2, s3, .dead] ∧ RD rs ∧ rs.length = acc.length + xs.length ∧ 0 ≤ a' ∧ 0 ≤ c' ∧ c' ≤ c + xs.length
  | [], acc, a, c, ha, hc, _, h, _ => ⟨acc, a, c, rfl, h, rfl, ha, hc, by simp⟩
  | x :: xs, acc, a, c, ha, hc, hc2, h, hl => by
    rw [List.length_cons] at hc2 hl
    obtain ⟨v, a1, c1, e, q1, q2, q3, q4, q5⟩ := sip_ok a b c 2 ha hb hb2 hc (by omega) (by omega) (by omega)
    obtain ⟨z, hz, iz⟩ := rd_in q1 q2
    have f : turnF p__law_outcome (.nm 4) none x__law_outcome_1 x [.lst [.int a, .int b, .int c], .val y, s2, s3, .dead] = .ok (some (.str z)) [.lst [.int a1, .int b, .int c1], .val y, s2, s3, .dead] := by
      simp [x__law_outcome_1, p__law_outcome_f0, e, iz, sizeLine]
    have ha' : oS acc ++ [.str z] = oS (acc ++ [z]) := by
      unfold oS
      rw [List.map_append]
      rfl
    obtain ⟨rs, a2, c2, e2, r1, r2, r3, r4, r5⟩ := oc_turns b hb hb2 y s2 s3 xs (acc ++ [z]) a1 c1 q3 q4 (by omega) (fun w hw => by
      rcases List.mem_append.mp hw with hw | hw
      · exact h w hw
      · rw [List.mem_singleton.mp hw]; exact hz) (by rw [List.length_append, List.length_singleton]; omega)
    refine ⟨rs, a2, c2, ?_, r1, by rw [r2, List.length_append, List.length_singleton, List.length_cons]; omega, r3, r4, by rw [List.length_cons]; omega⟩
    rw [turns, f]
    simp only [R.bnd_ok]
    rw [if_pos (by rw [oS_len]; exact Nat.lt_of_le_of_lt (show acc.length ≤ 2000 by omega) (by decide)), ha']
    exact e2
section
variable (Φ : Fns) (K : List PyData) (s2 s3 : S)
theorem o_one (n : Int) (K' F : List PyData) (hn : n.natAbs < 1152921504606846976) (t : turns (turnF Φ (.nm 4) none x__law_outcome_1) (rng 0 n) [] [.lst K, .val (.int n), s2, s3, .dead] = .ok F [.lst K', .val (.int n), s2, s3, .dead]) :
    evS Φ (.asg 2 (.comp (.nm 4) (.rng1 (.pl 1)) none x__law_outcome_1)) [.lst K, .val (.int n), s2, s3, .dead] = .ok .nx [.lst K', .val (.int n), .lst F, s3, .dead] := by
  simp [evE_comp, hn, t]
theorem o_two_no (y : PyData) (v : Int) (K' : List PyData) (e : Φ.fn 0 [.lst K, .val (.int 3)] = .ok (.val (.int v)) [.lst K', .val (.int 3)]) (hv : v ≠ 0) :
    evS Φ (.ite (.cmp .eq (.e (.call 0 [(.pl 0), (.e (.cst (.int 3)))])) (.e (.cst (.int 0)))) [(.asg 2 (.bin .mul (.e (.lst [(.e (.idx (.e (.lst [(.e (.cst (.str ("right" : Str)))), (.e (.cst (.str ("down" : Str))))])) (.e (.call 0 [(.pl 0), (.e (.cst (.int 2)))]))))])) (.pl 1)))] []) [.lst K, .val y, s2, s3, .dead] = .ok .nx [.lst K', .val y, s2, s3, .dead] := by
  simp [e, hv]
theorem o_two_yes (y x v2 : PyData) (F K' K2 : List PyData) (e : Φ.fn 0 [.lst K, .val (.int 3)] = .ok (.val (.int 0)) [.lst K', .val (.int 3)]) (e2 : Φ.fn 0 [.lst K', .val (.int 2)] = .ok (.val v2) [.lst K2, .val (.int 2)]) (ix : opIx (.list [.str ("right" : Str), .str ("down" : Str)]) v2 = some x) (hm : opB .mul (.list [x]) y = some (.lst F)) :
    evS Φ (.ite (.cmp .eq (.e (.call 0 [(.pl 0), (.e (.cst (.int 3)))])) (.e (.cst (.int 0)))) [(.asg 2 (.bin .mul (.e (.lst [(.e (.idx (.e (.lst [(.e (.cst (.str ("right" : Str)))), (.e (.cst (.str ("down" : Str))))])) (.e (.call 0 [(.pl 0), (.e (.cst (.int 2)))]))))])) (.pl 1)))] []) [.lst K, .val y, s2, s3, .dead] = .ok .nx [.lst K2, .val y, .lst F, s3, .dead] := by
  simp [e, e2, ix, hm, sizeLine, -opIx_list]
theorem o_thr (y v : PyData) (K' : List PyData) (e : Φ.fn 0 [.lst K, .val y] = .ok (.val v) [.lst K', .val y]) : evS Φ (.asg 3 (.call 0 [(.pl 0), (.pl 1)])) [.lst K, .val y, s2, s3, .dead] = .ok .nx [.lst K', .val y, s2, .val v, .dead] := by
  simp [e]
theorem o_four_a (n : Int) (F : List PyData) (at' : Int) (j : Nat) (K' : List PyData) (hc : n = 1 ∧ K' = K ∨ n ≠ 1 ∧ Φ.fn 0 [.lst K, .val (.int 2)] = .ok (.val (.int 0)) [.lst K', .val (.int 2)]) (hj : ixN F.length at' = some j) :
    evS Φ (.ite (.bop false [(.cmp .eq (.pl 1) (.e (.cst (.int 1)))), (.cmp .eq (.e (.call 0 [(.pl 0), (.e (.cst (.int 2)))])) (.e (.cst (.int 0))))]) [(.setit 2 (.pl 3) (.cst (.str ("stop" : Str))))] [(.setit 2 (.pl 3) (.cst (.str ("right" : Str)))), (.setit 2 (.e (.bin .mod (.e (.bin .add (.e (.bin .add (.pl 3) (.e (.cst (.int 1))))) (.e (.call 0 [(.pl 0), (.e (.bin .sub (.pl 1) (.e (.cst (.int 1)))))])))) (.pl 1))) (.cst (.str ("down" : Str))))]) [.lst K, .val (.int n), .lst F, .val (.int at'), .dead] = .ok .nx [.lst K', .val (.int n), .lst (F.set j (.str "stop")), .val (.int at'), .dead] := by
  rcases hc with ⟨h1, rfl⟩ | ⟨h1, e⟩
  · simp [h1, hj]
  · simp [h1, e, hj]
theorem o_four_b (n : Int) (F : List PyData) (at' v v2 : Int) (w : PyData) (j j2 : Nat) (K' K2 : List PyData) (h1 : n ≠ 1) (e : Φ.fn 0 [.lst K, .val (.int 2)] = .ok (.val (.int v)) [.lst K', .val (.int 2)]) (hv : v ≠ 0) (hj : ixN F.length at' = some j)
    (e2 : Φ.fn 0 [.lst K', .val (.int (n - 1))] = .ok (.val (.int v2)) [.lst K2, .val (.int (n - 1))]) (m : Int) (hm : opB .mod (.int (at' + 1 + v2)) (.int n) = some (.val (.int m))) (hj2 : ixN F.length m = some j2) :
    evS Φ (.ite (.bop false [(.cmp .eq (.pl 1) (.e (.cst (.int 1)))), (.cmp .eq (.e (.call 0 [(.pl 0), (.e (.cst (.int 2)))])) (.e (.cst (.int 0))))]) [(.setit 2 (.pl 3) (.cst (.str ("stop" : Str))))] [(.setit 2 (.pl 3) (.cst (.str ("right" : Str)))), (.setit 2 (.e (.bin .mod (.e (.bin .add (.e (.bin .add (.pl 3) (.e (.cst (.int 1))))) (.e (.call 0 [(.pl 0), (.e (.bin .sub (.pl 1) (.e (.cst (.int 1)))))])))) (.pl 1))) (.cst (.str ("down" : Str))))]) [.lst K, .val (.int n), .lst F, .val (.int at'), .dead] = .ok .nx [.lst K2, .val (.int n), .lst ((F.set j (.str "right")).set j2 (.str "down")), .val (.int at'), .dead] := by
  simp [h1, e, hv, hj, e2, hm, hj2, -opB_mod]
theorem o_end (y : PyData) (F : List PyData) : evSs Φ [.ret (.rd 2 true)] [.lst K, .val y, .lst F, s3, .dead] = .ok (.ret (.lst F)) [.lst K, .val y, .dead, s3, .dead] := by
  simp
end
theorem o_core (Φ : Fns) (K K' : List PyData) (y : PyData) (F : List PyData) (s3 : S) (e : evSs Φ b__law_outcome [.lst K, .val y, .dead, .dead, .dead] = .ok (.ret (.lst F)) [.lst K', .val y, .dead, s3, .dead]) : evDef Φ 2 3 [2, 2, 3] b__law_outcome [.lst K, .val y] = .ok (.lst F) [.lst K', .val y] := by
  simp [evDef, e]
theorem set_oS (rs : List Str) (j : Nat) (z : Str) : (oS rs).set j (.str z) = oS (rs.set j z) := by
  unfold oS
  rw [List.map_set]
theorem oc_stop {rs : List Str} {j : Nat} (h : RD rs) (hj : j < rs.length) : Oc (rs.set j "stop") := by
  have g : ∀ i : Nat, (rs.set j ("stop" : Str))[i]? = some ("stop" : Str) → i = j := fun i hi => by
    rw [List.getElem?_set] at hi
    by_cases e : j = i
    · exact e.symm
    · rw [if_neg e] at hi
      rcases h _ (List.mem_of_getElem? hi) with z | z
      · exact absurd z ne1
      · exact absurd z ne2
  have s : (rs.set j ("stop" : Str))[j]? = some ("stop" : Str) := by
    rw [List.getElem?_set, if_pos rfl, if_pos hj]
  refine ⟨fun z hz => ?_, fun i k hi hk => (g i hi).trans (g k hk).symm, ⟨j, _, s, ne1⟩, ⟨j, _, s, ne2⟩⟩
  rcases List.mem_or_eq_of_mem_set hz with hz | rfl
  · exact .inr (h z hz)
  · exact .inl rfl
theorem oc_two {rs : List Str} {i j : Nat} (h : RD rs) (hi : i < rs.length) (hj : j < rs.length) (ne : i ≠ j) : Oc ((rs.set i "right").set j "down") := by
  have rd : RD ((rs.set i ("right" : Str)).set j ("down" : Str)) := fun z hz => by
    rcases List.mem_or_eq_of_mem_set hz with hz | rfl
    · rcases List.mem_or_eq_of_mem_set hz with hz | rfl
      · exact h z hz
      · exact .inl rfl
    · exact .inr rfl
  have nost : ∀ k : Nat, ((rs.set i ("right" : Str)).set j ("down" : Str))[k]? ≠ some ("stop" : Str) := fun k hk => by
    rcases rd _ (List.mem_of_getElem? hk) with z | z
    · exact ne1 z
    · exact ne2 z
  refine ⟨fun z hz => .inr (rd z hz), fun a b ha _ => absurd ha (nost a), ⟨j, "down", ?_, Ne.symm ne3⟩, ⟨i, "right", ?_, ne3⟩⟩
  · rw [List.getElem?_set, if_pos rfl, if_pos (by rw [List.length_set]; exact hj)]
  · rw [List.getElem?_set, if_neg (Ne.symm ne), List.getElem?_set, if_pos rfl, if_pos hi]
theorem outcome_drawn (n : Nat) (h0 : 1 ≤ n) (hn : n ≤ 2000) (a b c : Int) (ha : 0 ≤ a) (hb : 0 ≤ b) (hb2 : b < 2 ^ 150) (hc : 0 ≤ c) (hc2 : c < 2 ^ 39) :
    ∃ (rs : List Str) (a' c' : Int), s__law_outcome [.lst [.int a, .int b, .int c], .val (.int n)] = .ok (.lst (oS rs)) [.lst [.int a', .int b, .int c'], .val (.int n)] ∧ Oc rs ∧ rs.length = n ∧ 0 ≤ a' ∧ 0 ≤ c' ∧ c' ≤ c + 2010 := by
  have f0 : ∀ K y, p__law_outcome.fn 0 [.lst K, .val y] = s__law_sip [.lst K, .val y] := fun K y => by rw [p__law_outcome_f0]
  obtain ⟨r1, a1, c1, e1, q1, q2, q3, q4, q5⟩ := oc_turns b hb hb2 (.int n) .dead .dead (rng 0 (n : Int)) [] a c ha hc (by rw [rng_len]; omega) (fun _ z => nomatch z) (by rw [rng_len, List.length_nil]; omega)
  rw [rng_len] at q2 q5
  have hq2 : r1.length = n := by rw [q2, List.length_nil]; omega
  have x1 := o_one p__law_outcome [.int a, .int b, .int c] .dead .dead (n : Int) _ _ (by omega) e1
  -- sometimes all alike
  obtain ⟨v, a2, c2, e2, k1, k2, k3, k4, k5⟩ := sip_ok a1 b c1 3 q3 hb hb2 q4 (by omega) (by omega) (by omega)
  obtain ⟨r2, a3, c3, x2, hr2, hl2, j3, j4, j5⟩ : ∃ (r2 : List Str) (a3 c3 : Int), evS p__law_outcome (.ite (.cmp .eq (.e (.call 0 [(.pl 0), (.e (.cst (.int 3)))])) (.e (.cst (.int 0)))) [(.asg 2 (.bin .mul (.e (.lst [(.e (.idx (.e (.lst [(.e (.cst (.str ("right" : Str)))), (.e (.cst (.str ("down" : Str))))])) (.e (.call 0 [(.pl 0), (.e (.cst (.int 2)))]))))])) (.pl 1)))] []) [.lst [.int a1, .int b, .int c1], .val (.int n), .lst (oS r1), .dead, .dead] = .ok .nx [.lst [.int a3, .int b, .int c3], .val (.int n), .lst (oS r2), .dead, .dead] ∧ RD r2 ∧ r2.length = n ∧ 0 ≤ a3 ∧ 0 ≤ c3 ∧ c3 ≤ c1 + 2 := by
    by_cases hv : v = 0
    · subst hv
      obtain ⟨w, a3, c3, e3, m1, m2, m3, m4, m5⟩ := sip_ok a2 b c2 2 k3 hb hb2 k4 (by omega) (by omega) (by omega)
      obtain ⟨z, hz, iz⟩ := rd_in m1 m2
      have hm := rep1 n (.str z) (by omega)
      have eF : List.replicate n (PyData.str z) = oS (List.replicate n z) := by
        unfold oS
        rw [List.map_replicate]
      rw [eF] at hm
      exact ⟨List.replicate n z, a3, c3, o_two_yes _ _ _ _ _ _ _ _ _ _ ((f0 _ _).trans e2) ((f0 _ _).trans e3) iz hm, fun y hy => by rw [List.eq_of_mem_replicate hy]; exact hz, List.length_replicate, m3, m4, by omega⟩
    · exact ⟨r1, a2, c2, o_two_no _ _ _ _ _ _ _ ((f0 _ _).trans e2) hv, q1, hq2, k3, k4, by omega⟩
  obtain ⟨w, a4, c4, e4, m1, m2, m3, m4, m5⟩ := sip_ok a3 b c3 (n : Int) j3 hb hb2 j4 (by omega) (by omega) (by omega)
  obtain ⟨i, rfl⟩ := Int.eq_ofNat_of_zero_le m1
  have hi : i < r2.length := by omega
  have x3 := o_thr p__law_outcome [.int a3, .int b, .int c3] (.lst (oS r2)) .dead (.int n) _ _ ((f0 _ _).trans e4)
  have hix : ixN (oS r2).length (i : Int) = some i := ixN_n (by rw [oS_len]; exact hi)
  rw [u__law_outcome]
  by_cases h1 : n = 1
  · have x4 := o_four_a p__law_outcome [.int a4, .int b, .int c4] (n : Int) (oS r2) (i : Int) i _ (.inl ⟨by omega, rfl⟩) hix
    rw [set_oS] at x4
    exact ⟨r2.set i "stop", a4, c4, o_core _ _ _ _ _ _ (evSs_then x1 (evSs_then x2 (evSs_then x3 (evSs_then x4 (o_end _ _ _ _ _))))), oc_stop hr2 hi, by rw [List.length_set]; exact hl2, m3, m4, by omega⟩
  · obtain ⟨v5, a5, c5, e5, t1, t2, t3, t4, t5⟩ := sip_ok a4 b c4 2 m3 hb hb2 m4 (by omega) (by omega) (by omega)
    by_cases hv5 : v5 = 0
    · subst hv5
      have x4 := o_four_a p__law_outcome [.int a4, .int b, .int c4] (n : Int) (oS r2) (i : Int) i _ (.inr ⟨by omega, (f0 _ _).trans e5⟩) hix
      rw [set_oS] at x4
      exact ⟨r2.set i "stop", a5, c5, o_core _ _ _ _ _ _ (evSs_then x1 (evSs_then x2 (evSs_then x3 (evSs_then x4 (o_end _ _ _ _ _))))), oc_stop hr2 hi, by rw [List.length_set]; exact hl2, t3, t4, by omega⟩
    · obtain ⟨v6, a6, c6, e6, z1, z2, z3, z4, z5⟩ := sip_ok a5 b c5 ((n : Int) - 1) t3 hb hb2 t4 (by omega) (by omega) (by omega)
      obtain ⟨u, rfl⟩ := Int.eq_ofNat_of_zero_le z1
      obtain ⟨j, hj, hjn, hij⟩ : ∃ j : Nat, ((i : Int) + 1 + (u : Int)) % (n : Int) = (j : Int) ∧ j < n ∧ i ≠ j := by
        by_cases hlt : i + 1 + u < n
        · refine ⟨i + 1 + u, ?_, hlt, by omega⟩
          rw [Int.emod_eq_of_lt (by omega) (by omega)]
          omega
        · refine ⟨i + 1 + u - n, ?_, by omega, by omega⟩
          have e : (i : Int) + 1 + (u : Int) = ((i + 1 + u - n : Nat) : Int) + (n : Int) := by omega
          rw [e, Int.add_emod_right, Int.emod_eq_of_lt (by omega) (by omega)]
      have hm : opB .mod (.int ((i : Int) + 1 + (u : Int))) (.int (n : Int)) = some (.val (.int (j : Int))) := by
        rw [opB_mod, decide_eq_true (show (0 : Int) < (n : Int) by omega), hj]
        rfl
      have x4 := o_four_b p__law_outcome [.int a4, .int b, .int c4] (n : Int) (oS r2) (i : Int) _ _ (.int 0) i j _ _ (by omega) ((f0 _ _).trans e5) hv5 hix ((f0 _ _).trans e6) _ hm (ixN_n (by rw [oS_len]; omega))
      rw [set_oS, set_oS] at x4
      exact ⟨(r2.set i "right").set j "down", a6, c6, o_core _ _ _ _ _ _ (evSs_then x1 (evSs_then x2 (evSs_then x3 (evSs_then x4 (o_end _ _ _ _ _))))), oc_two hr2 hi (by omega) hij, by rw [List.length_set, List.length_set]; exact hl2, z3, z4, by omega⟩
end VEL

namespace VEL
open PySem L2 PySem.Spec PyProof.Rows VE
/-! ### the law's own check -/
def keyS (p : Nat) : Str := Str.ofString (toString ((p : Nat) : Int))
theorem keyS_inj {p q : Nat} (hp : p < 10000) (hq : q < 10000) (h : keyS p = keyS q) : p = q := by
  have g : ∀ n : Nat, n < 10000 → PySem.intText? (keyS n) = some (n : Int) := fun n hn => TL.int_num (Nat.le_trans (TL.numL_len (k := 4) (by omega) (by omega)) (by omega))
  have e := g p hp
  rw [h, g q hq] at e
  have := Option.some.inj e
  omega
theorem repr_nat {p : Nat} (h : p < 2001) : opBlt .repr [.int (p : Int)] = some (.val (.str (keyS p))) :=
  repr_n ((nc_nat p h).1.mono (Nat.zero_le _)) (Nat.le_trans (nc_nat p h).2 (by decide))
theorem str_nat {p : Nat} (h : p < 2001) : opBlt .str [.int (p : Int)] = some (.val (.str (keyS p))) := by
  have z : ((p : Int).natAbs).log2 < 1920 := by
    by_cases e : p = 0
    · subst e; decide
    · rw [Nat.log2_lt (by omega)]
      exact Nat.lt_of_lt_of_le (show (p : Int).natAbs < 2 ^ 11 by omega) (Nat.pow_le_pow_right (by omega) (by omega))
  show (if decide (((p : Int).natAbs).log2 < 1920) then some (S.val (.str (keyS p))) else none) = _
  rw [decide_eq_true z]
  rfl
/-- the dict of the numbers -/
def numD (n : Nat) : List (PyData × PyData) := (List.range n).map fun p : Nat => (.str (keyS p), .bool true)
theorem pairs_ok : ∀ (ps : List Nat), (∀ p ∈ ps, p < 2001) → ps.Nodup → pairsK (ps.map fun p : Nat => .tuple [.str (keyS p), .bool true]) = some (ps.map fun p : Nat => (.inr (keyS p), .bool true))
  | [], _, _ => rfl
  | p :: r, h, nd => by
    rw [List.nodup_cons] at nd
    show (match keyD (.str (keyS p)), pairsK (r.map fun p : Nat => .tuple [.str (keyS p), .bool true]) with
      | some k, some ps => if ps.any (fun p => decide (p.1 = k)) then none else some ((k, PyData.bool true) :: ps)
      | _, _ => none) = _
    rw [pairs_ok r (fun q hq => h q (List.mem_cons_of_mem _ hq)) nd.2]
    show (if (r.map fun p : Nat => ((.inr (keyS p) : Key), PyData.bool true)).any (fun q => decide (q.1 = (.inr (keyS p) : Key))) then none else _) = _
    rw [if_neg]
    · rfl
    · intro z
      obtain ⟨y, hy, ey⟩ := List.any_eq_true.mp z
      obtain ⟨q, hq, rfl⟩ := List.mem_map.mp hy
      have e := Sum.inr.inj (of_decide_eq_true ey)
      have h1 := h p List.mem_cons_self
      have h2 := h q (List.mem_cons_of_mem _ hq)
      exact nd.1 (keyS_inj (by omega) (by omega) e ▸ hq)
theorem dict_ok {n : Nat} (hn : n < 2001) : opBlt .dict [.list ((List.range n).map fun p : Nat => .tuple [.str (keyS p), .bool true])] = some (.dct (numD n)) := by
  show (pairsK _).map _ = _
  rw [pairs_ok (List.range n) (fun p hp => by have := List.mem_range.mp hp; omega) List.nodup_range]
  show some (S.dct _) = _
  unfold numD
  rw [List.map_map]
  rfl
theorem keys_num (ps : List Nat) : keysD (ps.map fun p : Nat => (PyData.str (keyS p), PyData.bool true)) = some (ps.map fun p : Nat => (.inr (keyS p) : Key)) := by
  induction ps with
  | nil => rfl
  | cons p r ih =>
    show (match keyD (.str (keyS p)), keysD (r.map fun p : Nat => (PyData.str (keyS p), PyData.bool true)) with
      | some k, some ks => some (k :: ks)
      | _, _ => none) = _
    rw [ih]
    rfl
theorem in_num {n p : Nat} (h : p < n) : opC .notmem (.str (keyS p)) (.dict (numD n)) = some false := by
  have e : inDict (.str (keyS p)) (numD n) = some true := by
    unfold inDict numD
    rw [keys_num]
    show (if ((List.range n).map fun p : Nat => (.inr (keyS p) : Key)).isEmpty then none else some _) = _
    have ne : ((List.range n).map fun p : Nat => (.inr (keyS p) : Key)).isEmpty = false := by
      cases n with
      | zero => omega
      | succ m => rw [List.range_succ]; simp
    rw [ne]
    simp only [Bool.false_eq_true, if_false]
    congr 1
    rw [List.any_eq_true]
    exact ⟨.inr (keyS p), List.mem_map.mpr ⟨p, List.mem_range.mpr h, rfl⟩, decide_eq_true rfl⟩
  show (inDict (.str (keyS p)) (numD n)).map (!·) = _
  rw [e]
  rfl
theorem num_turns (Φ : Fns) (s0 s1 s2 s4 s7 : S) (y : PyData) {n : Nat} (hn : n < 2001) : turns (turnF Φ (.nm 3) none x__law_right_1) (rng 0 (n : Int)) [] [s0, s1, s2, .dead, s4, .val y, .dead, s7, .dead] = .ok ((List.range n).map fun p : Nat => .tuple [.str (keyS p), .bool true]) [s0, s1, s2, .dead, s4, .val y, .dead, s7, .dead] := by
  have t := turns_ok (f := turnF Φ (.nm 3) none x__law_right_1) (g := fun x => match x with
    | .int p => some (PyData.tuple [.str (keyS p.toNat), .bool true])
    | _ => none) (ρ := [s0, s1, s2, .dead, s4, .val y, .dead, s7, .dead]) (rng 0 (n : Int)) [] (by
      intro x hx
      obtain ⟨p, hp, rfl⟩ := mem_rng hx
      have e := str_nat (p := p) (by omega)
      simp [x__law_right_1, e, sizeLine]) (by rw [rng_len, List.length_nil]; exact Nat.le_trans (show 0 + n ≤ 2001 by omega) (by decide))
  rw [t, List.nil_append]
  congr 1
  unfold rng
  rw [List.filterMap_map, show ((n : Int) - 0).toNat = n by omega]
  generalize List.range n = l
  induction l with
  | nil => rfl
  | cons p r ih =>
    rw [List.filterMap_cons, List.map_cons]
    simp only [Function.comp_apply]
    rw [show ((0 : Int) + (p : Int)).toNat = p by omega]
    exact congrArg _ ih
theorem cnt_turns (Φ : Fns) (s0 s1 s2 s3 s4 s5 s6 s7 : S) (rs : List Str) (hl : rs.length ≤ 2000) : turns (turnF Φ (.nm 8) none x__law_right_2) (oS rs) [] [s0, s1, s2, s3, s4, s5, s6, s7, .dead] = .ok (nD (rs.map nOf)) [s0, s1, s2, s3, s4, s5, s6, s7, .dead] := by
  have t := turns_ok (f := turnF Φ (.nm 8) none x__law_right_2) (g := fun x => match x with
    | .str z => some (PyData.int ((nOf z : Nat) : Int))
    | _ => none) (ρ := [s0, s1, s2, s3, s4, s5, s6, s7, .dead]) (oS rs) [] (by
      intro x hx
      obtain ⟨z, hz, rfl⟩ := List.mem_map.mp hx
      have i0 : ∀ x y : PyData, atI [x, y] 0 = some x := fun _ _ => rfl
      have i1 : ∀ x y : PyData, atI [x, y] 1 = some y := fun _ _ => rfl
      have b1 : ∀ b : Bool, opBlt .int [.bool b] = some (.val (.int (if b then 1 else 0))) := fun _ => rfl
      by_cases h : z = ("right" : Str)
      · simp [x__law_right_2, h, nOf, b1, i0, i1, sizeLine]
      · simp [x__law_right_2, h, nOf, b1, i0, i1, sizeLine]) (by rw [oS_len, List.length_nil]; exact Nat.le_trans (show 0 + rs.length ≤ 2001 by omega) (by decide))
  rw [t, List.nil_append]
  congr 1
  clear t hl
  induction rs with
  | nil => rfl
  | cons r rs ih =>
    show (PyData.str r :: oS rs).filterMap _ = PyData.int ((nOf r : Nat) : Int) :: nD (rs.map nOf)
    rw [List.filterMap_cons]
    exact congrArg _ ih
theorem ns_after (q : Q4) (p : Nat) : (q.step p).ns = q.ns.set p (q.ns.getD p 0 + 1) := by
  unfold Q4.step
  simp only
  split
  · rfl
  · split
    · rfl
    · split <;> rfl
theorem nD_at {ps : List Nat} {p : Nat} (h : p < ps.length) : atI (nD ps) (p : Int) = some (.int ((ps.getD p 0 : Nat) : Int)) := by
  refine atI_nat ?_
  unfold nD
  rw [List.getElem?_map, List.getD_eq_getElem?_getD, List.getElem?_eq_getElem h]
  rfl
theorem cnt_loop (Φ : Fns) (s0 s1 s2 s4 s5 s8 : S) {n : Nat} (hn : n < 2001) : ∀ (ps : List Nat) (q r : Q4) (s3 : S), Gd n q → q.runs ps = some r →
    ∃ s3', loop (bodyF Φ (.nm 3) l__law_right_1) (nD ps) [s0, s1, s2, s3, s4, s5, .dct (numD n), .lst (nD q.ns), s8] = .ok .nx [s0, s1, s2, s3', s4, s5, .dct (numD n), .lst (nD r.ns), s8]
  | [], q, r, s3, _, h => by
    cases h
    exact ⟨s3, rfl⟩
  | p :: ps, q, r, s3, g, h => by
    simp only [Q4.runs] at h
    split at h
    · rename_i hc
      have hp : p < n := by rw [← g.rs]; exact can_lt hc
      have hpn : p < q.ns.length := by rw [g.ns]; exact hp
      have a1 := nD_at hpn
      have a2 : ixN (nD q.ns).length (p : Int) = some p := ixN_n (by rw [nD_len]; exact hpn)
      have r1 := repr_nat (p := p) (by omega)
      have m1 := in_num hp
      have st : (nD q.ns).set p (.int (((q.ns.getD p 0 : Nat) : Int) + 1)) = nD (q.step p).ns := by
        rw [ns_after]
        unfold nD
        rw [List.map_set]
        rfl
      have step : bodyF Φ (.nm 3) l__law_right_1 (.int (p : Int)) [s0, s1, s2, s3, s4, s5, .dct (numD n), .lst (nD q.ns), s8] = .ok .nx [s0, s1, s2, .val (.int p), s4, s5, .dct (numD n), .lst (nD (q.step p).ns), s8] := by
        rw [← st]
        generalize q.ns.getD p 0 = N at *
        simp [l__law_right_1, r1, m1, a1, a2]
      obtain ⟨s3', e⟩ := cnt_loop Φ s0 s1 s2 s4 s5 s8 hn ps (q.step p) r (.val (.int p)) (gd_step g hc) h
      refine ⟨s3', ?_⟩
      show loop _ (.int (p : Int) :: nD ps) _ = _
      rw [loop, step]
      exact e
    · cases h
section
variable (Φ : Fns) (s0 : S) (d : PyData)
theorem r_one (hs : Is s0 d) (z : PyData) (n : PyData) (r0 : opBlt .repr [d] = some (.val z)) (hn : opBlt .len [d] = some (.val n)) :
    evS Φ (.par [4, 5] [(.e (.blt .repr [(.pl 0)])), (.e (.blt .len [(.pl 0)]))]) [s0, .dead, .dead, .dead, .dead, .dead, .dead, .dead, .dead] = .ok .nx [s0, .dead, .dead, .dead, .val z, .val n, .dead, .dead, .dead] := by
  rcases hs with rfl | ⟨xs, rfl, rfl⟩
  · simp [r0, hn]
  · simp [r0, hn, -opBlt_len]
theorem r_two (hs : Is s0 d) (s4 s5 : S) (P : List PyData) (e : Φ.fn 0 [s0] = .ok (.lst P) [s0]) :
    evS Φ (.asg 1 (.call 0 [(.pl 0)])) [s0, .dead, .dead, .dead, s4, s5, .dead, .dead, .dead] = .ok .nx [s0, .lst P, .dead, .dead, s4, s5, .dead, .dead, .dead] := by
  rcases hs with rfl | ⟨xs, rfl, rfl⟩
  · simp [e]
  · simp [e]
theorem r_thr (s4 s5 : S) (P : List PyData) (z : PyData) (r1 : opBlt .repr [.list P] = some (.val z)) :
    evS Φ (.asg 2 (.blt .repr [(.pl 1)])) [s0, .lst P, .dead, .dead, s4, s5, .dead, .dead, .dead] = .ok .nx [s0, .lst P, .val z, .dead, s4, s5, .dead, .dead, .dead] := by
  simp [r1]
theorem r_four (hs : Is s0 d) (s2 s5 : S) (P : List PyData) (z : Str) (r0 : opBlt .repr [d] = some (.val (.str z))) :
    evS Φ (.ite (.bop false [(.not (.blt (.isi .list) [(.pl 1)])), (.cmp .ne (.e (.blt .repr [(.pl 0)])) (.pl 4))]) [(.ret (.cst (.bool false)))] []) [s0, .lst P, s2, .dead, .val (.str z), s5, .dead, .dead, .dead] = .ok .nx [s0, .lst P, s2, .dead, .val (.str z), s5, .dead, .dead, .dead] := by
  have i1 : opBlt (.isi .list) [.list P] = some (.val (.bool true)) := rfl
  rcases hs with rfl | ⟨xs, rfl, rfl⟩
  · simp [r0, i1]
  · simp [r0, i1]
theorem r_five (s2 s4 : S) (P M F : List PyData) (kvs : List (PyData × PyData)) (n : Int) (hn : n.natAbs < 1152921504606846976)
    (t : turns (turnF Φ (.nm 3) none x__law_right_1) (rng 0 n) [] [s0, .lst P, s2, .dead, s4, .val (.int n), .dead, .dead, .dead] = .ok M [s0, .lst P, s2, .dead, s4, .val (.int n), .dead, .dead, .dead])
    (hd : opBlt .dict [.list M] = some (.dct kvs)) (hm : opB .mul (.list [.int 0]) (.int n) = some (.lst F)) :
    evS Φ (.par [6, 7] [(.e (.blt .dict [(.e (.comp (.nm 3) (.rng1 (.pl 5)) none x__law_right_1))])), (.e (.bin .mul (.e (.lst [(.e (.cst (.int 0)))])) (.pl 5)))]) [s0, .lst P, s2, .dead, s4, .val (.int n), .dead, .dead, .dead] = .ok .nx [s0, .lst P, s2, .dead, s4, .val (.int n), .dct kvs, .lst F, .dead] := by
  simp [evE_comp, hn, t, hd, hm, sizeLine, -opB_lrep]
theorem r_six (s2 s4 s5 s6 s3 : S) (P F F' : List PyData) (e : loop (bodyF Φ (.nm 3) l__law_right_1) P [s0, .dead, s2, .dead, s4, s5, s6, .lst F, .dead] = .ok .nx [s0, .dead, s2, s3, s4, s5, s6, .lst F', .dead]) :
    evS Φ (.for_ (.nm 3) (.seq (.pl 1)) true l__law_right_1) [s0, .lst P, s2, .dead, s4, s5, s6, .lst F, .dead] = .ok .nx [s0, .lst P, s2, s3, s4, s5, s6, .lst F', .dead] := by
  simp [evS_for, e]
theorem r_seven (xs : List PyData) (hs : Is s0 (.list xs)) (s1 s2 s3 s4 s5 s6 : S) (F : List PyData) (q : opC .ne (.list F) (.list F) = some false)
    (t : ∀ s, turns (turnF Φ (.nm 8) none x__law_right_2) xs [] [s, s1, s2, s3, s4, s5, s6, .lst F, .dead] = .ok F [s, s1, s2, s3, s4, s5, s6, .lst F, .dead]) :
    evS Φ (.ite (.cmp .ne (.pl 7) (.e (.comp (.nm 8) (.seq (.pl 0)) none x__law_right_2))) [(.ret (.cst (.bool false)))] []) [s0, s1, s2, s3, s4, s5, s6, .lst F, .dead] = .ok .nx [s0, s1, s2, s3, s4, s5, s6, .lst F, .dead] := by
  rcases hs with rfl | ⟨ys, rfl, e⟩
  · simp [evE_comp, t, q]
  · cases e
    simp [evE_comp, t, q]
theorem r_eight (xs : List PyData) (hs : Is s0 (.list xs)) (s2 s3 s4 s6 s7 : S) (P : List PyData) (n : Int) (q : opC .ne (.list xs) (.list xs) = some false)
    (e1 : Φ.fn 1 [.val (.int n), .lst P] = .ok (.lst xs) [.val (.int n), .lst P]) (e2 : n < 41 → Φ.fn 2 [.val (.int n), .lst P] = .ok (.lst xs) [.val (.int n), .lst P]) :
    evS Φ (.ite (.bop false [(.cmp .ne (.e (.call 1 [(.pl 5), (.pl 1)])) (.pl 0)), (.bop true [(.cmp .lt (.pl 5) (.e (.cst (.int 41)))), (.cmp .ne (.e (.call 2 [(.pl 5), (.pl 1)])) (.pl 0))])]) [(.ret (.cst (.bool false)))] []) [s0, .lst P, s2, s3, s4, .val (.int n), s6, s7, .dead] = .ok .nx [s0, .lst P, s2, s3, s4, .val (.int n), s6, s7, .dead] := by
  by_cases h : n < 41
  · have e2' := e2 h
    rcases hs with rfl | ⟨ys, rfl, e⟩
    · simp [e1, q, h, e2']
    · cases e
      simp [e1, q, h, e2']
  · rcases hs with rfl | ⟨ys, rfl, e⟩
    · simp [e1, q, h]
    · cases e
      simp [e1, q, h]
theorem r_nine (s2 s3 s4 s5 s6 s7 : S) (P : List PyData) (h : opMut .append P [.str "more"] = some (.none, P ++ [.str "more"])) :
    evS Φ (.expr (.mut .append 1 [(.e (.cst (.str ("more" : Str))))])) [s0, .lst P, s2, s3, s4, s5, s6, s7, .dead] = .ok .nx [s0, .lst (P ++ [.str "more"]), s2, s3, s4, s5, s6, s7, .dead] := by
  simp [h]
theorem r_ten (hs : Is s0 d) (s1 s3 s4 s5 s6 s7 : S) (P : List PyData) (z : Str) (e : Φ.fn 0 [s0] = .ok (.lst P) [s0]) (r1 : opBlt .repr [.list P] = some (.val (.str z))) :
    evSs Φ [.ret (.cmp .eq (.e (.blt .repr [(.e (.call 0 [(.pl 0)]))])) (.pl 2))] [s0, s1, .val (.str z), s3, s4, s5, s6, s7, .dead] = .ok (.ret (.val (.bool true))) [s0, s1, .val (.str z), s3, s4, s5, s6, s7, .dead] := by
  rcases hs with rfl | ⟨xs, rfl, rfl⟩
  · simp [e, r1]
  · simp [e, r1]
end
theorem r_core (Φ : Fns) (s0 : S) (ρ : List S) (e : evSs Φ b__law_right [s0, .dead, .dead, .dead, .dead, .dead, .dead, .dead, .dead] = .ok (.ret (.val (.bool true))) (s0 :: ρ)) (a : asgSs b__law_right = [4, 5, 1, 2, 6, 7, 3]) : evDef Φ 1 8 [4, 5, 1, 2, 6, 7, 3] b__law_right [s0] = .ok (.val (.bool true)) [s0] := by
  simp [evDef, e]
end VEL

namespace VEL
open PySem L2 PySem.Spec PyProof.Rows VE
theorem ne_self {d : PyData} (h : SeqAt.shaped d = true) (hd : ∃ xs, d = .list xs ∧ True) : opC .ne d d = some false := by
  obtain ⟨xs, rfl, _⟩ := hd
  have e : PyData.eqv (.list xs) (.list xs) = true := by
    first | exact PyData.eqv_refl _ (SeqAt.canLay_of_shaped h) | exact eqv_refl _ (SeqAt.canLay_of_shaped h) | exact SeqAt.eqv_refl _ (SeqAt.canLay_of_shaped h)
  show (if SeqAt.shaped (.list xs) && SeqAt.shaped (.list xs) then some (!PyData.eqv (.list xs) (.list xs)) else none) = _
  rw [h, e]
  rfl
theorem len_sched {rs : List Str} (hl : rs.length ≤ 2000) : (sched rs).length ≤ 40000 := by
  have l1 := Nat.le_trans (len_idx (z := "stop") (rs := rs) (k := 0)) hl
  have l2 := Nat.le_trans (len_idx (z := "down") (rs := rs) (k := 0)) hl
  have l3 := Nat.le_trans (len_idx (z := "right") (rs := rs) (k := 0)) hl
  unfold sched
  simp only
  generalize idxF "stop" rs 0 = st at *
  generalize idxF "down" rs 0 = dn at *
  generalize idxF "right" rs 0 = rt at *
  split
  · simp [len_dbl]
    omega
  · simp [len_dbl]
    omega
theorem oS_rs {q : Q4} {rs : List Str} (h : q.rs = rs.map some) : q.rs.map oD = oS rs := by
  rw [h, List.map_map]
  rfl
theorem sh_oS {rs : List Str} (o : Oc rs) : SeqAt.shaped (.list (oS rs)) = true := by
  refine sh_list ?_
  rw [List.all_eq_true]
  intro x hx
  obtain ⟨z, hz, rfl⟩ := List.mem_map.mp hx
  rcases o.all z hz with rfl | rfl | rfl <;> decide +kernel
theorem right_ok {s0 : S} {rs : List Str} (o : Oc rs) (hl : rs.length ≤ 2000) (hs : Is s0 (.list (oS rs))) : s__law_right [s0] = .ok (.val (.bool true)) [s0] := by
  obtain ⟨q, hrun, hqr, hqn⟩ := sched_ok o
  have h0 : 1 ≤ rs.length := by
    obtain ⟨i, z, hi, _⟩ := o.nr
    have := (List.getElem?_eq_some_iff.mp hi).1
    omega
  have ll := len_sched hl
  have lt := lt_runs (sched rs) (gd_ini rs.length) hrun
  have a1 : ∀ x ∈ nD (sched rs), Nc 0 x ∧ x.weight ≤ 11 := fun x hx => by
    obtain ⟨p, hp, rfl⟩ := List.mem_map.mp hx
    exact nc_nat p (by have := lt p hp; omega)
  have w1 : PyData.weight (.list (nD (sched rs))) ≤ 12 * (nD (sched rs)).length := wt_all fun x hx => (a1 x hx).2
  rw [nD_len] at w1
  have r1 := repr_n ((nc_list fun x hx => (a1 x hx).1).mono (D' := 50) (by omega)) (by omega)
  have r0 := repr_n ((nc_oS o).1.mono (D' := 50) (by omega)) (by have := (nc_oS o).2; omega)
  have hn : opBlt .len [.list (oS rs)] = some (.val (.int (rs.length : Int))) := by
    rw [opBlt_len, oS_len, decide_eq_true (show rs.length ≤ sizeLine from Nat.le_trans hl (by decide))]
    rfl
  have f0 : p__law_right.fn 0 [s0] = .ok (.lst (nD (sched rs))) [s0] := by
    rw [p__law_right_f0]
    exact os_ok o hl hs
  have f1 : p__law_right.fn 1 [.val (.int (rs.length : Int)), .lst (nD (sched rs))] = .ok (.lst (oS rs)) [.val (.int (rs.length : Int)), .lst (nD (sched rs))] := by
    rw [p__law_right_f1, ← oS_rs hqr]
    exact ran_ok (.inr ⟨_, rfl, rfl⟩) (by omega) hrun
  have f2 : (rs.length : Int) < 41 → p__law_right.fn 2 [.val (.int (rs.length : Int)), .lst (nD (sched rs))] = .ok (.lst (oS rs)) [.val (.int (rs.length : Int)), .lst (nD (sched rs))] := fun h => by
    rw [p__law_right_f2, ← oS_rs hqr]
    exact run_ok (.inr ⟨_, rfl, rfl⟩) h0 (by omega) hrun
  have hm := rep1 rs.length (.int 0) (by omega)
  rw [← nD_rep] at hm
  obtain ⟨s3', e6⟩ := cnt_loop p__law_right s0 .dead (.val (.str (PyData.list (nD (sched rs))).shown)) (.val (.str (PyData.list (oS rs)).shown)) (.val (.int (rs.length : Int))) .dead (n := rs.length) (by omega) (sched rs) _ q .dead (gd_ini rs.length) hrun
  rw [hqn] at e6
  have q1 := ne_self (shaped_nD (rs.map nOf)) ⟨_, rfl, trivial⟩
  have q2 := ne_self (sh_oS o) ⟨_, rfl, trivial⟩
  have hP : opMut .append (nD (sched rs)) [.str "more"] = some (.none, nD (sched rs) ++ [.str "more"]) := by
    show (if decide ((nD (sched rs)).length < sizeLine) then _ else _) = _
    rw [nD_len, decide_eq_true (show (sched rs).length < sizeLine from Nat.lt_of_le_of_lt ll (by decide))]
    rfl
  rw [u__law_right]
  have x1 := r_one p__law_right s0 _ hs _ _ r0 hn
  have x2 := r_two p__law_right s0 _ hs (.val (.str (PyData.list (oS rs)).shown)) (.val (.int (rs.length : Int))) _ f0
  have x3 := r_thr p__law_right s0 (.val (.str (PyData.list (oS rs)).shown)) (.val (.int (rs.length : Int))) _ _ r1
  have x4 := r_four p__law_right s0 _ hs (.val (.str (PyData.list (nD (sched rs))).shown)) (.val (.int (rs.length : Int))) (nD (sched rs)) _ r0
  have x5 := r_five p__law_right s0 (.val (.str (PyData.list (nD (sched rs))).shown)) (.val (.str (PyData.list (oS rs)).shown)) (nD (sched rs)) _ _ _ (rs.length : Int) (by omega) (num_turns p__law_right _ _ _ _ _ _ (by omega)) (dict_ok (by omega)) hm
  have x6 := r_six p__law_right s0 (.val (.str (PyData.list (nD (sched rs))).shown)) (.val (.str (PyData.list (oS rs)).shown)) (.val (.int (rs.length : Int))) (.dct (numD rs.length)) s3' _ _ _ e6
  have x7 := r_seven p__law_right s0 (oS rs) hs (.lst (nD (sched rs))) (.val (.str (PyData.list (nD (sched rs))).shown)) s3' (.val (.str (PyData.list (oS rs)).shown)) (.val (.int (rs.length : Int))) (.dct (numD rs.length)) _ q1 (fun s => cnt_turns _ _ _ _ _ _ _ _ _ rs hl)
  have x8 := r_eight p__law_right s0 (oS rs) hs (.val (.str (PyData.list (nD (sched rs))).shown)) s3' (.val (.str (PyData.list (oS rs)).shown)) (.dct (numD rs.length)) (.lst (nD (rs.map nOf))) _ (rs.length : Int) q2 f1 f2
  have x9 := r_nine p__law_right s0 (.val (.str (PyData.list (nD (sched rs))).shown)) s3' (.val (.str (PyData.list (oS rs)).shown)) (.val (.int (rs.length : Int))) (.dct (numD rs.length)) (.lst (nD (rs.map nOf))) _ hP
  have x10 := r_ten p__law_right s0 _ hs (.lst (nD (sched rs) ++ [.str "more"])) s3' (.val (.str (PyData.list (oS rs)).shown)) (.val (.int (rs.length : Int))) (.dct (numD rs.length)) (.lst (nD (rs.map nOf))) _ _ f0 r1
  exact r_core _ _ _ (evSs_then x1 (evSs_then x2 (evSs_then x3 (evSs_then x4 (evSs_then x5 (evSs_then x6 (evSs_then x7 (evSs_then x8 (evSs_then x9 x10))))))))) a__law_right
theorem oc_rev {rs : List Str} (o : Oc rs) : Oc rs.reverse := by
  have g : ∀ {i : Nat} {z : Str}, rs[i]? = some z → i < rs.length ∧ rs.reverse[rs.length - 1 - i]? = some z := fun {i z} hi => by
    have hl := (List.getElem?_eq_some_iff.mp hi).1
    refine ⟨hl, ?_⟩
    rw [List.getElem?_reverse (by omega), show rs.length - 1 - (rs.length - 1 - i) = i by omega]
    exact hi
  have g' : ∀ {i : Nat} {z : Str}, rs.reverse[i]? = some z → i < rs.length ∧ rs[rs.length - 1 - i]? = some z := fun {i z} hi => by
    have hl := (List.getElem?_eq_some_iff.mp hi).1
    rw [List.length_reverse] at hl
    rw [List.getElem?_reverse hl] at hi
    exact ⟨hl, hi⟩
  obtain ⟨i, z, hi, hz⟩ := o.nr
  obtain ⟨j, y, hj, hy⟩ := o.nd
  refine ⟨fun z hz => o.all z (List.mem_reverse.mp hz), fun a b ha hb => ?_, ⟨_, z, (g hi).2, hz⟩, ⟨_, y, (g hj).2, hy⟩⟩
  obtain ⟨l1, h1⟩ := g' ha
  obtain ⟨l2, h2⟩ := g' hb
  have := o.one _ _ h1 h2
  omega
section
variable (Φ : Fns) (s0 : S) (kk : PyData) (K : List PyData) (tn : PyData) (y4 s5 : S)
theorem m_one (bk : Bool) (m v1 w : PyData) (v2 : Int) (K1 K2 : List PyData) (hk : opC .eq kk (.int 0) = some bk) (i0 : opIx (.list [.int 40, .int 300]) (.int (if bk then 1 else 0)) = some m)
    (e1 : Φ.fn 1 [.lst K, .val (.int 3)] = .ok (.val v1) [.lst K1, .val (.int 3)]) (i1 : opIx (.list [.int 4, .int 12, m]) v1 = some w) (e2 : Φ.fn 1 [.lst K1, .val w] = .ok (.val (.int v2)) [.lst K2, .val w]) :
    evS Φ (.asg 4 (.bin .add (.e (.cst (.int 1))) (.e (.call 1 [(.pl 2), (.e (.idx (.e (.lst [(.e (.cst (.int 4))), (.e (.cst (.int 12))), (.e (.idx (.e (.lst [(.e (.cst (.int 40))), (.e (.cst (.int 300)))])) (.e (.blt .int [(.e (.cmp .eq (.pl 1) (.e (.cst (.int 0)))))]))))])) (.e (.call 1 [(.pl 2), (.e (.cst (.int 3)))]))))])))) [s0, .val kk, .lst K, .val tn, y4, s5] = .ok .nx [s0, .val kk, .lst K2, .val tn, .val (.int (1 + v2)), s5] := by
  have b1 : opBlt .int [.bool bk] = some (.val (.int (if bk then 1 else 0))) := rfl
  simp [hk, b1, i0, e1, i1, e2, sizeLine, -opIx_list]
theorem m_two_no (s : Int) (ha : opB .add kk tn = some (.val (.int s))) (K1 : List PyData) (h : s ≠ 0 ∧ K1 = K ∨ s = 0 ∧ ∃ v : Int, v ≠ 5 ∧ Φ.fn 1 [.lst K, .val (.int 6)] = .ok (.val (.int v)) [.lst K1, .val (.int 6)]) :
    evS Φ (.ite (.bop true [(.cmp .eq (.e (.bin .add (.pl 1) (.pl 3))) (.e (.cst (.int 0)))), (.cmp .eq (.e (.call 1 [(.pl 2), (.e (.cst (.int 6)))])) (.e (.cst (.int 5))))]) [(.asg 4 (.idx (.e (.lst [(.e (.cst (.int 300))), (.e (.cst (.int 2000)))])) (.e (.call 1 [(.pl 2), (.e (.cst (.int 2)))]))))] []) [s0, .val kk, .lst K, .val tn, y4, s5] = .ok .nx [s0, .val kk, .lst K1, .val tn, y4, s5] := by
  rcases h with ⟨h1, rfl⟩ | ⟨rfl, v, hv, e⟩
  · simp [ha, h1]
  · simp [ha, e, hv]
theorem m_two_yes (ha : opB .add kk tn = some (.val (.int 0))) (K1 K2 : List PyData) (v w : PyData) (e : Φ.fn 1 [.lst K, .val (.int 6)] = .ok (.val (.int 5)) [.lst K1, .val (.int 6)]) (e2 : Φ.fn 1 [.lst K1, .val (.int 2)] = .ok (.val v) [.lst K2, .val (.int 2)]) (i : opIx (.list [.int 300, .int 2000]) v = some w) :
    evS Φ (.ite (.bop true [(.cmp .eq (.e (.bin .add (.pl 1) (.pl 3))) (.e (.cst (.int 0)))), (.cmp .eq (.e (.call 1 [(.pl 2), (.e (.cst (.int 6)))])) (.e (.cst (.int 5))))]) [(.asg 4 (.idx (.e (.lst [(.e (.cst (.int 300))), (.e (.cst (.int 2000)))])) (.e (.call 1 [(.pl 2), (.e (.cst (.int 2)))]))))] []) [s0, .val kk, .lst K, .val tn, y4, s5] = .ok .nx [s0, .val kk, .lst K2, .val tn, .val w, s5] := by
  simp [ha, e, e2, i, sizeLine, -opIx_list]
theorem m_thr (y : PyData) (P K1 : List PyData) (e : Φ.fn 2 [.lst K, .val y] = .ok (.lst P) [.lst K1, .val y]) :
    evS Φ (.asg 5 (.call 2 [(.pl 2), (.pl 4)])) [s0, .val kk, .lst K, .val tn, .val y, s5] = .ok .nx [s0, .val kk, .lst K1, .val tn, .val y, .lst P] := by
  simp [e]
theorem m_four (P : List PyData) (e : Φ.fn 3 [.lst P] = .ok (.val (.bool true)) [.lst P]) (e2 : Φ.fn 3 [.lst P.reverse] = .ok (.val (.bool true)) [.lst P.reverse]) :
    evS Φ (.ite (.bop false [(.not (.call 3 [(.pl 5)])), (.not (.call 3 [(.e (.rev (.pl 5)))]))]) [(.ret (.cst (.bool false)))] []) [s0, .val kk, .lst K, .val tn, y4, .lst P] = .ok .nx [s0, .val kk, .lst K, .val tn, y4, .lst P] := by
  simp [e, e2]
end
theorem mturn_ok (s0 y4 s5 t3 : S) (k i : Nat) (a b cc : Int) (ha : 0 ≤ a) (hb : 0 ≤ b) (hb2 : b < 2 ^ 150) (hc : 0 ≤ cc) (hc2 : cc < 2 ^ 37) :
    ∃ (a' cc' : Int) (u4 u5 : S), bodyF p_law (.nm 3) l_law_1 (.int i) [s0, .val (.int k), .lst [.int a, .int b, .int cc], t3, y4, s5] = .ok .nx [s0, .val (.int k), .lst [.int a', .int b, .int cc'], .val (.int i), u4, u5] ∧ 0 ≤ a' ∧ 0 ≤ cc' ∧ cc' ≤ cc + 3000 := by
  have f1 : ∀ K n, p_law.fn 1 [.lst K, .val n] = s__law_sip [.lst K, .val n] := fun K n => by rw [p_law_f1]
  obtain ⟨v1, a1, c1, e1, q1, q2, q3, q4, q5⟩ := sip_ok a b cc 3 ha hb hb2 hc (by omega) (by omega) (by omega)
  obtain ⟨m, im, hm0, hm1⟩ : ∃ m : Int, opIx (.list [.int 40, .int 300]) (.int (if decide ((k : Int) = 0) then 1 else 0)) = some (.int m) ∧ 0 < m ∧ m ≤ 300 := by
    by_cases h : (k : Int) = 0
    · exact ⟨300, by rw [decide_eq_true h]; rfl, by omega, by omega⟩
    · exact ⟨40, by rw [decide_eq_false h]; rfl, by omega, by omega⟩
  obtain ⟨w, hw, i1⟩ := atI_in (xs := [PyData.int 4, .int 12, .int m]) q1 (by simpa using q2)
  obtain ⟨w', rfl, hw0, hw1⟩ : ∃ w' : Int, w = .int w' ∧ 0 < w' ∧ w' ≤ 300 := by
    simp only [List.mem_cons, List.mem_nil_iff, or_false] at hw
    rcases hw with rfl | rfl | rfl
    · exact ⟨4, rfl, by omega, by omega⟩
    · exact ⟨12, rfl, by omega, by omega⟩
    · exact ⟨m, rfl, by omega, by omega⟩
  obtain ⟨v2, a2, c2, e2, r1, r2, r3, r4, r5⟩ := sip_ok a1 b c1 w' q3 hb hb2 q4 (by omega) (by omega) (by omega)
  have x1 := m_one p_law s0 (.int k) [.int a, .int b, .int cc] (.int i) y4 s5 _ _ _ _ _ _ _ opC_eqI im ((f1 _ _).trans e1) i1 ((f1 _ _).trans e2)
  obtain ⟨n1, hn1⟩ : ∃ n : Nat, 1 + v2 = (n : Int) := ⟨(1 + v2).toNat, by omega⟩
  rw [hn1] at x1
  obtain ⟨n, a3, c3, x2, hn0, hn2, s3, s4, s5'⟩ : ∃ (n : Nat) (a3 c3 : Int), evS p_law (.ite (.bop true [(.cmp .eq (.e (.bin .add (.pl 1) (.pl 3))) (.e (.cst (.int 0)))), (.cmp .eq (.e (.call 1 [(.pl 2), (.e (.cst (.int 6)))])) (.e (.cst (.int 5))))]) [(.asg 4 (.idx (.e (.lst [(.e (.cst (.int 300))), (.e (.cst (.int 2000)))])) (.e (.call 1 [(.pl 2), (.e (.cst (.int 2)))]))))] []) [s0, .val (.int k), .lst [.int a2, .int b, .int c2], .val (.int i), .val (.int n1), s5] = .ok .nx [s0, .val (.int k), .lst [.int a3, .int b, .int c3], .val (.int i), .val (.int n), s5] ∧ 1 ≤ n ∧ n ≤ 2000 ∧ 0 ≤ a3 ∧ 0 ≤ c3 ∧ c3 ≤ c2 + 2 := by
    by_cases h0 : (k : Int) + (i : Int) = 0
    · obtain ⟨v, a3, c3, e3, t1, t2, t3, t4, t5⟩ := sip_ok a2 b c2 6 r3 hb hb2 r4 (by omega) (by omega) (by omega)
      have hadd : opB .add (.int (k : Int)) (.int (i : Int)) = some (.val (.int 0)) := by rw [opB_add, h0]
      by_cases h5 : v = 5
      · subst h5
        obtain ⟨v', a4, c4, e4, z1, z2, z3, z4, z5⟩ := sip_ok a3 b c3 2 t3 hb hb2 t4 (by omega) (by omega) (by omega)
        obtain ⟨y, hy, iy⟩ := atI_in (xs := [PyData.int 300, .int 2000]) z1 (by simpa using z2)
        obtain ⟨n, rfl, g0, g1⟩ : ∃ n : Nat, y = .int (n : Int) ∧ 1 ≤ n ∧ n ≤ 2000 := by
          simp only [List.mem_cons, List.mem_nil_iff, or_false] at hy
          rcases hy with rfl | rfl
          · exact ⟨300, rfl, by omega, by omega⟩
          · exact ⟨2000, rfl, by omega, by omega⟩
        exact ⟨n, a4, c4, m_two_yes p_law s0 _ _ _ _ _ hadd _ _ _ _ ((f1 _ _).trans e3) ((f1 _ _).trans e4) iy, g0, g1, z3, z4, by omega⟩
      · exact ⟨n1, a3, c3, m_two_no p_law s0 _ _ _ _ _ _ hadd _ (.inr ⟨rfl, v, h5, (f1 _ _).trans e3⟩), by omega, by omega, t3, t4, by omega⟩
    · exact ⟨n1, a2, c2, m_two_no p_law s0 _ _ _ _ _ _ opB_add _ (.inl ⟨h0, rfl⟩), by omega, by omega, r3, r4, by omega⟩
  obtain ⟨rs, a4, c4, e4, o, hlen, w3, w4, w5⟩ := outcome_drawn n hn0 hn2 a3 b c3 s3 hb hb2 s4 (by omega)
  have x3 := m_thr p_law s0 (.int k) [.int a3, .int b, .int c3] (.int i) s5 _ _ _ ((congrFun p_law_f2 _).trans e4)
  have ok1 : p_law.fn 3 [.lst (oS rs)] = .ok (.val (.bool true)) [.lst (oS rs)] := by
    rw [p_law_f3]
    exact right_ok o (by omega) (.inr ⟨_, rfl, rfl⟩)
  have ok2 : p_law.fn 3 [.lst (oS rs).reverse] = .ok (.val (.bool true)) [.lst (oS rs).reverse] := by
    have e : (oS rs).reverse = oS rs.reverse := by
      unfold oS
      rw [List.map_reverse]
    rw [p_law_f3, e]
    exact right_ok (oc_rev o) (by rw [List.length_reverse]; omega) (.inr ⟨_, rfl, rfl⟩)
  have x4 := m_four p_law s0 (.int k) [.int a4, .int b, .int c4] (.int i) (.val (.int n)) _ ok1 ok2
  refine ⟨a4, c4, .val (.int n), .lst (oS rs), ?_, w3, w4, by omega⟩
  exact evSs_then x1 (evSs_then x2 (evSs_then x3 (evSs_then x4 evSs_nil)))
theorem k_core (Φ : Fns) (ds : List PyData) (t2 y2' u3 u4 u5 : S) (k : PyData) (K : List PyData) (t3 t4 t5 : S) (e : Φ.fn 0 [.val (.list ds), .val k] = .ok (.lst K) [.val (.list ds), .val k])
    (e2 : loop (bodyF Φ (.nm 3) l_law_1) (rng 0 10) [.val (.list ds), .val k, .lst K, t3, t4, t5] = .ok .nx [.val (.list ds), .val k, y2', u3, u4, u5]) :
    evSs Φ l_law_2 [.val (.list ds), .val k, t2, t3, t4, t5] = .ok .nx [.val (.list ds), .val k, y2', u3, u4, u5] := by
  simp [l_law_2, e, evS_for, e2]
theorem kround_ok (ds : List PyData) (hl : ds.length ≤ 63) (hi : ∀ d ∈ ds, ∃ i, d = .int i) (k : Nat) (hk : k < 1000) (t1 t2 t3 t4 t5 : S) :
    ∃ (t2' t3' t4' t5' : S), bodyF p_law (.nm 1) l_law_2 (.int k) [.val (.list ds), t1, t2, t3, t4, t5] = .ok .nx [.val (.list ds), .val (.int k), t2', t3', t4', t5'] := by
  obtain ⟨a, b, e, h1, h2, h3⟩ := cup_ok ds k hk hl hi
  obtain ⟨ρ', e2, a', c', u3, u4, u5, rfl, _⟩ := loop_rng (f := bodyF p_law (.nm 3) l_law_1) (fun i ρ => ∃ (a c : Int) (t3 t4 t5 : S), ρ = [.val (.list ds), .val (.int k), .lst [.int a, .int b, .int c], t3, t4, t5] ∧ 0 ≤ a ∧ 0 ≤ c ∧ c ≤ 3000 * i) 10
    (ρ := [.val (.list ds), .val (.int k), .lst [.int a, .int b, .int 0], t3, t4, t5]) ⟨a, 0, _, _, _, rfl, h1, by omega, by omega⟩ (by
    rintro i ρ hi' ⟨a, c, t3, t4, t5, rfl, g2, g3, g4⟩
    obtain ⟨a', c', u4, u5, e, q1, q2, q3⟩ := mturn_ok (.val (.list ds)) t4 t5 t3 k i a b c g2 h2 h3 g3 (by omega)
    exact ⟨_, .inl e, a', c', _, _, _, rfl, q1, q2, by omega⟩)
  have e0 := (congrFun p_law_f0 _).trans e
  exact ⟨_, _, _, _, k_core p_law ds t2 _ _ _ _ (.int k) _ t3 t4 t5 e0 e2⟩
theorem law_core (Φ : Fns) (ds : List PyData) (n : Nat) (t1 t2 t3 t4 t5 : S)
    (hn : (if (1 : Int) < (if (ds.length : Int) < 6 then (ds.length : Int) else 6) then (if (ds.length : Int) < 6 then (ds.length : Int) else 6) else 1) = (n : Int)) (hn3 : n < 1152921504606846976)
    (e2 : loop (bodyF Φ (.nm 1) l_law_2) (rng 0 (n : Int)) [.val (.list ds), .dead, .dead, .dead, .dead, .dead] = .ok .nx [.val (.list ds), t1, t2, t3, t4, t5]) (hz2 : ds.length ≤ 16777216)
    (r1 : Φ.fn 3 [.lst [.str "stop"]] = .ok (.val (.bool true)) [.lst [.str "stop"]])
    (r2 : Φ.fn 3 [.lst [.str "down", .str "right"]] = .ok (.val (.bool true)) [.lst [.str "down", .str "right"]]) :
    ∃ ρ, evDef Φ 1 5 [1, 2, 3, 4, 4, 5] b_law [.val (.list ds)] = .ok (.val (.bool true)) ρ := by
  refine ⟨[.val (.list ds)], ?_⟩
  simp [evDef, b_law, evS_for, hn, hn3, e2, hz2, r1, r2, sizeLine]
theorem oc_one : Oc ["stop"] := by
  refine ⟨fun z hz => .inl (List.mem_singleton.mp hz), fun i j hi hj => ?_, ⟨0, "stop", rfl, ne1⟩, ⟨0, "stop", rfl, ne2⟩⟩
  have h1 := (List.getElem?_eq_some_iff.mp hi).1
  have h2 := (List.getElem?_eq_some_iff.mp hj).1
  simp at h1 h2
  omega
theorem oc_dr : Oc ["down", "right"] := by
  have h : RD ["right", "right"] := fun z hz => by
    simp at hz
    exact .inl hz
  have := oc_two (i := 1) (j := 0) h (by decide) (by decide) (by decide)
  exact this
theorem law_true : ∀ zs : List Int, zs.length ≤ 63 → ∃ ρ, s_law [.val (.list (zs.map .int))] = .ok (.val (.bool true)) ρ := by
  intro zs hz
  have hl : (zs.map PyData.int).length ≤ 63 := by simpa using hz
  have hi : ∀ d ∈ zs.map PyData.int, ∃ i, d = .int i := fun d hd => by
    obtain ⟨i, _, rfl⟩ := List.mem_map.mp hd
    exact ⟨i, rfl⟩
  generalize zs.map PyData.int = ds at hl hi
  obtain ⟨n, hn, hn2, hn1⟩ : ∃ n : Nat, (if (1 : Int) < (if (ds.length : Int) < 6 then (ds.length : Int) else 6) then (if (ds.length : Int) < 6 then (ds.length : Int) else 6) else 1) = (n : Int) ∧ n ≤ 6 ∧ 1 ≤ n := by
    by_cases h : (ds.length : Int) < 6
    · rw [if_pos h]
      by_cases h2 : (1 : Int) < (ds.length : Int)
      · exact ⟨ds.length, by rw [if_pos h2], by omega, by omega⟩
      · exact ⟨1, by rw [if_neg h2]; rfl, by omega, by omega⟩
    · rw [if_neg h]
      exact ⟨6, rfl, by omega, by omega⟩
  obtain ⟨ρ', e2, t1, t2, t3, t4, t5, rfl⟩ := loop_rng (f := bodyF p_law (.nm 1) l_law_2) (fun i ρ => ∃ (t1 t2 t3 t4 t5 : S), ρ = [.val (.list ds), t1, t2, t3, t4, t5]) n (ρ := [.val (.list ds), .dead, .dead, .dead, .dead, .dead]) ⟨_, _, _, _, _, rfl⟩ (by
    rintro i ρ hi' ⟨t1, t2, t3, t4, t5, rfl⟩
    obtain ⟨t2', t3', t4', t5', e⟩ := kround_ok ds hl hi i (by omega) t1 t2 t3 t4 t5
    exact ⟨_, .inl e, _, _, _, _, _, rfl⟩)
  rw [u_law]
  have r1 : p_law.fn 3 [.lst [.str "stop"]] = .ok (.val (.bool true)) [.lst [.str "stop"]] := by
    rw [p_law_f3]
    exact right_ok (rs := ["stop"]) oc_one (by decide) (.inr ⟨_, rfl, rfl⟩)
  have r2 : p_law.fn 3 [.lst [.str "down", .str "right"]] = .ok (.val (.bool true)) [.lst [.str "down", .str "right"]] := by
    rw [p_law_f3]
    exact right_ok (rs := ["down", "right"]) oc_dr (by decide) (.inr ⟨_, rfl, rfl⟩)
  exact law_core p_law ds n t1 t2 t3 t4 t5 hn (by omega) e2 (by omega) r1 r2
end VEL

namespace VEL
open PySem L2 PySem.Spec PyProof.Rows VE
theorem all_mk {l : PySem.W.OpenLaw} {w : World} {K : PySem.W.Frag} {h : Heap} {mg : Str → Option Value} {fa : Addr} (X : K.In h) (G : h.Ns mainGlobals mg) (hfa : mg "law" = some (.ref fa))
    {f0 f1 f2 f3 f4 f5 f6 f7 f8 f9 f10 f11 : Addr} {od0 an0 od1 an1 od2 an2 od3 an3 od4 an4 od5 an5 od6 an6 od7 an7 od8 an8 od9 an9 od10 an10 od11 an11 : Option Addr} {sl0 sl1 sl2 sl3 sl4 sl5 sl6 sl7 sl8 sl9 sl10 sl11 : Array (Option Value)} {oc0 kV0 dc0 pm0 cd0 ct0 oc1 kV1 dc1 pm1 cd1 ct1 oc2 kV2 dc2 pm2 cd2 ct2 oc3 kV3 dc3 pm3 cd3 ct3 oc4 kV4 dc4 pm4 cd4 ct4 oc5 kV5 dc5 pm5 cd5 ct5 oc6 kV6 dc6 pm6 cd6 ct6 oc7 kV7 dc7 pm7 cd7 ct7 oc8 kV8 dc8 pm8 cd8 ct8 oc9 kV9 dc9 pm9 cd9 ct9 oc10 kV10 dc10 pm10 cd10 ct10 oc11 kV11 dc11 pm11 cd11 ct11 : Value}
    (a0 : PySem.W.nsIn K mainGlobals "_law_cup" = some (some (.ref f0))) (l0 : K.lookup f0 = some ⟨oc0, od0, .func (PySem.W.fnOf "_law_cup" "_law_cup" (defArgs (top 21)) (defBody (top 21)) (defScope (top 21)) .none kV0 dc0 pm0 an0 cd0 ct0), sl0⟩) (c0 : PySem.W.codeIn K cd0 "_law_cup" = true) (k0 : PySem.W.keepIn K (.ref f0) = true)
    (a1 : PySem.W.nsIn K mainGlobals "_law_sip" = some (some (.ref f1))) (l1 : K.lookup f1 = some ⟨oc1, od1, .func (PySem.W.fnOf "_law_sip" "_law_sip" (defArgs (top 22)) (defBody (top 22)) (defScope (top 22)) .none kV1 dc1 pm1 an1 cd1 ct1), sl1⟩) (c1 : PySem.W.codeIn K cd1 "_law_sip" = true) (k1 : PySem.W.keepIn K (.ref f1) = true)
    (a2 : PySem.W.nsIn K mainGlobals "_law_outcome" = some (some (.ref f2))) (l2 : K.lookup f2 = some ⟨oc2, od2, .func (PySem.W.fnOf "_law_outcome" "_law_outcome" (defArgs (top 24)) (defBody (top 24)) (defScope (top 24)) .none kV2 dc2 pm2 an2 cd2 ct2), sl2⟩) (c2 : PySem.W.codeIn K cd2 "_law_outcome" = true) (k2 : PySem.W.keepIn K (.ref f2) = true)
    (a3 : PySem.W.nsIn K mainGlobals "is_outcome" = some (some (.ref f3))) (l3 : K.lookup f3 = some ⟨oc3, od3, .func (PySem.W.fnOf "is_outcome" "is_outcome" (defArgs (top 16)) (defBody (top 16)) (defScope (top 16)) .none kV3 dc3 pm3 an3 cd3 ct3), sl3⟩) (c3 : PySem.W.codeIn K cd3 "is_outcome" = true) (k3 : PySem.W.keepIn K (.ref f3) = true)
    (a4 : PySem.W.nsIn K mainGlobals "processes_with" = some (some (.ref f4))) (l4 : K.lookup f4 = some ⟨oc4, od4, .func (PySem.W.fnOf "processes_with" "processes_with" (defArgs (top 17)) (defBody (top 17)) (defScope (top 17)) .none kV4 dc4 pm4 an4 cd4 ct4), sl4⟩) (c4 : PySem.W.codeIn K cd4 "processes_with" = true) (k4 : PySem.W.keepIn K (.ref f4) = true)
    (a5 : PySem.W.nsIn K mainGlobals "schedule_in" = some (some (.ref f5))) (l5 : K.lookup f5 = some ⟨oc5, od5, .func (PySem.W.fnOf "schedule_in" "schedule_in" (defArgs (top 18)) (defBody (top 18)) (defScope (top 18)) .none kV5 dc5 pm5 an5 cd5 ct5), sl5⟩) (c5 : PySem.W.codeIn K cd5 "schedule_in" = true) (k5 : PySem.W.keepIn K (.ref f5) = true)
    (a6 : PySem.W.nsIn K mainGlobals "outcome_schedule" = some (some (.ref f6))) (l6 : K.lookup f6 = some ⟨oc6, od6, .func (PySem.W.fnOf "outcome_schedule" "outcome_schedule" (defArgs (top 19)) (defBody (top 19)) (defScope (top 19)) .none kV6 dc6 pm6 an6 cd6 ct6), sl6⟩) (c6 : PySem.W.codeIn K cd6 "outcome_schedule" = true) (k6 : PySem.W.keepIn K (.ref f6) = true)
    (a7 : PySem.W.nsIn K mainGlobals "_law_ran" = some (some (.ref f7))) (l7 : K.lookup f7 = some ⟨oc7, od7, .func (PySem.W.fnOf "_law_ran" "_law_ran" (defArgs (top 23)) (defBody (top 23)) (defScope (top 23)) .none kV7 dc7 pm7 an7 cd7 ct7), sl7⟩) (c7 : PySem.W.codeIn K cd7 "_law_ran" = true) (k7 : PySem.W.keepIn K (.ref f7) = true)
    (a8 : PySem.W.nsIn K mainGlobals "is_integer" = some (some (.ref f8))) (l8 : K.lookup f8 = some ⟨oc8, od8, .func (PySem.W.fnOf "is_integer" "is_integer" (defArgs (top 6)) (defBody (top 6)) (defScope (top 6)) .none kV8 dc8 pm8 an8 cd8 ct8), sl8⟩) (c8 : PySem.W.codeIn K cd8 "is_integer" = true) (k8 : PySem.W.keepIn K (.ref f8) = true)
    (a9 : PySem.W.nsIn K mainGlobals "run_splitter" = some (some (.ref f9))) (l9 : K.lookup f9 = some ⟨oc9, od9, .func (PySem.W.fnOf "run_splitter" "run_splitter" (defArgs (top 15)) (defBody (top 15)) (defScope (top 15)) .none kV9 dc9 pm9 an9 cd9 ct9), sl9⟩) (c9 : PySem.W.codeIn K cd9 "run_splitter" = true) (k9 : PySem.W.keepIn K (.ref f9) = true)
    (a10 : PySem.W.nsIn K mainGlobals "_law_right" = some (some (.ref f10))) (l10 : K.lookup f10 = some ⟨oc10, od10, .func (PySem.W.fnOf "_law_right" "_law_right" (defArgs (top 25)) (defBody (top 25)) (defScope (top 25)) .none kV10 dc10 pm10 an10 cd10 ct10), sl10⟩) (c10 : PySem.W.codeIn K cd10 "_law_right" = true) (k10 : PySem.W.keepIn K (.ref f10) = true)
    (a11 : PySem.W.nsIn K mainGlobals "law" = some (some (.ref f11))) (l11 : K.lookup f11 = some ⟨oc11, od11, .func (PySem.W.fnOf "law" "law" (defArgs (top 26)) (defBody (top 26)) (defScope (top 26)) .none kV11 dc11 pm11 an11 cd11 ct11), sl11⟩) (c11 : PySem.W.codeIn K cd11 "law" = true) (k11 : PySem.W.keepIn K (.ref f11) = true)
    {hC hf1 hf2 hf3 hf4 : Addr} {hod1 han1 hod2 han2 hod3 han3 hod4 han4 : Option Addr} {hsl1 hsl2 hsl3 hsl4 : Array (Option Value)} {hoc1 hkV1 hdc1 hpm1 hcd1 hct1 hoc2 hkV2 hdc2 hpm2 hcd2 hct2 hoc3 hkV3 hdc3 hpm3 hcd3 hct3 hoc4 hkV4 hdc4 hpm4 hcd4 hct4 : Value}
    (haC : PySem.W.nsIn K mainGlobals "Splitter" = some (some (.ref hC)))
    (ha1 : PySem.W.findIn K (.ref hC) "__init__" = some (some (.ref hf1))) (hi1 : PySem.W.isFn K (.ref hf1) = true) (hl1 : K.lookup hf1 = some ⟨hoc1, hod1, .func (PySem.W.fnOf "__init__" "Splitter.__init__" (defArgs sSpI) (defBody sSpI) (defScope sSpI) .none hkV1 hdc1 hpm1 han1 hcd1 hct1), hsl1⟩) (hc1 : PySem.W.codeIn K hcd1 "Splitter.__init__" = true) (hk1 : PySem.W.keepIn K (.ref hf1) = true)
    (ha2 : PySem.W.findIn K (.ref hC) "can_step" = some (some (.ref hf2))) (hi2 : PySem.W.isFn K (.ref hf2) = true) (hl2 : K.lookup hf2 = some ⟨hoc2, hod2, .func (PySem.W.fnOf "can_step" "Splitter.can_step" (defArgs sSpC) (defBody sSpC) (defScope sSpC) .none hkV2 hdc2 hpm2 han2 hcd2 hct2), hsl2⟩) (hc2 : PySem.W.codeIn K hcd2 "Splitter.can_step" = true) (hk2 : PySem.W.keepIn K (.ref hf2) = true)
    (ha3 : PySem.W.findIn K (.ref hC) "perform" = some (some (.ref hf3))) (hi3 : PySem.W.isFn K (.ref hf3) = true) (hl3 : K.lookup hf3 = some ⟨hoc3, hod3, .func (PySem.W.fnOf "perform" "Splitter.perform" (defArgs sSpP) (defBody sSpP) (defScope sSpP) .none hkV3 hdc3 hpm3 han3 hcd3 hct3), hsl3⟩) (hc3 : PySem.W.codeIn K hcd3 "Splitter.perform" = true) (hk3 : PySem.W.keepIn K (.ref hf3) = true)
    (ha4 : PySem.W.nsIn K mainGlobals "splitter_after" = some (some (.ref hf4))) (hl4 : K.lookup hf4 = some ⟨hoc4, hod4, .func (PySem.W.fnOf "splitter_after" "splitter_after" (defArgs sSpA) (defBody sSpA) (defScope sSpA) .none hkV4 hdc4 hpm4 han4 hcd4 hct4), hsl4⟩) (hc4 : PySem.W.codeIn K hcd4 "splitter_after" = true) (hk4 : PySem.W.keepIn K (.ref hf4) = true)
    (hpg : PySem.W.plainGet K hC Str.empty = true) (hhd : PySem.W.hasDictIn K hC = true) (hpo : PySem.W.plainOver K hC = true) (hsa : PySem.W.findIn K (.ref hC) "__setattr__" = some (some (.builtin "object.__setattr__"))) (hmk : PySem.W.makesIn K hC = true) (hkc : PySem.W.keepIn K (.ref hC) = true)
    (hnO : PySem.W.findIn K (.ref hC) "owner" = some none) (hnF : PySem.W.findIn K (.ref hC) "flag" = some none) (hnP : PySem.W.findIn K (.ref hC) "performed" = some none) (hnR : PySem.W.findIn K (.ref hC) "results" = some none)
    (z_len : PySem.W.nsIn K mainGlobals "len" = some none)
    (z_repr : PySem.W.nsIn K mainGlobals "repr" = some none)
    (z_min : PySem.W.nsIn K mainGlobals "min" = some none)
    (z_max : PySem.W.nsIn K mainGlobals "max" = some none)
    (z_list : PySem.W.nsIn K mainGlobals "list" = some none)
    (z_isinstance : PySem.W.nsIn K mainGlobals "isinstance" = some none)
    (z_int : PySem.W.nsIn K mainGlobals "int" = some none)
    (z_tuple : PySem.W.nsIn K mainGlobals "tuple" = some none)
    (z_range : PySem.W.nsIn K mainGlobals "range" = some none)
    (z_enumerate : PySem.W.nsIn K mainGlobals "enumerate" = some none)
    (z_sum : PySem.W.nsIn K mainGlobals "sum" = some none)
    (z_all : PySem.W.nsIn K mainGlobals "all" = some none)
    (z_any : PySem.W.nsIn K mainGlobals "any" = some none)
    (z_str : PySem.W.nsIn K mainGlobals "str" = some none)
    (z_bool : PySem.W.nsIn K mainGlobals "bool" = some none)
    (z_sorted : PySem.W.nsIn K mainGlobals "sorted" = some none)
    (z_set : PySem.W.nsIn K mainGlobals "set" = some none)
    (z_dict : PySem.W.nsIn K mainGlobals "dict" = some none)
    (z_zip : PySem.W.nsIn K mainGlobals "zip" = some none)
    {ga_RESULTS : Addr} {gt_RESULTS_0 gt_RESULTS_1 gt_RESULTS_2 : Tok} {gm_RESULTS : Nat} {gd_RESULTS : Option Addr} {gs_RESULTS : Array (Option Value)} (g_RESULTS' : PySem.W.nsIn K mainGlobals "RESULTS" = some (some (.ref ga_RESULTS))) (gl_RESULTS : K.lookup ga_RESULTS = some ⟨.type "tuple", gd_RESULTS, .seq #[.str ("stop" : Str) gt_RESULTS_0, .str ("right" : Str) gt_RESULTS_1, .str ("down" : Str) gt_RESULTS_2] gm_RESULTS, gs_RESULTS⟩)
    {tok_STOP : Nat} (g_STOP' : PySem.W.nsIn K mainGlobals "STOP" = some (some (.str ("stop" : Str) tok_STOP)))
    {tok_RIGHT : Nat} (g_RIGHT' : PySem.W.nsIn K mainGlobals "RIGHT" = some (some (.str ("right" : Str) tok_RIGHT)))
    {tok_DOWN : Nat} (g_DOWN' : PySem.W.nsIn K mainGlobals "DOWN" = some (some (.str ("down" : Str) tok_DOWN)))
    {tok_MOST_COUNT : Nat} (g_MOST_COUNT' : PySem.W.nsIn K mainGlobals "MOST_COUNT" = some (some (.int 40 tok_MOST_COUNT)))
    : ∃ fd : FuncData, (∀ (s : Shared) (v : Value), BindsTo s fd ⟨[v], []⟩ [("script", v)]) ∧ ∀ base : Heap, K.In base → base.Ns mainGlobals mg → FnG l.prog w K mg base (L2.CX l.prog w) 6 fa fd ["script"] (spOf K noX 1 s_law) := by
  have e := hfa.symm.trans (PySem.W.mg_of X G a11)
  cases e
  have hb : ∀ x ∈ bltNames, mg (Str.ofString x) = none := by
    intro x hx
    simp only [bltNames, List.mem_cons, List.mem_nil_iff, or_false] at hx
    rcases hx with rfl | rfl | rfl | rfl | rfl | rfl | rfl | rfl | rfl | rfl | rfl | rfl | rfl | rfl | rfl | rfl | rfl | rfl | rfl
    · exact PySem.W.mg_none_of X G z_len
    · exact PySem.W.mg_none_of X G z_repr
    · exact PySem.W.mg_none_of X G z_min
    · exact PySem.W.mg_none_of X G z_max
    · exact PySem.W.mg_none_of X G z_list
    · exact PySem.W.mg_none_of X G z_isinstance
    · exact PySem.W.mg_none_of X G z_int
    · exact PySem.W.mg_none_of X G z_tuple
    · exact PySem.W.mg_none_of X G z_range
    · exact PySem.W.mg_none_of X G z_enumerate
    · exact PySem.W.mg_none_of X G z_sum
    · exact PySem.W.mg_none_of X G z_all
    · exact PySem.W.mg_none_of X G z_any
    · exact PySem.W.mg_none_of X G z_str
    · exact PySem.W.mg_none_of X G z_bool
    · exact PySem.W.mg_none_of X G z_sorted
    · exact PySem.W.mg_none_of X G z_set
    · exact PySem.W.mg_none_of X G z_dict
    · exact PySem.W.mg_none_of X G z_zip
  have F0 := fun_mk (st := top 21) l0 c0 k0
  have b0 := F0.binds (ps := ["script", "k"]) fun _ _ _ _ _ _ us hl => match us, hl with | [_, _], _ => rfl
  have F1 := fun_mk (st := top 22) l1 c1 k1
  have b1 := F1.binds (ps := ["cup", "many"]) fun _ _ _ _ _ _ us hl => match us, hl with | [_, _], _ => rfl
  have F2 := fun_mk (st := top 24) l2 c2 k2
  have b2 := F2.binds (ps := ["cup", "many"]) fun _ _ _ _ _ _ us hl => match us, hl with | [_, _], _ => rfl
  have F3 := fun_mk (st := top 16) l3 c3 k3
  have b3 := F3.binds (ps := ["value"]) fun _ _ _ _ _ _ us hl => match us, hl with | [_], _ => rfl
  have F4 := fun_mk (st := top 17) l4 c4 k4
  have b4 := F4.binds (ps := ["outcome", "result"]) fun _ _ _ _ _ _ us hl => match us, hl with | [_, _], _ => rfl
  have F5 := fun_mk (st := top 18) l5 c5 k5
  have b5 := F5.binds (ps := ["outcome"]) fun _ _ _ _ _ _ us hl => match us, hl with | [_], _ => rfl
  have F6 := fun_mk (st := top 19) l6 c6 k6
  have b6 := F6.binds (ps := ["outcome"]) fun _ _ _ _ _ _ us hl => match us, hl with | [_], _ => rfl
  have F7 := fun_mk (st := top 23) l7 c7 k7
  have b7 := F7.binds (ps := ["count", "schedule"]) fun _ _ _ _ _ _ us hl => match us, hl with | [_, _], _ => rfl
  have F8 := fun_mk (st := top 6) l8 c8 k8
  have b8 := F8.binds (ps := ["value", "least", "most"]) fun _ _ _ _ _ _ us hl => match us, hl with | [_, _, _], _ => rfl
  have F9 := fun_mk (st := top 15) l9 c9 k9
  have b9 := F9.binds (ps := ["count", "schedule"]) fun _ _ _ _ _ _ us hl => match us, hl with | [_, _], _ => rfl
  have F10 := fun_mk (st := top 25) l10 c10 k10
  have b10 := F10.binds (ps := ["outcome"]) fun _ _ _ _ _ _ us hl => match us, hl with | [_], _ => rfl
  have F11 := fun_mk (st := top 26) l11 c11 k11
  have b11 := F11.binds (ps := ["script"]) fun _ _ _ _ _ _ us hl => match us, hl with | [_], _ => rfl
  refine ⟨PySem.W.fnOf "law" "law" (defArgs (top 26)) (defBody (top 26)) (defScope (top 26)) .none kV11 dc11 pm11 an11 cd11 ct11, fun s v => .of_eq rfl, fun base _ _ => ?_⟩
  have G0 : Dok l.prog w K mg base noX "_law_cup" 2 1 s__law_cup := d__law_cup F0 (PySem.W.mg_of X G a0) b0 hb
  have G1 : Dok l.prog w K mg base noX "_law_sip" 2 1 s__law_sip := d__law_sip F1 (PySem.W.mg_of X G a1) b1 hb
  have G2 : Dok l.prog w K mg base noX "_law_outcome" 2 2 s__law_outcome := d__law_outcome F2 (PySem.W.mg_of X G a2) b2 hb G1
  have G3 : Dok l.prog w K mg base noX "is_outcome" 1 1 s_is_outcome := d_is_outcome F3 (PySem.W.mg_of X G a3) b3 hb (PySem.W.mg_of X G g_RESULTS') gl_RESULTS (PySem.W.mg_of X G g_STOP') (PySem.W.mg_of X G g_RIGHT') (PySem.W.mg_of X G g_DOWN')
  have G4 : Dok l.prog w K mg base noX "processes_with" 2 1 s_processes_with := d_processes_with F4 (PySem.W.mg_of X G a4) b4 hb
  have G5 : Dok l.prog w K mg base noX "schedule_in" 1 2 s_schedule_in := d_schedule_in F5 (PySem.W.mg_of X G a5) b5 hb G4 (PySem.W.mg_of X G g_STOP') (PySem.W.mg_of X G g_DOWN') (PySem.W.mg_of X G g_RIGHT')
  have G6 : Dok l.prog w K mg base noX "outcome_schedule" 1 3 s_outcome_schedule := d_outcome_schedule F6 (PySem.W.mg_of X G a6) b6 hb G3 G5
  have G7 : Dok l.prog w K mg base noX "_law_ran" 2 1 s__law_ran := d__law_ran F7 (PySem.W.mg_of X G a7) b7 hb
  have G8 : Dok l.prog w K mg base noX "is_integer" 3 1 s_is_integer := d_is_integer F8 (PySem.W.mg_of X G a8) b8 hb
  have hT : SpTxt K mg hC := ⟨⟨hpg, hhd, hpo, hsa⟩, hnO, hnF, hnP, hnR, PySem.W.mg_of X G haC, PySem.W.mg_none_of X G z_len, PySem.W.mg_none_of X G z_isinstance, PySem.W.mg_none_of X G z_list, ⟨_, PySem.W.mg_of X G g_STOP'⟩, ⟨_, PySem.W.mg_of X G g_RIGHT'⟩, ⟨_, PySem.W.mg_of X G g_DOWN'⟩, ⟨_, PySem.W.mg_of X G g_MOST_COUNT'⟩⟩
  have hF1 := fun_mk (st := sSpI) hl1 hc1 hk1
  have hF2 := fun_mk (st := sSpC) hl2 hc2 hk2
  have hF3 := fun_mk (st := sSpP) hl3 hc3 hk3
  have hF4 := fun_mk (st := sSpA) hl4 hc4 hk4
  have hb1 := hF1.binds (ps := ["self", "count"]) fun _ _ _ _ _ _ us hl => match us, hl with | [_, _], _ => rfl
  have hb2 := hF2.binds (ps := ["self", "process"]) fun _ _ _ _ _ _ us hl => match us, hl with | [_, _], _ => rfl
  have hb3 := hF3.binds (ps := ["self", "process"]) fun _ _ _ _ _ _ us hl => match us, hl with | [_, _], _ => rfl
  have hb4 := hF4.binds (ps := ["count", "schedule"]) fun _ _ _ _ _ _ us hl => match us, hl with | [_, _], _ => rfl
  have hGA := ok_SpA (P := l.prog) (w := w) (base := base) hF4 hT ⟨hmk, ha1, hi1, hkc⟩ hF1 hb1 hF2 hb2 ⟨ha2, hi2, hk2⟩ hF3 hb3 ⟨ha3, hi3, hk3⟩ G8 is_integer_ok
  have G9 : Dok l.prog w K mg base noX "run_splitter" 2 4 s_run_splitter := ⟨f9, _, _, ok_SpR (P := l.prog) (w := w) (base := base) F9 hT hGA (PySem.W.mg_of X G ha4) hk4 hb4, PySem.W.mg_of X G a9, k9, b9⟩
  have G10 : Dok l.prog w K mg base noX "_law_right" 1 5 s__law_right := d__law_right F10 (PySem.W.mg_of X G a10) b10 hb G6 G7 G9
  exact d_law F11 hb G0 G1 G2 G10

end VEL
open PySem PySem.W PyProof.Rows in
set_option maxRecDepth 100000 in
set_option maxHeartbeats 0 in
theorem PySem.Challenge.cw_splitnames_k03_schedules_with_an_outcome_holds : PySem.Challenge.rw_splitnames_k03_schedules_with_an_outcome.Holds := by
  w_on; o_law; k_head; (case hw => w_witness2)
  k_fill
  refine VE.walkG (l := PySem.Challenge.rw_splitnames_k03_schedules_with_an_outcome) (n := 63) (k := 6) (x := "script") (sem := VEL.s_law) rfl (by decide) rfl ⟨rfl, by decide, by decide⟩ (fun w h Y => PySem.W.kIn_of Y) VEL.law_true ?F
  case F =>
    intro w mg fa h KX G hmg
    refine' VEL.all_mk KX G hmg ?a0 ?l0 ?c0 ?k0 ?a1 ?l1 ?c1 ?k1 ?a2 ?l2 ?c2 ?k2 ?a3 ?l3 ?c3 ?k3 ?a4 ?l4 ?c4 ?k4 ?a5 ?l5 ?c5 ?k5 ?a6 ?l6 ?c6 ?k6 ?a7 ?l7 ?c7 ?k7 ?a8 ?l8 ?c8 ?k8 ?a9 ?l9 ?c9 ?k9 ?a10 ?l10 ?c10 ?k10 ?a11 ?l11 ?c11 ?k11 ?haC ?ha1 ?hi1 ?hl1 ?hc1 ?hk1 ?ha2 ?hi2 ?hl2 ?hc2 ?hk2 ?ha3 ?hi3 ?hl3 ?hc3 ?hk3 ?ha4 ?hl4 ?hc4 ?hk4 ?hpg ?hhd ?hpo ?hsa ?hmk ?hkc ?hnO ?hnF ?hnP ?hnR ?z_len ?z_repr ?z_min ?z_max ?z_list ?z_isinstance ?z_int ?z_tuple ?z_range ?z_enumerate ?z_sum ?z_all ?z_any ?z_str ?z_bool ?z_sorted ?z_set ?z_dict ?z_zip ?g_RESULTS' ?gl_RESULTS ?g_STOP' ?g_RIGHT' ?g_DOWN' ?g_MOST_COUNT'
    (case a0 => k_is)
    (case l0 => k_is)
    (case c0 => k_is)
    (case k0 => k_is)
    (case a1 => k_is)
    (case l1 => k_is)
    (case c1 => k_is)
    (case k1 => k_is)
    (case a2 => k_is)
    (case l2 => k_is)
    (case c2 => k_is)
    (case k2 => k_is)
    (case a3 => k_is)
    (case l3 => k_is)
    (case c3 => k_is)
    (case k3 => k_is)
    (case a4 => k_is)
    (case l4 => k_is)
    (case c4 => k_is)
    (case k4 => k_is)
    (case a5 => k_is)
    (case l5 => k_is)
    (case c5 => k_is)
    (case k5 => k_is)
    (case a6 => k_is)
    (case l6 => k_is)
    (case c6 => k_is)
    (case k6 => k_is)
    (case a7 => k_is)
    (case l7 => k_is)
    (case c7 => k_is)
    (case k7 => k_is)
    (case a8 => k_is)
    (case l8 => k_is)
    (case c8 => k_is)
    (case k8 => k_is)
    (case a9 => k_is)
    (case l9 => k_is)
    (case c9 => k_is)
    (case k9 => k_is)
    (case a10 => k_is)
    (case l10 => k_is)
    (case c10 => k_is)
    (case k10 => k_is)
    (case a11 => k_is)
    (case l11 => k_is)
    (case c11 => k_is)
    (case k11 => k_is)
    (case haC => k_is)
    (case ha1 => k_is)
    (case hi1 => k_is)
    (case hl1 => k_is)
    (case hc1 => k_is)
    (case hk1 => k_is)
    (case ha2 => k_is)
    (case hi2 => k_is)
    (case hl2 => k_is)
    (case hc2 => k_is)
    (case hk2 => k_is)
    (case ha3 => k_is)
    (case hi3 => k_is)
    (case hl3 => k_is)
    (case hc3 => k_is)
    (case hk3 => k_is)
    (case ha4 => k_is)
    (case hl4 => k_is)
    (case hc4 => k_is)
    (case hk4 => k_is)
    (case hpg => k_is)
    (case hhd => k_is)
    (case hpo => k_is)
    (case hsa => k_is)
    (case hmk => k_is)
    (case hkc => k_is)
    (case hnO => k_is)
    (case hnF => k_is)
    (case hnP => k_is)
    (case hnR => k_is)
    (case z_len => k_is)
    (case z_repr => k_is)
    (case z_min => k_is)
    (case z_max => k_is)
    (case z_list => k_is)
    (case z_isinstance => k_is)
    (case z_int => k_is)
    (case z_tuple => k_is)
    (case z_range => k_is)
    (case z_enumerate => k_is)
    (case z_sum => k_is)
    (case z_all => k_is)
    (case z_any => k_is)
    (case z_str => k_is)
    (case z_bool => k_is)
    (case z_sorted => k_is)
    (case z_set => k_is)
    (case z_dict => k_is)
    (case z_zip => k_is)
    (case g_RESULTS' => k_is)
    (case gl_RESULTS => k_is)
    (case g_STOP' => k_is)
    (case g_RIGHT' => k_is)
    (case g_DOWN' => k_is)
    (case g_MOST_COUNT' => k_is)
#print axioms PySem.Challenge.cw_splitnames_k03_schedules_with_an_outcome_holds
