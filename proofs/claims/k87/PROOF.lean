import PyProof.Rows.All
import PySem.Challenge.RW_keptinstep_k87_shortest_rings
import HandS.ForMost
import HandS.Exc
import HandS.ExcOwn
import HandS.CallSlots
import HandS.TupAny
import HandS.SortInts
import HandS.Flow
import HandS.WordsDict
import HandS.SetKeys
import HandS.IsInst
import HandS.Deep
import HandS.More
import HandS.Conv
import KE.KSortedM
import HandS.Walk
import HandS.Zip
import HandS.WordsExc
import HandS.Small
set_option Elab.async false
set_option linter.all false
set_option maxRecDepth 100000
/-! PL.Core: a small language of values (tuples, lists, dicts, instances by value, with an owner's flag), its run as a total function. -/
namespace PL
open PySem L2

/-- what a node is -/
inductive Kd where
  | tup | cl | lst
  | dk (ks : List Key)
  | ins (c : Nat) (ns : List Str)
  deriving DecidableEq
/-- a value; o: this place alone holds the object -/
inductive D where
  | non | bl (b : Bool) | int (i : Int) | str (x : Str)
  | nd (k : Kd) (o : Bool) (xs : List D)
abbrev D.tup (xs : List D) : D := .nd .tup false xs
abbrev D.lst (o : Bool) (xs : List D) : D := .nd .lst o xs
abbrev D.dk (o : Bool) (ks : List Key) (xs : List D) : D := .nd (.dk ks) o xs
abbrev D.ins (o : Bool) (c : Nat) (ns : List Str) (xs : List D) : D := .nd (.ins c ns) o xs

mutual
/-- no owned node -/
def D.fz : D → Bool
  | .nd _ o xs => !o && fzL xs
  | _ => true
def fzL : List D → Bool
  | [] => true
  | x :: xs => x.fz && fzL xs
end
mutual
/-- no shared node that may change -/
def D.nf : D → Bool
  | .nd .tup _ xs => nfL xs
  | .nd .cl _ xs => nfL xs
  | .nd _ o xs => o && nfL xs
  | _ => true
def nfL : List D → Bool
  | [] => true
  | x :: xs => x.nf && nfL xs
end
mutual
def D.frz : D → D
  | .nd k _ xs => .nd k false (frzL xs)
  | d => d
def frzL : List D → List D
  | [] => []
  | x :: xs => x.frz :: frzL xs
end
abbrev Env := List (Option D)
def Env.at (e : Env) (i : Nat) : Option D := (e[i]?).getD none

/-- what comes of an expression -/
inductive Out (α : Type) where
  | val (a : α) (e : Env)
  | exc (x : D) (e : Env)
abbrev R (α : Type) := Option (Out α)
def bnd {α β : Type} (r : R α) (f : α → Env → R β) : R β :=
  match r with
  | none => none
  | some (.exc x e) => some (.exc x e)
  | some (.val a e) => f a e
@[simp] theorem bnd_none {α β : Type} (f : α → Env → R β) : bnd none f = none := rfl
@[simp] theorem bnd_exc {α β : Type} (x e) (f : α → Env → R β) : bnd (some (.exc x e)) f = some (.exc x e) := rfl
@[simp] theorem bnd_val {α β : Type} (a e) (f : α → Env → R β) : bnd (some (.val a e)) f = f a e := rfl

theorem bnd_assoc {α β γ : Type} (r : R α) (f : α → Env → R β) (g : β → Env → R γ) : bnd (bnd r f) g = bnd r fun x e => bnd (f x e) g := by
  cases r with
  | none => rfl
  | some r => cases r <;> rfl

inductive UOp | neg | not deriving DecidableEq
inductive BOp | add | sub | mul | fdiv | mod | pow | xor deriving DecidableEq
inductive COp | eq | ne | lt | le | gt | ge | isin | notin | isN | notN deriving DecidableEq
/-- built-in functions of one argument -/
inductive Bi | len | int | abs | list | tuple | sorted | sum | all | any | min | max | str | bool deriving DecidableEq
/-- built-in methods that change nothing -/
inductive Bm | get | get2 | count | index deriving DecidableEq
/-- built-in methods that change their object -/
inductive Mu | append | pop | popAt | reverse | extend | clear deriving DecidableEq
/-- what isinstance asks -/
inductive Ty | int | bool | str | tuple | list | dict | none | cls (c : Nat) deriving DecidableEq

/-- targets -/
inductive T where
  | v (i : Nat)
  | t (ts : List T)

mutual
inductive E where
  | nop
  | var (i : Nat)
  | mv (i : Nat)
  | non | bl (b : Bool) | int (i : Int) | str (x : Str)
  | view (is : List Nat) (e : E)
  | tup (es : Es) | lst (es : Es)
  | dnew
  | ddisp (k v : E)
  | un (op : UOp) (a : E)
  | bin (op : BOp) (a b : E)
  | cmp (op : COp) (a b : E)
  | chain (op op' : COp) (a b c : E)
  | and (a b : E) | or (a b : E)
  | ife (t : C) (a b : E)
  | sub (a i : E)
  | slc (a lo hi : E)
  | fld (a : E) (f : Str)
  | call (f : Nat) (es : Es)
  | meth (m : Str) (a : E) (es : Es)
  | methR (m : Str) (i : Nat) (es : Es)
  | mk (c : Nat) (es : Es)
  | bi (b : Bi) (e : E)
  | bi2 (mx : Bool) (a b : E)
  | bm (b : Bm) (a : E) (es : Es)
  | mu (b : Mu) (root : Nat) (p : Ps) (es : Ms)
  | isi (a : E) (ts : List Ty)
  | lc (elt : E) (tg : T) (it : I) (cond : C) (own : List Nat)
/-- tests -/
inductive C where
  | tt | e (a : E) | and (a b : C) | or (a b : C) | not (a : C) | view (is : List Nat) (a : C)
inductive Es where
  | n | c (e : E) (es : Es) | io (i : Nat) (es : Es)
/-- beside a changed name: hidden from it, or a view of it too -/
inductive M where
  | h (e : E) | v (is : List Nat) (e : E)
inductive Ms where
  | n | c (m : M) (ms : Ms)
/-- a path from a name -/
inductive Ps where
  | n | fld (p : Ps) (f : Str) | ix (p : Ps) (m : M)
inductive I where
  | seqL (e : E) | seqT (e : E) | rng (a : E) | rng2 (a b : E) | rng3 (a b : E) (c : Int)
  | enm (e : E) | zip (a b : E)
end

inductive S where
  | asg (t : T) (e : E)
  | par (i j : Nat) (a b : E)
  | sub (root : Nat) (p : Ps) (i : M) (e : E)
  | fld (root : Nat) (p : Ps) (f : Str) (e : E)
  | sdf (root : Nat) (p : Ps) (k : M) (e : M)
  | sda (root : Nat) (p : Ps) (k : M) (e : E)
  | aug (i : Nat) (op : BOp) (e : E)
  | ex (e : E)
  | ret (e : E)
  | retN
  | ite (t : C) (a b : List S)
  | for (t : T) (it : I) (body : List S)
  | whl (t : C) (body : List S)
  | brk | cnt | pas
  | rse (c : Nat) (es : Es)
  | bad

/-! ### operations on values -/
def truth : D → Option Bool
  | .non => some false
  | .bl b => some b
  | .int i => some (i != 0)
  | .str x => if x.length ≤ sizeLine then some (x.length != 0) else none
  | .nd .tup _ xs => some (!xs.isEmpty)
  | .nd .lst _ xs => some (!xs.isEmpty)
  | .nd .cl _ xs => some (!xs.isEmpty)
  | .nd (.dk ks) _ _ => some (!ks.isEmpty)
  | _ => none
def D.key : D → Option Key
  | .int i => some (.inl i)
  | .str x => some (.inr x)
  | _ => none
def keyD : Key → D
  | .inl i => .int i
  | .inr x => .str x
def hasK (ks : List Key) (k : Key) : Bool := ks.any fun k' => decide (k' = k)
def lookD : List Key → List D → Key → Option D
  | k' :: ks, x :: xs, k => if k' = k then some x else lookD ks xs k
  | _, _, _ => none
def putD : List Key → List D → Key → D → List Key × List D
  | k' :: ks, x :: xs, k, v => if k' = k then (k' :: ks, v :: xs) else ((k' :: (putD ks xs k v).1), (x :: (putD ks xs k v).2))
  | _, _, k, v => ([k], [v])
mutual
def D.py : D → Option PyData
  | .non => some .none
  | .bl b => some (.bool b)
  | .int i => some (.int i)
  | .str x => some (.str x)
  | .nd .tup _ xs => (pyL xs).map .tuple
  | .nd .lst _ xs => (pyL xs).map .list
  | .nd .cl _ xs => (pyL xs).map .list
  | _ => none
def pyL : List D → Option (List PyData)
  | [] => some []
  | x :: xs => match x.py, pyL xs with
    | some a, some b => some (a :: b)
    | _, _ => none
end
def eqD (a b : D) : Option Bool :=
  match a.py, b.py with
  | some x, some y => if SeqAt.shaped x = true ∧ SeqAt.shaped y = true then some (PyData.eqv x y) else none
  | _, _ => none
def unD : UOp → D → Option D
  | .neg, .int i => some (.int (-i))
  | .not, .bl b => some (.bl (!b))
  | _, _ => none
def mulOk (i j : Int) : Bool := (decide (-(2 ^ 64) < i) && decide (i < 2 ^ 64)) || (decide (-(2 ^ 64) < j) && decide (j < 2 ^ 64))
def binD : BOp → D → D → Option D
  | .add, .int i, .int j => some (.int (i + j))
  | .sub, .int i, .int j => some (.int (i - j))
  | .mul, .int i, .int j => if mulOk i j then some (.int (i * j)) else none
  | .fdiv, .int i, .int j => if 0 < j ∧ j < 1073741824 then some (.int (i / j)) else none
  | .mod, .int i, .int j => if 0 < j then some (.int (i % j)) else none
  | .pow, .int i, .int j => if 0 ≤ j ∧ j ≤ 1000000 ∧ i.natAbs < 2 ^ 64 then some (.int (i ^ j.toNat)) else none
  | .add, .str x, .str y => if x.length + y.length ≤ sizeLine then some (.str (x ++ y)) else none
  | .add, .nd .lst _ xs, .nd .lst _ ys => if xs.length + ys.length ≤ sizeLine then some (.nd .lst true (xs ++ ys)) else none
  | .add, .nd .tup _ xs, .nd .tup _ ys => if xs.length + ys.length ≤ sizeLine then some (.nd .tup false (xs ++ ys)) else none
  | .mul, .nd .lst _ xs, .int k => if fzL xs = true ∧ -(2 ^ 63) ≤ k ∧ k < 2 ^ 63 ∧ xs.length * k.toNat ≤ sizeLine then some (.nd .lst true (List.replicate k.toNat xs).flatten) else none
  | _, _, _ => none
def intsD : List D → Option (List Int)
  | [] => some []
  | .int i :: xs => (intsD xs).map (i :: ·)
  | _ => none
/-- x in a list, in a tuple of ints -/
def inPy : Option PyData → Option (List PyData) → Option Bool
  | some x, some ys => if SeqAt.shaped x = true ∧ SeqAt.shaped (.list ys) = true then some (ys.any fun z => PyData.eqv z x) else none
  | _, _ => none
def inD : D → D → Option Bool
  | a, .nd .lst _ xs => inPy a.py (pyL xs)
  | a, .nd .cl _ xs => inPy a.py (pyL xs)
  | .int i, .nd .tup _ xs => (intsD xs).map fun l => l.any fun z => decide (z = i)
  | a, .nd (.dk ks) _ _ => a.key.map fun k => hasK ks k
  | _, _ => none
def D.isN : D → Bool
  | .non => true
  | _ => false
def cmpD : COp → D → D → Option Bool
  | .lt, .int i, .int j => some (decide (i < j))
  | .le, .int i, .int j => some (decide (i ≤ j))
  | .gt, .int i, .int j => some (decide (j < i))
  | .ge, .int i, .int j => some (decide (j ≤ i))
  | .eq, a, b => eqD a b
  | .ne, a, b => (eqD a b).map (!·)
  | .isN, a, .non => some a.isN
  | .notN, a, .non => some (!a.isN)
  | .isin, a, b => inD a b
  | .notin, a, b => (inD a b).map (!·)
  | _, _, _ => none
def subD : D → D → Option D
  | .nd .tup _ xs, .int i => atI xs i
  | .nd .lst _ xs, .int i => atI xs i
  | .nd .cl _ xs, .int i => atI xs i
  | .nd (.dk ks) _ xs, d => d.key.bind (lookD ks xs)
  | _, _ => none
def partE : E → D → Option (Option Int)
  | .nop, _ => some none
  | _, .int i => some (some i)
  | _, _ => none
def cutD (xs : List D) (lo hi : Option Int) : List D := (xs.drop (HT.sIx xs.length 0 lo)).take (HT.sIx xs.length xs.length hi - HT.sIx xs.length 0 lo)
def cutOf : D → Option Int → Option Int → Option D
  | .nd .lst _ xs, l, h => some (.nd .lst true (cutD xs l h))
  | .nd .cl _ xs, l, h => some (.nd .lst true (cutD xs l h))
  | .nd .tup _ xs, l, h => some (.nd .tup false (cutD xs l h))
  | _, _, _ => none
def lookS : List Str → List D → Str → Option D
  | n :: ns, x :: xs, f => if n = f then some x else lookS ns xs f
  | _, _, _ => none
def fldD (at' : Nat → Str → Bool) : D → Str → Option D
  | .nd (.ins c ns) _ xs, f => if at' c f = true then lookS ns xs f else none
  | _, _ => none
def blsD : List D → Option (List Bool)
  | [] => some []
  | .bl i :: xs => (blsD xs).map (i :: ·)
  | _ => none
def seqD : D → Option (List D)
  | .nd .tup _ xs => some xs
  | .nd .lst _ xs => some xs
  | .nd .cl _ xs => some xs
  | _ => none
def isLst : D → Bool
  | .nd .lst _ _ => true
  | .nd .cl _ _ => true
  | _ => false
def leastI : List Int → Int
  | [] => 0
  | [x] => x
  | x :: xs => if leastI xs < x then leastI xs else x
def mostI : List Int → Int
  | [] => 0
  | [x] => x
  | x :: xs => if x < mostI xs then mostI xs else x
def sortI (l : List Int) : List Int := l.mergeSort (fun a b => decide (a ≤ b))
def biD : Bi → D → Option D
  | .len, .nd .tup _ xs => some (.int xs.length)
  | .len, .nd .lst _ xs => some (.int xs.length)
  | .len, .nd .cl _ xs => some (.int xs.length)
  | .len, .nd (.dk ks) _ _ => some (.int ks.length)
  | .len, .str x => if x.length ≤ sizeLine then some (.int x.length) else none
  | .int, .int i => some (.int i)
  | .int, .bl b => some (.int (if b then 1 else 0))
  | .abs, .int i => some (.int (if i < 0 then -i else i))
  | .list, .nd .tup _ xs => some (.nd .lst true xs)
  | .list, .nd .lst _ xs => some (.nd .lst true xs)
  | .list, .nd .cl _ xs => some (.nd .lst true xs)
  | .tuple, .nd .lst _ xs => some (.nd .tup false xs)
  | .tuple, .nd .cl _ xs => some (.nd .tup false xs)
  | .tuple, .nd .tup _ xs => some (.nd .tup false xs)
  | .sorted, .nd .lst _ xs => (intsD xs).bind fun l => if l.length ≤ sizeLine then some (.nd .lst true ((sortI l).map .int)) else none
  | .sorted, .nd (.dk ks) _ _ => (intsD (ks.map keyD)).bind fun l => if l.length < 64 then some (.nd .lst true ((sortI l).map .int)) else none
  | .list, .nd (.dk ks) _ _ => some (.nd .lst true (ks.map keyD))
  | .sum, .nd .lst _ xs => (intsD xs).map fun l => .int l.sum
  | .min, .nd .lst _ xs => (intsD xs).bind fun l => if l.isEmpty then none else some (.int (leastI l))
  | .max, .nd .lst _ xs => (intsD xs).bind fun l => if l.isEmpty then none else some (.int (mostI l))
  | .all, .nd .lst _ xs => (blsD xs).map fun l => .bl (l.all id)
  | .any, .nd .lst _ xs => (blsD xs).map fun l => .bl (l.any id)
  | _, _ => none
def bi2D (mx : Bool) : D → D → Option D
  | .int i, .int j => some (.int (if mx then (if j > i then j else i) else (if j < i then j else i)))
  | _, _ => none
/-- the built-in class of a value -/
def tyD : D → Option Ty
  | .non => some .none
  | .bl _ => some .bool
  | .int _ => some .int
  | .str _ => some .str
  | .nd .tup _ _ => some .tuple
  | .nd .lst _ _ => some .list
  | .nd .cl _ _ => some .list
  | .nd (.dk _) _ _ => some .dict
  | _ => none
def isT : Ty → Ty → Option Bool
  | _, .cls _ => none
  | .bool, .int => some true
  | a, b => some (decide (a = b))
def isTs (t : Ty) : List Ty → Option Bool
  | [] => some false
  | u :: us => match isT t u, isTs t us with
    | some a, some b => some (a || b)
    | _, _ => none
def isD (d : D) (ts : List Ty) : Option Bool := (tyD d).bind fun t => isTs t ts
def okB : Bm → D → Bool
  | .get, .nd (.dk _) _ _ => true
  | .get2, .nd (.dk _) _ _ => true
  | .count, .nd .lst _ _ => true
  | .count, .nd .tup _ _ => true
  | .index, .nd .lst _ _ => true
  | _, _ => false
def bmD : Bm → D → List D → Option D
  | .get, .nd (.dk ks) _ xs, [k] => k.key.map fun k => (lookD ks xs k).getD .non
  | .get2, .nd (.dk ks) _ xs, [k, d] => k.key.map fun k => (lookD ks xs k).getD d
  | _, _, _ => none
/-- what a changing method answers, and the object behind it -/
def muD : Mu → D → List D → Option (D × D)
  | .append, .nd .lst true xs, [y] => if xs.length < sizeLine then some (.non, .nd .lst true (xs ++ [y])) else none
  | .pop, .nd .lst true xs, [] => (xs[xs.length - 1]?).map fun y => (y, .nd .lst true xs.dropLast)
  | .reverse, .nd .lst true xs, [] => some (.non, .nd .lst true xs.reverse)
  | .clear, .nd .lst true _, [] => some (.non, .nd .lst true [])
  | .extend, .nd .lst true xs, [.nd .lst _ ys] => if xs.length + ys.length ≤ sizeLine then some (.non, .nd .lst true (xs ++ ys)) else none
  | _, _, _ => none
/-- a[i] = v -/
def setD : D → D → D → Option D
  | .nd .lst true xs, .int i, v => (ixN xs.length i).map fun j => .nd .lst true (xs.set j v)
  | .nd (.dk ks) true xs, k, v => k.key.bind fun k => if ks.length < sizeLine then some (.nd (.dk (putD ks xs k v).1) true (putD ks xs k v).2) else none
  | _, _, _ => none
def putN : List Str → List D → Str → D → List Str × List D
  | n :: ns, x :: xs, f, v => if n = f then (n :: ns, v :: xs) else (n :: (putN ns xs f v).1, x :: (putN ns xs f v).2)
  | _, _, f, v => ([f], [v])
/-- a.f = v -/
def fsetD (at' : Nat → Str → Bool) : D → Str → D → Option D
  | .nd (.ins c ns) true xs, f, v => if ns.length < 1000 ∧ at' c f = true then some (.nd (.ins c (putN ns xs f v).1) true (putN ns xs f v).2) else none
  | _, _, _ => none
/-- a.setdefault(k, v) -/
def sdfD : D → D → D → Option D
  | .nd (.dk ks) true xs, k, v => k.key.bind fun k => if ks.length < sizeLine then some (match lookD ks xs k with
    | some _ => .nd (.dk ks) true xs
    | none => .nd (.dk (putD ks xs k v).1) true (putD ks xs k v).2) else none
  | _, _, _ => none

def sdaOk (ks : List Key) (xs : List D) (k : D) : Bool :=
  match k.key with
  | none => false
  | some k => decide (ks.length < sizeLine) && (match lookD ks xs k with
    | none => true
    | some (.nd .lst true _) => true
    | _ => false)
/-- a.setdefault(k, []).append(v) -/
def sdaD : D → D → D → Option D
  | .nd (.dk ks) true xs, k, v => k.key.bind fun k => match lookD ks xs k with
    | some (.nd .lst true ys) => if ys.length < sizeLine then some (.nd (.dk ks) true (putD ks xs k (.nd .lst true (ys ++ [v]))).2) else none
    | some _ => none
    | none => if ks.length < sizeLine then some (.nd (.dk (ks ++ [k])) true (xs ++ [.nd .lst true [v]])) else none
  | _, _, _ => none

/-! ### paths -/
inductive Acc where
  | fld (f : Str) | ix (d : D)
def keyIx : List Key → Key → Option Nat
  | k' :: ks, k => if k' = k then some 0 else (keyIx ks k).map (· + 1)
  | [], _ => none
def strIx : List Str → Str → Option Nat
  | k' :: ks, k => if k' = k then some 0 else (strIx ks k).map (· + 1)
  | [], _ => none
/-- which child -/
def stepD (at' : Nat → Str → Bool) : D → Acc → Option Nat
  | .nd (.ins c ns) _ _, .fld f => if at' c f = true then strIx ns f else none
  | .nd .lst _ xs, .ix (.int i) => ixN xs.length i
  | .nd .tup _ xs, .ix (.int i) => ixN xs.length i
  | .nd (.dk ks) _ _, .ix d => d.key.bind (keyIx ks)
  | _, _ => none
def D.kids : D → List D
  | .nd _ _ xs => xs
  | _ => []
def D.withKid : D → Nat → D → D
  | .nd k o xs, j, d => .nd k o (xs.set j d)
  | d, _, _ => d
def walkD (at' : Nat → Str → Bool) : List Acc → D → Option D
  | [], d => some d
  | a :: as, d => (stepD at' d a).bind fun j => (d.kids[j]?).bind (walkD at' as)
/-- change what stands at the path's end -/
def modD {α : Type} (at' : Nat → Str → Bool) (f : D → Option (α × D)) : List Acc → D → Option (α × D)
  | [], d => f d
  | a :: as, d => (stepD at' d a).bind fun j => (d.kids[j]?).bind fun x => (modD at' f as x).map fun (r, x') => (r, d.withKid j x')

/-! ### the program -/
/-- a def's run: its answer, and what its changed parameters are behind it -/
inductive CR where
  | val (d : D) (fs : List D)
  | exc (x : D) (fs : List D)
abbrev Orc := Nat → List D → Option CR
structure Fn where
  np : Nat
  nl : Nat
  io : List Nat
  body : List S
structure Tab where
  fns : List Fn
  meth : Nat → Str → Option Nat
  init : Nat → Option Nat
  excN : Nat → List Str
  attr : Nat → Str → Bool
inductive Arg where
  | d (x : D) | r (i : Nat)

/-- the arguments are taken: what is passed by its name is away while the def runs -/
def takeArgs : List Arg → Env → Option (List D × Env)
  | [], e => some ([], e)
  | .d x :: as, e => (takeArgs as e).map fun (ds, e') => (x.frz :: ds, e')
  | .r i :: as, e => match e.at i with
    | none => none
    | some x => (takeArgs as (e.set i none)).map fun (ds, e') => (x :: ds, e')
def putBack : List Arg → List D → Env → Option Env
  | [], [], e => some e
  | .d _ :: as, fs, e => putBack as fs e
  | .r i :: as, f :: fs, e => putBack as fs (e.set i (some f))
  | _, _, _ => none
/-- which parameters are passed by name -/
def ioOf : List Arg → Nat → List Nat
  | [], _ => []
  | .d _ :: as, k => ioOf as (k + 1)
  | .r _ :: as, k => k :: ioOf as (k + 1)
def runCall (tb : Tab) (o : Orc) (f : Nat) (as : List Arg) (e : Env) : R D :=
  match takeArgs as e with
  | none => none
  | some (ds, e1) => if (tb.fns[f]?).map (·.io) = some (ioOf as 0) then
      match o f ds with
      | none => none
      | some (.val d fs) => (putBack as fs e1).map (.val d)
      | some (.exc x fs) => (putBack as fs e1).map (.exc x)
    else none
def viewEnv (is : List Nat) : Nat → Env → Env
  | _, [] => []
  | k, x :: xs => (if is.contains k then x.map D.frz else none) :: viewEnv is (k + 1) xs
def wipeE : Env → List Nat → Env
  | e, [] => e
  | e, v :: vs => (wipeE e vs).set v none

mutual
def storeT (pr : List Nat) : T → D → Env → Option Env
  | .v i, d, e => if pr.contains i then none else some (e.set i (some d))
  | .t ts, d, e => match d with
    | .nd .tup _ xs => storeTs pr ts xs e
    | _ => none
def storeTs (pr : List Nat) : List T → List D → Env → Option Env
  | [], [], e => some e
  | t :: ts, d :: ds, e => (storeT pr t d e).bind (storeTs pr ts ds)
  | _, _, _ => none
end
/-- from an answer of a view: nothing of it is kept -/
def viewOut (r : R D) (e : Env) : R D :=
  match r with
  | some (.val d _) => if d.nf then some (.val d e) else none
  | _ => none
def opt {α : Type} (x : Option α) (e : Env) : R α := x.map (.val · e)
def outB (r : R D) : R Bool := bnd r fun d e => match d with | .bl b => some (.val b e) | _ => none
/-- a loop of a comprehension -/
def loopC (tg : D → Env → Option Env) (cond : Env → R Bool) (elt : Env → R D) (own : List Nat) : List D → Env → Option (List D × Env)
  | [], e => some ([], e)
  | x :: xs, e => match tg x e with
    | none => none
    | some e1 => match cond e1 with
      | some (.val true e2) => match elt e2 with
        | some (.val d e3) => (loopC tg cond elt own xs (wipeE e3 own)).map fun (ds, e4) => (d :: ds, e4)
        | _ => none
      | some (.val false e2) => loopC tg cond elt own xs (wipeE e2 own)
      | _ => none
def rangeD (lo hi : Int) : List D := (List.range (hi - lo).toNat).map fun (k : Nat) => .int (lo + (k : Int))
def okR (lo hi : Int) : Bool := decide (-(2 ^ 62) ≤ lo) && decide (lo < 2 ^ 62) && decide (-(2 ^ 62) ≤ hi) && decide (hi < 2 ^ 62)

section
variable (tb : Tab) (o : Orc)
mutual
def evE : E → Env → R D
  | .nop, e => some (.val .non e)
  | .var i, e => match e.at i with
    | none => none
    | some d => if d.fz then some (.val d e) else some (.val d.frz (e.set i (some d.frz)))
  | .mv i, e => match e.at i with
    | none => none
    | some d => some (.val d (e.set i none))
  | .non, e => some (.val .non e)
  | .bl b, e => some (.val (.bl b) e)
  | .int i, e => some (.val (.int i) e)
  | .str x, e => some (.val (.str x) e)
  | .view is a, e => viewOut (evE a (viewEnv is 0 e)) e
  | .tup es, e => bnd (evEs es e) fun ds e => if ds.length ≤ sizeLine then some (.val (.nd .tup false ds) e) else none
  | .lst es, e => bnd (evEs es e) fun ds e => if ds.length ≤ sizeLine then some (.val (.nd .lst true ds) e) else none
  | .dnew, e => some (.val (.nd (.dk []) true []) e)
  | .ddisp a b, e => bnd (evE a e) fun x e => bnd (evE b e) fun y e => match x.key with
    | none => none
    | some kk => some (.val (.nd (.dk [kk]) true [y]) e)
  | .un op a, e => bnd (evE a e) fun d e => opt (unD op d) e
  | .bin op a b, e => bnd (evE a e) fun x e => bnd (evE b e) fun y e => opt (binD op x y) e
  | .cmp op a b, e => bnd (evE a e) fun x e => bnd (evE b e) fun y e => opt ((cmpD op x y).map .bl) e
  | .chain op op' a b c, e => bnd (evE a e) fun x e => bnd (evE b e) fun y e => match cmpD op x y with
    | none => none
    | some false => some (.val (.bl false) e)
    | some true => bnd (evE c e) fun z e => opt ((cmpD op' y z).map .bl) e
  | .and a b, e => bnd (evE a e) fun x e => match x with
    | .bl true => evE b e
    | .bl false => some (.val (.bl false) e)
    | _ => none
  | .or a b, e => bnd (evE a e) fun x e => match x with
    | .bl false => evE b e
    | .bl true => some (.val (.bl true) e)
    | _ => none
  | .ife t a b, e => bnd (evT t e) fun c e => if c then evE a e else evE b e
  | .sub a i, e => bnd (evE a e) fun x e => bnd (evE i e) fun y e => opt (subD x y) e
  | .slc a lo hi, e => bnd (evE a e) fun x e => bnd (evE lo e) fun l e => match partE lo l with
    | none => none
    | some l' => bnd (evE hi e) fun h e => opt ((partE hi h).bind (cutOf x l')) e
  | .fld a f, e => bnd (evE a e) fun x e => opt (fldD tb.attr x f) e
  | .call f es, e => bnd (evAs es e) fun as e => runCall tb o f as e
  | .meth m a es, e => bnd (evE a e) fun x e => match x with
    | .nd (.ins c ns) _ _ => match tb.meth c m with
      | none => none
      | some f => if ns.contains m then none else bnd (evAs es e) fun as e => runCall tb o f (.d x :: as) e
    | _ => none
  | .methR m i es, e => match e.at i with
    | some (.nd (.ins c ns) _ _) => match tb.meth c m with
      | none => none
      | some f => if ns.contains m then none else bnd (evAs es e) fun as e => runCall tb o f (.r i :: as) e
    | _ => none
  | .mk c es, e => bnd (evEs es e) fun ds e => match tb.init c with
    | none => none
    | some f => if (tb.fns[f]?).map (·.io) = some [0] then
        match o f (.nd (.ins c []) true [] :: ds.map D.frz) with
        | some (.val .non [x]) => some (.val x e)
        | some (.exc x [_]) => some (.exc x e)
        | _ => none
      else none
  | .bi b a, e => bnd (evE a e) fun x e => opt (biD b x) e
  | .bi2 mx a b, e => bnd (evE a e) fun x e => bnd (evE b e) fun y e => opt (bi2D mx x y) e
  | .bm b a es, e => bnd (evE a e) fun x e => if okB b x then bnd (evEs es e) fun ds e => opt (bmD b x ds) e else none
  | .mu b root p es, e => match e.at root with
    | none => none
    | some d => bnd (evPs p d root (e.set root none)) fun acs e => match walkD tb.attr acs d with
      | some (.nd .lst true _) => bnd (evMs es d root e) fun ds e =>
        match modD tb.attr (fun x => muD b x ds) acs d with
        | none => none
        | some (r, d') => some (.val r (e.set root (some d')))
      | _ => none
  | .isi a ts, e => bnd (evE a e) fun x e => opt ((isD x ts).map .bl) e
  | .lc elt tg it cond own, e => bnd (evI it e) fun xs e =>
      match loopC (fun x e => storeT [] tg x e) (fun e => evT cond e) (fun e => evE elt e) own xs (wipeE e own) with
      | none => none
      | some (ds, e) => if ds.length ≤ sizeLine then some (.val (.nd .lst true ds) e) else none
/-- as a test -/
def evT : C → Env → R Bool
  | .tt, e => some (.val true e)
  | .and a b, e => bnd (evT a e) fun c e => if c then evT b e else some (.val false e)
  | .or a b, e => bnd (evT a e) fun c e => if c then some (.val true e) else evT b e
  | .not a, e => bnd (evT a e) fun c e => some (.val (!c) e)
  | .view is a, e => match evT a (viewEnv is 0 e) with
    | some (.val c _) => some (.val c e)
    | _ => none
  | .e a, e => bnd (evE a e) fun x e => opt (truth x) e
def evEs : Es → Env → R (List D)
  | .n, e => some (.val [] e)
  | .c a es, e => bnd (evE a e) fun x e => bnd (evEs es e) fun xs e => some (.val (x :: xs) e)
  | .io _ _, _ => none
def evAs : Es → Env → R (List Arg)
  | .n, e => some (.val [] e)
  | .c a es, e => bnd (evE a e) fun x e => bnd (evAs es e) fun xs e => some (.val (.d x :: xs) e)
  | .io i es, e => match e.at i with
    | none => none
    | some _ => bnd (evAs es e) fun xs e => some (.val (.r i :: xs) e)
/-- an argument beside a changed name: a view sees the name, all else does not -/
def evM : M → D → Nat → Env → R D
  | .v is a, d, root, e => viewOut (evE a (viewEnv is 0 (e.set root (some d)))) e
  | .h a, _, _, e => evE a e
def evMs : Ms → D → Nat → Env → R (List D)
  | .n, _, _, e => some (.val [] e)
  | .c a es, d, root, e => bnd (evM a d root e) fun x e => bnd (evMs es d root e) fun xs e => some (.val (x :: xs) e)
def evPs : Ps → D → Nat → Env → R (List Acc)
  | .n, _, _, e => some (.val [] e)
  | .fld p f, d, root, e => bnd (evPs p d root e) fun as e => if (walkD tb.attr (as ++ [.fld f]) d).isSome then some (.val (as ++ [.fld f]) e) else none
  | .ix p a, d, root, e => bnd (evPs p d root e) fun as e => bnd (evM a d root e) fun x e => if (walkD tb.attr (as ++ [.ix x]) d).isSome then some (.val (as ++ [.ix x]) e) else none
def evI : I → Env → R (List D)
  | .seqL a, e => bnd (evE a e) fun x e => match seqD x.frz with
    | some xs => if isLst x then some (.val xs e) else none
    | none => none
  | .seqT a, e => bnd (evE a e) fun x e => match seqD x.frz with
    | some xs => if isLst x then none else some (.val xs e)
    | none => none
  | .rng a, e => bnd (evE a e) fun x e => match x with
    | .int j => if okR 0 j then some (.val (rangeD 0 j) e) else none
    | _ => none
  | .rng2 a b, e => bnd (evE a e) fun x e => bnd (evE b e) fun y e => match x, y with
    | .int i, .int j => if okR i j then some (.val (rangeD i j) e) else none
    | _, _ => none
  | .rng3 _ _ _, _ => none
  | .enm a, e => bnd (evE a e) fun x e => match seqD x.frz with
    | some xs => some (.val (xs.mapIdx fun i d => .nd .tup false [.int i, d]) e)
    | none => none
  | .zip a b, e => bnd (evE a e) fun x e => bnd (evE b e) fun y e => match seqD x.frz, seqD y.frz with
    | some xs, some ys => some (.val ((xs.zip ys).map fun p => .nd .tup false [p.1, p.2]) e)
    | _, _ => none
end
end

/-! ### statements -/
inductive Fl where
  | nx | rt (d : D) | bk | ct
abbrev SR := R Fl
def nxt (x : Option Env) : SR := x.map fun e => .val .nx e
def loopF (tg : D → Env → Option Env) (body : Env → SR) : List D → Env → SR
  | [], e => some (.val .nx e)
  | x :: xs, e => match tg x e with
    | none => none
    | some e1 => bnd (body e1) fun f e2 => match f with
      | .nx => loopF tg body xs e2
      | .ct => loopF tg body xs e2
      | .bk => some (.val .nx e2)
      | .rt d => some (.val (.rt d) e2)
def loopW (test : Env → R Bool) (body : Env → SR) : Nat → Env → SR
  | 0, _ => none
  | n + 1, e => bnd (test e) fun c e => if c then bnd (body e) fun f e2 => match f with
      | .nx => loopW test body n e2
      | .ct => loopW test body n e2
      | .bk => some (.val .nx e2)
      | .rt d => some (.val (.rt d) e2)
    else some (.val .nx e)
def whileMost : Nat := 1000000000000
section
variable (tb : Tab) (o : Orc)
mutual
def exS (pr : List Nat) : S → Env → SR
  | .asg t a, e => bnd (evE tb o a e) fun x e => nxt (storeT pr t x e)
  | .par i j a b, e => bnd (evE tb o a e) fun x e => bnd (evE tb o b e) fun y e => nxt ((storeT pr (.v i) x e).bind (storeT pr (.v j) y))
  | .sub root p i a, e => bnd (evE tb o a e) fun v e => match e.at root with
    | none => none
    | some d => bnd (evPs tb o p d root (e.set root none)) fun acs e => bnd (evM tb o i d root e) fun k e =>
      match modD tb.attr (fun x => (setD x k v).map fun y => ((), y)) acs d with
      | none => none
      | some (_, d') => some (.val .nx (e.set root (some d')))
  | .fld root p f a, e => bnd (evE tb o a e) fun v e => match e.at root with
    | none => none
    | some d => bnd (evPs tb o p d root (e.set root none)) fun acs e =>
      match modD tb.attr (fun x => (fsetD tb.attr x f v).map fun y => ((), y)) acs d with
      | none => none
      | some (_, d') => some (.val .nx (e.set root (some d')))
  | .sdf root p k a, e => match e.at root with
    | none => none
    | some d => bnd (evPs tb o p d root (e.set root none)) fun acs e => match walkD tb.attr acs d with
      | some (.nd (.dk _) true _) => bnd (evM tb o k d root e) fun k e => bnd (evM tb o a d root e) fun v e =>
        match modD tb.attr (fun x => (sdfD x k v).map fun y => ((), y)) acs d with
        | none => none
        | some (_, d') => some (.val .nx (e.set root (some d')))
      | _ => none
  | .sda root p k a, e => match e.at root with
    | none => none
    | some d => bnd (evPs tb o p d root (e.set root none)) fun acs e => match walkD tb.attr acs d with
      | some (.nd (.dk ks) true xs) => bnd (evM tb o k d root e) fun k e => if sdaOk ks xs k then bnd (evE tb o a e) fun v e =>
        match modD tb.attr (fun x => (sdaD x k v).map fun y => ((), y)) acs d with
        | none => none
        | some (_, d') => some (.val .nx (e.set root (some d')))
        else none
      | _ => none
  | .aug i op a, e => match e.at i with
    | some (.int x) => bnd (evE tb o a e) fun y e => match binD op (.int x) y with
      | some z => nxt (storeT pr (.v i) z e)
      | none => none
    | _ => none
  | .ex a, e => bnd (evE tb o a e) fun _ e => some (.val .nx e)
  | .ret a, e => bnd (evE tb o a e) fun x e => some (.val (.rt x) e)
  | .retN, e => some (.val (.rt .non) e)
  | .ite t a b, e => bnd (evT tb o t e) fun c e => if c then exSs pr a e else exSs pr b e
  | .for t it body, e => bnd (evI tb o it e) fun xs e => loopF (fun x e => storeT pr t x e) (fun e => exSs pr body e) xs e
  | .whl t body, e => loopW (fun e => evT tb o t e) (fun e => exSs pr body e) whileMost e
  | .brk, e => some (.val .bk e)
  | .cnt, e => some (.val .ct e)
  | .pas, e => some (.val .nx e)
  | .rse _ _, _ => none
  | .bad, _ => none
def exSs (pr : List Nat) : List S → Env → SR
  | [], e => some (.val .nx e)
  | s :: ss, e => bnd (exS pr s e) fun f e1 => match f with
    | .nx => exSs pr ss e1
    | f => some (.val f e1)
end
end
def finals : List Nat → Env → Option (List D)
  | [], _ => some []
  | i :: is, e => match e.at i, finals is e with
    | some d, some ds => some (d :: ds)
    | _, _ => none
def runFn (tb : Tab) (o : Orc) (f : Nat) (ds : List D) : Option CR :=
  match tb.fns[f]? with
  | none => none
  | some fn => if ds.length = fn.np then
      match exSs tb o fn.io fn.body (ds.map some ++ List.replicate (fn.nl - fn.np) none) with
      | some (.val .nx e) => (finals fn.io e).map (.val .non)
      | some (.val (.rt d) e) => (finals fn.io e).map (.val d)
      | some (.exc x e) => (finals fn.io e).map (.exc x)
      | _ => none
    else none
/-- the run of the def f, at most k calls deep -/
def callF (tb : Tab) : Nat → Orc
  | 0 => fun _ _ => none
  | k + 1 => runFn tb (callF tb k)
end PL

/-! PL.Rep: what a value of the small language is in the heap, and which objects it owns. -/
namespace PL
open PySem L2

abbrev AS := Addr → Prop
/-- where the classes stand -/
structure Lo where
  K : PySem.W.Frag
  cls : Nat → Addr
  cname : Nat → Str
  fname : Nat → Str
  fadr : Nat → Addr
  ffd : Nat → FuncData
  fps : Nat → List Str
  ftop : Nat → Bool
  ctop : Nat → Bool

def KForm (K : PySem.W.Frag) (ty : String) (a : Addr) (vs : List V) : Prop :=
  ∃ (o : Obj) (its : Array Value) (n : Nat), K.lookup a = some o ∧ o.cls = .type ty ∧ o.dict = none ∧ o.data = .seq its n ∧ its.size ≤ sizeLine ∧ Vals vs its.toList
/-- a list that nobody may change: the script, a constant of the module -/
def FzL (L : Lo) (H : Hp) (a : Addr) (vs : List V) : Prop := (∃ o, H a = some (.frz o (.lst vs))) ∨ KForm L.K "list" a vs
theorem FzL.sq {L : Lo} {H : Hp} {a : Addr} {vs : List V} (h : FzL L H a vs) : SqL L.K H a vs := by
  rcases h with h | h
  · exact .inl (.inr h)
  · exact .inr h
def shapeOk (L : Lo) (Z : AS) (H : Hp) (a : Addr) (o : Bool) : Kd → List V → Prop
  | .tup, vs => o = false ∧ SqT L.K H a vs
  | .cl, vs => o = false ∧ FzL L H a vs
  | .lst, vs => H a = some (.lst vs) ∧ (o = false → Z a)
  | .dk ks, vs => ks.Nodup ∧ ks.length = vs.length ∧ H a = some (.dK (ks.zip vs)) ∧ (o = false → Z a)
  | .ins c ns, vs => ns.length = vs.length ∧ (∃ dx, H a = some (.ins (L.cls c) dx (ns.zip vs))) ∧ (o = false → Z a)
mutual
def Rep (L : Lo) (Z : AS) (H : Hp) : V → D → AS → Prop
  | v, .non, _ => v = .non
  | v, .bl b, _ => v = .bl b
  | v, .int i, _ => v = .int i
  | v, .str x, _ => v = .str x
  | v, .nd k o xs, S => ∃ a vs, v = .ref a ∧ shapeOk L Z H a o k vs ∧ (o = true → S a) ∧ Reps L Z H vs xs (fun b => S b ∧ (o = true → b ≠ a))
def Reps (L : Lo) (Z : AS) (H : Hp) : List V → List D → AS → Prop
  | vs, [], _ => vs = []
  | vs, x :: xs, S => ∃ v ws S1 S2, vs = v :: ws ∧ (∀ b, S1 b → S b) ∧ (∀ b, S2 b → S b) ∧ (∀ b, S1 b → ¬ S2 b) ∧ Rep L Z H v x S1 ∧ Reps L Z H ws xs S2
end
/-- what is changed: only what is within U -/
def Fr (U : AS) (H H' : Hp) : Prop := ∀ b o, H b = some o → ¬ U b → H' b = some o
def Own (S : AS) (H : Hp) : Prop := ∀ b, S b → Mut (H b)
def NoAS : AS := fun _ => False
def OrS' (A B : AS) : AS := fun b => A b ∨ B b

section
variable {L : Lo} {Z Z' : AS} {H H' : Hp}
mutual
theorem rep_mono : ∀ {d : D} {v : V} {S S' : AS}, (∀ b, S b → S' b) → Rep L Z H v d S → Rep L Z H v d S'
  | .non, _, _, _, _, h => h
  | .bl _, _, _, _, _, h => h
  | .int _, _, _, _, _, h => h
  | .str _, _, _, _, _, h => h
  | .nd k o xs, v, S, S', hs, h => by
    simp only [Rep] at h ⊢
    obtain ⟨a, vs, e, sh, ho, r⟩ := h
    exact ⟨a, vs, e, sh, fun z => hs _ (ho z), reps_mono (fun b hb => ⟨hs b hb.1, hb.2⟩) r⟩
theorem reps_mono : ∀ {ds : List D} {vs : List V} {S S' : AS}, (∀ b, S b → S' b) → Reps L Z H vs ds S → Reps L Z H vs ds S'
  | [], _, _, _, _, h => h
  | x :: xs, vs, S, S', hs, h => by
    simp only [Reps] at h ⊢
    obtain ⟨v, ws, S1, S2, e, h1, h2, dj, r1, r2⟩ := h
    exact ⟨v, ws, S1, S2, e, fun b hb => hs b (h1 b hb), fun b hb => hs b (h2 b hb), dj, r1, r2⟩
end
/-- what U may hold -/
def OwnW (U : AS) (H : Hp) : Prop := ∀ b o, H b = some o → U b → Mut (some o)
theorem Own.w {U : AS} {H : Hp} (h : Own U H) : OwnW U H := fun b o e u => by
  have := h b u
  rw [e] at this
  exact this
theorem SqT.fr {K : PySem.W.Frag} {U : AS} {a : Addr} {vs : List V} (f : Fr U H H') (o : OwnW U H) (h : SqT K H a vs) : SqT K H' a vs := by
  have nm : ∀ u, H a = some u → ¬ Mut (some u) → H' a = some u := fun u e n => f a u e fun z => n (o a u e z)
  rcases h with (h | ⟨ob, h⟩) | h
  · exact .inl (.inl (nm _ h fun z => z))
  · exact .inl (.inr ⟨ob, nm _ h fun z => z⟩)
  · exact .inr h
theorem FzL.fr {U : AS} {a : Addr} {vs : List V} (f : Fr U H H') (o : OwnW U H) (h : FzL L H a vs) : FzL L H' a vs := by
  rcases h with ⟨ob, h⟩ | h
  · exact .inl ⟨ob, f a _ h fun z => o a _ h z⟩
  · exact .inr h
mutual
theorem rep_frW {U : AS} (f : Fr U H H') (o : OwnW U H) (hz : ∀ b, Z b → ¬ U b) (zz : ∀ b, Z b → Z' b) : ∀ {d : D} {v : V} {S : AS}, (∀ b, S b → ¬ U b) → Rep L Z H v d S → Rep L Z' H' v d S
  | .non, _, _, _, h => h
  | .bl _, _, _, _, h => h
  | .int _, _, _, _, h => h
  | .str _, _, _, _, h => h
  | .nd k ow xs, v, S, hs, h => by
    simp only [Rep] at h ⊢
    obtain ⟨a, vs, e, sh, ho, r⟩ := h
    refine ⟨a, vs, e, ?_, ho, reps_frW f o hz zz (fun b hb => hs b hb.1) r⟩
    cases k with
    | tup => exact ⟨sh.1, SqT.fr f o sh.2⟩
    | cl => exact ⟨sh.1, FzL.fr f o sh.2⟩
    | lst =>
      obtain ⟨h2, h3⟩ := sh
      refine ⟨f a _ h2 ?_, fun z => zz a (h3 z)⟩
      cases ow with
      | true => exact hs a (ho rfl)
      | false => exact hz a (h3 rfl)
    | dk ks =>
      obtain ⟨h0, h1, h2, h3⟩ := sh
      refine ⟨h0, h1, f a _ h2 ?_, fun z => zz a (h3 z)⟩
      cases ow with
      | true => exact hs a (ho rfl)
      | false => exact hz a (h3 rfl)
    | ins c ns =>
      obtain ⟨h1, ⟨dx, h2⟩, h3⟩ := sh
      refine ⟨h1, ⟨dx, f a _ h2 ?_⟩, fun z => zz a (h3 z)⟩
      cases ow with
      | true => exact hs a (ho rfl)
      | false => exact hz a (h3 rfl)
theorem reps_frW {U : AS} (f : Fr U H H') (o : OwnW U H) (hz : ∀ b, Z b → ¬ U b) (zz : ∀ b, Z b → Z' b) : ∀ {ds : List D} {vs : List V} {S : AS}, (∀ b, S b → ¬ U b) → Reps L Z H vs ds S → Reps L Z' H' vs ds S
  | [], _, _, _, h => h
  | x :: xs, vs, S, hs, h => by
    simp only [Reps] at h ⊢
    obtain ⟨v, ws, S1, S2, e, h1, h2, dj, r1, r2⟩ := h
    exact ⟨v, ws, S1, S2, e, h1, h2, dj, rep_frW f o hz zz (fun b hb => hs b (h1 b hb)) r1, reps_frW f o hz zz (fun b hb => hs b (h2 b hb)) r2⟩
end
theorem rep_fr {U : AS} (f : Fr U H H') (o : Own U H) (hz : ∀ b, Z b → ¬ U b) (zz : ∀ b, Z b → Z' b) {d : D} {v : V} {S : AS} (hs : ∀ b, S b → ¬ U b) (h : Rep L Z H v d S) : Rep L Z' H' v d S := rep_frW f o.w hz zz hs h
theorem reps_fr {U : AS} (f : Fr U H H') (o : Own U H) (hz : ∀ b, Z b → ¬ U b) (zz : ∀ b, Z b → Z' b) {d : List D} {v : List V} {S : AS} (hs : ∀ b, S b → ¬ U b) (h : Reps L Z H v d S) : Reps L Z' H' v d S := reps_frW f o.w hz zz hs h
theorem fr_refl {U : AS} : Fr U H H := fun _ _ h _ => h
theorem rep_z {d : D} {v : V} {S : AS} (zz : ∀ b, Z b → Z' b) (h : Rep L Z H v d S) : Rep L Z' H v d S :=
  rep_fr (U := NoAS) fr_refl (fun _ z => z.elim) (fun _ _ z => z) zz (fun _ _ z => z) h
theorem reps_z {d : List D} {v : List V} {S : AS} (zz : ∀ b, Z b → Z' b) (h : Reps L Z H v d S) : Reps L Z' H v d S :=
  reps_fr (U := NoAS) fr_refl (fun _ z => z.elim) (fun _ _ z => z) zz (fun _ _ z => z) h
mutual
/-- shared from here on -/
theorem rep_frz : ∀ {d : D} {v : V} {S : AS}, (∀ b, S b → Z' b) → (∀ b, Z b → Z' b) → Rep L Z H v d S → Rep L Z' H v d.frz NoAS
  | .non, _, _, _, _, h => h
  | .bl _, _, _, _, _, h => h
  | .int _, _, _, _, _, h => h
  | .str _, _, _, _, _, h => h
  | .nd k ow xs, v, S, hs, zz, h => by
    simp only [Rep, D.frz] at h ⊢
    obtain ⟨a, vs, e, sh, ho, r⟩ := h
    refine ⟨a, vs, e, ?_, (fun z => by cases z), reps_mono (fun _ hb => ⟨hb, (fun z => by cases z)⟩) (reps_frz (fun b hb => hs b hb.1) zz r)⟩
    cases k with
    | tup => exact ⟨rfl, sh.2⟩
    | cl => exact ⟨rfl, sh.2⟩
    | lst =>
      obtain ⟨h2, h3⟩ := sh
      refine ⟨h2, fun _ => ?_⟩
      cases ow with
      | true => exact hs a (ho rfl)
      | false => exact zz a (h3 rfl)
    | dk ks =>
      obtain ⟨h0, h1, h2, h3⟩ := sh
      refine ⟨h0, h1, h2, fun _ => ?_⟩
      cases ow with
      | true => exact hs a (ho rfl)
      | false => exact zz a (h3 rfl)
    | ins c ns =>
      obtain ⟨h1, h2, h3⟩ := sh
      refine ⟨h1, h2, fun _ => ?_⟩
      cases ow with
      | true => exact hs a (ho rfl)
      | false => exact zz a (h3 rfl)
theorem reps_frz : ∀ {ds : List D} {vs : List V} {S : AS}, (∀ b, S b → Z' b) → (∀ b, Z b → Z' b) → Reps L Z H vs ds S → Reps L Z' H vs (frzL ds) NoAS
  | [], _, _, _, _, h => h
  | x :: xs, vs, S, hs, zz, h => by
    simp only [Reps, frzL] at h ⊢
    obtain ⟨v, ws, S1, S2, e, h1, h2, dj, r1, r2⟩ := h
    exact ⟨v, ws, NoAS, NoAS, e, fun _ z => z, fun _ z => z, fun _ z => z.elim, rep_frz (fun b hb => hs b (h1 b hb)) zz r1, reps_frz (fun b hb => hs b (h2 b hb)) zz r2⟩
end
mutual
/-- without a shared node nothing hangs on what is shared -/
theorem rep_nf : ∀ {d : D} {v : V} {S : AS}, d.nf = true → Rep L Z H v d S → Rep L Z' H v d S
  | .non, _, _, _, h => h
  | .bl _, _, _, _, h => h
  | .int _, _, _, _, h => h
  | .str _, _, _, _, h => h
  | .nd .tup ow xs, v, S, n, h => by
    simp only [Rep, D.nf] at n h ⊢
    obtain ⟨a, vs, e, sh, ho, r⟩ := h
    exact ⟨a, vs, e, sh, ho, reps_nf n r⟩
  | .nd .cl ow xs, v, S, n, h => by
    simp only [Rep, D.nf] at n h ⊢
    obtain ⟨a, vs, e, sh, ho, r⟩ := h
    exact ⟨a, vs, e, sh, ho, reps_nf n r⟩
  | .nd .lst ow xs, v, S, n, h => by
    simp only [Rep, D.nf, Bool.and_eq_true] at n h ⊢
    obtain ⟨a, vs, e, ⟨h2, h3⟩, ho, r⟩ := h
    obtain ⟨rfl, n⟩ := n
    exact ⟨a, vs, e, ⟨h2, fun z => by cases z⟩, ho, reps_nf n r⟩
  | .nd (.dk ks) ow xs, v, S, n, h => by
    simp only [Rep, D.nf, Bool.and_eq_true] at n h ⊢
    obtain ⟨a, vs, e, ⟨h0, h1, h2, h3⟩, ho, r⟩ := h
    obtain ⟨rfl, n⟩ := n
    exact ⟨a, vs, e, ⟨h0, h1, h2, fun z => by cases z⟩, ho, reps_nf n r⟩
  | .nd (.ins c ns) ow xs, v, S, n, h => by
    simp only [Rep, D.nf, Bool.and_eq_true] at n h ⊢
    obtain ⟨a, vs, e, ⟨h1, h2, h3⟩, ho, r⟩ := h
    obtain ⟨rfl, n⟩ := n
    exact ⟨a, vs, e, ⟨h1, h2, fun z => by cases z⟩, ho, reps_nf n r⟩
theorem reps_nf : ∀ {ds : List D} {vs : List V} {S : AS}, nfL ds = true → Reps L Z H vs ds S → Reps L Z' H vs ds S
  | [], _, _, _, h => h
  | x :: xs, vs, S, n, h => by
    simp only [Reps, nfL, Bool.and_eq_true] at n h ⊢
    obtain ⟨v, ws, S1, S2, e, h1, h2, dj, r1, r2⟩ := h
    exact ⟨v, ws, S1, S2, e, h1, h2, dj, rep_nf n.1 r1, reps_nf n.2 r2⟩
end
mutual
/-- nothing owned -/
theorem rep_fz : ∀ {d : D} {v : V} {S S' : AS}, d.fz = true → Rep L Z H v d S → Rep L Z H v d S'
  | .non, _, _, _, _, h => h
  | .bl _, _, _, _, _, h => h
  | .int _, _, _, _, _, h => h
  | .str _, _, _, _, _, h => h
  | .nd k ow xs, v, S, S', n, h => by
    simp only [Rep, D.fz, Bool.and_eq_true, Bool.not_eq_true'] at n h ⊢
    obtain ⟨a, vs, e, sh, ho, r⟩ := h
    obtain ⟨rfl, n⟩ := n
    exact ⟨a, vs, e, sh, fun z => (by cases z), reps_fz n r⟩
theorem reps_fz : ∀ {ds : List D} {vs : List V} {S S' : AS}, fzL ds = true → Reps L Z H vs ds S → Reps L Z H vs ds S'
  | [], _, _, _, _, h => h
  | x :: xs, vs, S, S', n, h => by
    simp only [Reps, fzL, Bool.and_eq_true] at n h ⊢
    obtain ⟨v, ws, S1, S2, e, h1, h2, dj, r1, r2⟩ := h
    exact ⟨v, ws, NoAS, NoAS, e, fun _ z => z.elim, fun _ z => z.elim, fun _ z => z.elim, rep_fz n.1 r1, reps_fz n.2 r2⟩
end
mutual
theorem frz_fz : ∀ d : D, d.frz.fz = true
  | .non => rfl
  | .bl _ => rfl
  | .int _ => rfl
  | .str _ => rfl
  | .nd k o xs => by simp only [D.frz, D.fz]; rw [frzL_fz xs]; rfl
theorem frzL_fz : ∀ ds : List D, fzL (frzL ds) = true
  | [] => rfl
  | x :: xs => by simp only [frzL, fzL]; rw [frz_fz x, frzL_fz xs]; rfl
end
mutual
theorem frz_of_fz : ∀ d : D, d.fz = true → d.frz = d
  | .non, _ => rfl
  | .bl _, _ => rfl
  | .int _, _ => rfl
  | .str _, _ => rfl
  | .nd k o xs, h => by
    simp only [D.fz, Bool.and_eq_true, Bool.not_eq_true'] at h
    simp only [D.frz]
    rw [frzL_of_fz xs h.2, h.1]
theorem frzL_of_fz : ∀ ds : List D, fzL ds = true → frzL ds = ds
  | [], _ => rfl
  | x :: xs, h => by
    simp only [fzL, Bool.and_eq_true] at h
    simp only [frzL]
    rw [frz_of_fz x h.1, frzL_of_fz xs h.2]
end

theorem fzL_append (a b : List D) : fzL (a ++ b) = (fzL a && fzL b) := by
  induction a with
  | nil => rfl
  | cons x xs ih => simp only [List.cons_append, fzL, ih, Bool.and_assoc]
theorem frzL_append (a b : List D) : frzL (a ++ b) = frzL a ++ frzL b := by
  induction a with
  | nil => rfl
  | cons x xs ih => simp only [List.cons_append, frzL, ih]
theorem nfL_append (a b : List D) : nfL (a ++ b) = (nfL a && nfL b) := by
  induction a with
  | nil => rfl
  | cons x xs ih => simp only [List.cons_append, nfL, ih, Bool.and_assoc]
/-! ### lists of values -/
theorem Reps.length : ∀ {ds : List D} {vs : List V} {S : AS}, Reps L Z H vs ds S → vs.length = ds.length
  | [], _, _, h => by simp only [Reps] at h; rw [h]; rfl
  | x :: xs, vs, S, h => by
    simp only [Reps] at h
    obtain ⟨v, ws, S1, S2, e, h1, h2, dj, r1, r2⟩ := h
    rw [e, List.length_cons, List.length_cons, Reps.length r2]
theorem reps_nil {S : AS} : Reps L Z H [] [] S := by simp only [Reps]
theorem reps_cons {v : V} {vs : List V} {d : D} {ds : List D} {S S1 S2 : AS} (h1 : ∀ b, S1 b → S b) (h2 : ∀ b, S2 b → S b) (dj : ∀ b, S1 b → ¬ S2 b) (r1 : Rep L Z H v d S1) (r2 : Reps L Z H vs ds S2) : Reps L Z H (v :: vs) (d :: ds) S := by
  simp only [Reps]
  exact ⟨v, vs, S1, S2, rfl, h1, h2, dj, r1, r2⟩
theorem reps_append : ∀ {ds : List D} {vs ws : List V} {es : List D} {S S1 S2 : AS}, (∀ b, S1 b → S b) → (∀ b, S2 b → S b) → (∀ b, S1 b → ¬ S2 b) → Reps L Z H vs ds S1 → Reps L Z H ws es S2 → Reps L Z H (vs ++ ws) (ds ++ es) S
  | [], _, _, _, _, _, _, h1, h2, dj, r1, r2 => by
    simp only [Reps] at r1
    rw [r1]
    exact reps_mono h2 r2
  | x :: xs, vs, ws, es, S, S1, S2, h1, h2, dj, r1, r2 => by
    simp only [Reps] at r1
    obtain ⟨v, us, T1, T2, e, t1, t2, tj, q1, q2⟩ := r1
    rw [e]
    exact reps_cons (S1 := T1) (S2 := fun b => T2 b ∨ S2 b) (fun b hb => h1 b (t1 b hb)) (fun b hb => hb.elim (fun z => h1 b (t2 b z)) (h2 b)) (fun b hb z => z.elim (tj b hb) (dj b (t1 b hb))) q1 (reps_append (fun b hb => .inl hb) (fun b hb => .inr hb) (fun b hb => dj b (t2 b hb)) q2 r2)
/-- the member at a place, and the rest beside it -/
theorem reps_at : ∀ {ds : List D} {vs : List V} {S : AS} {j : Nat} {d : D}, Reps L Z H vs ds S → ds[j]? = some d → ∃ (v : V) (S1 S2 : AS), vs[j]? = some v ∧ (∀ b, S1 b → S b) ∧ (∀ b, S2 b → S b) ∧ (∀ b, S1 b → ¬ S2 b) ∧ Rep L Z H v d S1 ∧
    ∀ {Z' : AS} {H' : Hp} {U S' S1' : AS} {v' : V} {d' : D}, Fr U H H' → OwnW U H → (∀ b, Z b → ¬ U b) → (∀ b, Z b → Z' b) → (∀ b, S2 b → ¬ U b) → (∀ b, S1' b → S' b) → (∀ b, S2 b → S' b) → (∀ b, S1' b → ¬ S2 b) → Rep L Z' H' v' d' S1' → Reps L Z' H' (vs.set j v') (ds.set j d') S'
  | [], _, _, _, _, _, e => by simp at e
  | x :: xs, vs, S, 0, d, h, e => by
    simp only [Reps] at h
    obtain ⟨v, ws, S1, S2, ev, h1, h2, dj, r1, r2⟩ := h
    simp only [List.getElem?_cons_zero, Option.some.injEq] at e
    subst e ev
    refine ⟨v, S1, S2, rfl, h1, h2, dj, r1, fun f o hz zz nu h1' h2' dj' r' => ?_⟩
    exact reps_cons h1' h2' dj' r' (reps_frW f o hz zz nu r2)
  | x :: xs, vs, S, j + 1, d, h, e => by
    simp only [Reps] at h
    obtain ⟨v, ws, S1, S2, ev, h1, h2, dj, r1, r2⟩ := h
    simp only [List.getElem?_cons_succ] at e
    subst ev
    obtain ⟨u, T1, T2, eu, t1, t2, tj, q, k⟩ := reps_at r2 e
    refine ⟨u, T1, fun b => S1 b ∨ T2 b, by simpa using eu, fun b hb => h2 b (t1 b hb), fun b hb => hb.elim (h1 b) (fun z => h2 b (t2 b z)), fun b hb z => z.elim (fun y => dj b y (t1 b hb)) (tj b hb), q, ?_⟩
    intro Z' H' U S' S1' v' d' f o hz zz nu h1' h2' dj' r'
    exact reps_cons (S1 := S1) (S2 := fun b => T2 b ∨ S1' b) (fun b hb => h2' b (.inl hb)) (fun b hb => hb.elim (fun z => h2' b (.inr z)) (h1' b)) (fun b hb z => z.elim (fun y => dj b hb (t2 b y)) (fun y => dj' b y (.inl hb)))
      (rep_frW f o hz zz (fun b hb => nu b (.inl hb)) r1) (k f o hz zz (fun b hb => nu b (.inr hb)) (fun b hb => .inr hb) (fun b hb => .inl hb) (fun b hb z => dj' b hb (.inr z)) r')
theorem Reps.get {ds : List D} {vs : List V} {S : AS} {j : Nat} {d : D} (h : Reps L Z H vs ds S) (e : ds[j]? = some d) : ∃ v, vs[j]? = some v ∧ Rep L Z H v d S := by
  obtain ⟨v, S1, S2, ev, h1, _, _, r, _⟩ := reps_at h e
  exact ⟨v, ev, rep_mono h1 r⟩
theorem reps_drop : ∀ (n : Nat) {ds : List D} {vs : List V} {S : AS}, Reps L Z H vs ds S → Reps L Z H (vs.drop n) (ds.drop n) S
  | 0, _, _, _, h => h
  | n + 1, [], vs, S, h => by
    simp only [Reps] at h
    rw [h]
    simp only [List.drop_nil, Reps]
  | n + 1, x :: xs, vs, S, h => by
    simp only [Reps] at h
    obtain ⟨v, ws, S1, S2, ev, h1, h2, dj, r1, r2⟩ := h
    subst ev
    exact reps_mono h2 (reps_drop n r2)
theorem reps_take : ∀ (n : Nat) {ds : List D} {vs : List V} {S : AS}, Reps L Z H vs ds S → Reps L Z H (vs.take n) (ds.take n) S
  | 0, ds, vs, S, h => by simp only [List.take_zero, Reps]
  | n + 1, [], vs, S, h => by
    simp only [Reps] at h
    rw [h]
    simp only [List.take_nil, Reps]
  | n + 1, x :: xs, vs, S, h => by
    simp only [Reps] at h
    obtain ⟨v, ws, S1, S2, ev, h1, h2, dj, r1, r2⟩ := h
    subst ev
    exact reps_cons h1 h2 dj r1 (reps_take n r2)
theorem reps_split : ∀ {ds es : List D} {vs : List V} {S : AS}, Reps L Z H vs (ds ++ es) S → ∃ (us ws : List V) (S1 S2 : AS), vs = us ++ ws ∧ (∀ b, S1 b → S b) ∧ (∀ b, S2 b → S b) ∧ (∀ b, S1 b → ¬ S2 b) ∧ Reps L Z H us ds S1 ∧ Reps L Z H ws es S2
  | [], es, vs, S, h => ⟨[], vs, NoAS, S, rfl, fun _ z => z.elim, fun _ z => z, fun _ z => z.elim, reps_nil, h⟩
  | x :: xs, es, vs, S, h => by
    simp only [List.cons_append, Reps] at h
    obtain ⟨v, ws, S1, S2, e, h1, h2, dj, r1, r2⟩ := h
    obtain ⟨us', ws', T1, T2, e', t1, t2, tj, q1, q2⟩ := reps_split r2
    subst e e'
    exact ⟨v :: us', ws', OrS' S1 T1, T2, rfl, fun b z => z.elim (h1 b) fun z => h2 b (t1 b z), fun b z => h2 b (t2 b z), fun b z y => z.elim (fun z => dj b z (t2 b y)) fun z => tj b z y,
      reps_cons (S1 := S1) (S2 := T1) (fun _ z => .inl z) (fun _ z => .inr z) (fun b z y => dj b z (t1 b y)) r1 q1, q2⟩
theorem reps_reverse : ∀ {ds : List D} {vs : List V} {S : AS}, Reps L Z H vs ds S → Reps L Z H vs.reverse ds.reverse S
  | [], vs, S, h => by
    simp only [Reps] at h
    subst h
    exact reps_nil
  | x :: xs, vs, S, h => by
    simp only [Reps] at h
    obtain ⟨v, ws, S1, S2, e, h1, h2, dj, r1, r2⟩ := h
    subst e
    rw [List.reverse_cons, List.reverse_cons]
    exact reps_append (S1 := S2) (S2 := S1) h2 h1 (fun b z y => dj b y z) (reps_reverse r2) (reps_cons (S1 := S1) (S2 := NoAS) (fun _ z => z) (fun _ z => z.elim) (fun _ _ z => z) r1 reps_nil)
theorem reps_rep {ds : List D} {vs : List V} {S : AS} (f : fzL ds = true) (h : Reps L Z H vs ds S) : ∀ (k : Nat), Reps L Z H (List.replicate k vs).flatten (List.replicate k ds).flatten S
  | 0 => by simp only [List.replicate_zero, List.flatten_nil, Reps]
  | k + 1 => by
    simp only [List.replicate_succ, List.flatten_cons]
    exact reps_append (S1 := NoAS) (S2 := S) (fun _ z => z.elim) (fun _ z => z) (fun _ z => z.elim) (reps_fz f h) (reps_rep f h k)
theorem reps_ints : ∀ {l : List Int} {ds : List D} {vs : List V} {S : AS}, intsD ds = some l → Reps L Z H vs ds S → vs = l.map V.int
  | l, [], vs, S, e, h => by
    simp only [Reps] at h
    simp only [intsD, Option.some.injEq] at e
    rw [h, ← e]; rfl
  | l, x :: xs, vs, S, e, h => by
    simp only [Reps] at h
    obtain ⟨v, ws, S1, S2, ev, h1, h2, dj, r1, r2⟩ := h
    subst ev
    cases x <;> simp only [intsD, reduceCtorEq] at e
    rename_i i
    cases q : intsD xs with
    | none => rw [q] at e; simp at e
    | some m =>
      rw [q] at e
      simp only [Option.map_some, Option.some.injEq] at e
      subst e
      simp only [Rep] at r1
      rw [r1, reps_ints q r2]; rfl
theorem reps_of_ints : ∀ (l : List Int) {S : AS}, Reps L Z H (l.map V.int) (l.map D.int) S
  | [], _ => by simp only [List.map_nil, Reps]
  | i :: l, S => reps_cons (S1 := NoAS) (S2 := NoAS) (fun _ z => z.elim) (fun _ z => z.elim) (fun _ z => z.elim) (by simp only [Rep]) (reps_of_ints l)
theorem reps_bls : ∀ {l : List Bool} {ds : List D} {vs : List V} {S : AS}, blsD ds = some l → Reps L Z H vs ds S → vs = l.map V.bl
  | l, [], vs, S, e, h => by
    simp only [Reps] at h
    simp only [blsD, Option.some.injEq] at e
    rw [h, ← e]; rfl
  | l, x :: xs, vs, S, e, h => by
    simp only [Reps] at h
    obtain ⟨v, ws, S1, S2, ev, h1, h2, dj, r1, r2⟩ := h
    subst ev
    cases x <;> simp only [blsD, reduceCtorEq] at e
    rename_i i
    cases q : blsD xs with
    | none => rw [q] at e; simp at e
    | some m =>
      rw [q] at e
      simp only [Option.map_some, Option.some.injEq] at e
      subst e
      simp only [Rep] at r1
      rw [r1, reps_bls q r2]; rfl
end

/-! ### the frame's values -/
structure RepE (L : Lo) (Z : AS) (H : Hp) (σ : St) (e : Env) (S : AS) : Prop where
  len : σ.length = e.length
  ex : ∃ F : Nat → AS, (∀ i b, F i b → S b) ∧ (∀ i j b, i ≠ j → F i b → ¬ F j b) ∧ ∀ (i : Nat) d, e[i]? = some (some d) → ∃ v, σ[i]? = some (some v) ∧ Rep L Z H v d (F i)
section
variable {L : Lo} {Z Z' : AS} {H H' : Hp} {σ : St} {e : Env} {S S' : AS}
theorem RepE.mono (h : RepE L Z H σ e S) (hs : ∀ b, S b → S' b) : RepE L Z H σ e S' := by
  obtain ⟨F, f1, f2, f3⟩ := h.ex
  exact ⟨h.len, F, fun i b hb => hs b (f1 i b hb), f2, f3⟩
theorem RepE.fr {U : AS} (h : RepE L Z H σ e S) (f : Fr U H H') (o : Own U H) (hz : ∀ b, Z b → ¬ U b) (zz : ∀ b, Z b → Z' b) (nu : ∀ b, S b → ¬ U b) : RepE L Z' H' σ e S := by
  obtain ⟨F, f1, f2, f3⟩ := h.ex
  refine ⟨h.len, F, f1, f2, fun i d hd => ?_⟩
  obtain ⟨v, ev, r⟩ := f3 i d hd
  exact ⟨v, ev, rep_fr f o hz zz (fun b hb => nu b (f1 i b hb)) r⟩
theorem RepE.z (h : RepE L Z H σ e S) (zz : ∀ b, Z b → Z' b) : RepE L Z' H σ e S := h.fr (U := NoAS) fr_refl (fun _ z => z.elim) (fun _ _ z => z) zz (fun _ _ z => z)
theorem at_some {i : Nat} {d : D} (h : e.at i = some d) : e[i]? = some (some d) := by
  unfold Env.at at h
  cases q : e[i]? with
  | none => rw [q] at h; cases h
  | some x => rw [q] at h; simpa using h
/-- one name's value, and the others beside it -/
theorem RepE.at (h : RepE L Z H σ e S) {i : Nat} {d : D} (hd : e.at i = some d) : ∃ (v : V) (S1 S2 : AS), σ[i]? = some (some v) ∧ (∀ b, S1 b → S b) ∧ (∀ b, S2 b → S b) ∧ (∀ b, S1 b → ¬ S2 b) ∧ Rep L Z H v d S1 ∧ RepE L Z H σ (e.set i none) S2 := by
  obtain ⟨F, f1, f2, f3⟩ := h.ex
  obtain ⟨v, ev, r⟩ := f3 i d (at_some hd)
  refine ⟨v, F i, fun b => ∃ j, j ≠ i ∧ F j b, ev, f1 i, fun b ⟨j, _, hb⟩ => f1 j b hb, fun b hb ⟨j, nj, hb'⟩ => f2 j i b nj hb' hb, r, ?_⟩
  refine ⟨by simpa using h.len, fun j b => j ≠ i ∧ F j b, fun j b hb => ⟨j, hb⟩, fun j k b n hb hc => f2 j k b n hb.2 hc.2, fun j d' hj => ?_⟩
  by_cases c : i = j
  · subst c
    have hlt : i < e.length := by
      have := at_some hd
      exact (List.getElem?_eq_some_iff.mp this).1
    rw [List.getElem?_set_self hlt] at hj; cases hj
  · rw [List.getElem?_set_ne c] at hj
    obtain ⟨v', ev', r'⟩ := f3 j d' hj
    exact ⟨v', ev', rep_mono (fun b hb => ⟨fun z => c z.symm, hb⟩) r'⟩
/-- a name's value is put in -/
theorem RepE.put {S1 : AS} (h : RepE L Z H σ (e.set i none) S) {d : D} {v : V} (hv : σ[i]? = some (some v)) (r : Rep L Z H v d S1) (h1 : ∀ b, S1 b → S' b) (h2 : ∀ b, S b → S' b) (dj : ∀ b, S1 b → ¬ S b) : RepE L Z H σ (e.set i (some d)) S' := by
  obtain ⟨F, f1, f2, f3⟩ := h.ex
  have hl : i < e.length := by
    have := h.len
    rw [List.length_set] at this
    rw [← this]
    exact (List.getElem?_eq_some_iff.mp hv).1
  refine ⟨by simpa using h.len, fun j => if j = i then S1 else F j, fun j b hb => ?_, fun j k b n hb hc => ?_, fun j d' hj => ?_⟩
  all_goals try dsimp only at hb
  all_goals try dsimp only at hc
  · by_cases c : j = i
    · rw [if_pos c] at hb; exact h1 b hb
    · rw [if_neg c] at hb; exact h2 b (f1 j b hb)
  · by_cases c : j = i
    · rw [if_pos c] at hb
      by_cases c' : k = i
      · exact n (c.trans c'.symm)
      · rw [if_neg c'] at hc; exact dj b hb (f1 k b hc)
    · rw [if_neg c] at hb
      by_cases c' : k = i
      · rw [if_pos c'] at hc; exact dj b hc (f1 j b hb)
      · rw [if_neg c'] at hc; exact f2 j k b n hb hc
  · by_cases c : i = j
    · subst c
      rw [List.getElem?_set_self hl] at hj
      cases hj
      refine ⟨v, hv, ?_⟩
      simp only [if_pos]
      exact r
    · rw [List.getElem?_set_ne c] at hj
      obtain ⟨v', ev', r'⟩ := f3 j d' (by rw [List.getElem?_set_ne c]; exact hj)
      refine ⟨v', ev', ?_⟩
      simp only [if_neg (fun z : j = i => c z.symm)]
      exact r'
/-- names are forgotten -/
theorem RepE.forget (h : RepE L Z H σ e S) (i : Nat) : RepE L Z H σ (e.set i none) S := by
  obtain ⟨F, f1, f2, f3⟩ := h.ex
  refine ⟨by simpa using h.len, F, f1, f2, fun j d hj => ?_⟩
  by_cases c : i = j
  · subst c
    by_cases hl : i < e.length
    · rw [List.getElem?_set_self hl] at hj; cases hj
    · rw [List.getElem?_eq_none (by simpa using hl)] at hj; cases hj
  · rw [List.getElem?_set_ne c] at hj
    exact f3 j d hj
/-- a name is stored -/
theorem RepE.store {S1 : AS} (h : RepE L Z H σ e S) {i : Nat} {d : D} {v : V} (r : Rep L Z H v d S1) (h1 : ∀ b, S1 b → S' b) (h2 : ∀ b, S b → S' b) (dj : ∀ b, S1 b → ¬ S b) : RepE L Z H (σ.set i (some v)) (e.set i (some d)) S' := by
  have h' : RepE L Z H (σ.set i (some v)) (e.set i none) S := by
    obtain ⟨F, f1, f2, f3⟩ := h.ex
    refine ⟨by simpa using h.len, F, f1, f2, fun j d hj => ?_⟩
    by_cases c : i = j
    · subst c
      by_cases hl : i < e.length
      · rw [List.getElem?_set_self hl] at hj; cases hj
      · rw [List.getElem?_eq_none (by simpa using hl)] at hj; cases hj
    · rw [List.getElem?_set_ne c] at hj ⊢
      exact f3 j d hj
  by_cases hl : i < σ.length
  · exact h'.put (List.getElem?_set_self hl) r h1 h2 dj
  · have e1 : σ.set i (some v) = σ := List.set_eq_of_length_le (Nat.le_of_not_lt hl)
    have e2 : e.set i (some d) = e := List.set_eq_of_length_le (by rw [← h.len]; exact Nat.le_of_not_lt hl)
    rw [e1, e2]
    exact h.mono h2
end
end PL

/-! PL.Mid: a run of the small language, told as a wish of the hand layer; what is in hand between two of its steps. -/
namespace PL
open PySem L2

def OrS (A B : AS) : AS := fun b => A b ∨ B b
/-- from a heap to one behind it -/
structure Step (Z S : AS) (H : Hp) (Z' S' : AS) (H' : Hp) : Prop where
  zz : ∀ b, Z b → Z' b
  zs : ∀ b, Z' b → Z b ∨ S b ∨ H b = none
  ss : ∀ b, S' b → S b ∨ H b = none
  fr : Fr S H H'
  nn : ∀ b, H' b = none → H b = none
structure Ok (Z S : AS) (H : Hp) : Prop where
  dj : ∀ b, S b → ¬ Z b
  own : Own S H
  zd : ∀ b, Z b → H b ≠ none
theorem Ok.sd {Z S : AS} {H : Hp} (k : Ok Z S H) {b : Addr} (h : S b) : H b ≠ none := fun e => by
  have := k.own b h
  rw [e] at this
  exact this
theorem Ok.mono {Z S S' : AS} {H : Hp} (k : Ok Z S H) (h : ∀ b, S' b → S b) : Ok Z S' H := ⟨fun b hb => k.dj b (h b hb), fun b hb => k.own b (h b hb), k.zd⟩
theorem Step.refl {Z S S' : AS} {H : Hp} (h : ∀ b, S' b → S b) : Step Z S H Z S' H := ⟨fun _ z => z, fun _ z => .inl z, fun b z => .inl (h b z), fr_refl, fun _ z => z⟩
theorem Step.trans {Z S Z1 S1 Z2 S2 : AS} {H H1 H2 : Hp} (a : Step Z S H Z1 S1 H1) (b : Step Z1 S1 H1 Z2 S2 H2) : Step Z S H Z2 S2 H2 where
  zz := fun c z => b.zz c (a.zz c z)
  zs := fun c z => by
    rcases b.zs c z with z | z | z
    · exact a.zs c z
    · rcases a.ss c z with z | z
      · exact .inr (.inl z)
      · exact .inr (.inr z)
    · exact .inr (.inr (a.nn c z))
  ss := fun c z => by
    rcases b.ss c z with z | z
    · exact a.ss c z
    · exact .inr (a.nn c z)
  fr := fun c o e n => b.fr c o (a.fr c o e n) fun z => by
    rcases a.ss c z with z | z
    · exact n z
    · rw [e] at z; cases z
  nn := fun c z => a.nn c (b.nn c z)
/-- what is held beside stays -/
theorem Step.hold {Z S1 S2 Z' T : AS} {H H' : Hp} (k : Ok Z (OrS S1 S2) H) (dj : ∀ b, S1 b → ¬ S2 b) (a : Step Z S1 H Z' T H') (k' : Ok Z' T H') :
    Step Z (OrS S1 S2) H Z' (OrS T S2) H' ∧ Ok Z' (OrS T S2) H' ∧ (∀ b, T b → ¬ S2 b) := by
  have t2 : ∀ b, T b → ¬ S2 b := fun b hb h2 => by
    rcases a.ss b hb with z | z
    · exact dj b z h2
    · exact k.sd (.inr h2) z
  refine ⟨⟨a.zz, fun b z => ?_, fun b z => ?_, fun b o e n => a.fr b o e fun z => n (.inl z), a.nn⟩, ⟨fun b hb z => ?_, fun b hb => ?_, k'.zd⟩, t2⟩
  · rcases a.zs b z with z | z | z
    · exact .inl z
    · exact .inr (.inl (.inl z))
    · exact .inr (.inr z)
  · rcases z with z | z
    · rcases a.ss b z with z | z
      · exact .inl (.inl z)
      · exact .inr z
    · exact .inl (.inr z)
  · rcases hb with hb | hb
    · exact k'.dj b hb z
    · rcases a.zs b z with z | z | z
      · exact k.dj b (.inr hb) z
      · exact dj b z hb
      · exact k.sd (.inr hb) z
  · rcases hb with hb | hb
    · exact k'.own b hb
    · have q := k.own b (.inr hb)
      cases e : H b with
      | none => exact absurd e (k.sd (.inr hb))
      | some o =>
        rw [a.fr b o e fun z => dj b z hb, ← e]
        exact q
theorem Step.frm {Z S Z' T : AS} {H H' : Hp} (a : Step Z S H Z' T H') : Fr S H H' := a.fr

/-- an exception of an own class -/
def RepX (L : Lo) (Z : AS) (H : Hp) (cls : Value) (dd : Option Addr) (x : D) : Prop :=
  ∃ (c : Nat) (ns : List Str) (xs : List D) (vs : List V) (a : Addr), x = .nd (.ins c ns) false xs ∧ cls = .ref (L.cls c) ∧ dd = some a ∧ ns.length = vs.length ∧ H a = some (.xd (ns.zip vs)) ∧ Reps L Z H vs xs NoAS

section
variable (L : Lo) (W : WX) (σ : St)
/-- what is wanted of a result -/
def Good {α β : Type} (rep : AS → Hp → β → α → AS → Prop) (Z S : AS) (H : Hp) (r : Out α) (Q : β → Hp → Prop) : Prop :=
  match r with
  | .val d e => ∀ v H' Z' S1 S2, Step Z S H Z' (OrS S1 S2) H' → Ok Z' (OrS S1 S2) H' → (∀ b, S1 b → ¬ S2 b) → RepE L Z' H' σ e S1 → rep Z' H' v d S2 → Q v H'
  | .exc x e => ∀ cls dd H' Z' S1, Step Z S H Z' S1 H' → Ok Z' S1 H' → RepE L Z' H' σ e S1 → RepX L Z' H' cls dd x → W cls dd σ H'
theorem Good.step {L : Lo} {W : WX} {σ : St} {α β : Type} {rep : AS → Hp → β → α → AS → Prop} {Z S Z1 S1 : AS} {H H1 : Hp} {r : Out α} {Q : β → Hp → Prop} (g : Good L W σ rep Z S H r Q) (a : Step Z S H Z1 S1 H1) : Good L W σ rep Z1 S1 H1 r Q := by
  cases r with
  | val d e => exact fun v H' Z' T1 T2 b k dj re rv => g v H' Z' T1 T2 (a.trans b) k dj re rv
  | exc x e => exact fun cls dd H' Z' T1 b k re rx => g cls dd H' Z' T1 (a.trans b) k re rx
def tG {α β : Type} (rep : AS → Hp → β → α → AS → Prop) (ev : Env → R α) : St → Hp → (β → Hp → Prop) → Prop := fun σ H Q =>
  ∃ Z S e r, Ok Z S H ∧ RepE L Z H σ e S ∧ ev e = some r ∧ Good L W σ rep Z S H r Q
/-- between two steps: the frame's values e, what is in hand, what is still to run -/
def Mid (H : Hp) (e : Env) (vs : List V) (ds : List D) {γ β' : Type} (rep' : AS → Hp → β' → γ → AS → Prop) (Q : β' → Hp → Prop) (r : R γ) : Prop :=
  ∃ Z S1 S2, Ok Z (OrS S1 S2) H ∧ (∀ b, S1 b → ¬ S2 b) ∧ RepE L Z H σ e S1 ∧ Reps L Z H vs ds S2 ∧ ∃ r', r = some r' ∧ Good L W σ rep' Z (OrS S1 S2) H r' Q
end
section
variable {L : Lo} {W : WX} {σ : St} {α β γ β' : Type} {rep : AS → Hp → β → α → AS → Prop} {rep' : AS → Hp → β' → γ → AS → Prop} {H : Hp} {e : Env} {Q : β' → Hp → Prop} {vs : List V} {ds : List D}
theorem Ok.noOr {Z S : AS} {H : Hp} (k : Ok Z S H) : Ok Z (OrS S NoAS) H := k.mono fun b z => z.elim id (fun z => z.elim)
theorem tG.mid {ev : Env → R γ} (h : tG L W rep' ev σ H Q) : ∃ e, Mid L W σ H e [] [] rep' Q (ev e) := by
  obtain ⟨Z, S, e, r, k, re, h, g⟩ := h
  exact ⟨e, Z, S, NoAS, k.noOr, fun _ _ z => z, re, reps_nil, r, h, g.step (Step.refl fun b z => z.elim id (fun z => z.elim))⟩
/-- the next step runs -/
theorem Mid.bind {nv : β → List V} {nd : α → List D} {ev : Env → R α} {f : α → Env → R γ} (m : Mid L W σ H e vs ds rep' Q (bnd (ev e) f))
    (add : ∀ {Z : AS} {H : Hp} {v : β} {d : α} {S S2 S' : AS}, (∀ b, S b → S' b) → (∀ b, S2 b → S' b) → (∀ b, S b → ¬ S2 b) → rep Z H v d S → Reps L Z H vs ds S2 → Reps L Z H (nv v) (nd d) S') :
    tG L W rep ev σ H (fun v H1 => ∃ d e1, (∃ Z S, rep Z H1 v d S) ∧ Mid L W σ H1 e1 (nv v) (nd d) rep' Q (f d e1)) := by
  obtain ⟨Z, S1, S2, k, dj, re, rs, r', h, g⟩ := m
  have k1 : Ok Z S1 H := k.mono fun b z => .inl z
  cases q : ev e with
  | none => rw [q] at h; cases h
  | some r =>
    rw [q] at h
    refine ⟨Z, S1, e, r, k1, re, q, ?_⟩
    cases r with
    | exc x e1 =>
      simp only [bnd_exc, Option.some.injEq] at h
      subst h
      intro cls dd H' Z' T a k' re' rx
      obtain ⟨a', k2, _⟩ := a.hold k dj k'
      exact g cls dd H' Z' (OrS T S2) a' k2 (re'.mono fun b z => .inl z) rx
    | val d e1 =>
      simp only [bnd_val] at h
      intro v H' Z' T1 T2 a k' dj' re' rv
      obtain ⟨a', k2, d2⟩ := a.hold k dj k'
      refine ⟨d, e1, ⟨Z', T2, rv⟩, Z', T1, OrS T2 S2, k2.mono fun b z => ?_, fun b hb z => ?_, re', add (S := T2) (S2 := S2) (fun b z => Or.inl z) (fun b z => Or.inr z) (fun b z => d2 b (.inr z)) rv
        (reps_fr a.fr k1.own (fun b z y => k1.dj b y z) a.zz (fun b z y => dj b y z) rs), r', h, g.step (a'.trans (Step.refl fun b z => ?_))⟩
      · rcases z with z | z | z
        · exact .inl (.inl z)
        · exact .inl (.inr z)
        · exact .inr z
      · rcases z with z | z
        · exact dj' b hb z
        · exact d2 b (.inl hb) z
      · rcases z with z | z | z
        · exact .inl (.inl z)
        · exact .inl (.inr z)
        · exact .inr z
/-- .. a value, held -/
theorem tG.imp {ev : Env → R α} {Q Q' : β → Hp → Prop} (h : tG L W rep ev σ H Q) (q : ∀ v H1, Q v H1 → Q' v H1) : tG L W rep ev σ H Q' := by
  obtain ⟨Z, S, e1, r, k, re, h, g⟩ := h
  refine ⟨Z, S, e1, r, k, re, h, ?_⟩
  cases r with
  | exc x e1 => exact g
  | val d e1 => exact fun v H' Z' S1 S2 a k' dj re' rv => q _ _ (g v H' Z' S1 S2 a k' dj re' rv)
theorem Mid.one {ev : Env → R D} {f : D → Env → R γ} (m : Mid L W σ H e vs ds rep' Q (bnd (ev e) f)) :
    tG L W (Rep L) ev σ H (fun v H1 => ∃ d e1, Mid L W σ H1 e1 (vs ++ [v]) (ds ++ [d]) rep' Q (f d e1)) :=
  (m.bind (rep := Rep L) (nv := fun v => vs ++ [v]) (nd := fun d => ds ++ [d]) fun h1 h2 dj r1 r2 => reps_append h2 h1 (fun b z y => dj b y z) r2 (reps_cons (S2 := NoAS) (fun _ z => z) (fun _ z => z.elim) (fun _ _ z => z) r1 reps_nil)).imp fun _ _ ⟨d, e1, _, m⟩ => ⟨d, e1, m⟩
/-- .. a truth -/
abbrev repB : AS → Hp → Bool → Bool → AS → Prop := fun _ _ b c _ => b = c
theorem Mid.tst {ev : Env → R Bool} {f : Bool → Env → R γ} (m : Mid L W σ H e vs ds rep' Q (bnd (ev e) f)) :
    tG L W repB ev σ H (fun v H1 => ∃ e1, Mid L W σ H1 e1 vs ds rep' Q (f v e1)) :=
  (m.bind (rep := repB) (nv := fun _ => vs) (nd := fun _ => ds) fun h1 h2 dj r1 r2 => reps_mono h2 r2).imp fun _ _ ⟨d, e1, ⟨_, _, z⟩, m⟩ => ⟨e1, by rw [z]; exact m⟩
/-- .. values, held -/
theorem Mid.many {ev : Env → R (List D)} {f : List D → Env → R γ} (m : Mid L W σ H e vs ds rep' Q (bnd (ev e) f)) :
    tG L W (Reps L) ev σ H (fun ws H1 => ∃ es e1, ws.length = es.length ∧ Mid L W σ H1 e1 (vs ++ ws) (ds ++ es) rep' Q (f es e1)) :=
  (m.bind (rep := Reps L) (nv := fun v => vs ++ v) (nd := fun d => ds ++ d) fun h1 h2 dj r1 r2 => reps_append h2 h1 (fun b z y => dj b y z) r2 r1).imp fun _ _ ⟨d, e1, ⟨_, _, z⟩, m⟩ => ⟨d, e1, z.length, m⟩
/-- nothing in hand is wanted any more -/
theorem Mid.tG_of {ev : Env → R γ} (m : Mid L W σ H e vs ds rep' Q (ev e)) : tG L W rep' ev σ H Q := by
  obtain ⟨Z, S1, S2, k, dj, re, rs, r', h, g⟩ := m
  exact ⟨Z, S1, e, r', k.mono fun b z => .inl z, re, h, g.step (Step.refl fun b z => .inl z)⟩
theorem Mid.opt {x : Option γ} (m : Mid L W σ H e vs ds rep' Q (opt x e)) : ∃ d, x = some d ∧ Mid L W σ H e vs ds rep' Q (some (.val d e)) := by
  obtain ⟨Z, S1, S2, k, dj, re, rs, r', h, g⟩ := m
  unfold PL.opt at h
  cases x with
  | none => cases h
  | some d => exact ⟨d, rfl, Z, S1, S2, k, dj, re, rs, r', h, g⟩
theorem Mid.none (m : Mid L W σ H e vs ds rep' Q none) : False := by
  obtain ⟨Z, S1, S2, k, dj, re, rs, r', h, g⟩ := m
  cases h
/-- the end: the heap is as it is -/
theorem Mid.fin {d : γ} {v : β'} (m : Mid L W σ H e vs ds rep' Q (some (.val d e))) (h : ∀ Z S, Ok Z S H → Reps L Z H vs ds S → rep' Z H v d S) : Q v H := by
  obtain ⟨Z, S1, S2, k, dj, re, rs, r', e', g⟩ := m
  cases e'
  exact g v H Z S1 S2 (Step.refl fun _ z => z) k dj re (h Z S2 (k.mono fun b z => .inr z) rs)
theorem upd_fr {p : Addr} {ob : HO} (hp : H p = Option.none) (U : AS) : Fr U H (upd H p ob) := fun b o e _ => by
  rw [upd_ne (ne_of_none e hp)]; exact e
theorem upd_nn {p : Addr} {ob : HO} {b : Addr} (h : upd H p ob b = Option.none) : H b = Option.none := by
  unfold upd at h
  split at h
  · cases h
  · exact h
/-- a new object that may change: the result owns it -/
theorem Mid.new {d : D} {p : Addr} {ob : HO} {Q : V → Hp → Prop} (m : Mid L W σ H e vs ds (Rep L) Q (some (.val d e))) (hp : H p = Option.none) (mu : Mut (some ob))
    (h : ∀ Z S, Ok Z S H → Reps L Z (upd H p ob) vs ds S → (∀ b, S b → b ≠ p) → Rep L Z (upd H p ob) (.ref p) d (fun b => S b ∨ b = p)) : Q (.ref p) (upd H p ob) := by
  obtain ⟨Z, S1, S2, k, dj, re, rs, r', e', g⟩ := m
  cases e'
  have np : ∀ b, OrS S1 S2 b → b ≠ p := fun b z y => by subst y; exact k.sd z hp
  have nz : ∀ b, Z b → b ≠ p := fun b z y => by subst y; exact k.zd b z hp
  have f0 : Fr NoAS H (upd H p ob) := upd_fr hp NoAS
  have k2 : Ok Z (OrS S1 fun b => S2 b ∨ b = p) (upd H p ob) := by
    refine ⟨fun b hb z => ?_, fun b hb => ?_, fun b z y => k.zd b z (upd_nn y)⟩
    · rcases hb with hb | hb | hb
      · exact k.dj b (.inl hb) z
      · exact k.dj b (.inr hb) z
      · exact nz b z hb
    · by_cases c : b = p
      · subst c; rw [upd_same]; exact mu
      · rw [upd_ne c]
        rcases hb with hb | hb | hb
        · exact k.own b (.inl hb)
        · exact k.own b (.inr hb)
        · exact absurd hb c
  refine g (.ref p) _ Z S1 (fun b => S2 b ∨ b = p) ⟨fun _ z => z, fun _ z => .inl z, fun b z => ?_, upd_fr hp _, fun b => upd_nn⟩ k2 (fun b hb z => ?_) (re.fr f0 (fun _ z => z.elim) (fun _ _ z => z) (fun _ z => z) fun _ _ z => z)
    (h Z S2 (k.mono fun b z => .inr z) (reps_fr f0 (fun _ z => z.elim) (fun _ _ z => z) (fun _ z => z) (fun _ _ z => z) rs) fun b z => np b (.inr z))
  · rcases z with z | z | z
    · exact .inl (.inl z)
    · exact .inl (.inr z)
    · exact .inr (by rw [z]; exact hp)
  · rcases z with z | z
    · exact dj b hb z
    · exact np b (.inl hb) z
/-- a new object that never changes -/
theorem Mid.newT {d : D} {p : Addr} {xs : List V} {Q : V → Hp → Prop} (m : Mid L W σ H e vs ds (Rep L) Q (some (.val d e))) (hp : H p = Option.none)
    (h : ∀ Z S, Ok Z S H → Reps L Z (upd H p (.tup xs)) vs ds S → Rep L Z (upd H p (.tup xs)) (.ref p) d S) : Q (.ref p) (upd H p (.tup xs)) := by
  obtain ⟨Z, S1, S2, k, dj, re, rs, r', e', g⟩ := m
  cases e'
  have f0 : Fr NoAS H (upd H p (.tup xs)) := upd_fr hp NoAS
  have k2 : Ok Z (OrS S1 S2) (upd H p (.tup xs)) := by
    refine ⟨k.dj, fun b hb => ?_, fun b z y => k.zd b z (upd_nn y)⟩
    rw [upd_ne (fun c => by subst c; exact k.sd hb hp)]
    exact k.own b hb
  exact g (.ref p) _ Z S1 S2 ⟨fun _ z => z, fun _ z => .inl z, fun b z => .inl z, upd_fr hp _, fun b => upd_nn⟩ k2 dj (re.fr f0 (fun _ z => z.elim) (fun _ _ z => z) (fun _ z => z) fun _ _ z => z)
    (h Z S2 (k.mono fun b z => .inr z) (reps_fr f0 (fun _ z => z.elim) (fun _ _ z => z) (fun _ z => z) (fun _ _ z => z) rs))
/-- a new list, a new tuple of what is in hand -/
theorem Mid.newL {xs : List D} {p : Addr} {ws : List V} {Q : V → Hp → Prop} (m : Mid L W σ H e vs ds (Rep L) Q (some (.val (.nd .lst true xs) e))) (hp : H p = Option.none)
    (h : ∀ Z S, Ok Z S H → Reps L Z H vs ds S → Reps L Z H ws xs S) : Q (.ref p) (upd H p (.lst ws)) := by
  have q : ∀ Z S, Ok Z S H → Reps L Z H vs ds S → Reps L Z (upd H p (.lst ws)) ws xs S := fun Z S k r =>
    reps_fr (upd_fr hp NoAS) (fun _ z => z.elim) (fun _ _ z => z) (fun _ z => z) (fun _ _ z => z) (h Z S k r)
  obtain ⟨Z, S1, S2, k, dj, re, rs, r', e', g⟩ := m
  refine Mid.new (W := W) (σ := σ) (e := e) (vs := ws) (ds := xs) (d := .nd .lst true xs) ⟨Z, S1, S2, k, dj, re, h Z S2 (k.mono fun b z => .inr z) rs, r', e', g⟩ hp trivial fun Z S k r np => ?_
  simp only [Rep]
  exact ⟨p, ws, rfl, ⟨upd_same, fun z => (by cases z)⟩, fun _ => .inr rfl, reps_mono (fun b z => ⟨.inl z, fun _ => np b z⟩) r⟩
theorem Mid.newU {xs : List D} {p : Addr} {ws : List V} {Q : V → Hp → Prop} (m : Mid L W σ H e vs ds (Rep L) Q (some (.val (.nd .tup false xs) e))) (hp : H p = Option.none)
    (h : ∀ Z S, Ok Z S H → Reps L Z H vs ds S → Reps L Z H ws xs S) : Q (.ref p) (upd H p (.tup ws)) := by
  obtain ⟨Z, S1, S2, k, dj, re, rs, r', e', g⟩ := m
  refine Mid.newT (W := W) (σ := σ) (e := e) (vs := ws) (ds := xs) (d := .nd .tup false xs) ⟨Z, S1, S2, k, dj, re, h Z S2 (k.mono fun b z => .inr z) rs, r', e', g⟩ hp fun Z S k r => ?_
  simp only [Rep]
  exact ⟨p, ws, rfl, ⟨rfl, .inl (.inl upd_same)⟩, fun z => (by cases z), reps_mono (fun b z => ⟨z, fun y => (by cases y)⟩) r⟩
/-- a tuple beside, that nobody of ours holds -/
theorem Mid.growT {p : Addr} {ob : HO} {r : R γ} (m : Mid L W σ H e vs ds rep' Q r) (hp : H p = Option.none) : Mid L W σ (upd H p ob) e vs ds rep' Q r := by
  obtain ⟨Z, S1, S2, k, dj, re, rs, r', e', g⟩ := m
  have f0 : Fr NoAS H (upd H p ob) := upd_fr hp NoAS
  have k2 : Ok Z (OrS S1 S2) (upd H p ob) := by
    refine ⟨k.dj, fun b hb => ?_, fun b z y => k.zd b z (upd_nn y)⟩
    rw [upd_ne (fun c => by subst c; exact k.sd hb hp)]
    exact k.own b hb
  exact ⟨Z, S1, S2, k2, dj, re.fr f0 (fun _ z => z.elim) (fun _ _ z => z) (fun _ z => z) fun _ _ z => z, reps_fr f0 (fun _ z => z.elim) (fun _ _ z => z) (fun _ z => z) (fun _ _ z => z) rs, r', e', g.step ⟨fun _ z => z, fun _ z => .inl z, fun b z => .inl z, upd_fr hp _, fun b => upd_nn⟩⟩
/-- the ends, over what is in hand -/
structure Use (L : Lo) (Z S : AS) (H : Hp) (d : D) (Q : V → Hp → Prop) : Prop where
  fin : ∀ v, Rep L Z H v d S → Q v H
  newL : ∀ xs ws p, d = .nd .lst true xs → H p = Option.none → Reps L Z H ws xs S → Q (.ref p) (upd H p (.lst ws))
  newU : ∀ xs ws p, d = .nd .tup false xs → H p = Option.none → Reps L Z H ws xs S → Q (.ref p) (upd H p (.tup ws))
theorem Mid.use {d : D} {Q : V → Hp → Prop} (m : Mid L W σ H e vs ds (Rep L) Q (some (.val d e))) : ∃ Z S, Ok Z S H ∧ Reps L Z H vs ds S ∧ Use L Z S H d Q := by
  obtain ⟨Z, S1, S2, k, dj, re, rs, r', e', g⟩ := id m
  cases e'
  refine ⟨Z, S2, k.mono fun b z => .inr z, rs, fun v r => g v H Z S1 S2 (Step.refl fun _ z => z) k dj re r, fun xs ws p ed hp r => ?_, fun xs ws p ed hp r => ?_⟩
  · subst ed
    refine Mid.new (W := W) (σ := σ) (e := e) (vs := ws) (ds := xs) (d := .nd .lst true xs) ⟨Z, S1, S2, k, dj, re, r, _, rfl, g⟩ hp trivial fun Z S k r np => ?_
    simp only [Rep]
    exact ⟨p, ws, rfl, ⟨upd_same, fun z => (by cases z)⟩, fun _ => .inr rfl, reps_mono (fun b z => ⟨.inl z, fun _ => np b z⟩) r⟩
  · subst ed
    refine Mid.newT (W := W) (σ := σ) (e := e) (vs := ws) (ds := xs) (d := .nd .tup false xs) ⟨Z, S1, S2, k, dj, re, r, _, rfl, g⟩ hp fun Z S k r => ?_
    simp only [Rep]
    exact ⟨p, ws, rfl, ⟨rfl, .inl (.inl upd_same)⟩, fun z => (by cases z), reps_mono (fun b z => ⟨z, fun y => (by cases y)⟩) r⟩
end
end PL

/-! PL.Exp: expressions. -/
namespace PL
open PySem L2

/-- what a def promises: what the oracle says of it -/
def ioV (io : List Nat) (vs : List V) : List V := io.map fun i => vs.getD i .non
def spF (L : Lo) (tb : Tab) (o : Orc) (f : Nat) : Sp := fun vs H Q E => ∃ fn Z S ds r, tb.fns[f]? = some fn ∧ ds.length = fn.np ∧ Ok Z S H ∧ Reps L Z H vs ds S ∧ o f ds = some r ∧
  match r with
  | .val d fs => ∀ v H' Z' S1 S2, Step Z S H Z' (OrS S1 S2) H' → Ok Z' (OrS S1 S2) H' → (∀ b, S1 b → ¬ S2 b) → Reps L Z' H' (ioV fn.io vs) fs S1 → Rep L Z' H' v d S2 → Q v H'
  | .exc x fs => ∀ cls dd H' Z' S1, Step Z S H Z' S1 H' → Ok Z' S1 H' → Reps L Z' H' (ioV fn.io vs) fs S1 → RepX L Z' H' cls dd x → E cls dd H'

/-- the context of a def of the program -/
def biNames : List Str := ["len", "range", "int", "abs", "list", "tuple", "sorted", "sum", "all", "any", "min", "max", "str", "bool", "isinstance", "enumerate", "zip", "reversed", "dict", "repr", "set", "super", "type"]
class Lay (X : Cx) (L : outParam Lo) (tb : outParam Tab) (o : outParam Orc) (k : outParam Nat) : Prop where
  K : X.K = L.K
  calm : X.calm = true
  room' : Room (k + 1) X.A
  bi : ∀ x, x ∈ biNames → X.mg x = none
  top : ∀ f, L.ftop f = true → X.mg (L.fname f) = some (.ref (L.fadr f))
  ctp : ∀ c, L.ctop c = true → X.mg (L.cname c) = some (.ref (L.cls c))
  met : ∀ c m f, tb.meth c m = some f → Cls X.K (L.cls c) ∧ Meth X.K (L.cls c) m (L.fadr f)
  mak : ∀ c f, tb.init c = some f → Mk X.K (L.cls c) (L.fadr f)
  att : ∀ c f, tb.attr c f = true → Cls X.K (L.cls c) ∧ NoAttr X.K (L.cls c) f
  fn : ∀ f fn, tb.fns[f]? = some fn → FnOk X.prog X.w X.K X.mg X.base (L2.CX X.prog X.w) k (L.fadr f) (L.ffd f) (L.fps f) (spF L tb o f) ∧ PySem.W.keepIn X.K (.ref (L.fadr f)) = true ∧ Binds X.K (L.ffd f) (L.fps f) [] ∧ (L.fps f).length = fn.np
theorem Lay.room {X : Cx} {L : Lo} {tb : Tab} {o : Orc} {k : Nat} [h : Lay X L tb o k] : Room k X.A := h.room'.mono (Nat.le_succ _)
instance {X : Cx} {L : Lo} {tb : Tab} {o : Orc} {k : Nat} [h : Lay X L tb o k] (s : Shared) (H : Hp) (scope : Scope) (cenv : PySem.Env) (fp : List Addr) : Lay (X.blk s H scope cenv fp) L tb o k := ⟨h.K, h.calm, h.room', h.bi, h.top, h.ctp, h.met, h.mak, h.att, h.fn⟩

structure PEs (X : Cx) (L : Lo) (tb : Tab) (o : Orc) (e : Expr) (c : E) : Prop where
  run : ∀ W, Takes X W → PE X e (tG L W (Rep L) (evE tb o c))
structure PTs' (X : Cx) (L : Lo) (tb : Tab) (o : Orc) (e : Expr) (c : C) : Prop where
  run : ∀ W, Takes X W → PT X e (tG L W repB (evT tb o c))
structure PWs (X : Cx) (L : Lo) (tb : Tab) (o : Orc) (e : Expr) (c : C) : Prop where
  run : ∀ W, Takes X W → PW X e (tG L W repB (evT tb o c))
structure PAs (X : Cx) (L : Lo) (tb : Tab) (o : Orc) (es : List Expr) (c : Es) : Prop where
  run : ∀ W, Takes X W → PA X es (tG L W (Reps L) (evEs tb o c))

theorem PEimp {X : Cx} {e : Expr} {t t' : TE} (p : PE X e t) (h : ∀ σ H Q, t' σ H Q → t σ H Q) : PE X e t' := ⟨fun pins s σ H Q I hq => p.run pins s σ H Q I (h σ H Q hq)⟩
theorem PTimp {X : Cx} {e : Expr} {t t' : TT} (p : PT X e t) (h : ∀ σ H Q, t' σ H Q → t σ H Q) : PT X e t' := ⟨fun pins s σ H Q I hq => p.run pins s σ H Q I (h σ H Q hq)⟩
theorem PWimp {X : Cx} {e : Expr} {t t' : TT} (p : PW X e t) (h : ∀ σ H Q, t' σ H Q → t σ H Q) : PW X e t' := ⟨fun whole pins s σ H Q I hq => p.run whole pins s σ H Q I (h σ H Q hq)⟩
theorem PAimp {X : Cx} {e : List Expr} {t t' : TA} (p : PA X e t) (h : ∀ σ H Q, t' σ H Q → t σ H Q) : PA X e t' := ⟨fun pos pins s σ H Q I hq => p.run pos pins s σ H Q I (h σ H Q hq)⟩
theorem PSimp {X : Cx} {e : Stmt} {t t' : TS} (p : PS X e t) (h : ∀ D σ H, t' D σ H → t D σ H) : PS X e t' := ⟨fun pins s σ H D I hq => p.run pins s σ H D I (h D σ H hq)⟩
theorem PSsimp {X : Cx} {e : List Stmt} {t t' : TS} (p : PSs X e t) (h : ∀ D σ H, t' D σ H → t D σ H) : PSs X e t' := ⟨fun pins s σ H D I hq => p.run pins s σ H D I (h D σ H hq)⟩

section
variable {X : Cx} {L : Lo} {tb : Tab} {o : Orc} {k : Nat} {pos : Pos} {a b c : Expr} {ca cb cc : E} {W : WX}

/-! ### names -/
theorem var_run {i : Nat} {σ : St} {H : Hp} {Q : V → Hp → Prop} (h : tG L W (Rep L) (evE tb o (.var i)) σ H Q) : tVar i σ H Q := by
  obtain ⟨Z, S, e, r, k, re, h, g⟩ := h
  simp only [evE] at h
  cases q : e.at i with
  | none => rw [q] at h; cases h
  | some d =>
    rw [q] at h
    obtain ⟨v, S1, S2, ev, h1, h2, dj, rv, re'⟩ := re.at q
    refine ⟨v, ev, ?_⟩
    by_cases c : d.fz = true
    · simp only [c, if_true, Option.some.injEq] at h
      subst h
      exact g v H Z S NoAS (Step.refl fun b z => z.elim id (fun z => z.elim)) k.noOr (fun _ _ z => z) re (rep_fz c rv)
    · simp only [c, if_false] at h
      cases h
      have k2 : Ok (OrS Z S1) (OrS S2 NoAS) H := by
        refine ⟨fun b hb z => ?_, fun b hb => k.own b (h2 b (hb.elim id fun z => z.elim)), fun b z => z.elim (k.zd b) fun z => k.sd (h1 b z)⟩
        have hb2 : S2 b := hb.elim id fun z => z.elim
        exact z.elim (k.dj b (h2 b hb2)) fun z => dj b z hb2
      refine g v H (OrS Z S1) S2 NoAS ⟨fun b z => .inl z, fun b z => z.elim .inl fun z => .inr (.inl (h1 b z)), fun b z => .inl (h2 b (z.elim id fun z => z.elim)), fr_refl, fun _ z => z⟩ k2 (fun _ _ z => z) ?_ (rep_frz (fun b z => .inr z) (fun b z => .inl z) rv)
      exact (re'.z fun b z => .inl z).put ev (rep_frz (fun b z => .inr z) (fun b z => .inl z) rv) (fun _ z => z.elim) (fun _ z => z) fun _ z => z.elim
theorem ce_var (i : Nat) {x : Str} (hN : X.N[i]? = some x := by rfl) (hv : Vis X.env.scope x := by first | exact Or.inl rfl | exact Or.inr (Or.inl rfl) | exact Or.inr (Or.inr rfl)) (hd : (x == ("__debug__" : Str)) = false := by decide)
    (hcd : (x == ("__classdict__" : Str)) = false := by decide) : PEs X L tb o (.Name x pos) (.var i) :=
  ⟨fun W tk => PEimp (pv i hN hv hd hcd) fun σ H Q h => var_run h⟩
theorem ce_mv (i : Nat) {x : Str} (hN : X.N[i]? = some x := by rfl) (hv : Vis X.env.scope x := by first | exact Or.inl rfl | exact Or.inr (Or.inl rfl) | exact Or.inr (Or.inr rfl)) (hd : (x == ("__debug__" : Str)) = false := by decide)
    (hcd : (x == ("__classdict__" : Str)) = false := by decide) : PEs X L tb o (.Name x pos) (.mv i) :=
  ⟨fun W tk => PEimp (pv i hN hv hd hcd) fun σ H Q h => by
    obtain ⟨Z, S, e, r, k, re, h, g⟩ := h
    simp only [evE] at h
    cases q : e.at i with
    | none => rw [q] at h; cases h
    | some d =>
      rw [q] at h
      obtain ⟨v, S1, S2, ev, h1, h2, dj, rv, re'⟩ := re.at q
      refine ⟨v, ev, ?_⟩
      cases h
      have hs : ∀ b, OrS S2 S1 b → S b := fun b z => z.elim (h2 b) (h1 b)
      exact g v H Z S2 S1 (Step.refl hs) (k.mono hs) (fun b z y => dj b y z) re' rv⟩

/-! ### constants -/
theorem const_run {c : E} {d : D} {v : V} (hc : ∀ e, evE tb o c e = some (.val d e)) (hr : ∀ Z H, Rep L Z H v d NoAS) {σ : St} {H : Hp} {Q : V → Hp → Prop} (h : tG L W (Rep L) (evE tb o c) σ H Q) : Q v H := by
  obtain ⟨e, m⟩ := h.mid
  rw [hc] at m
  exact m.fin fun Z S _ _ => rep_mono (fun _ z => z.elim) (hr Z H)
theorem ce_int {i : Int} {j pos} : PEs X L tb o (.Constant (.int i) j pos) (.int i) := ⟨fun W tk => PEimp pe_int fun σ H Q h => const_run (fun e => by rw [evE]) (fun Z H => by rw [Rep]) h⟩
theorem ce_bl {i : Bool} {j pos} : PEs X L tb o (.Constant (.bool i) j pos) (.bl i) := ⟨fun W tk => PEimp pe_bl fun σ H Q h => const_run (fun e => by rw [evE]) (fun Z H => by rw [Rep]) h⟩
theorem ce_non {j pos} : PEs X L tb o (.Constant .none j pos) .non := ⟨fun W tk => PEimp pe_non fun σ H Q h => const_run (fun e => by rw [evE]) (fun Z H => by rw [Rep]) h⟩
theorem ce_str {x : Str} {j pos} : PEs X L tb o (.Constant (.str x) j pos) (.str x) := ⟨fun W tk => PEimp pe_str fun σ H Q h => const_run (fun e => by rw [evE]) (fun Z H => by rw [Rep]) h⟩

/-! ### a view -/
theorem viewEnv_rep {Z Z' : AS} {H : Hp} {σ : St} {e : Env} {S : AS} {is : List Nat} (re : RepE L Z H σ e S) (hs : ∀ b, S b → Z' b) (zz : ∀ b, Z b → Z' b) : RepE L Z' H σ (viewEnv is 0 e) NoAS := by
  have len : ∀ (e : Env) k, (viewEnv is k e).length = e.length := by
    intro e
    induction e with
    | nil => intro k; rfl
    | cons x xs ih => intro k; simp only [viewEnv, List.length_cons, ih]
  have get : ∀ (e : Env) k (i : Nat) d, (viewEnv is k e)[i]? = some (some d) → ∃ d', e[i]? = some (some d') ∧ d = d'.frz := by
    intro e
    induction e with
    | nil => intro k i d h; simp [viewEnv] at h
    | cons x xs ih =>
      intro k i d h
      cases i with
      | zero =>
        simp only [viewEnv, List.getElem?_cons_zero, Option.some.injEq] at h
        split at h
        · cases x with
          | none => cases h
          | some d' =>
            simp only [Option.map_some, Option.some.injEq] at h
            exact ⟨d', rfl, h.symm⟩
        · cases h
      | succ i =>
        simp only [viewEnv, List.getElem?_cons_succ] at h ⊢
        exact ih (k + 1) i d h
  obtain ⟨F, f1, f2, f3⟩ := re.ex
  refine ⟨by rw [len]; exact re.len, fun _ => NoAS, fun _ _ z => z, fun _ _ _ _ z => z.elim, fun i d hd => ?_⟩
  obtain ⟨d', hd', rfl⟩ := get e 0 i d hd
  obtain ⟨v, ev, r⟩ := f3 i d' hd'
  exact ⟨v, ev, rep_frz (fun b z => hs b (f1 i b z)) zz r⟩
theorem view_run {is : List Nat} {ev : Env → R D} {σ : St} {H : Hp} {Q : V → Hp → Prop} (h : tG L W (Rep L) (fun e => viewOut (ev (viewEnv is 0 e)) e) σ H Q) : tG L W (Rep L) ev σ H Q := by
  obtain ⟨Z, S, e, r, k, re, h, g⟩ := h
  dsimp only at h
  have re' : RepE L (OrS Z S) H σ (viewEnv is 0 e) NoAS := viewEnv_rep re (fun b z => .inr z) fun b z => .inl z
  have k0 : Ok (OrS Z S) NoAS H := ⟨fun _ z => z.elim, fun _ z => z.elim, fun b z => z.elim (k.zd b) fun z => k.sd z⟩
  cases q : ev (viewEnv is 0 e) with
  | none => rw [q] at h; cases h
  | some r1 =>
    rw [q] at h
    cases r1 with
    | exc x e1 => cases h
    | val d e1 =>
      simp only [viewOut] at h
      by_cases n : d.nf = true
      · rw [if_pos n] at h
        cases h
        refine ⟨OrS Z S, NoAS, viewEnv is 0 e, _, k0, re', q, ?_⟩
        intro v H' Z' S1 S2 a k' dj re1 rv
        have s2n : ∀ b, S2 b → H b = none := fun b z => (a.ss b (.inr z)).elim (fun z => z.elim) id
        have sz : ∀ b, S b → ¬ S2 b := fun b z y => k.sd z (s2n b y)
        have fr0 : Fr NoAS H H' := fun b o e n => a.fr b o e n
        have own' : Own S H' := fun b hb => by
          have := k.own b hb
          cases e : H b with
          | none => exact absurd e (k.sd hb)
          | some o => rw [fr0 b o e fun z => z]; rw [← e]; exact this
        refine g v H' Z S S2 ⟨fun _ z => z, fun b z => .inl z, fun b z => z.elim .inl fun z => .inr (s2n b z), fun b o e _ => fr0 b o e fun z => z, a.nn⟩ ⟨fun b hb z => ?_, fun b hb => hb.elim (own' b) fun z => k'.own b (.inr z), fun b z y => k.zd b z (a.nn b y)⟩ sz
          (re.fr fr0 (fun _ z => z.elim) (fun _ _ z => z) (fun _ z => z) fun _ _ z => z) (rep_nf n rv)
        rcases hb with hb | hb
        · exact k.dj b hb z
        · exact k.zd b z (s2n b hb)
      · rw [if_neg n] at h; cases h
theorem ce_view {is : List Nat} (ha : PEs X L tb o a ca) : PEs X L tb o a (.view is ca) :=
  ⟨fun W tk => PEimp (ha.run W tk) fun σ H Q h => view_run (is := is) (ev := evE tb o ca) (by
    rw [show evE tb o (.view is ca) = (fun e => viewOut (evE tb o ca (viewEnv is 0 e)) e) from by funext e; rw [evE]] at h
    exact h)⟩
theorem ct_view {is : List Nat} {ca : C} (ha : PTs' X L tb o a ca) : PTs' X L tb o a (.view is ca) :=
  ⟨fun W tk => PTimp (ha.run W tk) fun σ H Q h => by
    obtain ⟨Z, S, e, r, k, re, h, g⟩ := h
    simp only [evT] at h
    have re' : RepE L (OrS Z S) H σ (viewEnv is 0 e) NoAS := viewEnv_rep re (fun b z => .inr z) fun b z => .inl z
    have k0 : Ok (OrS Z S) NoAS H := ⟨fun _ z => z.elim, fun _ z => z.elim, fun b z => z.elim (k.zd b) fun z => k.sd z⟩
    cases q : evT tb o ca (viewEnv is 0 e) with
    | none => rw [q] at h; cases h
    | some r1 =>
      rw [q] at h
      cases r1 with
      | exc x e1 => cases h
      | val d e1 =>
        cases h
        refine ⟨OrS Z S, NoAS, viewEnv is 0 e, _, k0, re', q, ?_⟩
        intro v H' Z' S1 S2 a k' dj re1 rv
        have fr0 : Fr NoAS H H' := fun b o e n => a.fr b o e n
        have own' : Own S H' := fun b hb => by
          have := k.own b hb
          cases e : H b with
          | none => exact absurd e (k.sd hb)
          | some o => rw [fr0 b o e fun z => z]; rw [← e]; exact this
        refine g v H' Z S NoAS ⟨fun _ z => z, fun b z => .inl z, fun b z => .inl (z.elim id fun z => z.elim), fun b o e _ => fr0 b o e fun z => z, a.nn⟩ ⟨fun b hb z => k.dj b (hb.elim id fun z => z.elim) z, fun b hb => own' b (hb.elim id fun z => z.elim), fun b z y => k.zd b z (a.nn b y)⟩ (fun _ _ z => z)
          (re.fr fr0 (fun _ z => z.elim) (fun _ _ z => z) (fun _ z => z) fun _ _ z => z) rv⟩

/-! ### lists of expressions, displays -/
theorem ca_nil : PAs X L tb o [] .n := ⟨fun W tk => PAimp pa_nil fun σ H Q h => by
  obtain ⟨e, m⟩ := h.mid
  simp only [evEs] at m
  exact m.fin fun Z S _ _ => reps_nil⟩
theorem ca_cons {es : List Expr} {cs : Es} (ha : PEs X L tb o a ca) (hr : PAs X L tb o es cs) (hs : starEach (a :: es) X.env = (false, eval a X.env) :: starEach es X.env := by rfl) : PAs X L tb o (a :: es) (.c ca cs) :=
  ⟨fun W tk => PAimp (pa_cons (ha.run W tk) (hr.run W tk) hs) fun σ H Q h => by
    obtain ⟨e, m⟩ := h.mid
    simp only [evEs] at m
    refine m.one.imp fun v H1 ⟨d, e1, m1⟩ => ?_
    refine m1.many.imp fun vs H2 ⟨ds, e2, hl, m2⟩ => ?_
    exact m2.fin fun Z S _ r => r⟩

theorem ce_tup {es : List Expr} {cs : Es} {x1} (h : PAs X L tb o es cs) : PEs X L tb o (.Tuple es x1 pos) (.tup cs) :=
  ⟨fun W tk => PEimp (pe_tup (h.run W tk)) fun σ H Q h => by
    obtain ⟨e, m⟩ := h.mid
    simp only [evE] at m
    refine m.many.imp fun vs H1 ⟨ds, e1, hl, m1⟩ => ?_
    by_cases c : ds.length ≤ sizeLine
    · rw [if_pos c] at m1
      refine ⟨by rw [hl]; exact c, fun p hp => m1.newT hp fun Z S k r => ?_⟩
      simp only [Rep]
      exact ⟨p, vs, rfl, ⟨rfl, .inl (.inl upd_same)⟩, fun z => (by cases z), reps_mono (fun b z => ⟨z, fun y => (by cases y)⟩) r⟩
    · rw [if_neg c] at m1
      exact m1.none.elim⟩
theorem ce_lst {es : List Expr} {cs : Es} (h : PAs X L tb o es cs) : PEs X L tb o (.List es pos) (.lst cs) :=
  ⟨fun W tk => PEimp (pe_lst (h.run W tk)) fun σ H Q h => by
    obtain ⟨e, m⟩ := h.mid
    simp only [evE] at m
    refine m.many.imp fun vs H1 ⟨ds, e1, hl, m1⟩ => ?_
    by_cases c : ds.length ≤ sizeLine
    · rw [if_pos c] at m1
      refine ⟨by rw [hl]; exact c, fun p hp => m1.new hp trivial fun Z S k r np => ?_⟩
      simp only [Rep]
      exact ⟨p, vs, rfl, ⟨upd_same, fun z => (by cases z)⟩, fun _ => .inr rfl, reps_mono (fun b z => ⟨.inl z, fun _ => np b z⟩) r⟩
    · rw [if_neg c] at m1
      exact m1.none.elim⟩

/-! ### operators -/
theorem rep_int {Z S : AS} {H : Hp} {v : V} {i : Int} (h : Rep L Z H v (.int i) S) : v = .int i := by simpa only [Rep] using h
theorem rep_str {Z S : AS} {H : Hp} {v : V} {i : Str} (h : Rep L Z H v (.str i) S) : v = .str i := by simpa only [Rep] using h
theorem rep_bl {Z S : AS} {H : Hp} {v : V} {i : Bool} (h : Rep L Z H v (.bl i) S) : v = .bl i := by simpa only [Rep] using h
theorem rep_non {Z S : AS} {H : Hp} {v : V} (h : Rep L Z H v .non S) : v = .non := by simpa only [Rep] using h
theorem Mid.reps {σ : St} {γ β' : Type} {rep' : AS → Hp → β' → γ → AS → Prop} {H : Hp} {e : Env} {Q : β' → Hp → Prop} {vs : List V} {ds : List D} {r : R γ} (m : Mid L W σ H e vs ds rep' Q r) : ∃ Z S, Ok Z S H ∧ Reps L Z H vs ds S := by
  obtain ⟨Z, S1, S2, k, dj, re, rs, r', h, g⟩ := m
  exact ⟨Z, S2, k.mono fun b z => .inr z, rs⟩
theorem reps1 {Z S : AS} {H : Hp} {vs : List V} {d : D} (h : Reps L Z H vs [d] S) : ∃ v, vs = [v] ∧ Rep L Z H v d S := by
  simp only [Reps] at h
  obtain ⟨v, ws, S1, S2, e, h1, h2, dj, r, e2⟩ := h
  subst e2
  exact ⟨v, e, rep_mono h1 r⟩
theorem reps2 {Z S : AS} {H : Hp} {v1 v2 : V} {d1 d2 : D} (h : Reps L Z H [v1, v2] [d1, d2] S) : ∃ S1 S2 : AS, (∀ b, S1 b → S b) ∧ (∀ b, S2 b → S b) ∧ (∀ b, S1 b → ¬ S2 b) ∧ Rep L Z H v1 d1 S1 ∧ Rep L Z H v2 d2 S2 := by
  simp only [Reps] at h
  obtain ⟨v, ws, S1, S2, e, h1, h2, dj, r, v', ws', T1, T2, e', t1, t2, tj, r', e2⟩ := h
  cases e
  cases e'
  exact ⟨S1, T1, h1, fun b z => h2 b (t1 b z), fun b z y => dj b z (t1 b y), r, r'⟩
theorem shape_tup {Z S : AS} {H : Hp} {v : V} {ow : Bool} {xs : List D} (h : Rep L Z H v (.nd .tup ow xs) S) : ∃ a vs, v = .ref a ∧ ow = false ∧ SqT L.K H a vs ∧ Reps L Z H vs xs S := by
  simp only [Rep, shapeOk] at h
  obtain ⟨a, vs, e, ⟨h1, h2⟩, ho, r⟩ := h
  exact ⟨a, vs, e, h1, h2, reps_mono (fun b z => z.1) r⟩
theorem shape_lst {Z S : AS} {H : Hp} {v : V} {ow : Bool} {xs : List D} (h : Rep L Z H v (.nd .lst ow xs) S) : ∃ a vs, v = .ref a ∧ H a = some (.lst vs) ∧ (ow = true → S a) ∧ Reps L Z H vs xs (fun b => S b ∧ (ow = true → b ≠ a)) := by
  simp only [Rep, shapeOk] at h
  obtain ⟨a, vs, e, ⟨h1, h2⟩, ho, r⟩ := h
  exact ⟨a, vs, e, h1, ho, r⟩
theorem shape_cl {Z S : AS} {H : Hp} {v : V} {ow : Bool} {xs : List D} (h : Rep L Z H v (.nd .cl ow xs) S) : ∃ a vs, v = .ref a ∧ FzL L H a vs ∧ Reps L Z H vs xs S := by
  simp only [Rep, shapeOk] at h
  obtain ⟨a, vs, e, ⟨h1, h2⟩, ho, r⟩ := h
  exact ⟨a, vs, e, h2, reps_mono (fun b z => z.1) r⟩
theorem shape_dk {Z S : AS} {H : Hp} {v : V} {ow : Bool} {ks : List Key} {xs : List D} (h : Rep L Z H v (.nd (.dk ks) ow xs) S) : ∃ a vs, v = .ref a ∧ ks.Nodup ∧ ks.length = vs.length ∧ H a = some (.dK (ks.zip vs)) ∧ (ow = true → S a) ∧ Reps L Z H vs xs (fun b => S b ∧ (ow = true → b ≠ a)) := by
  simp only [Rep, shapeOk] at h
  obtain ⟨a, vs, e, ⟨h0, h1, h2, h3⟩, ho, r⟩ := h
  exact ⟨a, vs, e, h0, h1, h2, ho, r⟩
mutual
theorem rep_py {K : PySem.W.Frag} (hK : K = L.K) {Z : AS} {H : Hp} : ∀ (d : D) {v : V} {S : AS} {p : PyData}, d.py = some p → Rep L Z H v d S → Dp K H v p
  | .non, v, S, p, e, h => by
    simp only [D.py, Option.some.injEq] at e
    rw [rep_non h, ← e]; exact .non
  | .bl b, v, S, p, e, h => by
    simp only [D.py, Option.some.injEq] at e
    rw [rep_bl h, ← e]; exact .bl b
  | .int i, v, S, p, e, h => by
    simp only [D.py, Option.some.injEq] at e
    rw [rep_int h, ← e]; exact .int i
  | .str x, v, S, p, e, h => by
    simp only [D.py, Option.some.injEq] at e
    rw [rep_str h, ← e]; exact .str x
  | .nd .tup ow xs, v, S, p, e, h => by
    simp only [D.py] at e
    cases q : pyL xs with
    | none => rw [q] at e; cases e
    | some ps =>
      rw [q] at e
      simp only [Option.map_some, Option.some.injEq] at e
      obtain ⟨a, vs, rfl, _, h2, r⟩ := shape_tup h
      rw [← e, hK]; exact .tup h2 (by rw [← hK]; exact reps_py hK xs q r)
  | .nd .lst ow xs, v, S, p, e, h => by
    simp only [D.py] at e
    cases q : pyL xs with
    | none => rw [q] at e; cases e
    | some ps =>
      rw [q] at e
      simp only [Option.map_some, Option.some.injEq] at e
      obtain ⟨a, vs, rfl, h2, _, r⟩ := shape_lst h
      rw [← e]; exact .lst (.of h2) (reps_py hK xs q r)
  | .nd .cl ow xs, v, S, p, e, h => by
    simp only [D.py] at e
    cases q : pyL xs with
    | none => rw [q] at e; cases e
    | some ps =>
      rw [q] at e
      simp only [Option.map_some, Option.some.injEq] at e
      obtain ⟨a, vs, rfl, h2, r⟩ := shape_cl h
      rw [← e]; exact .lst (by rw [hK]; exact h2.sq) (reps_py hK xs q r)
  | .nd (.dk _) ow xs, v, S, p, e, h => by simp only [D.py] at e; cases e
  | .nd (.ins _ _) ow xs, v, S, p, e, h => by simp only [D.py] at e; cases e
theorem reps_py {K : PySem.W.Frag} (hK : K = L.K) {Z : AS} {H : Hp} : ∀ (ds : List D) {vs : List V} {S : AS} {ps : List PyData}, pyL ds = some ps → Reps L Z H vs ds S → DpAll K H vs ps
  | [], vs, S, ps, e, h => by
    simp only [pyL, Option.some.injEq] at e
    simp only [Reps] at h
    rw [← e, h]; exact .nil
  | x :: xs, vs, S, ps, e, h => by
    simp only [pyL] at e
    simp only [Reps] at h
    obtain ⟨v, ws, S1, S2, ev, h1, h2, dj, r1, r2⟩ := h
    cases q : x.py with
    | none => rw [q] at e; cases e
    | some p =>
      cases q2 : pyL xs with
      | none => rw [q, q2] at e; cases e
      | some ps' =>
        rw [q, q2] at e
        cases e
        rw [ev]; exact .cons (rep_py hK x q r1) (reps_py hK xs q2 r2)
end
/-- an operator by its rule: two values come, then r is shown -/
theorem bin_run {σ : St} {H : Hp} {Q : V → Hp → Prop} {f : D → D → Option D} {r : R2} (hr : ∀ x y H e d1 d2 d, f d1 d2 = some d → Mid L W σ H e [x, y] [d1, d2] (Rep L) Q (some (.val d e)) → r x y H Q)
    (h : tG L W (Rep L) (fun e => bnd (evE tb o ca e) fun x e => bnd (evE tb o cb e) fun y e => opt (f x y) e) σ H Q) : tOp r (tG L W (Rep L) (evE tb o ca)) (tG L W (Rep L) (evE tb o cb)) σ H Q := by
  obtain ⟨e, m⟩ := h.mid
  refine m.one.imp fun v H1 ⟨d, e1, m1⟩ => ?_
  refine m1.one.imp fun w H2 ⟨d2, e2, m2⟩ => ?_
  obtain ⟨dd, hd, m3⟩ := m2.opt
  exact hr v w H2 e2 d d2 dd hd m3
theorem evE_bin (op : BOp) : evE tb o (.bin op ca cb) = fun e => bnd (evE tb o ca e) fun x e => bnd (evE tb o cb e) fun y e => opt (binD op x y) e := by funext e; rw [evE]
theorem evE_cmp (op : COp) : evE tb o (.cmp op ca cb) = fun e => bnd (evE tb o ca e) fun x e => bnd (evE tb o cb e) fun y e => opt ((cmpD op x y).map .bl) e := by funext e; rw [evE]
theorem ce_sub2 (ha : PEs X L tb o a ca) (hb : PEs X L tb o b cb) : PEs X L tb o (.BinOp a .Sub b pos) (.bin .sub ca cb) :=
  ⟨fun W tk => PEimp (pe_op op_sub (ha.run W tk) (hb.run W tk)) fun σ H Q h => by
    rw [evE_bin] at h
    refine bin_run (fun x y H e d1 d2 d hd m => ?_) h
    obtain ⟨Z, S, k, rs, u⟩ := m.use
    obtain ⟨S1, S2, h1, h2, dj, r1, r2⟩ := reps2 rs
    cases d1 <;> cases d2 <;> simp only [binD, reduceCtorEq, Option.some.injEq] at hd
    subst hd
    exact ⟨_, _, rep_int r1, rep_int r2, u.fin _ (by simp only [Rep])⟩⟩
theorem ce_mod (ha : PEs X L tb o a ca) (hb : PEs X L tb o b cb) : PEs X L tb o (.BinOp a .Mod b pos) (.bin .mod ca cb) :=
  ⟨fun W tk => PEimp (pe_op op_mod (ha.run W tk) (hb.run W tk)) fun σ H Q h => by
    rw [evE_bin] at h
    refine bin_run (fun x y H e d1 d2 d hd m => ?_) h
    obtain ⟨Z, S, k, rs, u⟩ := m.use
    obtain ⟨S1, S2, h1, h2, dj, r1, r2⟩ := reps2 rs
    cases d1 <;> cases d2 <;> simp only [binD, reduceCtorEq] at hd
    split at hd
    · cases hd
      exact ⟨_, _, rep_int r1, rep_int r2, by assumption, u.fin _ (by simp only [Rep])⟩
    · cases hd⟩
theorem ce_fdiv (ha : PEs X L tb o a ca) (hb : PEs X L tb o b cb) : PEs X L tb o (.BinOp a .FloorDiv b pos) (.bin .fdiv ca cb) :=
  ⟨fun W tk => PEimp (pe_op op_fdiv (ha.run W tk) (hb.run W tk)) fun σ H Q h => by
    rw [evE_bin] at h
    refine bin_run (fun x y H e d1 d2 d hd m => ?_) h
    obtain ⟨Z, S, k, rs, u⟩ := m.use
    obtain ⟨S1, S2, h1, h2, dj, r1, r2⟩ := reps2 rs
    cases d1 <;> cases d2 <;> simp only [binD, reduceCtorEq] at hd
    split at hd
    · cases hd
      exact ⟨_, _, rep_int r1, rep_int r2, by assumption, u.fin _ (by simp only [Rep])⟩
    · cases hd⟩
theorem ce_pow (ha : PEs X L tb o a ca) (hb : PEs X L tb o b cb) : PEs X L tb o (.BinOp a .Pow b pos) (.bin .pow ca cb) :=
  ⟨fun W tk => PEimp (pe_op op_pow (ha.run W tk) (hb.run W tk)) fun σ H Q h => by
    rw [evE_bin] at h
    refine bin_run (fun x y H e d1 d2 d hd m => ?_) h
    obtain ⟨Z, S, k, rs, u⟩ := m.use
    obtain ⟨S1, S2, h1, h2, dj, r1, r2⟩ := reps2 rs
    cases d1 <;> cases d2 <;> simp only [binD, reduceCtorEq] at hd
    split at hd
    · cases hd
      exact ⟨_, _, rep_int r1, rep_int r2, by assumption, u.fin _ (by simp only [Rep])⟩
    · cases hd⟩
theorem mulOk_C {i j : Int} (h : mulOk i j = true) : CMul i j := by
  simp only [mulOk, Bool.or_eq_true, Bool.and_eq_true, decide_eq_true_eq] at h
  exact h
theorem ce_mul (ha : PEs X L tb o a ca) (hb : PEs X L tb o b cb) : PEs X L tb o (.BinOp a .Mult b pos) (.bin .mul ca cb) :=
  ⟨fun W tk => PEimp (pe_op (OpR.or op_mul op_rep) (ha.run W tk) (hb.run W tk)) fun σ H Q h => by
    rw [evE_bin] at h
    refine bin_run (fun x y H e d1 d2 d hd m => ?_) h
    obtain ⟨Z, S, k, rs, u⟩ := m.use
    obtain ⟨S1, S2, h1, h2, dj, r1, r2⟩ := reps2 rs
    cases d1 with
    | int i =>
      cases d2 <;> simp only [binD, reduceCtorEq] at hd
      split at hd
      · cases hd
        exact .inl ⟨_, _, rep_int r1, rep_int r2, mulOk_C (by assumption), u.fin _ (by simp only [Rep])⟩
      · cases hd
    | nd kd ow xs =>
      cases kd <;> cases d2 <;> simp only [binD, reduceCtorEq] at hd
      rename_i i
      split at hd
      · rename_i c
        cases hd
        obtain ⟨l, vs, rfl, hl, _, rr⟩ := shape_lst r1
        rw [rep_int r2] at m ⊢
        exact .inr ⟨l, i, vs, rfl, rfl, hl, c.2.1, c.2.2.1, by rw [rr.length]; exact c.2.2.2, fun p hp => u.newL _ _ p rfl hp (reps_mono (fun b z => h1 b z.1) (reps_rep c.1 rr i.toNat))⟩
      · cases hd
    | _ => simp only [binD, reduceCtorEq] at hd⟩

theorem rep_tup {Z S : AS} {H : Hp} {v : V} {ow : Bool} {xs : List D} (h : Rep L Z H v (.nd .tup ow xs) S) : Rep L Z H v (.nd .tup false xs) S := by
  obtain ⟨a, vs, e, h1, h2, r⟩ := shape_tup h
  subst h1
  exact h
theorem ce_add [Lay X L tb o k] (ha : PEs X L tb o a ca) (hb : PEs X L tb o b cb) : PEs X L tb o (.BinOp a .Add b pos) (.bin .add ca cb) :=
  ⟨fun W tk => PEimp (pe_op (OpR.or op_add (OpR.or op_add_str (OpR.or op_cat op_catA))) (ha.run W tk) (hb.run W tk)) fun σ H Q h => by
    rw [evE_bin] at h
    refine bin_run (fun x y H e d1 d2 d hd m => ?_) h
    obtain ⟨Z, S, k', rs, u⟩ := m.use
    obtain ⟨S1, S2, h1, h2, dj, r1, r2⟩ := reps2 rs
    cases d1 with
    | int i =>
      cases d2 <;> simp only [binD, reduceCtorEq, Option.some.injEq] at hd
      subst hd
      exact .inl ⟨_, _, rep_int r1, rep_int r2, u.fin _ (by simp only [Rep])⟩
    | str i =>
      cases d2 <;> simp only [binD, reduceCtorEq] at hd
      split at hd
      · cases hd
        exact .inr (.inl ⟨_, _, rep_str r1, rep_str r2, by assumption, u.fin _ (by simp only [Rep])⟩)
      · cases hd
    | nd kd ow xs =>
      cases kd with
      | lst =>
        cases d2 with
        | nd kd2 ow2 ys =>
          cases kd2 <;> simp only [binD, reduceCtorEq] at hd
          split at hd
          · rename_i c
            cases hd
            obtain ⟨l, vs, rfl, hl, _, rr⟩ := shape_lst r1
            obtain ⟨l2, vs2, rfl, hl2, _, rr2⟩ := shape_lst r2
            exact .inr (.inr (.inl ⟨l, l2, vs, vs2, rfl, rfl, hl, hl2, by rw [rr.length, rr2.length]; exact c, fun p hp => u.newL _ _ p rfl hp (reps_append (fun b z => h1 b z.1) (fun b z => h2 b z.1) (fun b z y => dj b z.1 y.1) rr rr2)⟩))
          · cases hd
        | _ => simp only [binD, reduceCtorEq] at hd
      | tup =>
        cases d2 with
        | nd kd2 ow2 ys =>
          cases kd2 <;> simp only [binD, reduceCtorEq] at hd
          split at hd
          · rename_i c
            cases hd
            obtain ⟨l, vs, rfl, _, hl, rr⟩ := shape_tup r1
            obtain ⟨l2, vs2, rfl, _, hl2, rr2⟩ := shape_tup r2
            rw [← Lay.K (X := X) (L := L) (tb := tb) (o := o) (k := k)] at hl hl2
            have both := reps_append h1 h2 dj rr rr2
            refine .inr (.inr (.inr ⟨l, l2, vs, vs2, rfl, rfl, hl, hl2, by rw [rr.length, rr2.length]; exact c, fun e1 => u.fin _ ?_, fun e1 e2 => u.fin _ ?_, fun e1 e2 p hp => u.newU _ _ p rfl hp both⟩))
            · have : xs = [] := by
                cases xs with
                | nil => rfl
                | cons _ _ => rw [e1] at rr; have := rr.length; simp at this
              subst this
              exact rep_mono h2 (by simpa using (rep_tup r2))
            · have : ys = [] := by
                cases ys with
                | nil => rfl
                | cons _ _ => rw [e2] at rr2; have := rr2.length; simp at this
              subst this
              exact rep_mono h1 (by simpa using (rep_tup r1))
          · cases hd
        | _ => simp only [binD, reduceCtorEq] at hd
      | _ => cases d2 <;> simp only [binD, reduceCtorEq] at hd
    | _ => cases d2 <;> simp only [binD, reduceCtorEq] at hd⟩

/-! ### dicts: what is found -/
theorem look_zip : ∀ {ks : List Key} {xs : List D} {vs : List V} {Z S : AS} {H : Hp} (k : Key), ks.length = vs.length → Reps L Z H vs xs S → (valV (ks.zip vs) k).isSome = hasK ks k ∧ ∀ d, lookD ks xs k = some d → ∃ (j : Nat) (v : V), ks[j]? = some k ∧ xs[j]? = some d ∧ vs[j]? = some v ∧ valV (ks.zip vs) k = some v
  | [], xs, vs, Z, S, H, k, hl, h => by
    refine ⟨by simp [valV, hasK], fun d e => ?_⟩
    simp [lookD] at e
  | k' :: ks, [], vs, Z, S, H, k, hl, h => by
    simp only [Reps] at h
    subst h
    simp at hl
  | k' :: ks, x :: xs, vs, Z, S, H, k, hl, h => by
    simp only [Reps] at h
    obtain ⟨v, ws, S1, S2, e, h1, h2, dj, r1, r2⟩ := h
    subst e
    have hl' : ks.length = ws.length := by simpa using hl
    obtain ⟨i1, i2⟩ := look_zip k hl' r2
    by_cases c : k' = k
    · rw [List.zip_cons_cons, valV_pos c]
      refine ⟨by simp [hasK, c], fun d e => ?_⟩
      simp only [lookD, if_pos c, Option.some.injEq] at e
      subst e
      exact ⟨0, v, by simp [c], rfl, rfl, rfl⟩
    · rw [List.zip_cons_cons, valV_neg c]
      refine ⟨by rw [i1]; simp [hasK, c], fun d e => ?_⟩
      simp only [lookD, if_neg c] at e
      obtain ⟨j, v', e1, e2, e3, e4⟩ := i2 d e
      exact ⟨j + 1, v', by simpa using e1, by simpa using e2, by simpa using e3, e4⟩
theorem look_none : ∀ {ks : List Key} {xs : List D} {k : Key}, ks.length = xs.length → lookD ks xs k = none → hasK ks k = false
  | [], xs, k, _, _ => by simp [hasK]
  | k' :: ks, [], k, hl, h => by simp at hl
  | k' :: ks, x :: xs, k, hl, h => by
    simp only [lookD] at h
    by_cases c : k' = k
    · rw [if_pos c] at h; cases h
    · rw [if_neg c] at h
      have := look_none (ks := ks) (by simpa using hl) h
      simp only [hasK, List.any_cons] at this ⊢
      rw [this]
      simp [c]
theorem key_kV {Z S : AS} {H : Hp} {v : V} {d : D} {k : Key} (h : Rep L Z H v d S) (e : d.key = some k) : v = kV k := by
  cases d <;> simp only [D.key, reduceCtorEq, Option.some.injEq] at e
  · subst e; rw [rep_int h]; rfl
  · subst e; rw [rep_str h]; rfl

/-! ### comparisons -/
/-- a comparison's rule, and that it answers as the small language does -/
structure CmpR (X : Cx) (L : Lo) (aop : CmpOp) (op : COp) (r : R2) : Prop where
  rule : OpR X (compareOp aop) r
  ok : ∀ Z H x y d1 d2 c S1 S2, cmpD op d1 d2 = some c → Rep L Z H x d1 S1 → Rep L Z H y d2 S2 → ∀ Q : VK, Q (.bl c) H → r x y H Q
theorem cmp_lt : CmpR X L .Lt .lt (rI0 fun i j => .bl (decide (i < j))) := ⟨op_lt, fun Z H x y d1 d2 c S1 S2 h r1 r2 Q q => by
  cases d1 <;> cases d2 <;> simp only [cmpD, reduceCtorEq, Option.some.injEq] at h
  subst h
  exact ⟨_, _, rep_int r1, rep_int r2, q⟩⟩
theorem cmp_le : CmpR X L .LtE .le (rI0 fun i j => .bl (decide (i ≤ j))) := ⟨op_le, fun Z H x y d1 d2 c S1 S2 h r1 r2 Q q => by
  cases d1 <;> cases d2 <;> simp only [cmpD, reduceCtorEq, Option.some.injEq] at h
  subst h
  exact ⟨_, _, rep_int r1, rep_int r2, q⟩⟩
theorem cmp_gt : CmpR X L .Gt .gt (rI0 fun i j => .bl (decide (j < i))) := ⟨op_gt, fun Z H x y d1 d2 c S1 S2 h r1 r2 Q q => by
  cases d1 <;> cases d2 <;> simp only [cmpD, reduceCtorEq, Option.some.injEq] at h
  subst h
  exact ⟨_, _, rep_int r1, rep_int r2, q⟩⟩
theorem cmp_ge : CmpR X L .GtE .ge (rI0 fun i j => .bl (decide (j ≤ i))) := ⟨op_ge, fun Z H x y d1 d2 c S1 S2 h r1 r2 Q q => by
  cases d1 <;> cases d2 <;> simp only [cmpD, reduceCtorEq, Option.some.injEq] at h
  subst h
  exact ⟨_, _, rep_int r1, rep_int r2, q⟩⟩
theorem eqD_some {a b : D} {c : Bool} (h : eqD a b = some c) : ∃ x y, a.py = some x ∧ b.py = some y ∧ SeqAt.shaped x = true ∧ SeqAt.shaped y = true ∧ c = PyData.eqv x y := by
  unfold eqD at h
  cases q : a.py with
  | none => rw [q] at h; cases h
  | some x =>
    cases q2 : b.py with
    | none => rw [q, q2] at h; cases h
    | some y =>
      rw [q, q2] at h
      dsimp only at h
      split at h
      · rename_i z
        cases h
        exact ⟨x, y, rfl, rfl, z.1, z.2, rfl⟩
      · cases h
theorem cmp_eq [Lay X L tb o k] : CmpR X L .Eq .eq (rEqD X.K) := ⟨op_eqD (Lay.room (X := X) (L := L) (tb := tb) (o := o) (k := k)).units, fun Z H x y d1 d2 c S1 S2 h r1 r2 Q q => by
  have h : eqD d1 d2 = some c := by simpa only [cmpD] using h
  obtain ⟨p1, p2, e1, e2, s1, s2, rfl⟩ := eqD_some h
  have hK := Lay.K (X := X) (L := L) (tb := tb) (o := o) (k := k)
  exact ⟨p1, p2, rep_py hK _ e1 r1, rep_py hK _ e2 r2, s1, s2, q⟩⟩
theorem cmp_ne [Lay X L tb o k] : CmpR X L .NotEq .ne (rNeD X.K) := ⟨op_neD (Lay.room (X := X) (L := L) (tb := tb) (o := o) (k := k)).units, fun Z H x y d1 d2 c S1 S2 h r1 r2 Q q => by
  have h : (eqD d1 d2).map (!·) = some c := by simpa only [cmpD] using h
  cases e : eqD d1 d2 with
  | none => rw [e] at h; cases h
  | some c' =>
    rw [e] at h
    cases h
    obtain ⟨p1, p2, e1, e2, s1, s2, rfl⟩ := eqD_some e
    have hK := Lay.K (X := X) (L := L) (tb := tb) (o := o) (k := k)
    exact ⟨p1, p2, rep_py hK _ e1 r1, rep_py hK _ e2 r2, s1, s2, q⟩⟩
theorem rep_nonB {Z S : AS} {H : Hp} {v : V} {d : D} (h : Rep L Z H v d S) : decide (v = .non) = d.isN := by
  cases d with
  | non => rw [rep_non h]; rfl
  | bl b => rw [rep_bl h]; rfl
  | int i => rw [rep_int h]; rfl
  | str i => rw [rep_str h]; rfl
  | nd kd ow xs =>
    simp only [Rep] at h
    obtain ⟨a, vs, e, _⟩ := h
    subst e
    rfl
theorem cmp_isN : CmpR X L .Is .isN (fun x y H Q => y = .non ∧ Q (.bl (decide (x = .non))) H) := ⟨op_isN, fun Z H x y d1 d2 c S1 S2 h r1 r2 Q q => by
  cases d2 <;> (try simp only [cmpD, reduceCtorEq] at h)
  refine ⟨rep_non r2, ?_⟩
  rw [rep_nonB r1]
  simp only [cmpD, Option.some.injEq] at h
  subst h
  exact q⟩
theorem cmp_notN : CmpR X L .IsNot .notN (fun x y H Q => y = .non ∧ Q (.bl (!decide (x = .non))) H) := ⟨op_notN, fun Z H x y d1 d2 c S1 S2 h r1 r2 Q q => by
  cases d2 <;> (try simp only [cmpD, reduceCtorEq] at h)
  refine ⟨rep_non r2, ?_⟩
  rw [rep_nonB r1]
  simp only [cmpD, Option.some.injEq] at h
  subst h
  exact q⟩
theorem op_in_dict (hu : X.A.units + 1 < cLine) : OpR X (compareOp .In) (fun y x H Q => ∃ a r, x = .ref a ∧ DGet H a y r ∧ Q (.bl r.isSome) H) := by
  intro pins s σ H y x v u Q I ry rx h
  obtain ⟨a, r, rfl, g, q⟩ := h
  cases rx
  exact d_in hu I g ry fun s3 I3 => ⟨.bl r.isSome, H, I3, rfl, q⟩
theorem op_notin_dict (hu : X.A.units + 1 < cLine) : OpR X (compareOp .NotIn) (fun y x H Q => ∃ a r, x = .ref a ∧ DGet H a y r ∧ Q (.bl (!r.isSome)) H) := by
  intro pins s σ H y x v u Q I ry rx h
  obtain ⟨a, r, rfl, g, q⟩ := h
  cases rx
  exact d_notIn hu I g ry fun s3 I3 => ⟨.bl (!r.isSome), H, I3, rfl, q⟩
theorem inV_ints (i : Int) (l : List Int) : inV (.int i) (l.map V.int) = l.any fun z => decide (z = i) := by
  unfold inV
  rw [List.any_map]
  refine congrArg (fun f => l.any f) (funext fun z => ?_)
  simp only [Function.comp_apply, eqV]
  by_cases c : z = i <;> simp [c]
theorem flat_ints (l : List Int) : (l.map V.int).all flatV = true := by
  rw [List.all_map]
  exact List.all_eq_true.mpr fun _ _ => rfl
theorem in_cases {K : PySem.W.Frag} (hK : K = L.K) {Z : AS} {H : Hp} {x y : V} {d1 d2 : D} {c : Bool} {S1 S2 : AS} (h : inD d1 d2 = some c) (r1 : Rep L Z H x d1 S1) (r2 : Rep L Z H y d2 S2) :
    (∃ a r, y = .ref a ∧ DGet H a x r ∧ c = r.isSome) ∨ (∃ d ds, Dp K H x d ∧ Dp K H y (.list ds) ∧ SeqAt.shaped d = true ∧ SeqAt.shaped (.list ds) = true ∧ c = ds.any fun z => PyData.eqv z d) ∨ ∃ p xs, y = .ref p ∧ (SqL K H p xs ∨ SqT K H p xs) ∧ flatV x = true ∧ xs.all flatV = true ∧ c = inV x xs := by
  have lists : ∀ {xs : List D} {ow : Bool} {kd : Kd}, (kd = .lst ∨ kd = .cl) → d2 = .nd kd ow xs → inPy d1.py (pyL xs) = some c → ∃ d ds, Dp K H x d ∧ Dp K H y (.list ds) ∧ SeqAt.shaped d = true ∧ SeqAt.shaped (.list ds) = true ∧ c = ds.any fun z => PyData.eqv z d := by
    intro xs ow kd hkd e hh
    subst e
    cases q : d1.py with
    | none => rw [q] at hh; cases hh
    | some p =>
      cases q2 : pyL xs with
      | none => rw [q, q2] at hh; cases hh
      | some ps =>
        rw [q, q2] at hh
        simp only [inPy] at hh
        split at hh
        · rename_i z
          cases hh
          refine ⟨p, ps, rep_py hK _ q r1, ?_, z.1, z.2, rfl⟩
          rcases hkd with rfl | rfl
          · exact rep_py hK (.nd .lst ow xs) (by simp only [D.py, q2, Option.map_some]) r2
          · exact rep_py hK (.nd .cl ow xs) (by simp only [D.py, q2, Option.map_some]) r2
        · cases hh
  cases d2 with
  | nd kd ow xs =>
    cases kd with
    | lst => exact .inr (.inl (lists (.inl rfl) rfl (by simpa only [inD] using h)))
    | cl => exact .inr (.inl (lists (.inr rfl) rfl (by simpa only [inD] using h)))
    | tup =>
      cases d1 <;> simp only [inD, reduceCtorEq] at h
      rename_i i
      cases q : intsD xs with
      | none => rw [q] at h; cases h
      | some l =>
        rw [q] at h
        cases h
        obtain ⟨a, vs, rfl, _, hq, rr⟩ := shape_tup r2
        have ev := reps_ints q rr
        subst ev
        rw [rep_int r1]
        exact .inr (.inr ⟨a, _, rfl, .inr (by rw [hK]; exact hq), rfl, flat_ints l, (inV_ints i l).symm⟩)
    | dk ks =>
      have h : (d1.key.map fun k => hasK ks k) = some c := by cases d1 <;> simpa only [inD] using h
      cases e : d1.key with
      | none => rw [e] at h; cases h
      | some kk =>
        rw [e] at h
        cases h
        obtain ⟨a, vs, rfl, h0, h1, h2, _, rr⟩ := shape_dk r2
        refine .inl ⟨a, valV (ks.zip vs) kk, rfl, ?_, ?_⟩
        · rw [key_kV r1 e]; exact DGet.k h2
        · rw [(look_zip kk h1 rr).1]
    | ins => cases d1 <;> simp only [inD, reduceCtorEq] at h
  | _ => cases d1 <;> simp only [inD, reduceCtorEq] at h
theorem units65 {k : Nat} {A : Around} (h : Room k A) : A.units + 65 < cLine := by
  have := h.un
  omega
def rInAll (K : PySem.W.Frag) : R2 := fun x y H Q => (∃ a r, y = .ref a ∧ DGet H a x r ∧ Q (.bl r.isSome) H) ∨ rInD K x y H Q ∨ rIn K false x y H Q
def rNotInAll (K : PySem.W.Frag) : R2 := fun x y H Q => (∃ a r, y = .ref a ∧ DGet H a x r ∧ Q (.bl (!r.isSome)) H) ∨ rNotInD K x y H Q ∨ rIn K true x y H Q
theorem cmp_in [Lay X L tb o k] : CmpR X L .In .isin (rInAll X.K) := ⟨OpR.or (op_in_dict (hu_of (Lay.room (X := X) (L := L) (tb := tb) (o := o) (k := k)))) (OpR.or (op_inD (units65 (Lay.room (X := X) (L := L) (tb := tb) (o := o) (k := k)))) op_in_seq), fun Z H x y d1 d2 c S1 S2 h r1 r2 Q q => by
  have hK := Lay.K (X := X) (L := L) (tb := tb) (o := o) (k := k)
  rcases in_cases hK (by simpa only [cmpD] using h) r1 r2 with ⟨a, r, e1, e2, e3⟩ | ⟨d, ds, e1, e2, e3, e4, e5⟩ | ⟨p, xs, e1, e2, e3, e4, e5⟩
  · exact .inl ⟨a, r, e1, e2, by rw [← e3]; exact q⟩
  · exact .inr (.inl ⟨d, ds, e1, e2, e3, e4, by rw [← e5]; exact q⟩)
  · exact .inr (.inr ⟨p, xs, e1, e2, e3, e4, by rw [if_neg (by decide), ← e5]; exact q⟩)⟩
theorem cmp_notin [Lay X L tb o k] : CmpR X L .NotIn .notin (rNotInAll X.K) := ⟨OpR.or (op_notin_dict (hu_of (Lay.room (X := X) (L := L) (tb := tb) (o := o) (k := k)))) (OpR.or (op_notInD (units65 (Lay.room (X := X) (L := L) (tb := tb) (o := o) (k := k)))) op_notIn_seq), fun Z H x y d1 d2 c S1 S2 h r1 r2 Q q => by
  have hK := Lay.K (X := X) (L := L) (tb := tb) (o := o) (k := k)
  have h : (inD d1 d2).map (!·) = some c := by simpa only [cmpD] using h
  cases qi : inD d1 d2 with
  | none => rw [qi] at h; cases h
  | some c0 =>
    rw [qi] at h
    cases h
    rcases in_cases hK qi r1 r2 with ⟨a, r, e1, e2, e3⟩ | ⟨d, ds, e1, e2, e3, e4, e5⟩ | ⟨p, xs, e1, e2, e3, e4, e5⟩
    · exact .inl ⟨a, r, e1, e2, by rw [← e3]; exact q⟩
    · exact .inr (.inl ⟨d, ds, e1, e2, e3, e4, by rw [← e5]; exact q⟩)
    · exact .inr (.inr ⟨p, xs, e1, e2, e3, e4, by rw [if_pos rfl, ← e5]; exact q⟩)⟩
theorem ce_cmp {aop : CmpOp} {op : COp} {r : R2} (R : CmpR X L aop op r) (ha : PEs X L tb o a ca) (hb : PEs X L tb o b cb) (hm : behindInMarks aop b = false := by first | exact nomark _ | rfl) : PEs X L tb o (.Compare a [aop] [b] pos) (.cmp op ca cb) :=
  ⟨fun W tk => PEimp (pe_cmpR R.rule (ha.run W tk) (hb.run W tk) hm) fun σ H Q h => by
    rw [evE_cmp] at h
    refine bin_run (f := fun x y => (cmpD op x y).map .bl) (fun x y H e d1 d2 d hd m => ?_) h
    obtain ⟨Z, S, k', rs, u⟩ := m.use
    obtain ⟨S1, S2, h1, h2, dj, r1, r2⟩ := reps2 rs
    cases q : cmpD op d1 d2 with
    | none => rw [q] at hd; cases hd
    | some c =>
      rw [q] at hd
      cases hd
      exact R.ok Z H x y d1 d2 c S1 S2 q r1 r2 Q (u.fin _ (by simp only [Rep]))⟩
theorem ct_cmp {aop : CmpOp} {op : COp} {r : R2} (R : CmpR X L aop op r) (ha : PEs X L tb o a ca) (hb : PEs X L tb o b cb) (hm : behindInMarks aop b = false := by first | exact nomark _ | rfl) : PTs' X L tb o (.Compare a [aop] [b] pos) (.e (.cmp op ca cb)) :=
  ⟨fun W tk => PTimp (pt_cmpR R.rule (ha.run W tk) (hb.run W tk) hm) fun σ H Q h => by
    obtain ⟨e, m⟩ := h.mid
    simp only [evT, evE] at m
    have m : Mid L W σ H e [] [] repB Q (bnd (evE tb o ca e) fun x e => bnd (evE tb o cb e) fun y e => bnd (opt ((cmpD op x y).map D.bl) e) fun x e => opt (truth x) e) := by
      rw [bnd_assoc] at m
      simp only [bnd_assoc] at m
      exact m
    refine m.one.imp fun v H1 ⟨d, e1, m1⟩ => ?_
    refine m1.one.imp fun w H2 ⟨d2, e2, m2⟩ => ?_
    obtain ⟨Z, S, k', rs⟩ := m2.reps
    obtain ⟨S1, S2, h1, h2, dj, r1, r2⟩ := reps2 rs
    cases q : cmpD op d d2 with
    | none => rw [q] at m2; exact m2.none.elim
    | some c =>
      rw [q] at m2
      have m2 : Mid L W σ H2 e2 [v, w] [d, d2] repB Q (some (.val c e2)) := m2
      exact R.ok Z H2 v w d d2 c S1 S2 q r1 r2 _ ⟨c, rfl, m2.fin fun _ _ _ _ => rfl⟩⟩

/-! ### and, or, not, if -/
theorem ce_one {op : BoolOp} {pos' : Pos} (ha : PEs X L tb o a ca) : PEs X L tb o (.BoolOp op [a] pos') ca := ⟨fun W tk => pe_one (ha.run W tk)⟩
theorem ce_and {rest : List Expr} (ha : PEs X L tb o a ca) (hb : PEs X L tb o (.BoolOp .And (b :: rest) pos) cb) : PEs X L tb o (.BoolOp .And (a :: b :: rest) pos) (.and ca cb) :=
  ⟨fun W tk => PEimp (pe_and (ha.run W tk) (hb.run W tk)) fun σ H Q h => by
    obtain ⟨e, m⟩ := h.mid
    simp only [evE] at m
    refine m.one.imp fun v H1 ⟨d, e1, m1⟩ => ?_
    obtain ⟨Z, S, k', rs⟩ := m1.reps
    obtain ⟨v', ev, r1⟩ := reps1 rs
    cases ev
    cases d with
    | bl c =>
      refine ⟨c, rep_bl r1, ?_⟩
      cases c with
      | true => rw [if_pos rfl]; exact m1.tG_of
      | false => rw [if_neg Bool.false_ne_true]; exact m1.fin fun _ _ _ _ => by simp only [Rep]
    | _ => exact m1.none.elim⟩
theorem ce_or {rest : List Expr} (ha : PEs X L tb o a ca) (hb : PEs X L tb o (.BoolOp .Or (b :: rest) pos) cb) : PEs X L tb o (.BoolOp .Or (a :: b :: rest) pos) (.or ca cb) :=
  ⟨fun W tk => PEimp (pe_or (ha.run W tk) (hb.run W tk)) fun σ H Q h => by
    obtain ⟨e, m⟩ := h.mid
    simp only [evE] at m
    refine m.one.imp fun v H1 ⟨d, e1, m1⟩ => ?_
    obtain ⟨Z, S, k', rs⟩ := m1.reps
    obtain ⟨v', ev, r1⟩ := reps1 rs
    cases ev
    cases d with
    | bl c =>
      refine ⟨c, rep_bl r1, ?_⟩
      cases c with
      | false => rw [if_neg Bool.false_ne_true]; exact m1.tG_of
      | true => rw [if_pos rfl]; exact m1.fin fun _ _ _ _ => by simp only [Rep]
    | _ => exact m1.none.elim⟩
theorem ce_not (ha : PEs X L tb o a ca) : PEs X L tb o (.UnaryOp .Not a pos) (.un .not ca) :=
  ⟨fun W tk => PEimp (pe_not (ha.run W tk)) fun σ H Q h => by
    obtain ⟨e, m⟩ := h.mid
    simp only [evE] at m
    refine m.one.imp fun v H1 ⟨d, e1, m1⟩ => ?_
    obtain ⟨d2, hd, m2⟩ := m1.opt
    obtain ⟨Z, S, k', rs⟩ := m1.reps
    obtain ⟨v', ev, r1⟩ := reps1 rs
    cases ev
    cases d <;> simp only [unD, reduceCtorEq, Option.some.injEq] at hd
    subst hd
    exact ⟨_, rep_bl r1, m2.fin fun _ _ _ _ => by simp only [Rep]⟩⟩
theorem ce_neg (ha : PEs X L tb o a ca) : PEs X L tb o (.UnaryOp .USub a pos) (.un .neg ca) :=
  ⟨fun W tk => PEimp (pe_un un_neg (ha.run W tk)) fun σ H Q h => by
    obtain ⟨e, m⟩ := h.mid
    simp only [evE] at m
    refine m.one.imp fun v H1 ⟨d, e1, m1⟩ => ?_
    obtain ⟨d2, hd, m2⟩ := m1.opt
    obtain ⟨Z, S, k', rs⟩ := m1.reps
    obtain ⟨v', ev, r1⟩ := reps1 rs
    cases ev
    cases d <;> simp only [unD, reduceCtorEq, Option.some.injEq] at hd
    subst hd
    exact ⟨_, rep_int r1, m2.fin fun _ _ _ _ => by simp only [Rep]⟩⟩
theorem cw_one {ct : C} {pos' : Pos} (ha : PTs' X L tb o a ct) : PWs X L tb o (.BoolOp .And [a] pos') ct := ⟨fun W tk => pw_and1 (ha.run W tk)⟩
theorem cw_oneO {ct : C} {pos' : Pos} (ha : PTs' X L tb o a ct) : PWs X L tb o (.BoolOp .Or [a] pos') ct := ⟨fun W tk => pw_or1 (ha.run W tk)⟩
theorem cw_and {ct cu : C} {rest : List Expr} (ha : PTs' X L tb o a ct) (hb : PWs X L tb o (.BoolOp .And (b :: rest) pos) cu) : PWs X L tb o (.BoolOp .And (a :: b :: rest) pos) (.and ct cu) :=
  ⟨fun W tk => PWimp (pw_and (ha.run W tk) (hb.run W tk)) fun σ H Q h => by
    obtain ⟨e, m⟩ := h.mid
    simp only [evT] at m
    refine m.tst.imp fun v H1 ⟨e1, m1⟩ => ?_
    cases v with
    | true => rw [if_pos rfl] at m1 ⊢; exact m1.tG_of
    | false => rw [if_neg Bool.false_ne_true] at m1 ⊢; exact m1.fin fun _ _ _ _ => rfl⟩
theorem cw_or {ct cu : C} {rest : List Expr} (ha : PTs' X L tb o a ct) (hb : PWs X L tb o (.BoolOp .Or (b :: rest) pos) cu) : PWs X L tb o (.BoolOp .Or (a :: b :: rest) pos) (.or ct cu) :=
  ⟨fun W tk => PWimp (pw_or (ha.run W tk) (hb.run W tk)) fun σ H Q h => by
    obtain ⟨e, m⟩ := h.mid
    simp only [evT] at m
    refine m.tst.imp fun v H1 ⟨e1, m1⟩ => ?_
    cases v with
    | true => rw [if_pos rfl] at m1 ⊢; exact m1.fin fun _ _ _ _ => rfl
    | false => rw [if_neg Bool.false_ne_true] at m1 ⊢; exact m1.tG_of⟩
theorem ct_w {ct : C} (h : PWs X L tb o a ct) : PTs' X L tb o a ct := ⟨fun W tk => (h.run W tk).pt⟩
theorem ct_not {ct : C} (ha : PTs' X L tb o a ct) : PTs' X L tb o (.UnaryOp .Not a pos) (.not ct) :=
  ⟨fun W tk => PTimp (pt_not (ha.run W tk)) fun σ H Q h => by
    obtain ⟨e, m⟩ := h.mid
    simp only [evT] at m
    exact m.tst.imp fun v H1 ⟨e1, m1⟩ => m1.fin fun _ _ _ _ => rfl⟩
theorem truth_ok {K : PySem.W.Frag} (hK : K = L.K) {Z S : AS} {H : Hp} {v : V} {d : D} {c : Bool} (h : truth d = some c) (r : Rep L Z H v d S) : TruV K v H c := by
  cases d with
  | non => simp only [truth, Option.some.injEq] at h; rw [rep_non r]; exact h.symm
  | bl b => simp only [truth, Option.some.injEq] at h; rw [rep_bl r]; exact h.symm
  | int i => simp only [truth, Option.some.injEq] at h; rw [rep_int r]; exact h.symm
  | str x =>
    simp only [truth] at h
    split at h
    · cases h
      rw [rep_str r]
      refine ⟨by assumption, ?_⟩
      cases e : (x.length == 0) with
      | true =>
        have := beq_iff_eq.mp e
        simp [this]
      | false =>
        have := beq_eq_false_iff_ne.mp e
        have h2 : ((x.length : Int) != 0) = true := by simp; omega
        rw [h2]
        simp [this]
    · cases h
  | nd kd ow xs =>
    cases kd with
    | tup =>
      simp only [truth, Option.some.injEq] at h
      obtain ⟨a, vs, rfl, _, h2, rr⟩ := shape_tup r
      refine .inr (.inl ⟨vs, by rw [hK]; exact h2, ?_⟩)
      rw [← h]
      have := rr.length
      cases vs <;> cases xs <;> first | rfl | (simp at this)
    | lst =>
      simp only [truth, Option.some.injEq] at h
      obtain ⟨a, vs, rfl, h2, _, rr⟩ := shape_lst r
      refine .inl ⟨vs, .of h2, ?_⟩
      rw [← h]
      have := rr.length
      cases vs <;> cases xs <;> first | rfl | (simp at this)
    | cl =>
      simp only [truth, Option.some.injEq] at h
      obtain ⟨a, vs, rfl, h2, rr⟩ := shape_cl r
      refine .inl ⟨vs, by rw [hK]; exact h2.sq, ?_⟩
      rw [← h]
      have := rr.length
      cases vs <;> cases xs <;> first | rfl | (simp at this)
    | dk ks =>
      simp only [truth, Option.some.injEq] at h
      obtain ⟨a, vs, rfl, h0, h1, h2, _, rr⟩ := shape_dk r
      refine .inr (.inr ⟨_, h2, ?_⟩)
      rw [← h]
      cases vs <;> cases ks <;> first | rfl | (simp at h1)
    | ins c ns => simp only [truth] at h; cases h
/-- any value as a test -/
theorem ct_e [Lay X L tb o k] (ha : PEs X L tb o a ca) (he : ∀ whole, isTrue a X.env whole = (do let v ← whole; standAt a.pos; holding [v] (truthy v)) := by intro _; rfl) : PTs' X L tb o a (.e ca) :=
  ⟨fun W tk => PTimp (pt_truth (ha.run W tk) he) fun σ H Q h => by
    obtain ⟨e, m⟩ := h.mid
    simp only [evT] at m
    refine m.one.imp fun v H1 ⟨d, e1, m1⟩ => ?_
    obtain ⟨c, hc, m2⟩ := m1.opt
    obtain ⟨Z, S, k', rs⟩ := m1.reps
    obtain ⟨v', ev, r1⟩ := reps1 rs
    cases ev
    exact ⟨c, truth_ok (Lay.K (X := X) (L := L) (tb := tb) (o := o) (k := k)) hc r1, m2.fin fun _ _ _ _ => rfl⟩⟩
theorem ce_ife {ct : C} (ht : PTs' X L tb o c ct) (ha : PEs X L tb o a ca) (hb : PEs X L tb o b cb) : PEs X L tb o (.IfExp c a b pos) (.ife ct ca cb) :=
  ⟨fun W tk => PEimp (pe_ifExp (ht.run W tk) (ha.run W tk) (hb.run W tk)) fun σ H Q h => by
    obtain ⟨e, m⟩ := h.mid
    simp only [evE] at m
    refine m.tst.imp fun v H1 ⟨e1, m1⟩ => ?_
    cases v with
    | true => rw [if_pos rfl] at m1 ⊢; exact m1.tG_of
    | false => rw [if_neg Bool.false_ne_true] at m1 ⊢; exact m1.tG_of⟩
theorem ce_chain {aop aop' : CmpOp} {op op' : COp} {r r' : R2} (R : CmpR X L aop op r) (R' : CmpR X L aop' op' r') (ha : PEs X L tb o a ca) (hb : PEs X L tb o b cb) (hc : PEs X L tb o c cc) (hm : lastMarks [aop, aop'] [b, c] = false := by with_unfolding_all rfl) :
    PEs X L tb o (.Compare a [aop, aop'] [b, c] pos) (.chain op op' ca cb cc) :=
  ⟨fun W tk => PEimp (pe_chain R.rule R'.rule (ha.run W tk) (hb.run W tk) (hc.run W tk) hm) fun σ H Q h => by
    obtain ⟨e, m⟩ := h.mid
    simp only [evE] at m
    refine m.one.imp fun v H1 ⟨d, e1, m1⟩ => ?_
    refine m1.one.imp fun w H2 ⟨d2, e2, m2⟩ => ?_
    obtain ⟨Z, S, k', rs⟩ := m2.reps
    obtain ⟨S1, S2, h1, h2, dj, r1, r2⟩ := reps2 rs
    cases q : cmpD op d d2 with
    | none => rw [q] at m2; exact m2.none.elim
    | some c1 =>
      rw [q] at m2
      refine R.ok Z H2 v w d d2 c1 S1 S2 q r1 r2 _ ⟨c1, rfl, ?_⟩
      cases c1 with
      | false => rw [if_neg Bool.false_ne_true]; exact m2.fin fun _ _ _ _ => by simp only [Rep]
      | true =>
        rw [if_pos rfl]
        refine m2.one.imp fun z H3 ⟨d3, e3, m3⟩ => ?_
        obtain ⟨dd, hd, m4⟩ := m3.opt
        obtain ⟨Z, S, k', rs, u⟩ := m4.use
        obtain ⟨v', T1, T2, ev, h1, h2, dj, r1, _⟩ := reps_at (j := 1) rs rfl
        obtain ⟨v2', T12, T22, ev2, h12, h22, dj2, r12, _⟩ := reps_at (j := 2) rs rfl
        cases ev
        cases ev2
        cases q2 : cmpD op' d2 d3 with
        | none => rw [q2] at hd; cases hd
        | some c2 =>
          rw [q2] at hd
          cases hd
          exact R'.ok Z H3 w z d2 d3 c2 T1 T12 q2 r1 r12 Q (u.fin _ (by simp only [Rep]))⟩

/-! ### parts -/
theorem reps_atI {ds : List D} {vs : List V} {Z S : AS} {H : Hp} {i : Int} {d : D} (h : Reps L Z H vs ds S) (e : atI ds i = some d) : ∃ v, atI vs i = some v ∧ Rep L Z H v d S := by
  unfold atI at e ⊢
  rw [h.length]
  cases q : ixN ds.length i with
  | none => rw [q] at e; cases e
  | some j =>
    rw [q] at e
    simp only [Option.bind_some] at e ⊢
    exact h.get e
theorem ix_dict (hu : X.A.units + 1 < cLine) : IxR X (fun x y H Q => ∃ a kvs k v, x = .ref a ∧ H a = some (.dK kvs) ∧ y = kV k ∧ valV kvs k = some v ∧ Q v H) := by
  intro value slice pins s σ H x y v u Q I rx ry h hs
  obtain ⟨a, kvs, kk, z, rfl, e, rfl, hz, q⟩ := h
  cases rx
  obtain ⟨zz, hd, vs, rel, dd⟩ := dk_rd I.hok (Rd.of e)
  obtain ⟨w', hw, rw'⟩ := RelO.some_of (v := z) (o := valueAt vs kk) (by rw [← hz]; exact rel.val kk)
  have fin : EP X pins σ Q w' { s with toks := s.toks } := ⟨z, H, I, rw', q⟩
  exact PyProof.Rows.subscriptTail_builtinR (x := w') dd.typeIs PySem.F.slot_dict_getitem.lookup
    (wpAny_getItem_of (Q := fun r s' => r = w' ∧ EP X pins σ Q r s') (kV_is ry) dd.mapOf hw ⟨rfl, ⟨z, H, I.tok _, rw', q⟩⟩) hs
theorem ce_sub [Lay X L tb o k] (ha : PEs X L tb o a ca) (hb : PEs X L tb o b cb) (hs : PlainIx b := by intro _ _; rfl) : PEs X L tb o (.Subscript a b pos) (.sub ca cb) :=
  ⟨fun W tk => PEimp (pe_ix (IxR.or ix_list (IxR.or ix_tup (ix_dict (hu_of (Lay.room (X := X) (L := L) (tb := tb) (o := o) (k := k)))))) (ha.run W tk) (hb.run W tk) hs) fun σ H Q h => by
    have hK := Lay.K (X := X) (L := L) (tb := tb) (o := o) (k := k)
    have h : tG L W (Rep L) (fun e => bnd (evE tb o ca e) fun x e => bnd (evE tb o cb e) fun y e => opt (subD x y) e) σ H Q := by
      rw [show evE tb o (.sub ca cb) = (fun e => bnd (evE tb o ca e) fun x e => bnd (evE tb o cb e) fun y e => opt (subD x y) e) from by funext e; rw [evE]] at h
      exact h
    refine bin_run (fun x y H e d1 d2 d hd m => ?_) h
    obtain ⟨Z, S, k', rs, u⟩ := m.use
    obtain ⟨S1, S2, h1, h2, dj, r1, r2⟩ := reps2 rs
    cases d1 with
    | nd kd ow xs =>
      cases kd with
      | tup =>
        cases d2 <;> simp only [subD, reduceCtorEq] at hd
        obtain ⟨p, vs, rfl, _, hp, rr⟩ := shape_tup r1
        obtain ⟨v, ev, rv⟩ := reps_atI rr hd
        exact .inr (.inl ⟨p, vs, _, v, rfl, rep_int r2, by rw [hK]; exact hp, ev, u.fin _ (rep_mono h1 rv)⟩)
      | cl =>
        cases d2 <;> simp only [subD, reduceCtorEq] at hd
        obtain ⟨p, vs, rfl, hp, rr⟩ := shape_cl r1
        obtain ⟨v, ev, rv⟩ := reps_atI rr hd
        exact .inl ⟨p, vs, _, v, rfl, rep_int r2, by rw [hK]; exact hp.sq, ev, u.fin _ (rep_mono h1 rv)⟩
      | lst =>
        cases d2 <;> simp only [subD, reduceCtorEq] at hd
        obtain ⟨p, vs, rfl, hp, _, rr⟩ := shape_lst r1
        obtain ⟨v, ev, rv⟩ := reps_atI rr hd
        exact .inl ⟨p, vs, _, v, rfl, rep_int r2, .of hp, ev, u.fin _ (rep_mono (fun b z => h1 b z.1) rv)⟩
      | dk ks =>
        simp only [subD] at hd
        cases q : d2.key with
        | none => rw [q] at hd; cases hd
        | some kk =>
          rw [q] at hd
          simp only [Option.bind_some] at hd
          obtain ⟨p, vs, rfl, h0, hl, hp, _, rr⟩ := shape_dk r1
          obtain ⟨j, v, e1, e2, e3, e4⟩ := (look_zip kk hl rr).2 d hd
          obtain ⟨v', e3', rv⟩ := rr.get e2
          rw [e3] at e3'
          cases e3'
          exact .inr (.inr ⟨p, _, kk, v, rfl, hp, key_kV r2 q, e4, u.fin _ (rep_mono (fun b z => h1 b z.1) rv)⟩)
      | ins c ns => simp only [subD, reduceCtorEq] at hd
    | _ => simp only [subD, reduceCtorEq] at hd⟩
theorem lookS_zip : ∀ {ns : List Str} {xs : List D} {vs : List V} {Z S : AS} {H : Hp} {f : Str} {d : D}, Reps L Z H vs xs S → lookS ns xs f = some d → ∃ v, (ns.zip vs).lookup f = some v ∧ Rep L Z H v d S
  | [], xs, vs, Z, S, H, f, d, h, e => by simp [lookS] at e
  | n :: ns, [], vs, Z, S, H, f, d, h, e => by simp [lookS] at e
  | n :: ns, x :: xs, vs, Z, S, H, f, d, h, e => by
    simp only [Reps] at h
    obtain ⟨v, ws, S1, S2, ev, h1, h2, dj, r1, r2⟩ := h
    subst ev
    simp only [lookS] at e
    rw [List.zip_cons_cons, List.lookup_cons]
    by_cases c : n = f
    · rw [if_pos c] at e
      cases e
      rw [show (f == n) = true from by rw [c]; exact beq_self_eq_true f]
      exact ⟨v, rfl, rep_mono h1 r1⟩
    · rw [if_neg c] at e
      rw [show (f == n) = false from beq_eq_false_iff_ne.mpr (fun z => c z.symm)]
      obtain ⟨v', e1, e2⟩ := lookS_zip r2 e
      exact ⟨v', e1, rep_mono h2 e2⟩
theorem shape_ins {Z S : AS} {H : Hp} {v : V} {ow : Bool} {c : Nat} {ns : List Str} {xs : List D} (h : Rep L Z H v (.nd (.ins c ns) ow xs) S) : ∃ a vs dx, v = .ref a ∧ ns.length = vs.length ∧ H a = some (.ins (L.cls c) dx (ns.zip vs)) ∧ (ow = true → S a) ∧ Reps L Z H vs xs (fun b => S b ∧ (ow = true → b ≠ a)) := by
  simp only [Rep, shapeOk] at h
  obtain ⟨a, vs, e, ⟨h1, ⟨dx, h2⟩, h3⟩, ho, r⟩ := h
  exact ⟨a, vs, dx, e, h1, h2, ho, r⟩
theorem ce_fld [Lay X L tb o k] {f : Str} (ha : PEs X L tb o a ca) (hb : attributeBase a f X.env (eval a X.env) = eval a X.env := by rfl) : PEs X L tb o (.Attribute a f pos) (.fld ca f) :=
  ⟨fun W tk => PEimp (pe_fld (ha.run W tk) hb) fun σ H Q h => by
    obtain ⟨e, m⟩ := h.mid
    simp only [evE] at m
    refine m.one.imp fun v H1 ⟨d, e1, m1⟩ => ?_
    obtain ⟨d2, hd, m2⟩ := m1.opt
    obtain ⟨Z, S, k', rs, u⟩ := m2.use
    obtain ⟨v', ev, r1⟩ := reps1 rs
    cases ev
    cases d with
    | nd kd ow xs =>
      cases kd with
      | ins c ns =>
        simp only [fldD] at hd
        split at hd
        · rename_i hat
          obtain ⟨p, vs, dx, rfl, hl, hp, _, rr⟩ := shape_ins r1
          obtain ⟨w, ew, rw'⟩ := lookS_zip rr hd
          obtain ⟨hc, hn⟩ := Lay.att (X := X) (L := L) (tb := tb) (o := o) (k := k) c f hat
          exact ⟨p, _, dx, _, w, rfl, hp, hc, hn, ew, u.fin _ (rep_mono (fun b z => z.1) rw')⟩
        · cases hd
      | _ => simp only [fldD, reduceCtorEq] at hd
    | _ => simp only [fldD, reduceCtorEq] at hd⟩
theorem reps_cut {ds : List D} {vs : List V} {Z S : AS} {H : Hp} (lo hi : Option Int) (h : Reps L Z H vs ds S) : Reps L Z H (cutV vs lo hi) (cutD ds lo hi) S := by
  unfold cutV cutD
  rw [h.length]
  exact reps_take _ (reps_drop _ h)
theorem slc_run {hK : X.K = L.K} {σ : St} {H : Hp} {Q : VK} {e : Env} {x : V} {d1 d : D} {vs : List V} {ds : List D} {lo hi : Option Int}
    (m : Mid L W σ H e (x :: vs) (d1 :: ds) (Rep L) Q (some (.val d e))) (hd : cutOf d1 lo hi = some d) : rSlL X.K x lo hi H Q ∨ rSlA X.K x lo hi H Q := by
  obtain ⟨Z, S, k', rs, u⟩ := m.use
  obtain ⟨v', T1, T2, ev, h1, h2, dj, r1, _⟩ := reps_at (j := 0) rs rfl
  cases ev
  cases d1 with
  | nd kd ow xs =>
    cases kd with
    | lst =>
      simp only [cutOf, Option.some.injEq] at hd
      obtain ⟨p, ws, rfl, hp, _, rr⟩ := shape_lst r1
      exact .inl ⟨p, ws, rfl, .of hp, fun q hq => u.newL _ _ q hd.symm hq (reps_cut lo hi (reps_mono (fun b z => h1 b z.1) rr))⟩
    | cl =>
      simp only [cutOf, Option.some.injEq] at hd
      obtain ⟨p, ws, rfl, hp, rr⟩ := shape_cl r1
      exact .inl ⟨p, ws, rfl, by rw [hK]; exact hp.sq, fun q hq => u.newL _ _ q hd.symm hq (reps_cut lo hi (reps_mono h1 rr))⟩
    | tup =>
      simp only [cutOf, Option.some.injEq] at hd
      obtain ⟨p, ws, rfl, how, hp, rr⟩ := shape_tup r1
      refine .inr ⟨p, ws, rfl, by rw [hK]; exact hp, fun hw => u.fin _ ?_, fun _ q hq => u.newU _ _ q hd.symm hq (reps_cut lo hi (reps_mono h1 rr))⟩
      have : cutD xs lo hi = xs := by
        unfold cutD
        rw [← rr.length, hw.1, hw.2, List.drop_zero, Nat.sub_zero, rr.length, List.take_length]
      rw [← hd, this]
      exact rep_mono h1 (rep_tup r1)
    | _ => simp only [cutOf, reduceCtorEq] at hd
  | _ => simp only [cutOf, reduceCtorEq] at hd
/-- a part of a slice: absent, or an int -/
structure POs (X : Cx) (L : Lo) (tb : Tab) (o : Orc) (e : Option Expr) (c : E) : Prop where
  run : ∀ W, Takes X W → PO X e (fun σ H Q => tG L W (Rep L) (evE tb o c) σ H (fun v H1 => (c = .nop ∧ Q none H1) ∨ ∃ i, c ≠ .nop ∧ v = .int i ∧ Q (some i) H1))
theorem POimp {e : Option Expr} {t t' : TO} (p : PO X e t) (h : ∀ σ H Q, t' σ H Q → t σ H Q) : PO X e t' := ⟨fun pins s σ H Q I hq => p.run pins s σ H Q I (h σ H Q hq)⟩
theorem co_none : POs X L tb o none .nop := ⟨fun W tk => POimp po_none fun σ H Q h => by
  have q := const_run (d := .non) (v := .non) (fun e => by rw [evE]) (fun Z H => by rw [Rep]) h
  rcases q with ⟨_, q⟩ | ⟨i, q, _⟩
  · exact q
  · exact absurd rfl q⟩
theorem co_some (ha : PEs X L tb o a ca) (hn : ca ≠ .nop := by intro z; cases z) : POs X L tb o (some a) ca := ⟨fun W tk => POimp (po_some (ha.run W tk)) fun σ H Q h => h.imp fun v H1 q => by
  rcases q with ⟨q, _⟩ | ⟨i, _, e, q⟩
  · exact absurd q hn
  · exact ⟨i, e, q⟩⟩
theorem partE_nop {d : D} {p : Option Int} (h : partE .nop d = some p) : p = none := by simp only [partE, Option.some.injEq] at h; exact h.symm
theorem partE_int {c : E} (hn : c ≠ .nop) {d : D} {p : Option Int} (h : partE c d = some p) : ∃ i, d = .int i ∧ p = some i := by
  cases c <;> first | exact absurd rfl hn | (cases d <;> simp only [partE, Option.some.injEq, reduceCtorEq] at h; exact ⟨_, rfl, h.symm⟩)
theorem ce_slc [Lay X L tb o k] {lo hi : Option Expr} {cl ch : E} {p2 : Pos} (ha : PEs X L tb o a ca) (hl : POs X L tb o lo cl) (hh : POs X L tb o hi ch) : PEs X L tb o (.Subscript a (.Slice lo hi none p2) pos) (.slc ca cl ch) :=
  ⟨fun W tk => PEimp (pe_slice (SlR.or sl_list sl_tupA) (ha.run W tk) (hl.run W tk) (hh.run W tk)) fun σ H Q h => by
    obtain ⟨e, m⟩ := h.mid
    simp only [evE] at m
    refine m.one.imp fun x H1 ⟨d, e1, m1⟩ => ?_
    refine m1.one.imp fun l H2 ⟨dl, e2, m2⟩ => ?_
    obtain ⟨Z2, S2, k2, rs2⟩ := m2.reps
    obtain ⟨l', T1, T2, el, _, _, _, rl, _⟩ := reps_at (j := 1) rs2 rfl
    cases el
    cases qq : partE cl dl with
    | none => rw [qq] at m2; exact m2.none.elim
    | some lo' =>
    rw [qq] at m2
    have goOn : tG L W (Rep L) (evE tb o ch) σ H2 (fun v H1 => (ch = .nop ∧ (rSlL X.K x lo' none H1 Q ∨ rSlA X.K x lo' none H1 Q)) ∨ ∃ i, ch ≠ .nop ∧ v = .int i ∧ (rSlL X.K x lo' (some i) H1 Q ∨ rSlA X.K x lo' (some i) H1 Q)) := by
      refine m2.one.imp fun h' H3 ⟨dh, e3, m3⟩ => ?_
      obtain ⟨dd, hd, m4⟩ := m3.opt
      obtain ⟨Z3, S3, k3, rs3⟩ := m3.reps
      obtain ⟨h'', T1, T2, eh, _, _, _, rh, _⟩ := reps_at (j := 2) rs3 rfl
      cases eh
      cases qh : partE ch dh with
      | none => rw [qh] at hd; cases hd
      | some hi' =>
        rw [qh] at hd
        have fin := slc_run (hK := Lay.K (X := X) (L := L) (tb := tb) (o := o) (k := k)) m4 hd
        by_cases c : ch = .nop
        · subst c
          rw [partE_nop qh] at fin
          exact .inl ⟨rfl, fin⟩
        · obtain ⟨i, e1, e2⟩ := partE_int c qh
          subst e1 e2
          exact .inr ⟨i, c, rep_int rh, fin⟩
    by_cases c : cl = .nop
    · subst c
      rw [partE_nop qq] at goOn
      exact .inl ⟨rfl, goOn⟩
    · obtain ⟨i, e1, e2⟩ := partE_int c qq
      subst e1 e2
      exact .inr ⟨i, c, rep_int rl, goOn⟩⟩
end
end PL

/-! PL.Bi: built-in functions. -/
namespace PL
open PySem L2
section
variable {X : Cx} {L : Lo} {tb : Tab} {o : Orc} {k : Nat} {pos p : Pos} {a b c : Expr} {ca cb cc : E} {W : WX}
theorem bi_run {b : Bi} {r : List V → Hp → VK → Prop} {σ : St} {H : Hp} {Q : VK} (hr : ∀ x H e d1 d, biD b d1 = some d → Mid L W σ H e [x] [d1] (Rep L) Q (some (.val d e)) → r [x] H Q) (h : tG L W (Rep L) (evE tb o (.bi b ca)) σ H Q) :
    tCB r (tCons (tG L W (Rep L) (evE tb o ca)) tNil) σ H Q := by
  obtain ⟨e, m⟩ := h.mid
  simp only [evE] at m
  refine m.one.imp fun v H1 ⟨d, e1, m1⟩ => ?_
  obtain ⟨dd, hd, m2⟩ := m1.opt
  exact hr v H1 e1 d dd hd m2
theorem use1 {σ : St} {H : Hp} {e : Env} {x : V} {d1 d : D} {Q : VK} (m : Mid L W σ H e [x] [d1] (Rep L) Q (some (.val d e))) : ∃ Z S, Rep L Z H x d1 S ∧ Use L Z S H d Q := by
  obtain ⟨Z, S, k', rs, u⟩ := m.use
  obtain ⟨v', ev, r1⟩ := reps1 rs
  cases ev
  exact ⟨Z, S, r1, u⟩
theorem ce_len [Lay X L tb o k] (ha : PEs X L tb o a ca) (hg : Gl X "len" := by rfl) (hs : starEach [a] X.env = (false, eval a X.env) :: starEach [] X.env := by rfl) : PEs X L tb o (.Call (.Name "len" p) [a] [] pos) (.bi .len ca) :=
  ⟨fun W tk => PEimp (pe_callB (CallR.or call_len call_lenD) hg (Lay.bi (X := X) (L := L) (tb := tb) (o := o) (k := k) _ (by decide +kernel)) PySem.boot_len (pa_cons (ha.run W tk) pa_nil hs) (he := hs)) fun σ H Q h => bi_run (fun x H e d1 d hd m => by
    obtain ⟨Z, S, r1, u⟩ := use1 m
    have hK := Lay.K (X := X) (L := L) (tb := tb) (o := o) (k := k)
    cases d1 with
    | str y =>
      simp only [biD] at hd
      split at hd
      · cases hd
        rw [rep_str r1]
        exact .inl ⟨_, y.length, rfl, ⟨by assumption, rfl⟩, u.fin _ (by simp only [Rep])⟩
      · cases hd
    | nd kd ow xs =>
      cases kd with
      | tup =>
        simp only [biD, Option.some.injEq] at hd
        obtain ⟨q, vs, rfl, _, hq, rr⟩ := shape_tup r1
        subst hd
        exact .inl ⟨_, _, rfl, .inr ⟨vs, by rw [hK]; exact hq, rfl⟩, u.fin _ (by rw [rr.length]; simp only [Rep])⟩
      | lst =>
        simp only [biD, Option.some.injEq] at hd
        obtain ⟨q, vs, rfl, hq, _, rr⟩ := shape_lst r1
        subst hd
        exact .inl ⟨_, _, rfl, .inl ⟨vs, .of hq, rfl⟩, u.fin _ (by rw [rr.length]; simp only [Rep])⟩
      | cl =>
        simp only [biD, Option.some.injEq] at hd
        obtain ⟨q, vs, rfl, hq, rr⟩ := shape_cl r1
        subst hd
        exact .inl ⟨_, _, rfl, .inl ⟨vs, by rw [hK]; exact hq.sq, rfl⟩, u.fin _ (by rw [rr.length]; simp only [Rep])⟩
      | dk ks =>
        simp only [biD, Option.some.injEq] at hd
        obtain ⟨q, vs, rfl, h0, hl, hq, _, rr⟩ := shape_dk r1
        subst hd
        refine .inr ⟨_, _, rfl, hq, u.fin _ ?_⟩
        rw [List.length_zip, ← hl, Nat.min_self]
        simp only [Rep]
      | ins c ns => simp only [biD, reduceCtorEq] at hd
    | _ => simp only [biD, reduceCtorEq] at hd) h⟩
theorem ce_int1 [Lay X L tb o k] (ha : PEs X L tb o a ca) (hg : Gl X "int" := by rfl) (hs : starEach [a] X.env = (false, eval a X.env) :: starEach [] X.env := by rfl) : PEs X L tb o (.Call (.Name "int" p) [a] [] pos) (.bi .int ca) :=
  ⟨fun W tk => PEimp (pe_callTy call_int1 hg (Lay.bi (X := X) (L := L) (tb := tb) (o := o) (k := k) _ (by decide +kernel)) (by decide +kernel) (pa_cons (ha.run W tk) pa_nil hs) (he := hs)) fun σ H Q h => bi_run (fun x H e d1 d hd m => by
    obtain ⟨Z, S, r1, u⟩ := use1 m
    cases d1 <;> simp only [biD, reduceCtorEq, Option.some.injEq] at hd
    · subst hd
      rw [rep_bl r1]
      exact .inr ⟨_, rfl, u.fin _ (by simp only [Rep])⟩
    · subst hd
      rw [rep_int r1]
      exact .inl ⟨_, rfl, u.fin _ (by simp only [Rep])⟩) h⟩
theorem ce_abs [Lay X L tb o k] (ha : PEs X L tb o a ca) (hg : Gl X "abs" := by rfl) (hs : starEach [a] X.env = (false, eval a X.env) :: starEach [] X.env := by rfl) : PEs X L tb o (.Call (.Name "abs" p) [a] [] pos) (.bi .abs ca) :=
  ⟨fun W tk => PEimp (pe_callB call_abs hg (Lay.bi (X := X) (L := L) (tb := tb) (o := o) (k := k) _ (by decide +kernel)) (by decide +kernel) (pa_cons (ha.run W tk) pa_nil hs) (he := hs)) fun σ H Q h => bi_run (fun x H e d1 d hd m => by
    obtain ⟨Z, S, r1, u⟩ := use1 m
    cases d1 <;> simp only [biD, reduceCtorEq, Option.some.injEq] at hd
    subst hd
    rw [rep_int r1]
    exact ⟨_, rfl, u.fin _ (by simp only [Rep])⟩) h⟩
theorem keys_ints {ks : List Key} {l : List Int} (h : intsD (ks.map keyD) = some l) : ks = l.map Sum.inl := by
  induction ks generalizing l with
  | nil => simp only [List.map_nil, intsD, Option.some.injEq] at h; subst h; rfl
  | cons kk ks ih =>
    cases kk with
    | inl i =>
      simp only [List.map_cons, keyD, intsD] at h
      cases q : intsD (ks.map keyD) with
      | none => rw [q] at h; cases h
      | some m =>
        rw [q] at h
        cases h
        rw [ih q]; rfl
    | inr x => simp only [List.map_cons, keyD, intsD, reduceCtorEq] at h
theorem zip_fst {ks : List Key} {vs : List V} (h : ks.length = vs.length) : (ks.zip vs).map (·.1) = ks := by
  rw [List.map_fst_zip]
  omega
theorem reps_keys {Z : AS} {H : Hp} : ∀ (ks : List Key) {S : AS}, Reps L Z H (ks.map kV) (ks.map keyD) S
  | [], S => reps_nil
  | kk :: ks, S => by
    refine reps_cons (S1 := NoAS) (S2 := NoAS) (fun _ z => z.elim) (fun _ z => z.elim) (fun _ _ z => z) ?_ (reps_keys ks)
    cases kk <;> simp only [keyD, Rep, kV]
theorem ce_list [Lay X L tb o k] (ha : PEs X L tb o a ca) (hg : Gl X "list" := by rfl) (hs : starEach [a] X.env = (false, eval a X.env) :: starEach [] X.env := by rfl) : PEs X L tb o (.Call (.Name "list" p) [a] [] pos) (.bi .list ca) :=
  ⟨fun W tk => PEimp (pe_callTy (CallR.or call_list_of (call_list_dK (Lay.calm (X := X) (L := L) (tb := tb) (o := o) (k := k)))) hg (Lay.bi (X := X) (L := L) (tb := tb) (o := o) (k := k) _ (by decide +kernel)) (by decide +kernel) (pa_cons (ha.run W tk) pa_nil hs) (he := hs)) fun σ H Q h => bi_run (fun x H e d1 d hd m => by
    obtain ⟨Z, S, r1, u⟩ := use1 m
    have hK := Lay.K (X := X) (L := L) (tb := tb) (o := o) (k := k)
    cases d1 with
    | nd kd ow xs =>
      cases kd with
      | tup =>
        simp only [biD, Option.some.injEq] at hd
        obtain ⟨q, vs, rfl, _, hq, rr⟩ := shape_tup r1
        exact .inl ⟨q, vs, rfl, .inr (by rw [hK]; exact hq), fun l hl => u.newL _ _ l hd.symm hl rr⟩
      | lst =>
        simp only [biD, Option.some.injEq] at hd
        obtain ⟨q, vs, rfl, hq, _, rr⟩ := shape_lst r1
        exact .inl ⟨q, vs, rfl, .inl (.of hq), fun l hl => u.newL _ _ l hd.symm hl (reps_mono (fun b z => z.1) rr)⟩
      | cl =>
        simp only [biD, Option.some.injEq] at hd
        obtain ⟨q, vs, rfl, hq, rr⟩ := shape_cl r1
        exact .inl ⟨q, vs, rfl, .inl (by rw [hK]; exact hq.sq), fun l hl => u.newL _ _ l hd.symm hl rr⟩
      | dk ks =>
        simp only [biD, Option.some.injEq] at hd
        obtain ⟨q, vs, rfl, h0, hll, hq, _, rr⟩ := shape_dk r1
        refine .inr ⟨q, _, rfl, hq, fun l hl => ?_⟩
        have e1 : (ks.zip vs).map (fun kv => kV kv.1) = ks.map kV := by
          rw [show (fun kv : Key × V => kV kv.1) = kV ∘ Prod.fst from rfl, ← List.map_map, zip_fst hll]
        rw [e1]
        exact u.newL _ _ l hd.symm hl (reps_keys ks)
      | ins c ns => simp only [biD, reduceCtorEq] at hd
    | _ => simp only [biD, reduceCtorEq] at hd) h⟩
theorem ce_tuple [Lay X L tb o k] (ha : PEs X L tb o a ca) (hg : Gl X "tuple" := by rfl) (hs : starEach [a] X.env = (false, eval a X.env) :: starEach [] X.env := by rfl) : PEs X L tb o (.Call (.Name "tuple" p) [a] [] pos) (.bi .tuple ca) :=
  ⟨fun W tk => PEimp (pe_callTy call_tuple_of hg (Lay.bi (X := X) (L := L) (tb := tb) (o := o) (k := k) _ (by decide +kernel)) (by decide +kernel) (pa_cons (ha.run W tk) pa_nil hs) (he := hs)) fun σ H Q h => bi_run (fun x H e d1 d hd m => by
    obtain ⟨Z, S, r1, u⟩ := use1 m
    have hK := Lay.K (X := X) (L := L) (tb := tb) (o := o) (k := k)
    cases d1 with
    | nd kd ow xs =>
      cases kd with
      | tup =>
        simp only [biD, Option.some.injEq] at hd
        obtain ⟨q, vs, rfl, _, hq, rr⟩ := shape_tup r1
        exact ⟨q, vs, rfl, .inr ⟨by rw [hK]; exact hq, u.fin _ (by rw [← hd]; exact rep_tup r1)⟩⟩
      | lst =>
        simp only [biD, Option.some.injEq] at hd
        obtain ⟨q, vs, rfl, hq, _, rr⟩ := shape_lst r1
        exact ⟨q, vs, rfl, .inl ⟨.of hq, fun l hl => u.newU _ _ l hd.symm hl (reps_mono (fun b z => z.1) rr)⟩⟩
      | cl =>
        simp only [biD, Option.some.injEq] at hd
        obtain ⟨q, vs, rfl, hq, rr⟩ := shape_cl r1
        exact ⟨q, vs, rfl, .inl ⟨by rw [hK]; exact hq.sq, fun l hl => u.newU _ _ l hd.symm hl rr⟩⟩
      | _ => simp only [biD, reduceCtorEq] at hd
    | _ => simp only [biD, reduceCtorEq] at hd) h⟩
theorem sortI_perm (l : List Int) : (sortI l).Perm l := List.mergeSort_perm l _
theorem sortI_pair (l : List Int) : (sortI l).Pairwise (· ≤ ·) := by
  have h := List.pairwise_mergeSort (le := fun (a b : Int) => decide (a ≤ b)) (fun a b c h1 h2 => by simp at h1 h2 ⊢; omega) (fun a b => by simp; omega) l
  exact h.imp fun h => by simpa using h
theorem sortI_unique {l ns' : List Int} (hp : ns'.Perm l) (hs : ns'.Pairwise (· ≤ ·)) : ns' = sortI l := PySem.W.ksm_same (hp.trans (sortI_perm l).symm) hs (sortI_pair l)
theorem ce_sorted [Lay X L tb o k] (ha : PEs X L tb o a ca) (hg : Gl X "sorted" := by rfl) (hs : starEach [a] X.env = (false, eval a X.env) :: starEach [] X.env := by rfl) : PEs X L tb o (.Call (.Name "sorted" p) [a] [] pos) (.bi .sorted ca) :=
  ⟨fun W tk => PEimp (pe_callB (CallR.or cr_sortedI (call_sortedDI (Lay.calm (X := X) (L := L) (tb := tb) (o := o) (k := k)))) hg (Lay.bi (X := X) (L := L) (tb := tb) (o := o) (k := k) _ (by decide +kernel)) (by decide +kernel) (pa_cons (ha.run W tk) pa_nil hs) (he := hs)) fun σ H Q h => bi_run (fun x H e d1 d hd m => by
    obtain ⟨Z, S, r1, u⟩ := use1 m
    cases d1 with
    | nd kd ow xs =>
      cases kd with
      | lst =>
        simp only [biD] at hd
        cases ql : intsD xs with
        | none => rw [ql] at hd; cases hd
        | some l =>
          rw [ql] at hd
          simp only [Option.bind_some] at hd
          split at hd
          · obtain ⟨q, vs, rfl, hq, _, rr⟩ := shape_lst r1
            have ev := reps_ints ql rr
            subst ev
            refine .inl ⟨q, l, rfl, .of hq, fun ns' t hp hpw ht => ?_⟩
            rw [sortI_unique hp hpw]
            exact u.newL _ _ t (by cases hd; rfl) ht (reps_of_ints _)
          · cases hd
      | dk ks =>
        simp only [biD] at hd
        cases ql : intsD (ks.map keyD) with
        | none => rw [ql] at hd; cases hd
        | some l =>
          rw [ql] at hd
          simp only [Option.bind_some] at hd
          split at hd
          · obtain ⟨q, vs, rfl, h0, hll, hq, _, rr⟩ := shape_dk r1
            refine .inr ⟨q, _, l, rfl, .inl hq, by rw [zip_fst hll]; exact keys_ints ql, by assumption, fun ns' t hp hpw ht => ?_⟩
            rw [sortI_unique hp hpw]
            exact u.newL _ _ t (by cases hd; rfl) ht (reps_of_ints _)
          · cases hd
      | _ => simp only [biD, reduceCtorEq] at hd
    | _ => simp only [biD, reduceCtorEq] at hd) h⟩
theorem ce_sum [Lay X L tb o k] (ha : PEs X L tb o a ca) (hg : Gl X "sum" := by rfl) (hs : starEach [a] X.env = (false, eval a X.env) :: starEach [] X.env := by rfl) : PEs X L tb o (.Call (.Name "sum" p) [a] [] pos) (.bi .sum ca) :=
  ⟨fun W tk => PEimp (pe_callB (cr_sum (Lay.calm (X := X) (L := L) (tb := tb) (o := o) (k := k))) hg (Lay.bi (X := X) (L := L) (tb := tb) (o := o) (k := k) _ (by decide +kernel)) (by decide +kernel) (pa_cons (ha.run W tk) pa_nil hs) (he := hs)) fun σ H Q h => bi_run (fun x H e d1 d hd m => by
    obtain ⟨Z, S, r1, u⟩ := use1 m
    cases d1 with
    | nd kd ow xs =>
      cases kd <;> simp only [biD, reduceCtorEq] at hd
      cases ql : intsD xs with
      | none => rw [ql] at hd; cases hd
      | some l =>
        rw [ql] at hd
        cases hd
        obtain ⟨q, vs, rfl, hq, _, rr⟩ := shape_lst r1
        have ev := reps_ints ql rr
        subst ev
        exact ⟨q, l, rfl, .of hq, u.fin _ (by simp only [Rep])⟩
    | _ => simp only [biD, reduceCtorEq] at hd) h⟩
theorem ce_all [Lay X L tb o k] (ha : PEs X L tb o a ca) (hg : Gl X "all" := by rfl) (hs : starEach [a] X.env = (false, eval a X.env) :: starEach [] X.env := by rfl) : PEs X L tb o (.Call (.Name "all" p) [a] [] pos) (.bi .all ca) :=
  ⟨fun W tk => PEimp (pe_callB (cr_all (Lay.calm (X := X) (L := L) (tb := tb) (o := o) (k := k))) hg (Lay.bi (X := X) (L := L) (tb := tb) (o := o) (k := k) _ (by decide +kernel)) (by decide +kernel) (pa_cons (ha.run W tk) pa_nil hs) (he := hs)) fun σ H Q h => bi_run (fun x H e d1 d hd m => by
    obtain ⟨Z, S, r1, u⟩ := use1 m
    cases d1 with
    | nd kd ow xs =>
      cases kd <;> simp only [biD, reduceCtorEq] at hd
      cases ql : blsD xs with
      | none => rw [ql] at hd; cases hd
      | some l =>
        rw [ql] at hd
        cases hd
        obtain ⟨q, vs, rfl, hq, _, rr⟩ := shape_lst r1
        have ev := reps_bls ql rr
        subst ev
        exact ⟨q, l, rfl, .of hq, u.fin _ (by simp only [Rep])⟩
    | _ => simp only [biD, reduceCtorEq] at hd) h⟩
theorem ce_any [Lay X L tb o k] (ha : PEs X L tb o a ca) (hg : Gl X "any" := by rfl) (hs : starEach [a] X.env = (false, eval a X.env) :: starEach [] X.env := by rfl) : PEs X L tb o (.Call (.Name "any" p) [a] [] pos) (.bi .any ca) :=
  ⟨fun W tk => PEimp (pe_callB (cr_any (Lay.calm (X := X) (L := L) (tb := tb) (o := o) (k := k))) hg (Lay.bi (X := X) (L := L) (tb := tb) (o := o) (k := k) _ (by decide +kernel)) (by decide +kernel) (pa_cons (ha.run W tk) pa_nil hs) (he := hs)) fun σ H Q h => bi_run (fun x H e d1 d hd m => by
    obtain ⟨Z, S, r1, u⟩ := use1 m
    cases d1 with
    | nd kd ow xs =>
      cases kd <;> simp only [biD, reduceCtorEq] at hd
      cases ql : blsD xs with
      | none => rw [ql] at hd; cases hd
      | some l =>
        rw [ql] at hd
        cases hd
        obtain ⟨q, vs, rfl, hq, _, rr⟩ := shape_lst r1
        have ev := reps_bls ql rr
        subst ev
        exact ⟨q, l, rfl, .of hq, u.fin _ (by simp only [Rep])⟩
    | _ => simp only [biD, reduceCtorEq] at hd) h⟩
theorem leastI_eq : ∀ {l : List Int} {m : Int}, m ∈ l → (∀ y, y ∈ l → m ≤ y) → m = leastI l := by
  have spec : ∀ (l : List Int), l ≠ [] → leastI l ∈ l ∧ ∀ y ∈ l, leastI l ≤ y := by
    intro l
    induction l with
    | nil => intro h; exact absurd rfl h
    | cons x xs ih =>
      intro _
      cases xs with
      | nil => exact ⟨by simp [leastI], fun y hy => by simp at hy; subst hy; exact Int.le_refl _⟩
      | cons z zs =>
        obtain ⟨i1, i2⟩ := ih (by simp)
        simp only [leastI] at i1 i2 ⊢
        split
        · rename_i c
          refine ⟨List.mem_cons_of_mem _ i1, fun y hy => ?_⟩
          rcases List.mem_cons.mp hy with rfl | hy
          · omega
          · exact i2 y hy
        · rename_i c
          refine ⟨List.mem_cons_self, fun y hy => ?_⟩
          rcases List.mem_cons.mp hy with rfl | hy
          · exact Int.le_refl _
          · have := i2 y hy; omega
  intro l m hm hl
  have hne : l ≠ [] := fun z => by rw [z] at hm; cases hm
  obtain ⟨s1, s2⟩ := spec l hne
  exact Int.le_antisymm (hl _ s1) (s2 _ hm)
theorem mostI_eq : ∀ {l : List Int} {m : Int}, m ∈ l → (∀ y, y ∈ l → y ≤ m) → m = mostI l := by
  have spec : ∀ (l : List Int), l ≠ [] → mostI l ∈ l ∧ ∀ y ∈ l, y ≤ mostI l := by
    intro l
    induction l with
    | nil => intro h; exact absurd rfl h
    | cons x xs ih =>
      intro _
      cases xs with
      | nil => exact ⟨by simp [mostI], fun y hy => by simp at hy; subst hy; exact Int.le_refl _⟩
      | cons z zs =>
        obtain ⟨i1, i2⟩ := ih (by simp)
        simp only [mostI] at i1 i2 ⊢
        split
        · rename_i c
          refine ⟨List.mem_cons_of_mem _ i1, fun y hy => ?_⟩
          rcases List.mem_cons.mp hy with rfl | hy
          · omega
          · exact i2 y hy
        · rename_i c
          refine ⟨List.mem_cons_self, fun y hy => ?_⟩
          rcases List.mem_cons.mp hy with rfl | hy
          · exact Int.le_refl _
          · have := i2 y hy; omega
  intro l m hm hl
  have hne : l ≠ [] := fun z => by rw [z] at hm; cases hm
  obtain ⟨s1, s2⟩ := spec l hne
  exact Int.le_antisymm (s2 _ hm) (hl _ s1)
theorem ce_min [Lay X L tb o k] (ha : PEs X L tb o a ca) (hg : Gl X "min" := by rfl) (hs : starEach [a] X.env = (false, eval a X.env) :: starEach [] X.env := by rfl) : PEs X L tb o (.Call (.Name "min" p) [a] [] pos) (.bi .min ca) :=
  ⟨fun W tk => PEimp (pe_callB (cr_min (Lay.calm (X := X) (L := L) (tb := tb) (o := o) (k := k))) hg (Lay.bi (X := X) (L := L) (tb := tb) (o := o) (k := k) _ (by decide +kernel)) (by decide +kernel) (pa_cons (ha.run W tk) pa_nil hs) (he := hs)) fun σ H Q h => bi_run (fun x H e d1 d hd m => by
    obtain ⟨Z, S, r1, u⟩ := use1 m
    cases d1 with
    | nd kd ow xs =>
      cases kd <;> simp only [biD, reduceCtorEq] at hd
      cases ql : intsD xs with
      | none => rw [ql] at hd; cases hd
      | some l =>
        rw [ql] at hd
        simp only [Option.bind_some] at hd
        split at hd
        · cases hd
        · rename_i hne
          cases hd
          obtain ⟨q, vs, rfl, hq, _, rr⟩ := shape_lst r1
          have ev := reps_ints ql rr
          subst ev
          refine ⟨q, l, rfl, .of hq, by cases l with | nil => exact absurd rfl hne | cons _ _ => simp, fun mm h1 h2 => ?_⟩
          rw [leastI_eq h1 h2]
          exact u.fin _ (by simp only [Rep])
    | _ => simp only [biD, reduceCtorEq] at hd) h⟩
theorem ce_max [Lay X L tb o k] (ha : PEs X L tb o a ca) (hg : Gl X "max" := by rfl) (hs : starEach [a] X.env = (false, eval a X.env) :: starEach [] X.env := by rfl) : PEs X L tb o (.Call (.Name "max" p) [a] [] pos) (.bi .max ca) :=
  ⟨fun W tk => PEimp (pe_callB (cr_max (Lay.calm (X := X) (L := L) (tb := tb) (o := o) (k := k))) hg (Lay.bi (X := X) (L := L) (tb := tb) (o := o) (k := k) _ (by decide +kernel)) (by decide +kernel) (pa_cons (ha.run W tk) pa_nil hs) (he := hs)) fun σ H Q h => bi_run (fun x H e d1 d hd m => by
    obtain ⟨Z, S, r1, u⟩ := use1 m
    cases d1 with
    | nd kd ow xs =>
      cases kd <;> simp only [biD, reduceCtorEq] at hd
      cases ql : intsD xs with
      | none => rw [ql] at hd; cases hd
      | some l =>
        rw [ql] at hd
        simp only [Option.bind_some] at hd
        split at hd
        · cases hd
        · rename_i hne
          cases hd
          obtain ⟨q, vs, rfl, hq, _, rr⟩ := shape_lst r1
          have ev := reps_ints ql rr
          subst ev
          refine ⟨q, l, rfl, .of hq, by cases l with | nil => exact absurd rfl hne | cons _ _ => simp, fun mm h1 h2 => ?_⟩
          rw [mostI_eq h1 h2]
          exact u.fin _ (by simp only [Rep])
    | _ => simp only [biD, reduceCtorEq] at hd) h⟩
theorem evE_bi2 (mx : Bool) : evE tb o (.bi2 mx ca cb) = fun e => bnd (evE tb o ca e) fun x e => bnd (evE tb o cb e) fun y e => opt (bi2D mx x y) e := by funext e; rw [evE]
theorem ce_max2 [Lay X L tb o k] (ha : PEs X L tb o a ca) (hb : PEs X L tb o b cb) (hg : Gl X "max" := by rfl) (hs : starEach [a, b] X.env = (false, eval a X.env) :: starEach [b] X.env := by rfl) (hs2 : starEach [b] X.env = (false, eval b X.env) :: starEach [] X.env := by rfl) : PEs X L tb o (.Call (.Name "max" p) [a, b] [] pos) (.bi2 true ca cb) :=
  ⟨fun W tk => PEimp (pe_callB (call_max2 (Lay.calm (X := X) (L := L) (tb := tb) (o := o) (k := k))) hg (Lay.bi (X := X) (L := L) (tb := tb) (o := o) (k := k) _ (by decide +kernel)) (by decide +kernel) (pa_cons (ha.run W tk) (pa_cons (hb.run W tk) pa_nil hs2) hs) (he := hs) (hpl := by rw [hs2]; rfl)) fun σ H Q h => by
    rw [evE_bi2] at h
    refine bin_run (r := fun x y H Q => ∃ i j, [x, y] = [.int i, .int j] ∧ Q (.int (if j > i then j else i)) H) (fun x y H e d1 d2 d hd m => ?_) h
    obtain ⟨Z, S, k', rs, u⟩ := m.use
    obtain ⟨S1, S2, h1, h2, dj, r1, r2⟩ := reps2 rs
    cases d1 <;> cases d2 <;> simp only [bi2D, reduceCtorEq, Option.some.injEq] at hd
    rw [rep_int r1, rep_int r2]
    exact ⟨_, _, rfl, u.fin _ (by rw [← hd]; simp only [Rep, if_true])⟩⟩
theorem ce_min2 [Lay X L tb o k] (ha : PEs X L tb o a ca) (hb : PEs X L tb o b cb) (hg : Gl X "min" := by rfl) (hs : starEach [a, b] X.env = (false, eval a X.env) :: starEach [b] X.env := by rfl) (hs2 : starEach [b] X.env = (false, eval b X.env) :: starEach [] X.env := by rfl) : PEs X L tb o (.Call (.Name "min" p) [a, b] [] pos) (.bi2 false ca cb) :=
  ⟨fun W tk => PEimp (pe_callB (call_min2 (Lay.calm (X := X) (L := L) (tb := tb) (o := o) (k := k))) hg (Lay.bi (X := X) (L := L) (tb := tb) (o := o) (k := k) _ (by decide +kernel)) (by decide +kernel) (pa_cons (ha.run W tk) (pa_cons (hb.run W tk) pa_nil hs2) hs) (he := hs) (hpl := by rw [hs2]; rfl)) fun σ H Q h => by
    rw [evE_bi2] at h
    refine bin_run (r := fun x y H Q => ∃ i j, [x, y] = [.int i, .int j] ∧ Q (.int (if j < i then j else i)) H) (fun x y H e d1 d2 d hd m => ?_) h
    obtain ⟨Z, S, k', rs, u⟩ := m.use
    obtain ⟨S1, S2, h1, h2, dj, r1, r2⟩ := reps2 rs
    cases d1 <;> cases d2 <;> simp only [bi2D, reduceCtorEq, Option.some.injEq] at hd
    rw [rep_int r1, rep_int r2]
    exact ⟨_, _, rfl, u.fin _ (by rw [← hd]; simp only [Rep, Bool.false_eq_true, if_false])⟩⟩
end
end PL

/-! PL.Call: calls of the program's own defs, methods and classes. -/
namespace PL
open PySem L2
section
variable {X : Cx} {CX : CXT} {x m : Str} {p pos apos : Pos} {e o : Expr} {es : List Expr} {ta : TE} {t : TA}
theorem run_makeS {k : Nat} {f C : Addr} {fd : FuncData} {ps : List Str} {sp : Sp} {E : XK} {pins : List (Addr × Obj)} {σ : St} {H : Hp} {s : Shared} {Q : VK} {us : List Value} {vs : List V} (M : Mk X.K C f) (F : FnOk X.prog X.w X.K X.mg X.base CX k f fd ps sp) (hr : Room (k + 1) X.A) (hb : Binds X.K fd ps [])
    (hx : PassesAt CX X σ E) (I : Inv X pins σ H s) (r : Vals vs us)
    (h : ∀ x dx, H x = none → H dx = none → dx ≠ x → sp (.ref x :: vs) (upd (upd H dx (.own x)) x (.ins C dx [])) (fun v H2 => v = .non ∧ Q (.ref x) H2) E) :
    wpAny (model X.prog X.w) X.A (call (.ref C) us) (EP X pins σ Q) X.xe s := by
  have hq := h (s.heap.objs.size + 1) s.heap.objs.size (I.hok.fresh (Nat.le_succ _)) (I.hok.fresh (Nat.le_refl _)) (Nat.ne_of_lt (Nat.lt_succ_self _))
  have I2 := Inv.made (C := C) I
  have r2 : Vals (V.ref (s.heap.objs.size + 1) :: vs) (Value.ref (s.heap.objs.size + 1) :: us) := .cons rfl r
  have hl : (Value.ref (s.heap.objs.size + 1) :: us).length = ps.length := by
    have e := r2.length
    rw [F.len _ _ _ _ hq] at e
    exact e.symm
  have b := hb _ (Value.ref (s.heap.objs.size + 1) :: us) I2.kIn (by rw [List.append_nil]; exact hl)
  rw [List.append_nil] at b
  refine wpAny_call (make_map (f := f) I.kIn M.makes M.init (beq_iff_eq.mp M.fn) (codeAny_mono (F.run _ X.stack _ _ ⟨Value.ref (s.heap.objs.size + 1) :: us, []⟩ (Value.ref (s.heap.objs.size + 1) :: us) _ _ E (hr.make C us [])
    (I2.env0.make C us []) b r2 hq) fun r s' hq' => ?_))
  cases r with
  | error e => exact hx pins _ _ e s' I2 hq'
  | ok fl =>
    cases fl with
    | ret u =>
      obtain ⟨v, H', I3, rv, ev, q3⟩ := I2.after hq'
      subst ev
      exact ⟨rv, ⟨V.ref (s.heap.objs.size + 1), H', I3, rfl, q3⟩⟩
    | next => exact False.elim hq'
    | brk => exact False.elim hq'
    | cont => exact False.elim hq'
/-- what a call asks: a def at f that keeps a promise -/
structure Callee (X : Cx) (CX : CXT) (k : Nat) (σ : St) (f : Addr) (sp : Sp) (E : XK) : Prop where
  ex : ∃ fd ps, FnOk X.prog X.w X.K X.mg X.base CX k f fd ps sp ∧ Binds X.K fd ps [] ∧ PassesAt CX X σ E
def tFn (X : Cx) (CX : CXT) (k : Nat) (f : Addr) (t : TA) : TE := fun σ H Q => t σ H fun vs H1 => ∃ sp E, Callee X CX k σ f sp E ∧ sp vs H1 Q E
theorem pe_fn {k : Nat} {f : Addr} (hr : Room k X.A) (hg : Gl X x) (hm : X.mg x = some (.ref f)) (hk : PySem.W.keepIn X.K (.ref f) = true)
    (ha : PA X (e :: es) t) (hdb : (x == ("__debug__" : Str)) = false := by decide) (he : starEach (e :: es) X.env = (false, eval e X.env) :: starEach es X.env := by rfl) (hpl : (backTo pos (starEach es X.env)).any (·.1) = false := by rfl) :
    PE X (.Call (.Name x p) (e :: es) [] pos) (tFn X CX k f t) := by
  refine ⟨fun pins s σ H Q I h => ?_⟩
  refine wpAny_Call_Name_kw (ld_glob I hg hm ?_ hdb)
  refine PySem.W.callWith_K (h₀ := X.base) I.ok.mod.kin hk (thn (ha.run pos pins s σ H _ I h) fun us s1 ⟨vs, H1, I1, r, sp, E, ⟨fd, ps, F, hb, hx⟩, q⟩ => ⟨I1.kIn, ?_⟩) he hpl
  exact run_fnS (E := fun _ => E) F hr hb hx I1 r q
theorem pe_fn0 {k : Nat} {f : Addr} (hr : Room k X.A) (hg : Gl X x) (hm : X.mg x = some (.ref f)) (hk : PySem.W.keepIn X.K (.ref f) = true)
    (hdb : (x == ("__debug__" : Str)) = false := by decide) : PE X (.Call (.Name x p) [] [] pos) (tFn X CX k f tNil) := by
  refine ⟨fun pins s σ H Q I h => ?_⟩
  obtain ⟨sp, E, ⟨fd, ps, F, hb, hx⟩, q⟩ := h
  refine wpAny_Call_Name_kw (ld_glob I hg hm ?_ hdb)
  exact PySem.W.callWith_K0 I.kIn hk (run_fnS (us := []) (E := fun _ => E) F hr hb hx I .nil q)
def tMk (X : Cx) (CX : CXT) (k : Nat) (C f : Addr) (t : TA) : TE := fun σ H Q => t σ H fun vs H1 => ∃ sp E, Callee X CX k σ f sp E ∧ ∀ x dx, H1 x = none → H1 dx = none → dx ≠ x →
  sp (.ref x :: vs) (upd (upd H1 dx (.own x)) x (.ins C dx [])) (fun v H2 => v = .non ∧ Q (.ref x) H2) E
theorem pe_mkS {k : Nat} {f C : Addr} (M : Mk X.K C f) (hr : Room (k + 1) X.A) (hg : Gl X x) (hm : X.mg x = some (.ref C))
    (ha : PA X (e :: es) t) (hdb : (x == ("__debug__" : Str)) = false := by decide) (he : starEach (e :: es) X.env = (false, eval e X.env) :: starEach es X.env := by rfl) (hpl : (backTo pos (starEach es X.env)).any (·.1) = false := by rfl) :
    PE X (.Call (.Name x p) (e :: es) [] pos) (tMk X CX k C f t) := by
  refine ⟨fun pins s σ H Q I h => ?_⟩
  refine wpAny_Call_Name_kw (ld_glob I hg hm ?_ hdb)
  refine PySem.W.callWith_K (h₀ := X.base) I.ok.mod.kin M.kp (thn (ha.run pos pins s σ H _ I h) fun us s1 ⟨vs, H1, I1, r, sp, E, ⟨fd, ps, F, hb, hx⟩, q⟩ => ⟨I1.kIn, ?_⟩) he hpl
  exact run_makeS M F hr hb hx I1 r q
theorem pe_mkS0 {k : Nat} {f C : Addr} (M : Mk X.K C f) (hr : Room (k + 1) X.A) (hg : Gl X x) (hm : X.mg x = some (.ref C))
    (hdb : (x == ("__debug__" : Str)) = false := by decide) : PE X (.Call (.Name x p) [] [] pos) (tMk X CX k C f tNil) := by
  refine ⟨fun pins s σ H Q I h => ?_⟩
  obtain ⟨sp, E, ⟨fd, ps, F, hb, hx⟩, q⟩ := h
  refine wpAny_Call_Name_kw (ld_glob I hg hm ?_ hdb)
  exact PySem.W.callWith_K0 I.kIn M.kp (run_makeS (us := []) M F hr hb hx I .nil q)
def tMeD (X : Cx) (CX : CXT) (k : Nat) (m : Str) (ta : TE) (t : TA) : TE := fun σ H Q => ta σ H fun x H1 => ∃ a C dx fs f, x = .ref a ∧ H1 a = some (.ins C dx fs) ∧ Cls X.K C ∧ Meth X.K C m f ∧ fs.lookup m = none ∧
  t σ H1 fun vs H2 => ∃ sp E, Callee X CX k σ f sp E ∧ sp (x :: vs) H2 Q E
theorem pe_meD {k : Nat} {pl : Sem Bool} (he : PE X o ta) (hr : Room k X.A) (ha : PA X (e :: es) t)
    (hst : starEach (e :: es) X.env = (false, eval e X.env) :: starEach es X.env := by rfl) (hpl : (backTo pos (starEach es X.env)).any (·.1) = false := by rfl)
    (ht : eval (.Call (.Attribute o m apos) (e :: es) [] pos) X.env = (do
      let ov ← eval o X.env
      standAt apos.atName
      let (f, first) ← holding [ov] (getMethod ov m pl)
      callWith pos f first (backTo pos (starEach (e :: es) X.env)) (backToKw pos (keywordEach [] X.env))) := by rfl) :
    PE X (.Call (.Attribute o m apos) (e :: es) [] pos) (tMeD X CX k m ta t) := by
  refine ⟨fun pins s σ H Q I h => ?_⟩
  refine PySem.W.methodCall_KW (pl := pl) (thn (he.run pins s σ H _ I h) fun u s1 ⟨x, H1, I1, rx, a, C, dx, fs, f, ex, ea, c, hm, l, q⟩ => ?_) ht
  subst ex
  obtain rfl : u = Value.ref a := rx
  refine getmeth_ok I1 ea c hm l ?_
  refine PySem.W.callWith_K (first := [.ref a]) (h₀ := X.base) I.ok.mod.kin hm.kp (thn (ha.run pos pins s1 σ H1 _ I1 q) fun us s2 ⟨vs, H2, I2, r, sp, E, ⟨fd, ps, F, hb, hx⟩, q2⟩ => ⟨I2.kIn, ?_⟩) hst hpl
  exact run_fnS (us := .ref a :: us) (vs := .ref a :: vs) (E := fun _ => E) F hr hb hx I2 (.cons rfl r) q2
theorem pe_meD0 {k : Nat} {pl : Sem Bool} (he : PE X o ta) (hr : Room k X.A)
    (ht : eval (.Call (.Attribute o m apos) [] [] pos) X.env = (do
      let ov ← eval o X.env
      standAt apos.atName
      let (f, first) ← holding [ov] (getMethod ov m pl)
      callWith pos f first (backTo pos (starEach [] X.env)) (backToKw pos (keywordEach [] X.env))) := by rfl) :
    PE X (.Call (.Attribute o m apos) [] [] pos) (tMeD X CX k m ta tNil) := by
  refine ⟨fun pins s σ H Q I h => ?_⟩
  refine PySem.W.methodCall_KW (pl := pl) (thn (he.run pins s σ H _ I h) fun u s1 ⟨x, H1, I1, rx, a, C, dx, fs, f, ex, ea, c, hm, l, sp, E, ⟨fd, ps, F, hb, hx⟩, q⟩ => ?_) ht
  subst ex
  obtain rfl : u = Value.ref a := rx
  refine getmeth_ok I1 ea c hm l ?_
  exact PySem.W.callWith_K0 (first := [.ref a]) I1.kIn hm.kp (run_fnS (us := [.ref a]) (vs := [.ref a]) (E := fun _ => E) F hr hb hx I1 (.cons rfl .nil) q)
end

/-! ### arguments: by value, by name -/
def RepAs (L : Lo) (σ : St) (Z : AS) (H : Hp) : List V → List Arg → AS → Prop
  | vs, [], _ => vs = []
  | vs, .d x :: as, S => ∃ v ws S1 S2, vs = v :: ws ∧ (∀ b, S1 b → S b) ∧ (∀ b, S2 b → S b) ∧ (∀ b, S1 b → ¬ S2 b) ∧ Rep L Z H v x S1 ∧ RepAs L σ Z H ws as S2
  | vs, .r i :: as, S => ∃ v ws, vs = v :: ws ∧ σ[i]? = some (some v) ∧ RepAs L σ Z H ws as S
section
variable {L : Lo} {σ : St} {Z Z' : AS} {H H' : Hp} {S S' : AS}
theorem RepAs.mono : ∀ {as : List Arg} {vs : List V} {S S' : AS}, (∀ b, S b → S' b) → RepAs L σ Z H vs as S → RepAs L σ Z H vs as S'
  | [], _, _, _, _, h => h
  | .d x :: as, vs, S, S', hs, ⟨v, ws, S1, S2, e, h1, h2, dj, r1, r2⟩ => ⟨v, ws, S1, S2, e, fun b hb => hs b (h1 b hb), fun b hb => hs b (h2 b hb), dj, r1, r2⟩
  | .r i :: as, vs, S, S', hs, ⟨v, ws, e, h1, r2⟩ => ⟨v, ws, e, h1, r2.mono hs⟩
theorem RepAs.fr {U : AS} (f : Fr U H H') (o : Own U H) (hz : ∀ b, Z b → ¬ U b) (zz : ∀ b, Z b → Z' b) : ∀ {as : List Arg} {vs : List V} {S : AS}, (∀ b, S b → ¬ U b) → RepAs L σ Z H vs as S → RepAs L σ Z' H' vs as S
  | [], _, _, _, h => h
  | .d x :: as, vs, S, hs, ⟨v, ws, S1, S2, e, h1, h2, dj, r1, r2⟩ => ⟨v, ws, S1, S2, e, h1, h2, dj, rep_fr f o hz zz (fun b hb => hs b (h1 b hb)) r1, r2.fr f o hz zz fun b hb => hs b (h2 b hb)⟩
  | .r i :: as, vs, S, hs, ⟨v, ws, e, h1, r2⟩ => ⟨v, ws, e, h1, r2.fr f o hz zz hs⟩
theorem RepAs.z {as : List Arg} {vs : List V} (zz : ∀ b, Z b → Z' b) (h : RepAs L σ Z H vs as S) : RepAs L σ Z' H vs as S :=
  h.fr (U := NoAS) fr_refl (fun _ z => z.elim) (fun _ _ z => z) zz (fun _ _ z => z)
/-- the values at names -/
def pick : List Arg → List V → List V
  | .r _ :: as, v :: vs => v :: pick as vs
  | .d _ :: as, _ :: vs => pick as vs
  | _, _ => []
theorem pick_io : ∀ (as : List Arg) (vs pre : List V), as.length = vs.length → ioV (ioOf as pre.length) (pre ++ vs) = pick as vs
  | [], _, _, _ => rfl
  | .d x :: as, [], _, h => by simp at h
  | .r i :: as, [], _, h => by simp at h
  | .d x :: as, v :: vs, pre, h => by
    have := pick_io as vs (pre ++ [v]) (by simpa using h)
    simp only [List.length_append, List.length_cons, List.length_nil, List.append_assoc, List.cons_append, List.nil_append] at this
    simpa [ioOf, pick] using this
  | .r i :: as, v :: vs, pre, h => by
    have := pick_io as vs (pre ++ [v]) (by simpa using h)
    simp only [List.length_append, List.length_cons, List.length_nil, List.append_assoc, List.cons_append, List.nil_append] at this
    simp only [ioOf, pick, ioV, List.map_cons]
    rw [show (pre ++ v :: vs).getD pre.length V.non = v from by simp [List.getD]]
    exact congrArg _ this
theorem RepAs.length : ∀ {as : List Arg} {vs : List V} {S : AS}, RepAs L σ Z H vs as S → as.length = vs.length
  | [], _, _, h => by rw [show _ = [] from h]; rfl
  | .d x :: as, vs, S, ⟨v, ws, S1, S2, e, h1, h2, dj, r1, r2⟩ => by rw [e, List.length_cons, List.length_cons, r2.length]
  | .r i :: as, vs, S, ⟨v, ws, e, h1, r2⟩ => by rw [e, List.length_cons, List.length_cons, r2.length]
/-- the arguments are taken -/
theorem take_rep : ∀ {as : List Arg} {vs : List V} {e e1 : Env} {ds : List D} {Z S1 S2 : AS}, Ok Z (OrS S1 S2) H → (∀ b, S1 b → ¬ S2 b) → RepE L Z H σ e S1 → RepAs L σ Z H vs as S2 → takeArgs as e = some (ds, e1) →
    ∃ Z' T1 T2, (∀ b, Z b → Z' b) ∧ (∀ b, Z' b → Z b ∨ S2 b) ∧ (∀ b, T1 b → S1 b) ∧ (∀ b, T2 b → S1 b) ∧ (∀ b, T1 b → ¬ T2 b) ∧ RepE L Z' H σ e1 T1 ∧ Reps L Z' H vs ds T2
  | [], vs, e, e1, ds, Z, S1, S2, k, dj, re, h, et => by
    cases et
    exact ⟨Z, S1, NoAS, fun _ z => z, fun _ z => .inl z, fun _ z => z, fun _ z => z.elim, fun _ _ z => z, re, by rw [show vs = [] from h]; exact reps_nil⟩
  | .d x :: as, vs, e, e1, ds, Z, S1, S2, k, dj, re, ⟨v, ws, U1, U2, ev, h1, h2, uj, r1, r2⟩, et => by
    simp only [takeArgs] at et
    cases q : takeArgs as e with
    | none => rw [q] at et; cases et
    | some y =>
      obtain ⟨ds', e'⟩ := y
      rw [q] at et
      cases et
      obtain ⟨Z', T1, T2, z1, z2, t1, t2, tj, re', rs'⟩ := take_rep (k.mono fun b z => z.elim .inl fun z => .inr (h2 b z)) (fun b z y => dj b z (h2 b y)) re r2 q
      refine ⟨OrS Z' U1, T1, T2, fun b z => .inl (z1 b z), fun b z => z.elim (fun z => (z2 b z).elim .inl fun z => .inr (h2 b z)) fun z => .inr (h1 b z), t1, t2, tj, re'.z fun b z => .inl z, ?_⟩
      rw [ev]
      exact reps_cons (S1 := NoAS) (S2 := T2) (fun _ z => z.elim) (fun _ z => z) (fun _ z => z.elim) (rep_frz (fun b z => .inr z) (fun b z => .inl (z1 b z)) r1) (reps_z (fun b z => .inl z) rs')
  | .r i :: as, vs, e, e1, ds, Z, S1, S2, k, dj, re, ⟨v, ws, ev, hi, r2⟩, et => by
    simp only [takeArgs] at et
    cases qi : e.at i with
    | none => rw [qi] at et; cases et
    | some x =>
      rw [qi] at et
      dsimp only at et
      cases q : takeArgs as (e.set i none) with
      | none => rw [q] at et; cases et
      | some y =>
        obtain ⟨ds', e'⟩ := y
        rw [q] at et
        cases et
        obtain ⟨v', V1, V2, ev', h1, h2, vj, rv, re2⟩ := re.at qi
        rw [hi] at ev'
        cases ev'
        obtain ⟨Z', T1, T2, z1, z2, t1, t2, tj, re', rs'⟩ := take_rep (S1 := V2) (k.mono fun b z => z.elim (fun z => .inl (h2 b z)) .inr) (fun b z y => dj b (h2 b z) y) re2 r2 q
        refine ⟨Z', T1, OrS V1 T2, z1, z2, fun b z => h2 b (t1 b z), fun b z => z.elim (h1 b) fun z => h2 b (t2 b z), fun b z y => y.elim (fun y => vj b y (t1 b z)) (tj b z), re', ?_⟩
        rw [ev]
        exact reps_cons (S1 := V1) (S2 := T2) (fun _ z => .inl z) (fun _ z => .inr z) (fun b z y => vj b z (t2 b y)) (rep_z z1 rv) rs'
/-- .. and put back -/
theorem put_rep : ∀ {as : List Arg} {vs : List V} {e e2 : Env} {fs : List D} {S0 S1 S2 : AS}, (∀ b, S1 b → ¬ S2 b) → RepE L Z H σ e S1 → RepAs L σ Z' H' vs as S0 → Reps L Z H (pick as vs) fs S2 → putBack as fs e = some e2 → RepE L Z H σ e2 (OrS S1 S2)
  | [], vs, e, e2, fs, S0, S1, S2, dj, re, h, rs, ep => by
    cases fs with
    | nil => cases ep; exact re.mono fun b z => .inl z
    | cons _ _ => cases ep
  | .d x :: as, vs, e, e2, fs, S0, S1, S2, dj, re, ⟨v, ws, U1, U2, ev, h1, h2, uj, r1, r2⟩, rs, ep => by
    subst ev
    simp only [putBack] at ep
    exact put_rep dj re r2 rs ep
  | .r i :: as, vs, e, e2, fs, S0, S1, S2, dj, re, ⟨v, ws, ev, hi, r2⟩, rs, ep => by
    subst ev
    cases fs with
    | nil => cases ep
    | cons f fs =>
      simp only [putBack] at ep
      simp only [pick, Reps] at rs
      obtain ⟨v', ws', T1, T2, e', t1, t2, tj, q1, q2⟩ := rs
      cases e'
      have re' : RepE L Z H σ (e.set i (some f)) (OrS S1 T1) := (re.forget i).put hi q1 (fun b z => .inr z) (fun b z => .inl z) fun b z y => dj b y (t1 b z)
      exact (put_rep (S1 := OrS S1 T1) (S2 := T2) (fun b z y => z.elim (fun z => dj b z (t2 b y)) fun z => tj b z y) re' r2 q2 ep).mono fun b z => z.elim (fun z => z.elim .inl fun z => .inr (t1 b z)) fun z => .inr (t2 b z)
end

/-- a def runs with as many arguments as it has parameters -/
def OLen (tb : Tab) (o : Orc) : Prop := ∀ f fn, tb.fns[f]? = some fn → ∀ ds, o f ds ≠ none → ds.length = fn.np
structure PGs (X : Cx) (L : Lo) (tb : Tab) (o : Orc) (es : List Expr) (c : Es) : Prop where
  run : ∀ W, Takes X W → PA X es (fun σ H Q => tG L W (RepAs L σ) (evAs tb o c) σ H Q)
/-- between two steps, arguments in hand -/
def MidA (L : Lo) (W : WX) (σ : St) (H : Hp) (e : Env) (vs : List V) (as : List Arg) {γ β' : Type} (rep' : AS → Hp → β' → γ → AS → Prop) (Q : β' → Hp → Prop) (r : R γ) : Prop :=
  ∃ Z S1 S2, Ok Z (OrS S1 S2) H ∧ (∀ b, S1 b → ¬ S2 b) ∧ RepE L Z H σ e S1 ∧ RepAs L σ Z H vs as S2 ∧ ∃ r', r = some r' ∧ Good L W σ rep' Z (OrS S1 S2) H r' Q
section
variable {L : Lo} {W : WX} {σ : St} {α β γ β' : Type} {rep : AS → Hp → β → α → AS → Prop} {rep' : AS → Hp → β' → γ → AS → Prop} {H : Hp} {e : Env} {Q : β' → Hp → Prop} {vs : List V} {as : List Arg}
theorem MidA.bind {ev : Env → R α} {f : α → Env → R γ} (m : MidA L W σ H e vs as rep' Q (bnd (ev e) f)) {nv : β → List V} {nd : α → List Arg}
    (add : ∀ {Z : AS} {H : Hp} {v : β} {d : α} {S S2 S' : AS}, (∀ b, S b → S' b) → (∀ b, S2 b → S' b) → (∀ b, S b → ¬ S2 b) → rep Z H v d S → RepAs L σ Z H vs as S2 → RepAs L σ Z H (nv v) (nd d) S') :
    tG L W rep ev σ H (fun v H1 => ∃ d e1, MidA L W σ H1 e1 (nv v) (nd d) rep' Q (f d e1)) := by
  obtain ⟨Z, S1, S2, k, dj, re, rs, r', h, g⟩ := m
  have k1 : Ok Z S1 H := k.mono fun b z => .inl z
  cases q : ev e with
  | none => rw [q] at h; cases h
  | some r =>
    rw [q] at h
    refine ⟨Z, S1, e, r, k1, re, q, ?_⟩
    cases r with
    | exc x e1 =>
      simp only [bnd_exc, Option.some.injEq] at h
      subst h
      intro cls dd H' Z' T a k' re' rx
      obtain ⟨a', k2, _⟩ := a.hold k dj k'
      exact g cls dd H' Z' (OrS T S2) a' k2 (re'.mono fun b z => .inl z) rx
    | val d e1 =>
      simp only [bnd_val] at h
      intro v H' Z' T1 T2 a k' dj' re' rv
      obtain ⟨a', k2, d2⟩ := a.hold k dj k'
      refine ⟨d, e1, Z', T1, OrS T2 S2, k2.mono fun b z => ?_, fun b hb z => ?_, re', add (S := T2) (S2 := S2) (fun b z => Or.inl z) (fun b z => Or.inr z) (fun b z => d2 b (.inr z)) rv
        (rs.fr a.fr k1.own (fun b z y => k1.dj b y z) a.zz (fun b z y => dj b y z)), r', h, g.step (a'.trans (Step.refl fun b z => ?_))⟩
      · rcases z with z | z | z
        · exact .inl (.inl z)
        · exact .inl (.inr z)
        · exact .inr z
      · rcases z with z | z
        · exact dj' b hb z
        · exact d2 b (.inl hb) z
      · rcases z with z | z | z
        · exact .inl (.inl z)
        · exact .inl (.inr z)
        · exact .inr z
theorem tG.midA {ev : Env → R γ} (h : tG L W rep' ev σ H Q) : ∃ e, MidA L W σ H e [] [] rep' Q (ev e) := by
  obtain ⟨Z, S, e, r, k, re, h, g⟩ := h
  exact ⟨e, Z, S, NoAS, k.noOr, fun _ _ z => z, re, rfl, r, h, g.step (Step.refl fun b z => z.elim id (fun z => z.elim))⟩
theorem repAs_d {Z : AS} {H : Hp} {v : V} {d : D} {S S2 S' : AS} {vs : List V} {as : List Arg} (h1 : ∀ b, S b → S' b) (h2 : ∀ b, S2 b → S' b) (dj : ∀ b, S b → ¬ S2 b) (r : Rep L Z H v d S) (rs : RepAs L σ Z H vs as S2) : RepAs L σ Z H (v :: vs) (.d d :: as) S' :=
  ⟨v, vs, S, S2, rfl, h1, h2, dj, r, rs⟩
theorem RepAs.append {Z : AS} {H : Hp} : ∀ {as bs : List Arg} {vs ws : List V} {S S1 S2 : AS}, (∀ b, S1 b → S b) → (∀ b, S2 b → S b) → (∀ b, S1 b → ¬ S2 b) → RepAs L σ Z H vs as S1 → RepAs L σ Z H ws bs S2 → RepAs L σ Z H (vs ++ ws) (as ++ bs) S
  | [], bs, vs, ws, S, S1, S2, h1, h2, dj, r1, r2 => by
    rw [show vs = [] from r1]
    exact r2.mono h2
  | .d x :: as, bs, vs, ws, S, S1, S2, h1, h2, dj, ⟨v, us, T1, T2, e, t1, t2, tj, q1, q2⟩, r2 => by
    rw [e]
    exact ⟨v, us ++ ws, T1, fun b => T2 b ∨ S2 b, rfl, fun b hb => h1 b (t1 b hb), fun b hb => hb.elim (fun z => h1 b (t2 b z)) (h2 b), fun b hb z => z.elim (tj b hb) (dj b (t1 b hb)), q1,
      RepAs.append (fun b hb => .inl hb) (fun b hb => .inr hb) (fun b hb => dj b (t2 b hb)) q2 r2⟩
  | .r i :: as, bs, vs, ws, S, S1, S2, h1, h2, dj, ⟨v, us, e, hi, q2⟩, r2 => by
    rw [e]
    exact ⟨v, us ++ ws, rfl, hi, RepAs.append h1 h2 dj q2 r2⟩
theorem MidA.many {ev : Env → R (List Arg)} {f : List Arg → Env → R γ} (m : MidA L W σ H e vs as rep' Q (bnd (ev e) f)) :
    tG L W (RepAs L σ) ev σ H (fun ws H1 => ∃ es e1, MidA L W σ H1 e1 (vs ++ ws) (as ++ es) rep' Q (f es e1)) :=
  m.bind (nv := fun v => vs ++ v) (nd := fun d => as ++ d) fun h1 h2 dj r1 r2 => RepAs.append h2 h1 (fun b z y => dj b y z) r2 r1
theorem MidA.one {ev : Env → R D} {f : D → Env → R γ} (m : MidA L W σ H e vs as rep' Q (bnd (ev e) f)) :
    tG L W (Rep L) ev σ H (fun v H1 => ∃ d e1, MidA L W σ H1 e1 (vs ++ [v]) (as ++ [.d d]) rep' Q (f d e1)) :=
  m.bind (nv := fun v => vs ++ [v]) (nd := fun d => as ++ [.d d]) fun {Z H v d S S2 S'} h1 h2 dj r1 r2 => RepAs.append (S2 := S) h2 h1 (fun b z y => dj b y z) r2 (repAs_d (S2 := NoAS) (fun _ z => z) (fun _ z => z.elim) (fun _ _ z => z) r1 (show RepAs L σ Z H [] [] NoAS from rfl))
theorem MidA.fin {d : γ} {v : β'} (m : MidA L W σ H e vs as rep' Q (some (.val d e))) (h : ∀ Z S, Ok Z S H → RepAs L σ Z H vs as S → rep' Z H v d S) : Q v H := by
  obtain ⟨Z, S1, S2, k, dj, re, rs, r', e', g⟩ := m
  cases e'
  exact g v H Z S1 S2 (Step.refl fun _ z => z) k dj re (h Z S2 (k.mono fun b z => .inr z) rs)
theorem MidA.none (m : MidA L W σ H e vs as rep' Q none) : False := by
  obtain ⟨Z, S1, S2, k, dj, re, rs, r', h, g⟩ := m
  cases h
theorem MidA.grow {p : Addr} {ob : HO} {r : R γ} (m : MidA L W σ H e vs as rep' Q r) (hp : H p = Option.none) : MidA L W σ (upd H p ob) e vs as rep' Q r := by
  obtain ⟨Z, S1, S2, k, dj, re, rs, r', e', g⟩ := m
  have f0 : Fr NoAS H (upd H p ob) := upd_fr hp NoAS
  have k2 : Ok Z (OrS S1 S2) (upd H p ob) := by
    refine ⟨k.dj, fun b hb => ?_, fun b z y => k.zd b z (upd_nn y)⟩
    rw [upd_ne (fun c => by subst c; exact k.sd hb hp)]
    exact k.own b hb
  exact ⟨Z, S1, S2, k2, dj, re.fr f0 (fun _ z => z.elim) (fun _ _ z => z) (fun _ z => z) fun _ _ z => z, rs.fr f0 (fun _ z => z.elim) (fun _ _ z => z) (fun _ z => z) (fun _ _ z => z), r', e', g.step ⟨fun _ z => z, fun _ z => .inl z, fun b z => .inl z, upd_fr hp _, fun b => upd_nn⟩⟩
/-- THE CALL: the arguments are in hand; the promise is as it is asked -/
theorem MidA.call {tb : Tab} {o : Orc} {f : Nat} {Q : V → Hp → Prop} (m : MidA L W σ H e vs as (Rep L) Q (runCall tb o f as e)) (hl : ∀ fn, tb.fns[f]? = some fn → ∀ ds, o f ds ≠ Option.none → ds.length = fn.np) : spF L tb o f vs H Q (fun cls dd H' => W cls dd σ H') := by
  obtain ⟨Z, S1, S2, k, dj, re, rs, r', h, g⟩ := m
  unfold runCall at h
  cases qt : takeArgs as e with
  | none => rw [qt] at h; cases h
  | some y =>
    obtain ⟨ds, e1⟩ := y
    rw [qt] at h
    dsimp only at h
    cases qf : tb.fns[f]? with
    | none => rw [qf] at h; simp at h
    | some fn =>
      rw [qf] at h
      simp only [Option.map_some, Option.some.injEq] at h
      split at h
      · rename_i hio
        obtain ⟨Z1, T1, T2, z1, z2, t1, t2, tj, re1, rs1⟩ := take_rep k dj re rs qt
        have kk : Ok Z1 (OrS T2 T1) H := ⟨fun b hb z => by
            have hb1 : S1 b := hb.elim (t2 b) (t1 b)
            exact (z2 b z).elim (k.dj b (.inl hb1)) (dj b hb1), fun b hb => k.own b (.inl (hb.elim (t2 b) (t1 b))), fun b z => (z2 b z).elim (k.zd b) fun z => k.sd (.inr z)⟩
        have st0 : Step Z (OrS S1 S2) H Z1 (OrS T2 T1) H := ⟨z1, fun b z => (z2 b z).elim .inl fun z => .inr (.inl (.inr z)), fun b z => .inl (.inl (z.elim (t2 b) (t1 b))), fr_refl, fun _ z => z⟩
        cases qo : o f ds with
        | none => rw [qo] at h; cases h
        | some cr =>
          rw [qo] at h
          have len : ds.length = fn.np := hl fn qf ds (by rw [qo]; exact fun z => by cases z)
          have pk : ioV fn.io vs = pick as vs := by
            have q := pick_io as vs [] rs.length
            rw [hio]
            simpa using q
          refine ⟨fn, Z1, T2, ds, cr, qf, len, kk.mono fun b z => .inl z, rs1, qo, ?_⟩
          cases cr with
          | val d fs =>
            dsimp only at h ⊢
            cases qp : putBack as fs e1 with
            | none => rw [qp] at h; cases h
            | some e2 =>
              rw [qp] at h
              simp only [Option.map_some, Option.some.injEq] at h
              subst h
              intro v H' Z' U1 U2 a k' uj rfs rv
              rw [pk] at rfs
              obtain ⟨a', k2, d2⟩ := a.hold kk (fun b z y => tj b y z) k'
              have re1' := re1.fr a.fr (kk.mono fun b z => Or.inl z).own (fun b z y => kk.dj b (.inl y) z) a.zz (fun b z y => tj b z y)
              have re2 := put_rep (S1 := T1) (S2 := U1) (fun b z y => d2 b (.inl y) z) re1' rs rfs qp
              have sub : ∀ b, OrS (OrS T1 U1) U2 b → OrS (OrS U1 U2) T1 b := fun b z => z.elim (fun z => z.elim .inr fun z => .inl (.inl z)) fun z => .inl (.inr z)
              exact g v H' Z' (OrS T1 U1) U2 ((st0.trans a').trans (Step.refl sub)) (k2.mono sub) (fun b z y => z.elim (fun z => d2 b (.inr y) z) fun z => uj b z y) re2 rv
          | exc x fs =>
            dsimp only at h ⊢
            cases qp : putBack as fs e1 with
            | none => rw [qp] at h; cases h
            | some e2 =>
              rw [qp] at h
              simp only [Option.map_some, Option.some.injEq] at h
              subst h
              intro cls dd H' Z' U1 a k' rfs rx
              rw [pk] at rfs
              obtain ⟨a', k2, d2⟩ := a.hold kk (fun b z y => tj b y z) k'
              have re1' := re1.fr a.fr (kk.mono fun b z => Or.inl z).own (fun b z y => kk.dj b (.inl y) z) a.zz (fun b z y => tj b z y)
              have re2 := put_rep (S1 := T1) (S2 := U1) (fun b z y => d2 b y z) re1' rs rfs qp
              have sub : ∀ b, OrS T1 U1 b → OrS U1 T1 b := fun b z => z.elim .inr .inl
              exact g cls dd H' Z' (OrS T1 U1) ((st0.trans a').trans (Step.refl sub)) (k2.mono sub) re2 rx
      · cases h
end
end PL
namespace PL
open PySem L2
section
variable {X : Cx} {L : Lo} {tb : Tab} {o : Orc} {k : Nat} {pos p : Pos} {a b c : Expr} {es : List Expr} {ca cb cc : E} {cs : Es} {W : WX} {x : Str}
theorem cg_nil : PGs X L tb o [] .n := ⟨fun W tk => PAimp pa_nil fun σ H Q h => by
  obtain ⟨e, m⟩ := h.midA
  simp only [evAs] at m
  exact m.fin fun Z S _ _ => rfl⟩
theorem cg_cons (ha : PEs X L tb o a ca) (hr : PGs X L tb o es cs) (hs : starEach (a :: es) X.env = (false, eval a X.env) :: starEach es X.env := by rfl) : PGs X L tb o (a :: es) (.c ca cs) :=
  ⟨fun W tk => PAimp (pa_cons (ha.run W tk) (hr.run W tk) hs) fun σ H Q h => by
    obtain ⟨e, m⟩ := h.midA
    simp only [evAs] at m
    refine m.one.imp fun v H1 ⟨d, e1, m1⟩ => ?_
    refine m1.many.imp fun vs H2 ⟨ds, e2, m2⟩ => ?_
    exact m2.fin fun Z S _ r => r⟩
theorem MidA.at {σ : St} {H : Hp} {e : Env} {vs : List V} {as : List Arg} {γ β' : Type} {rep' : AS → Hp → β' → γ → AS → Prop} {Q : β' → Hp → Prop} {r : R γ} (m : MidA L W σ H e vs as rep' Q r) {i : Nat} {d : D} (h : e.at i = some d) : ∃ v, σ[i]? = some (some v) ∧ MidA L W σ H e (vs ++ [v]) (as ++ [.r i]) rep' Q r ∧ ∃ Z S, Rep L Z H v d S := by
  obtain ⟨Z, S1, S2, k, dj, re, rs, r', e', g⟩ := m
  obtain ⟨v, U1, U2, ev, h1, h2, uj, rv, re2⟩ := re.at h
  exact ⟨v, ev, ⟨Z, S1, S2, k, dj, re, RepAs.append (S2 := NoAS) (fun _ z => z) (fun _ z => z.elim) (fun _ _ z => z) rs ⟨v, [], rfl, ev, rfl⟩, r', e', g⟩, Z, U1, rv⟩
theorem cg_io (i : Nat) (hr : PGs X L tb o es cs) (hN : X.N[i]? = some x := by rfl) (hv : Vis X.env.scope x := by first | exact Or.inl rfl | exact Or.inr (Or.inl rfl) | exact Or.inr (Or.inr rfl)) (hd : (x == ("__debug__" : Str)) = false := by decide)
    (hcd : (x == ("__classdict__" : Str)) = false := by decide) : PGs X L tb o (.Name x p :: es) (.io i cs) :=
  ⟨fun W tk => PAimp (pa_cons (pv i hN hv hd hcd) (hr.run W tk)) fun σ H Q h => by
    obtain ⟨e, m⟩ := h.midA
    simp only [evAs] at m
    cases q : e.at i with
    | none => rw [q] at m; exact m.none.elim
    | some d =>
      rw [q] at m
      obtain ⟨v, ev, m1, _⟩ := m.at q
      refine ⟨v, ev, m1.many.imp fun vs H2 ⟨ds, e2, m2⟩ => ?_⟩
      exact m2.fin fun Z S _ r => r⟩
/-- the promise that is asked of a def of the program -/
theorem callee_of [Lay X L tb o k] {σ : St} {f : Nat} {fn : Fn} (hf : tb.fns[f]? = some fn) (tk : Takes X W) : Callee X (L2.CX X.prog X.w) k σ (L.fadr f) (spF L tb o f) (fun cls dd H' => W cls dd σ H') := by
  obtain ⟨F, kp, b, _⟩ := Lay.fn (X := X) (L := L) (tb := tb) (o := o) (k := k) f fn hf
  exact ⟨_, _, F, b, passAt tk σ⟩
theorem MidA.called [Lay X L tb o k] {σ : St} {H : Hp} {e : Env} {vs : List V} {as : List Arg} {f : Nat} {Q : V → Hp → Prop} (hlen : OLen tb o) (m : MidA L W σ H e vs as (Rep L) Q (runCall tb o f as e)) (tk : Takes X W) : ∃ sp E, Callee X (L2.CX X.prog X.w) k σ (L.fadr f) sp E ∧ sp vs H Q E := by
  have h := m.call fun fn hf ds => hlen f fn hf ds
  obtain ⟨fn, Z, S, ds, r, hf, _⟩ := id h
  exact ⟨_, _, callee_of hf tk, h⟩
theorem ce_call [Lay X L tb o k] (f : Nat) (hlen : OLen tb o) (ha : PGs X L tb o (a :: es) cs) (hx : L.fname f = x := by rfl) (ht : L.ftop f = true := by rfl) (hin : (tb.fns[f]?).isSome = true := by rfl) (hg : Gl X x := by rfl) (hdb : (x == ("__debug__" : Str)) = false := by decide)
    (he : starEach (a :: es) X.env = (false, eval a X.env) :: starEach es X.env := by rfl) (hpl : (backTo pos (starEach es X.env)).any (·.1) = false := by rfl) : PEs X L tb o (.Call (.Name x p) (a :: es) [] pos) (.call f cs) :=
  ⟨fun W tk => by
    obtain ⟨fn, hf⟩ := Option.isSome_iff_exists.mp hin
    refine PEimp (pe_fn (CX := L2.CX X.prog X.w) (k := k) (f := L.fadr f) Lay.room hg (by rw [← hx]; exact Lay.top (X := X) (tb := tb) (o := o) (k := k) f ht) (Lay.fn (X := X) (L := L) (tb := tb) (o := o) (k := k) f fn hf).2.1 (ha.run W tk) hdb he hpl) fun σ H Q h => ?_
    obtain ⟨e, m⟩ := h.midA
    simp only [evE] at m
    refine m.many.imp fun vs H1 ⟨as, e1, m1⟩ => ?_
    exact MidA.called hlen m1 tk⟩
theorem ce_call0 [Lay X L tb o k] (f : Nat) (hlen : OLen tb o) (hx : L.fname f = x := by rfl) (ht : L.ftop f = true := by rfl) (hin : (tb.fns[f]?).isSome = true := by rfl) (hg : Gl X x := by rfl) (hdb : (x == ("__debug__" : Str)) = false := by decide) : PEs X L tb o (.Call (.Name x p) [] [] pos) (.call f .n) :=
  ⟨fun W tk => by
    obtain ⟨fn, hf⟩ := Option.isSome_iff_exists.mp hin
    refine PEimp (pe_fn0 (CX := L2.CX X.prog X.w) (k := k) (f := L.fadr f) Lay.room hg (by rw [← hx]; exact Lay.top (X := X) (tb := tb) (o := o) (k := k) f ht) (Lay.fn (X := X) (L := L) (tb := tb) (o := o) (k := k) f fn hf).2.1 hdb) fun σ H Q h => ?_
    obtain ⟨e, m⟩ := h.midA
    simp only [evE, evAs, bnd_val] at m
    exact MidA.called hlen m tk⟩
theorem no_attr {ns : List Str} {vs : List V} {m : Str} (h : ns.contains m = false) : (ns.zip vs).lookup m = none := by
  induction ns generalizing vs with
  | nil => rfl
  | cons n ns ih =>
    cases vs with
    | nil => rfl
    | cons v vs =>
      simp only [List.contains_cons, Bool.or_eq_false_iff] at h
      rw [List.zip_cons_cons, List.lookup_cons, h.1]
      exact ih h.2
theorem ce_meth [Lay X L tb o k] {m : Str} {apos : Pos} {pl : Sem Bool} (hlen : OLen tb o) (hc : PEs X L tb o c cc) (ha : PGs X L tb o (a :: es) cs)
    (hst : starEach (a :: es) X.env = (false, eval a X.env) :: starEach es X.env := by rfl) (hpl : (backTo pos (starEach es X.env)).any (·.1) = false := by rfl)
    (ht : eval (.Call (.Attribute c m apos) (a :: es) [] pos) X.env = (do
      let ov ← eval c X.env
      standAt apos.atName
      let (f, first) ← holding [ov] (getMethod ov m pl)
      callWith pos f first (backTo pos (starEach (a :: es) X.env)) (backToKw pos (keywordEach [] X.env))) := by rfl) : PEs X L tb o (.Call (.Attribute c m apos) (a :: es) [] pos) (.meth m cc cs) :=
  ⟨fun W tk => PEimp (pe_meD (CX := L2.CX X.prog X.w) (k := k) (pl := pl) (hc.run W tk) Lay.room (ha.run W tk) hst hpl ht) fun σ H Q h => by
    obtain ⟨e, m1⟩ := h.midA
    simp only [evE] at m1
    refine m1.one.imp fun v H1 ⟨d, e1, m2⟩ => ?_
    cases d with
    | nd kd ow xs =>
      cases kd with
      | ins cn ns =>
        dsimp only at m2
        cases qm : tb.meth cn m with
        | none => rw [qm] at m2; exact m2.none.elim
        | some f =>
          rw [qm] at m2
          dsimp only at m2
          cases qc : ns.contains m with
          | true => simp only [qc, if_true] at m2; exact m2.none.elim
          | false =>
            simp only [qc, Bool.false_eq_true, if_false] at m2
            obtain ⟨Z, S1, S2, kk, dj, re, rs, _⟩ := id m2
            obtain ⟨v', ws, T1, T2, ev, h1, h2, tj, r1, r2⟩ := rs
            cases ev
            obtain ⟨q, vs, dx, rfl, hl, hq, _, rr⟩ := shape_ins r1
            obtain ⟨hcl, hme⟩ := Lay.met (X := X) (L := L) (tb := tb) (o := o) (k := k) cn m f qm
            refine ⟨q, _, dx, _, _, rfl, hq, hcl, hme, no_attr qc, ?_⟩
            refine m2.many.imp fun vs H2 ⟨as, e2, m3⟩ => ?_
            exact MidA.called hlen m3 tk
      | _ => exact m2.none.elim
    | _ => exact m2.none.elim⟩
theorem ce_meth0 [Lay X L tb o k] {m : Str} {apos : Pos} {pl : Sem Bool} (hlen : OLen tb o) (hc : PEs X L tb o c cc)
    (ht : eval (.Call (.Attribute c m apos) [] [] pos) X.env = (do
      let ov ← eval c X.env
      standAt apos.atName
      let (f, first) ← holding [ov] (getMethod ov m pl)
      callWith pos f first (backTo pos (starEach [] X.env)) (backToKw pos (keywordEach [] X.env))) := by rfl) : PEs X L tb o (.Call (.Attribute c m apos) [] [] pos) (.meth m cc .n) :=
  ⟨fun W tk => PEimp (pe_meD0 (CX := L2.CX X.prog X.w) (k := k) (pl := pl) (hc.run W tk) Lay.room ht) fun σ H Q h => by
    obtain ⟨e, m1⟩ := h.midA
    simp only [evE] at m1
    refine m1.one.imp fun v H1 ⟨d, e1, m2⟩ => ?_
    cases d with
    | nd kd ow xs =>
      cases kd with
      | ins cn ns =>
        dsimp only at m2
        cases qm : tb.meth cn m with
        | none => rw [qm] at m2; exact m2.none.elim
        | some f =>
          rw [qm] at m2
          dsimp only at m2
          cases qc : ns.contains m with
          | true => simp only [qc, if_true] at m2; exact m2.none.elim
          | false =>
            simp only [qc, Bool.false_eq_true, if_false, evAs, bnd_val] at m2
            obtain ⟨Z, S1, S2, kk, dj, re, rs, _⟩ := id m2
            obtain ⟨v', ws, T1, T2, ev, h1, h2, tj, r1, r2⟩ := rs
            cases ev
            obtain ⟨q, vs, dx, rfl, hl, hq, _, rr⟩ := shape_ins r1
            obtain ⟨hcl, hme⟩ := Lay.met (X := X) (L := L) (tb := tb) (o := o) (k := k) cn m f qm
            refine ⟨q, _, dx, _, _, rfl, hq, hcl, hme, no_attr qc, ?_⟩
            exact MidA.called hlen m2 tk
      | _ => exact m2.none.elim
    | _ => exact m2.none.elim⟩
/-- o.m(..), o a name whose object the method may change -/
theorem ce_methR [Lay X L tb o k] {m : Str} {apos : Pos} {pl : Sem Bool} (i : Nat) (hlen : OLen tb o) (ha : PGs X L tb o (a :: es) cs) (hN : X.N[i]? = some x := by rfl) (hv : Vis X.env.scope x := by first | exact Or.inl rfl | exact Or.inr (Or.inl rfl) | exact Or.inr (Or.inr rfl)) (hd : (x == ("__debug__" : Str)) = false := by decide)
    (hcd : (x == ("__classdict__" : Str)) = false := by decide)
    (hst : starEach (a :: es) X.env = (false, eval a X.env) :: starEach es X.env := by rfl) (hpl : (backTo pos (starEach es X.env)).any (·.1) = false := by rfl)
    (ht : eval (.Call (.Attribute (.Name x p) m apos) (a :: es) [] pos) X.env = (do
      let ov ← eval (.Name x p) X.env
      standAt apos.atName
      let (f, first) ← holding [ov] (getMethod ov m pl)
      callWith pos f first (backTo pos (starEach (a :: es) X.env)) (backToKw pos (keywordEach [] X.env))) := by rfl) : PEs X L tb o (.Call (.Attribute (.Name x p) m apos) (a :: es) [] pos) (.methR m i cs) :=
  ⟨fun W tk => PEimp (pe_meD (CX := L2.CX X.prog X.w) (k := k) (pl := pl) (pv i hN hv hd hcd) Lay.room (ha.run W tk) hst hpl ht) fun σ H Q h => by
    obtain ⟨e, m1⟩ := h.midA
    simp only [evE] at m1
    cases q : e.at i with
    | none => rw [q] at m1; exact m1.none.elim
    | some d =>
      rw [q] at m1
      obtain ⟨v, ev, m2, Z, S, r1⟩ := m1.at q
      refine ⟨v, ev, ?_⟩
      cases d with
      | nd kd ow xs =>
        cases kd with
        | ins cn ns =>
          dsimp only at m2
          cases qm : tb.meth cn m with
          | none => rw [qm] at m2; exact m2.none.elim
          | some f =>
            rw [qm] at m2
            dsimp only at m2
            cases qc : ns.contains m with
            | true => simp only [qc, if_true] at m2; exact m2.none.elim
            | false =>
              simp only [qc, Bool.false_eq_true, if_false] at m2
              obtain ⟨q, vs, dx, rfl, hl, hq, _, rr⟩ := shape_ins r1
              obtain ⟨hcl, hme⟩ := Lay.met (X := X) (L := L) (tb := tb) (o := o) (k := k) cn m f qm
              refine ⟨q, _, dx, _, _, rfl, hq, hcl, hme, no_attr qc, ?_⟩
              refine m2.many.imp fun vs H2 ⟨as, e2, m3⟩ => ?_
              exact MidA.called hlen m3 tk
        | _ => exact m2.none.elim
      | _ => exact m2.none.elim⟩
theorem ce_methR0 [Lay X L tb o k] {m : Str} {apos : Pos} {pl : Sem Bool} (i : Nat) (hlen : OLen tb o) (hN : X.N[i]? = some x := by rfl) (hv : Vis X.env.scope x := by first | exact Or.inl rfl | exact Or.inr (Or.inl rfl) | exact Or.inr (Or.inr rfl)) (hd : (x == ("__debug__" : Str)) = false := by decide)
    (hcd : (x == ("__classdict__" : Str)) = false := by decide)
    (ht : eval (.Call (.Attribute (.Name x p) m apos) [] [] pos) X.env = (do
      let ov ← eval (.Name x p) X.env
      standAt apos.atName
      let (f, first) ← holding [ov] (getMethod ov m pl)
      callWith pos f first (backTo pos (starEach [] X.env)) (backToKw pos (keywordEach [] X.env))) := by rfl) : PEs X L tb o (.Call (.Attribute (.Name x p) m apos) [] [] pos) (.methR m i .n) :=
  ⟨fun W tk => PEimp (pe_meD0 (CX := L2.CX X.prog X.w) (k := k) (pl := pl) (pv i hN hv hd hcd) Lay.room ht) fun σ H Q h => by
    obtain ⟨e, m1⟩ := h.midA
    simp only [evE] at m1
    cases q : e.at i with
    | none => rw [q] at m1; exact m1.none.elim
    | some d =>
      rw [q] at m1
      obtain ⟨v, ev, m2, Z, S, r1⟩ := m1.at q
      refine ⟨v, ev, ?_⟩
      cases d with
      | nd kd ow xs =>
        cases kd with
        | ins cn ns =>
          dsimp only at m2
          cases qm : tb.meth cn m with
          | none => rw [qm] at m2; exact m2.none.elim
          | some f =>
            rw [qm] at m2
            dsimp only at m2
            cases qc : ns.contains m with
            | true => simp only [qc, if_true] at m2; exact m2.none.elim
            | false =>
              simp only [qc, Bool.false_eq_true, if_false, evAs, bnd_val] at m2
              obtain ⟨q, vs, dx, rfl, hl, hq, _, rr⟩ := shape_ins r1
              obtain ⟨hcl, hme⟩ := Lay.met (X := X) (L := L) (tb := tb) (o := o) (k := k) cn m f qm
              refine ⟨q, _, dx, _, _, rfl, hq, hcl, hme, no_attr qc, ?_⟩
              exact MidA.called hlen m2 tk
        | _ => exact m2.none.elim
      | _ => exact m2.none.elim⟩
/-- C(..) -/
theorem mk_run [Lay X L tb o k] {σ : St} {H : Hp} {Q : VK} {e : Env} {vs : List V} {ds : List D} {cn f : Nat} (hlen : OLen tb o) (hf : tb.init cn = some f)
    (m : Mid L W σ H e vs ds (Rep L) Q (match tb.init cn with
      | none => none
      | some f => if (tb.fns[f]?).map (·.io) = some [0] then
          match o f (.nd (.ins cn []) true [] :: ds.map D.frz) with
          | some (.val .non [x]) => some (.val x e)
          | some (.exc x [_]) => some (.exc x e)
          | _ => none
        else none)) (tk : Takes X W) : ∃ sp E, Callee X (L2.CX X.prog X.w) k σ (L.fadr f) sp E ∧ ∀ x dx, H x = none → H dx = none → dx ≠ x →
      sp (.ref x :: vs) (upd (upd H dx (.own x)) x (.ins (L.cls cn) dx [])) (fun v H2 => v = .non ∧ Q (.ref x) H2) E := by
  rw [hf] at m
  dsimp only at m
  cases qf : tb.fns[f]? with
  | none => rw [qf] at m; simp at m; exact m.none.elim
  | some fn =>
    refine ⟨_, _, callee_of qf tk, fun x dx hx hdx ne => ?_⟩
    rw [qf] at m
    simp only [Option.map_some, Option.some.injEq] at m
    by_cases hio : fn.io = [0]
    · rw [if_pos hio] at m
      have hx' : upd H dx (.own x) x = none := by rw [upd_ne (Ne.symm ne)]; exact hx
      have m2 := (m.growT (ob := .own x) hdx)
      obtain ⟨Z, S1, S2, kk, dj, re, rs, r', h, g⟩ := m2
      -- the new instance is ours
      have f0 : Fr NoAS (upd H dx (.own x)) (upd (upd H dx (.own x)) x (.ins (L.cls cn) dx [])) := upd_fr hx' NoAS
      have sx : ∀ b, OrS S1 S2 b → b ≠ x := fun b z y => by subst y; exact kk.sd z hx'
      have zx : ∀ b, Z b → b ≠ x := fun b z y => by subst y; exact kk.zd b z hx'
      let N : AS := fun b => b = x
      have sx' : ∀ b, N b → ¬ OrS S1 S2 b := fun b z y => sx b y z
      have kN : Ok (OrS Z S2) (OrS N S1) (upd (upd H dx (.own x)) x (.ins (L.cls cn) dx [])) := by
        refine ⟨fun b hb z => ?_, fun b hb => ?_, fun b z y => ?_⟩
        · rcases hb with hb | hb
          · rcases z with z | z
            · exact zx b z hb
            · exact sx b (.inr z) hb
          · rcases z with z | z
            · exact kk.dj b (.inl hb) z
            · exact dj b hb z
        · rcases hb with hb | hb
          · rw [show b = x from hb, upd_same]; exact trivial
          · rw [upd_ne (sx b (.inl hb))]; exact kk.own b (.inl hb)
        · have y' := upd_nn y
          rcases z with z | z
          · exact kk.zd b z y'
          · exact kk.sd (.inr z) y'
      have st0 : Step Z (OrS S1 S2) (upd H dx (.own x)) (OrS Z S2) (OrS N S1) (upd (upd H dx (.own x)) x (.ins (L.cls cn) dx [])) :=
        ⟨fun b z => .inl z, fun b z => z.elim .inl fun z => .inr (.inl (.inr z)), fun b z => z.elim (fun z => .inr (by rw [show b = x from z]; exact hx')) fun z => .inl (.inl z), upd_fr hx' _, fun b => upd_nn⟩
      have frzs : ∀ {l : List D} {ws : List V} {S : AS}, (∀ b, S b → OrS Z S2 b) → Reps L Z (upd H dx (.own x)) ws l S → Reps L (OrS Z S2) (upd H dx (.own x)) ws (l.map D.frz) NoAS := by
        intro l
        induction l with
        | nil => intro ws S _ h; exact h
        | cons y ys ih =>
          intro ws S hs h
          simp only [Reps] at h
          obtain ⟨v, us, T1, T2, e', t1, t2, tj, q1, q2⟩ := h
          rw [e']
          exact reps_cons (S1 := NoAS) (S2 := NoAS) (fun _ z => z) (fun _ z => z) (fun _ z => z.elim) (rep_frz (fun b z => hs b (t1 b z)) (fun b z => .inl z) q1) (ih (fun b z => hs b (t2 b z)) q2)
      have rds := reps_fr (Z' := OrS Z S2) f0 (fun _ z => z.elim) (fun _ _ z => z) (fun _ z => z) (fun _ _ z => z) (frzs (fun b z => .inr z) rs)
      have rall : Reps L (OrS Z S2) (upd (upd H dx (.own x)) x (.ins (L.cls cn) dx [])) (.ref x :: vs) (.nd (.ins cn []) true [] :: ds.map D.frz) N := by
        refine reps_cons (S1 := N) (S2 := NoAS) (fun _ z => z) (fun _ z => z.elim) (fun _ _ z => z) ?_ rds
        simp only [Rep]
        exact ⟨x, [], rfl, ⟨rfl, ⟨dx, upd_same⟩, fun z => (by cases z)⟩, fun _ => rfl, reps_nil⟩
      have re1 := re.fr (Z' := OrS Z S2) f0 (fun _ z => z.elim) (fun _ _ z => z) (fun b z => .inl z) (fun _ _ z => z)
      cases qo : o f (.nd (.ins cn []) true [] :: ds.map D.frz) with
      | none => rw [qo] at h; cases h
      | some cr =>
        rw [qo] at h
        have len := hlen f fn qf _ (by rw [qo]; exact fun z => by cases z)
        refine ⟨fn, OrS Z S2, N, _, cr, qf, len, kN.mono fun b z => .inl z, rall, qo, ?_⟩
        rw [hio]
        cases cr with
        | val d fs =>
          dsimp only at h ⊢
          intro v H' Z' U1 U2 a k' uj rfs rv
          have go : ∃ y, d = .non ∧ fs = [y] ∧ r' = .val y e := by
            cases d <;> (try cases h)
            cases fs with
            | nil => cases h
            | cons y ys =>
              cases ys with
              | nil => cases h; exact ⟨y, rfl, rfl, rfl⟩
              | cons _ _ => cases h
          obtain ⟨y, rfl, rfl, rfl⟩ := go
          refine ⟨rep_non rv, ?_⟩
          obtain ⟨a', k2, d2⟩ := a.hold kN (fun b z y => sx b (.inl y) z) k'
          have re2 := re1.fr a.fr (kN.mono fun b z => Or.inl z).own (fun b z y => kN.dj b (.inl y) z) a.zz (fun b z y => sx b (.inl z) y)
          obtain ⟨w, ew, rw'⟩ := reps1 rfs
          have ew' : w = .ref x := by
            simp only [ioV, List.map_cons, List.map_nil, List.getD_cons_zero] at ew
            cases ew; rfl
          subst ew'
          have sub : ∀ b, OrS S1 U1 b → OrS (OrS U1 U2) S1 b := fun b z => z.elim .inr fun z => .inl (.inl z)
          exact g (.ref x) H' Z' S1 U1 ((st0.trans a').trans (Step.refl sub)) (k2.mono sub) (fun b z y => d2 b (.inl y) z) re2 rw'
        | exc y fs =>
          dsimp only at h ⊢
          intro cls dd H' Z' U1 a k' rfs rx
          have go : ∃ z, fs = [z] ∧ r' = .exc y e := by
            cases fs with
            | nil => cases h
            | cons z ys =>
              cases ys with
              | nil => cases h; exact ⟨z, rfl, rfl⟩
              | cons _ _ => cases h
          obtain ⟨z, rfl, rfl⟩ := go
          obtain ⟨a', k2, d2⟩ := a.hold kN (fun b z y => sx b (.inl y) z) k'
          have re2 := re1.fr a.fr (kN.mono fun b z => Or.inl z).own (fun b z y => kN.dj b (.inl y) z) a.zz (fun b z y => sx b (.inl z) y)
          have sub : ∀ b, S1 b → OrS U1 S1 b := fun b z => .inr z
          exact g cls dd H' Z' S1 ((st0.trans a').trans (Step.refl sub)) (k2.mono sub) re2 rx
    · rw [if_neg hio] at m
      exact m.none.elim
theorem ce_mk [Lay X L tb o k] (cn : Nat) (hlen : OLen tb o) (ha : PAs X L tb o (a :: es) cs) (hi : (tb.init cn).isSome = true := by rfl) (hx : L.cname cn = x := by rfl) (ht : L.ctop cn = true := by rfl) (hg : Gl X x := by rfl) (hdb : (x == ("__debug__" : Str)) = false := by decide)
    (he : starEach (a :: es) X.env = (false, eval a X.env) :: starEach es X.env := by rfl) (hpl : (backTo pos (starEach es X.env)).any (·.1) = false := by rfl) : PEs X L tb o (.Call (.Name x p) (a :: es) [] pos) (.mk cn cs) :=
  ⟨fun W tk => by
    obtain ⟨f, hf⟩ := Option.isSome_iff_exists.mp hi
    refine PEimp (pe_mkS (CX := L2.CX X.prog X.w) (k := k) (Lay.mak (X := X) (L := L) (tb := tb) (o := o) (k := k) cn f hf) (Lay.room' (X := X) (L := L) (tb := tb) (o := o) (k := k)) hg (by rw [← hx]; exact Lay.ctp (X := X) (tb := tb) (o := o) (k := k) cn ht) (ha.run W tk) hdb he hpl) fun σ H Q h => ?_
    obtain ⟨e, m⟩ := h.mid
    simp only [evE] at m
    refine m.many.imp fun vs H1 ⟨ds, e1, hl, m1⟩ => ?_
    exact mk_run hlen hf m1 tk⟩
theorem ce_mk0 [Lay X L tb o k] (cn : Nat) (hlen : OLen tb o) (hi : (tb.init cn).isSome = true := by rfl) (hx : L.cname cn = x := by rfl) (ht : L.ctop cn = true := by rfl) (hg : Gl X x := by rfl) (hdb : (x == ("__debug__" : Str)) = false := by decide) : PEs X L tb o (.Call (.Name x p) [] [] pos) (.mk cn .n) :=
  ⟨fun W tk => by
    obtain ⟨f, hf⟩ := Option.isSome_iff_exists.mp hi
    refine PEimp (pe_mkS0 (CX := L2.CX X.prog X.w) (k := k) (Lay.mak (X := X) (L := L) (tb := tb) (o := o) (k := k) cn f hf) (Lay.room' (X := X) (L := L) (tb := tb) (o := o) (k := k)) hg (by rw [← hx]; exact Lay.ctp (X := X) (tb := tb) (o := o) (k := k) cn ht) hdb) fun σ H Q h => ?_
    obtain ⟨e, m⟩ := h.mid
    simp only [evE, evEs, bnd_val] at m
    exact mk_run hlen hf m tk⟩
end
end PL

/-! PL.Mu: what stands at a path from a name, and its changes. -/
namespace PL
open PySem L2

/-- what is held stays, whatever else changes -/
structure Stb (P : AS → Hp → AS → Prop) : Prop where
  st : ∀ {Z Z' : AS} {H H' : Hp} {U S : AS}, Fr U H H' → OwnW U H → (∀ b, Z b → ¬ U b) → (∀ b, Z b → Z' b) → (∀ b, S b → ¬ U b) → P Z H S → P Z' H' S
  mo : ∀ {Z : AS} {H : Hp} {S S' : AS}, (∀ b, S b → S' b) → P Z H S → P Z H S'
def Spl (P R : AS → Hp → AS → Prop) : AS → Hp → AS → Prop := fun Z H S => ∃ Sa Sb : AS, (∀ b, Sa b → S b) ∧ (∀ b, Sb b → S b) ∧ (∀ b, Sa b → ¬ Sb b) ∧ P Z H Sa ∧ R Z H Sb
theorem Stb.spl {P R : AS → Hp → AS → Prop} (p : Stb P) (r : Stb R) : Stb (Spl P R) where
  st := fun f o hz zz hs ⟨Sa, Sb, h1, h2, dj, q1, q2⟩ => ⟨Sa, Sb, h1, h2, dj, p.st f o hz zz (fun b z => hs b (h1 b z)) q1, r.st f o hz zz (fun b z => hs b (h2 b z)) q2⟩
  mo := fun hs ⟨Sa, Sb, h1, h2, dj, q1, q2⟩ => ⟨Sa, Sb, fun b z => hs b (h1 b z), fun b z => hs b (h2 b z), dj, q1, q2⟩
def stb_rep {L : Lo} {v : V} {d : D} : Stb (fun Z H S => Rep L Z H v d S) := ⟨fun f o hz zz hs h => rep_frW f o hz zz hs h, fun hs h => rep_mono hs h⟩
def stb_reps {L : Lo} {v : List V} {d : List D} : Stb (fun Z H S => Reps L Z H v d S) := ⟨fun f o hz zz hs h => reps_frW f o hz zz hs h, fun hs h => reps_mono hs h⟩

/-- what is wanted of a result, in whatever form -/
structure GP (L : Lo) (W : WX) (σ : St) {γ : Type} (G : AS → AS → Hp → Out γ → Prop) : Prop where
  step : ∀ {Z S Z1 S1 : AS} {H H1 : Hp} {r : Out γ}, G Z S H r → Step Z S H Z1 S1 H1 → G Z1 S1 H1 r
  exc : ∀ {Z S : AS} {H : Hp} {x : D} {e : Env}, G Z S H (.exc x e) → ∀ cls dd H' Z' S1, Step Z S H Z' S1 H' → Ok Z' S1 H' → RepE L Z' H' σ e S1 → RepX L Z' H' cls dd x → W cls dd σ H'
/-- the wish of an expression -/
abbrev GE (L : Lo) (W : WX) (σ : St) {γ β' : Type} (rep' : AS → Hp → β' → γ → AS → Prop) (Q : β' → Hp → Prop) : AS → AS → Hp → Out γ → Prop := fun Z S H r => Good L W σ rep' Z S H r Q
theorem gp_e {L : Lo} {W : WX} {σ : St} {γ β' : Type} {rep' : AS → Hp → β' → γ → AS → Prop} {Q : β' → Hp → Prop} : GP L W σ (GE L W σ rep' Q) := ⟨fun g a => g.step a, fun g => g⟩
structure GS {γ : Type} (G : AS → AS → Hp → Out γ → Prop) : Prop where
  step : ∀ {Z S Z1 S1 : AS} {H H1 : Hp} {r : Out γ}, G Z S H r → Step Z S H Z1 S1 H1 → G Z1 S1 H1 r
theorem gs_e {L : Lo} {W : WX} {σ : St} {γ β' : Type} {rep' : AS → Hp → β' → γ → AS → Prop} {Q : β' → Hp → Prop} : GS (GE L W σ rep' Q) := ⟨fun g a => g.step a⟩
theorem GP.gs {L : Lo} {W : WX} {σ : St} {γ : Type} {G : AS → AS → Hp → Out γ → Prop} (h : GP L W σ G) : GS G := ⟨fun g a => h.step g a⟩
def MidH (L : Lo) (σ : St) (H : Hp) (e : Env) (P : AS → Hp → AS → Prop) {γ : Type} (G : AS → AS → Hp → Out γ → Prop) (r : R γ) : Prop :=
  ∃ Z S1 S2, Ok Z (OrS S1 S2) H ∧ (∀ b, S1 b → ¬ S2 b) ∧ RepE L Z H σ e S1 ∧ P Z H S2 ∧ ∃ r', r = some r' ∧ G Z (OrS S1 S2) H r'
section
variable {L : Lo} {W : WX} {σ : St} {α β γ : Type} {rep : AS → Hp → β → α → AS → Prop} {G : AS → AS → Hp → Out γ → Prop} {H : Hp} {e : Env} {P : AS → Hp → AS → Prop}
theorem MidH.bind {ev : Env → R α} {f : α → Env → R γ} (gp : GP L W σ G) (st : Stb P) (m : MidH L σ H e P G (bnd (ev e) f)) :
    tG L W rep ev σ H (fun v H1 => ∃ d e1, MidH L σ H1 e1 (Spl P (fun Z H S => rep Z H v d S)) G (f d e1)) := by
  obtain ⟨Z, S1, S2, k, dj, re, rs, r', h, g⟩ := m
  have k1 : Ok Z S1 H := k.mono fun b z => .inl z
  cases q : ev e with
  | none => rw [q] at h; cases h
  | some r =>
    rw [q] at h
    refine ⟨Z, S1, e, r, k1, re, q, ?_⟩
    cases r with
    | exc x e1 =>
      simp only [bnd_exc, Option.some.injEq] at h
      subst h
      intro cls dd H' Z' T a k' re' rx
      obtain ⟨a', k2, _⟩ := a.hold k dj k'
      exact gp.exc g cls dd H' Z' (OrS T S2) a' k2 (re'.mono fun b z => .inl z) rx
    | val d e1 =>
      simp only [bnd_val] at h
      intro v H' Z' T1 T2 a k' dj' re' rv
      obtain ⟨a', k2, d2⟩ := a.hold k dj k'
      refine ⟨d, e1, Z', T1, OrS S2 T2, k2.mono fun b z => ?_, fun b hb z => ?_, re',
        ⟨S2, T2, fun b z => .inl z, fun b z => .inr z, fun b z y => d2 b (.inr y) z, st.st a.fr k1.own.w (fun b z y => k1.dj b y z) a.zz (fun b z y => dj b y z) rs, rv⟩, r', h, gp.step g (a'.trans (Step.refl fun b z => ?_))⟩
      · rcases z with z | z | z
        · exact .inl (.inl z)
        · exact .inr z
        · exact .inl (.inr z)
      · rcases z with z | z
        · exact d2 b (.inl hb) z
        · exact dj' b hb z
      · rcases z with z | z | z
        · exact .inl (.inl z)
        · exact .inr z
        · exact .inl (.inr z)
theorem MidH.none (m : MidH L σ H e P G none) : False := by
  obtain ⟨Z, S1, S2, k, dj, re, rs, r', h, g⟩ := m
  cases h
theorem MidH.imp {P' : AS → Hp → AS → Prop} {r : R γ} (m : MidH L σ H e P G r) (h : ∀ Z S, Ok Z S H → P Z H S → P' Z H S) : MidH L σ H e P' G r := by
  obtain ⟨Z, S1, S2, k, dj, re, rs, r', h', g⟩ := m
  exact ⟨Z, S1, S2, k, dj, re, h Z S2 (k.mono fun b z => .inr z) rs, r', h', g⟩
theorem MidH.opt {x : Option γ} (m : MidH L σ H e P G (opt x e)) : ∃ d, x = some d ∧ MidH L σ H e P G (some (.val d e)) := by
  obtain ⟨Z, S1, S2, k, dj, re, rs, r', h, g⟩ := m
  unfold PL.opt at h
  cases x with
  | none => cases h
  | some d => exact ⟨d, rfl, Z, S1, S2, k, dj, re, rs, r', h, g⟩
theorem Mid.toH {β' : Type} {rep' : AS → Hp → β' → γ → AS → Prop} {Q : β' → Hp → Prop} {vs : List V} {ds : List D} {r : R γ} (m : Mid L W σ H e vs ds rep' Q r) : MidH L σ H e (fun Z H S => Reps L Z H vs ds S) (GE L W σ rep' Q) r := m
/-- a name's value goes aside -/
theorem MidH.aside {r : R γ} {root : Nat} {d : D} (gp : GP L W σ G) (m : MidH L σ H e P G r) (h : e.at root = some d) : ∃ vr, σ[root]? = some (some vr) ∧ MidH L σ H (e.set root Option.none) (Spl P (fun Z H S => Rep L Z H vr d S)) G r := by
  obtain ⟨Z, S1, S2, k, dj, re, rs, r', h', g⟩ := m
  obtain ⟨v, U1, U2, ev, h1, h2, uj, rv, re2⟩ := re.at h
  refine ⟨v, ev, Z, U2, OrS S2 U1, k.mono fun b z => ?_, fun b z y => ?_, re2, ⟨S2, U1, fun b z => .inl z, fun b z => .inr z, fun b z y => dj b (h1 b y) z, rs, rv⟩, r', h', gp.step g (Step.refl fun b z => ?_)⟩
  · rcases z with z | z | z
    · exact .inl (h2 b z)
    · exact .inr z
    · exact .inl (h1 b z)
  · rcases y with y | y
    · exact dj b (h2 b z) y
    · exact uj b y z
  · rcases z with z | z | z
    · exact .inl (h2 b z)
    · exact .inr z
    · exact .inl (h1 b z)
end

/-! ### what stands at the path -/
/-- vc is at the path's end: dc; with another dc' there the whole is back dc' -/
structure Foc (L : Lo) (Z : AS) (H : Hp) (vc : V) (dc : D) (S1 S2 : AS) (v : V) (back : D → D) : Prop where
  rep : Rep L Z H vc dc S1
  put : ∀ {Z' : AS} {H' : Hp} {U S1' S' : AS} {dc' : D}, Fr U H H' → OwnW U H → (∀ b, Z b → ¬ U b) → (∀ b, Z b → Z' b) → (∀ b, S2 b → ¬ U b) → (∀ b, S1' b → S' b) → (∀ b, S2 b → S' b) → (∀ b, S1' b → ¬ S2 b) → Rep L Z' H' vc dc' S1' → Rep L Z' H' v (back dc') S'
def FocP (L : Lo) (at' : Nat → Str → Bool) (vr : V) (d : D) (acs : List Acc) (vc : V) : AS → Hp → AS → Prop := fun Z H S => ∃ (dc : D) (back : D → D) (S1 S2 : AS), (∀ b, S1 b → S b) ∧ (∀ b, S2 b → S b) ∧ (∀ b, S1 b → ¬ S2 b) ∧ Foc L Z H vc dc S1 S2 vr back ∧ back dc = d ∧
  (∀ (rest : List Acc), walkD at' (acs ++ rest) d = walkD at' rest dc) ∧ ∀ (α : Type) (f : D → Option (α × D)) (rest : List Acc), modD at' f (acs ++ rest) d = (modD at' f rest dc).map fun (r, x) => (r, back x)
section
variable {L : Lo} {Z Z' : AS} {H H' : Hp}
theorem Foc.st {vc v : V} {dc : D} {S1 S2 U : AS} {back : D → D} (h : Foc L Z H vc dc S1 S2 v back) (f : Fr U H H') (o : OwnW U H) (hz : ∀ b, Z b → ¬ U b) (zz : ∀ b, Z b → Z' b) (h1 : ∀ b, S1 b → ¬ U b) (h2 : ∀ b, S2 b → ¬ U b) : Foc L Z' H' vc dc S1 S2 v back where
  rep := rep_frW f o hz zz h1 h.rep
  put := fun {Z'' H'' U' S1' S' dc'} f' o' hz' zz' n2 s1 s2 dj r => by
    refine h.put (U := OrS U U') (fun b ob e n => f' b ob (f b ob e fun z => n (.inl z)) fun z => n (.inr z)) (fun b ob e u => ?_) (fun b z y => y.elim (hz b z) (hz' b (zz b z))) (fun b z => zz' b (zz b z)) (fun b z y => y.elim (h2 b z) (n2 b z)) s1 s2 dj r
    by_cases c : U b
    · exact o b ob e c
    · exact o' b ob (f b ob e c) (u.resolve_left c)
theorem stb_foc {at' : Nat → Str → Bool} {vr : V} {d : D} {acs : List Acc} {vc : V} : Stb (FocP L at' vr d acs vc) where
  st := fun f o hz zz hs ⟨dc, back, S1, S2, h1, h2, dj, F, hb, hwk, hm⟩ => ⟨dc, back, S1, S2, h1, h2, dj, F.st f o hz zz (fun b z => hs b (h1 b z)) (fun b z => hs b (h2 b z)), hb, hwk, hm⟩
  mo := fun hs ⟨dc, back, S1, S2, h1, h2, dj, F, hb, hwk, hm⟩ => ⟨dc, back, S1, S2, fun b z => hs b (h1 b z), fun b z => hs b (h2 b z), dj, F, hb, hwk, hm⟩
theorem foc_start {at' : Nat → Str → Bool} {vr : V} {d : D} {S : AS} (r : Rep L Z H vr d S) : FocP L at' vr d [] vr Z H S := by
  refine ⟨d, id, S, NoAS, fun _ z => z, fun _ z => z.elim, fun _ _ z => z, ⟨r, fun f o hz zz n2 s1 s2 dj r => rep_mono s1 r⟩, rfl, fun rest => rfl, fun α f rest => ?_⟩
  rw [List.nil_append]
  cases modD at' f rest d <;> rfl
/-- the whole, out of its part -/
theorem FocP.whole {at' : Nat → Str → Bool} {vr : V} {d : D} {acs : List Acc} {vc : V} {S : AS} (h : FocP L at' vr d acs vc Z H S) : Rep L Z H vr d S := by
  obtain ⟨dc, back, S1, S2, h1, h2, dj, F, hb, hwk, hm⟩ := h
  rw [← hb]
  exact F.put (U := NoAS) fr_refl (fun _ _ _ z => z.elim) (fun _ _ z => z) (fun _ z => z) (fun _ _ z => z) h1 h2 dj F.rep
theorem set_self {α : Type} : ∀ {l : List α} {j : Nat} {x : α}, l[j]? = some x → l.set j x = l
  | [], _, _, h => by simp at h
  | y :: ys, 0, x, h => by simp at h; subst h; rfl
  | y :: ys, j + 1, x, h => by simp at h; simp [set_self h]
/-- one step down -/
theorem foc_kid {at' : Nat → Str → Bool} {vr vc : V} {d : D} {acs : List Acc} {S : AS} {a : Acc} {k : Kd} {o : Bool} {xs : List D} {back : D → D} {S1 S2 : AS} {p : Addr} {vs : List V} {j : Nat} {x : D} (h1 : ∀ b, S1 b → S b) (h2 : ∀ b, S2 b → S b) (dj : ∀ b, S1 b → ¬ S2 b)
    (F : Foc L Z H vc (.nd k o xs) S1 S2 vr back) (hb : back (.nd k o xs) = d) (hwk : ∀ (rest : List Acc), walkD at' (acs ++ rest) d = walkD at' rest (.nd k o xs)) (hm : ∀ (α : Type) (f : D → Option (α × D)) (rest : List Acc), modD at' f (acs ++ rest) d = (modD at' f rest (.nd k o xs)).map fun (r, x) => (r, back x))
    (ev : vc = .ref p) (sh : shapeOk L Z H p o k vs) (ho : o = true → S1 p) (rr : Reps L Z H vs xs (fun b => S1 b ∧ (o = true → b ≠ p))) (hj : stepD at' (.nd k o xs) a = some j) (hx : xs[j]? = some x) :
    ∃ w, vs[j]? = some w ∧ FocP L at' vr d (acs ++ [a]) w Z H S := by
  obtain ⟨w, T1, T2, ew, t1, t2, tj, rw', put⟩ := reps_at rr hx
  refine ⟨w, ew, x, fun y => back (.nd k o (xs.set j y)), T1, OrS S2 (OrS T2 (fun b => o = true ∧ b = p)), fun b z => h1 b (t1 b z).1, fun b z => ?_, fun b z y => ?_, ⟨rw', ?_⟩, ?_, fun rest => ?_, fun α f rest => ?_⟩
  · rcases z with z | z | z
    · exact h2 b z
    · exact h1 b (t2 b z).1
    · rw [z.2]; exact h1 p (ho z.1)
  · rcases y with y | y | y
    · exact dj b (t1 b z).1 y
    · exact tj b z y
    · exact (t1 b z).2 y.1 y.2
  · intro Z' H' U S1' S' dc' f o' hz zz n2 s1 s2 dj' r
    refine F.put (U := U) (S1' := OrS S1' (OrS T2 (fun b => o = true ∧ b = p))) f o' hz zz (fun b z => n2 b (.inl z)) (fun b z => z.elim (s1 b) fun z => s2 b (.inr z)) (fun b z => s2 b (.inl z)) (fun b z y => ?_) ?_
    · rcases z with z | z | z
      · exact dj' b z (.inl y)
      · exact dj b (t2 b z).1 y
      · rw [z.2] at y; exact dj p (ho z.1) y
    · rw [ev]
      simp only [Rep]
      refine ⟨p, vs, rfl, ?_, fun z => .inr (.inr ⟨z, rfl⟩), ?_⟩
      · have np : o = true → ¬ U p := fun z => n2 p (.inr (.inr ⟨z, rfl⟩))
        cases k with
        | tup => exact ⟨sh.1, SqT.fr f o' sh.2⟩
        | cl => exact ⟨sh.1, FzL.fr f o' sh.2⟩
        | lst =>
          obtain ⟨g1, g2⟩ := sh
          refine ⟨f p _ g1 ?_, fun z => zz p (g2 z)⟩
          cases o with
          | true => exact np rfl
          | false => exact hz p (g2 rfl)
        | dk ks =>
          obtain ⟨g0, g1, g2, g3⟩ := sh
          refine ⟨g0, g1, f p _ g2 ?_, fun z => zz p (g3 z)⟩
          cases o with
          | true => exact np rfl
          | false => exact hz p (g3 rfl)
        | ins c ns =>
          obtain ⟨g1, ⟨dx, g2⟩, g3⟩ := sh
          refine ⟨g1, ⟨dx, f p _ g2 ?_⟩, fun z => zz p (g3 z)⟩
          cases o with
          | true => exact np rfl
          | false => exact hz p (g3 rfl)
      · have q := put (S' := fun b => OrS S1' (OrS T2 (fun b => o = true ∧ b = p)) b ∧ (o = true → b ≠ p)) (S1' := S1') (v' := w) (d' := dc') f o' hz zz (fun b z => n2 b (.inr (.inl z)))
          (fun b z => ⟨.inl z, fun y e => dj' b z (.inr (.inr ⟨y, e⟩))⟩) (fun b z => ⟨.inr (.inl z), (t2 b z).2⟩) (fun b z y => dj' b z (.inr (.inl y))) r
        rw [set_self ew] at q
        exact q
  · dsimp only
    rw [set_self hx]
    exact hb
  · have := hwk (a :: rest)
    rw [List.append_assoc, List.cons_append, List.nil_append, this]
    simp only [walkD, hj, Option.bind_some, D.kids, hx]
  · have := hm α f (a :: rest)
    rw [List.append_assoc, List.cons_append, List.nil_append, this]
    simp only [modD, hj, Option.bind_some, D.kids, hx]
    cases modD at' f rest x <;> rfl
end

/-! ### members beside a hidden name -/
section
variable {X : Cx} {L : Lo} {tb : Tab} {o : Orc} {k : Nat} {pos p : Pos} {a b c : Expr} {es : List Expr} {ca cb cc : E} {W : WX} {x : Str}
/-- the reading of a member: what is held knows the hidden name's value -/
def tMb (L : Lo) (W : WX) (tb : Tab) (o : Orc) (root : Nat) (m : M) : TE := fun σ H Q => ∃ (γ : Type) (G : AS → AS → Hp → Out γ → Prop) (f : D → Env → R γ) (P : AS → Hp → AS → Prop) (e : Env) (vr : V) (d : D),
  GP L W σ G ∧ Stb P ∧ σ[root]? = some (some vr) ∧ (∀ Z H S, P Z H S → Rep L Z H vr d S) ∧ MidH L σ H e P G (bnd (evM tb o m d root e) f) ∧ ∀ v H' y e', MidH L σ H' e' (Spl P (fun Z H S => Rep L Z H v y S)) G (f y e') → Q v H'
structure PMs (X : Cx) (L : Lo) (tb : Tab) (o : Orc) (root : Nat) (e : Expr) (m : M) : Prop where
  run : ∀ W, Takes X W → PE X e (tMb L W tb o root m)
theorem cm_h {root : Nat} (ha : PEs X L tb o a ca) : PMs X L tb o root a (.h ca) := ⟨fun W tk => PEimp (ha.run W tk) fun σ H Q h => by
  obtain ⟨γ, G, f, P, e, vr, d, gp, st, hv, hr, m, k⟩ := h
  simp only [evM] at m
  exact (m.bind (rep := Rep L) gp st).imp fun v H' ⟨y, e', m'⟩ => k v H' y e' m'⟩
theorem cm_v {root : Nat} {is : List Nat} (ha : PEs X L tb o a ca) : PMs X L tb o root a (.v is ca) := ⟨fun W tk => PEimp (ha.run W tk) fun σ H Q h => by
  obtain ⟨γ, G, f, P, e, vr, d, gp, st, hv, hr, m, k⟩ := h
  simp only [evM] at m
  obtain ⟨Z, S1, S2, kk, dj, re, rs, r', h', g⟩ := m
  -- the whole frame, the hidden name too
  have reF : RepE L Z H σ (e.set root (some d)) (OrS S1 S2) := (re.forget root).put hv (hr Z H S2 rs) (fun b z => .inr z) (fun b z => .inl z) fun b z y => dj b y z
  have re' : RepE L (OrS Z (OrS S1 S2)) H σ (viewEnv is 0 (e.set root (some d))) NoAS := viewEnv_rep reF (fun b z => .inr z) fun b z => .inl z
  have k0 : Ok (OrS Z (OrS S1 S2)) NoAS H := ⟨fun _ z => z.elim, fun _ z => z.elim, fun b z => z.elim (kk.zd b) fun z => kk.sd z⟩
  cases q : evE tb o ca (viewEnv is 0 (e.set root (some d))) with
  | none => rw [q] at h'; cases h'
  | some r1 =>
    rw [q] at h'
    cases r1 with
    | exc x e1 => cases h'
    | val y e1 =>
      simp only [viewOut] at h'
      by_cases n : y.nf = true
      · rw [if_pos n] at h'
        simp only [bnd_val] at h'
        refine ⟨OrS Z (OrS S1 S2), NoAS, viewEnv is 0 (e.set root (some d)), _, k0, re', q, ?_⟩
        intro v H' Z' T1 T2 ast k' tj re1 rv
        have t2n : ∀ b, T2 b → H b = none := fun b z => (ast.ss b (.inr z)).elim (fun z => z.elim) id
        have fr0 : Fr NoAS H H' := fun b ob e n => ast.fr b ob e n
        have own' : Own (OrS S1 S2) H' := fun b hb => by
          have := kk.own b hb
          cases e : H b with
          | none => exact absurd e (kk.sd hb)
          | some ob => rw [fr0 b ob e fun z => z]; rw [← e]; exact this
        have sz : ∀ b, OrS S1 S2 b → ¬ T2 b := fun b z w => kk.sd z (t2n b w)
        refine k v H' y e ⟨Z, S1, OrS S2 T2, ⟨fun b hb z => ?_, fun b hb => ?_, fun b z w => kk.zd b z (ast.nn b w)⟩, fun b z w => w.elim (dj b z) (sz b (.inl z)), re.fr fr0 (fun _ z => z.elim) (fun _ _ z => z) (fun _ z => z) (fun _ _ z => z),
          ⟨S2, T2, fun b z => .inl z, fun b z => .inr z, fun b z w => sz b (.inr z) w, st.st fr0 (fun _ _ _ z => z.elim) (fun _ _ z => z) (fun _ z => z) (fun _ _ z => z) rs, rep_nf n rv⟩, r', h', gp.step g ⟨fun _ z => z, fun _ z => .inl z, fun b z => ?_, fun b ob e _ => fr0 b ob e fun z => z, ast.nn⟩⟩
        · rcases hb with hb | hb | hb
          · exact kk.dj b (.inl hb) z
          · exact kk.dj b (.inr hb) z
          · exact kk.zd b z (t2n b hb)
        · rcases hb with hb | hb | hb
          · exact own' b (.inl hb)
          · exact own' b (.inr hb)
          · exact k'.own b (.inr hb)
        · rcases z with z | z | z
          · exact .inl (.inl z)
          · exact .inl (.inr z)
          · exact .inr (t2n b z)
      · rw [if_neg n] at h'; cases h'⟩

/-! ### paths -/
theorem strIx_look : ∀ {ns : List Str} {f : Str} {j : Nat} {vs : List V} {w : V}, strIx ns f = some j → ns.length = vs.length → vs[j]? = some w → (ns.zip vs).lookup f = some w
  | [], f, j, vs, w, h, _, _ => by simp [strIx] at h
  | n :: ns, f, j, [], w, h, hl, _ => by simp at hl
  | n :: ns, f, j, v :: vs, w, h, hl, hw => by
    simp only [strIx] at h
    rw [List.zip_cons_cons, List.lookup_cons]
    by_cases c : n = f
    · rw [if_pos c] at h
      cases h
      rw [show (f == n) = true from by rw [c]; exact beq_self_eq_true f]
      simpa using hw
    · rw [if_neg c] at h
      rw [show (f == n) = false from beq_eq_false_iff_ne.mpr (fun z => c z.symm)]
      cases q : strIx ns f with
      | none => rw [q] at h; cases h
      | some j' =>
        rw [q] at h
        simp only [Option.map_some, Option.some.injEq] at h
        subst h
        exact strIx_look q (by simpa using hl) (by simpa using hw)
theorem keyIx_look : ∀ {ks : List Key} {f : Key} {j : Nat} {vs : List V} {w : V}, keyIx ks f = some j → ks.length = vs.length → vs[j]? = some w → valV (ks.zip vs) f = some w
  | [], f, j, vs, w, h, _, _ => by simp [keyIx] at h
  | n :: ns, f, j, [], w, h, hl, _ => by simp at hl
  | n :: ns, f, j, v :: vs, w, h, hl, hw => by
    simp only [keyIx] at h
    rw [List.zip_cons_cons]
    by_cases c : n = f
    · rw [if_pos c] at h
      cases h
      rw [valV_pos c]
      simpa using hw
    · rw [if_neg c] at h
      rw [valV_neg c]
      cases q : keyIx ns f with
      | none => rw [q] at h; cases h
      | some j' =>
        rw [q] at h
        simp only [Option.map_some, Option.some.injEq] at h
        subst h
        exact keyIx_look q (by simpa using hl) (by simpa using hw)
def tPth (L : Lo) (W : WX) (tb : Tab) (o : Orc) (root : Nat) (p : Ps) : TE := fun σ H Q => ∃ (γ : Type) (G : AS → AS → Hp → Out γ → Prop) (f : List Acc → Env → R γ) (P : AS → Hp → AS → Prop) (e : Env) (vr : V) (d : D),
  GP L W σ G ∧ Stb P ∧ σ[root]? = some (some vr) ∧ MidH L σ H e (Spl P (fun Z H S => Rep L Z H vr d S)) G (bnd (evPs tb o p d root e) f) ∧ ∀ vc H' acs e', MidH L σ H' e' (Spl P (FocP L tb.attr vr d acs vc)) G (f acs e') → Q vc H'
structure PPs (X : Cx) (L : Lo) (tb : Tab) (o : Orc) (root : Nat) (e : Expr) (p : Ps) : Prop where
  run : ∀ W, Takes X W → PE X e (tPth L W tb o root p)
theorem cp_n (root : Nat) (hN : X.N[root]? = some x := by rfl) (hv : Vis X.env.scope x := by first | exact Or.inl rfl | exact Or.inr (Or.inl rfl) | exact Or.inr (Or.inr rfl)) (hd : (x == ("__debug__" : Str)) = false := by decide)
    (hcd : (x == ("__classdict__" : Str)) = false := by decide) : PPs X L tb o root (.Name x pos) .n := ⟨fun W tk => PEimp (pv root hN hv hd hcd) fun σ H Q h => by
  obtain ⟨γ, G, f, P, e, vr, d, gp, st, hv, m, k⟩ := h
  simp only [evPs, bnd_val] at m
  refine ⟨vr, hv, k vr H [] e (m.imp fun Z S _ ⟨Sa, Sb, h1, h2, dj, q1, q2⟩ => ⟨Sa, Sb, h1, h2, dj, q1, foc_start q2⟩)⟩⟩
theorem cp_fld [Lay X L tb o k] {root : Nat} {pp : Ps} {f : Str} (ha : PPs X L tb o root a pp) (hb : attributeBase a f X.env (eval a X.env) = eval a X.env := by rfl) : PPs X L tb o root (.Attribute a f pos) (.fld pp f) := ⟨fun W tk => PEimp (pe_fld (ha.run W tk) hb) fun σ H Q h => by
  obtain ⟨γ, G, g, P, e, vr, d, gp, st, hv, m, kk⟩ := h
  simp only [evPs, bnd_assoc] at m
  refine ⟨γ, G, _, P, e, vr, d, gp, st, hv, m, fun vc H' acs e' m' => ?_⟩
  split at m'
  · rename_i hw
    simp only [bnd_val] at m'
    obtain ⟨Z, S1, S2, k1, dj, re, ⟨Sa, Sb, a1, a2, aj, q1, dc, back, T1, T2, h1, h2, tj, F, hbk, hwk, hm⟩, r', h', g'⟩ := id m'
    rw [hwk, Option.isSome_iff_exists] at hw
    obtain ⟨dd, hw⟩ := hw
    simp only [walkD] at hw
    cases dc with
    | nd kd ow xs =>
      cases kd with
      | ins cn ns =>
        simp only [stepD] at hw
        split at hw
        · rename_i hat
          cases qj : strIx ns f with
          | none => rw [qj] at hw; cases hw
          | some j =>
            rw [qj] at hw
            simp only [Option.bind_some, D.kids] at hw
            cases qx : xs[j]? with
            | none => rw [qx] at hw; cases hw
            | some y =>
              have hst : stepD tb.attr (.nd (.ins cn ns) ow xs) (.fld f) = some j := by simp only [stepD, if_pos hat, qj]
              have hrep := F.rep
              simp only [Rep] at hrep
              obtain ⟨q, vs, ev, sh, ho, rr⟩ := hrep
              obtain ⟨w, ew, fp⟩ := foc_kid (acs := acs) (at' := tb.attr) h1 h2 tj F hbk hwk hm ev sh ho rr hst qx
              obtain ⟨hc, hn⟩ := Lay.att (X := X) (L := L) (tb := tb) (o := o) (k := k) cn f hat
              obtain ⟨g1, ⟨dx, g2⟩, g3⟩ := sh
              refine ⟨q, L.cls cn, dx, ns.zip vs, w, ev, g2, hc, hn, strIx_look qj g1 ew, ?_⟩
              exact kk w H' _ e' ⟨Z, S1, S2, k1, dj, re, ⟨Sa, Sb, a1, a2, aj, q1, fp⟩, r', h', g'⟩
        · cases hw
      | _ => simp only [stepD, Option.bind_none, reduceCtorEq] at hw
    | _ => simp only [stepD, Option.bind_none, reduceCtorEq] at hw
  · exact m'.none.elim⟩
theorem cp_ix [Lay X L tb o k] {root : Nat} {pp : Ps} {mi : M} (ha : PPs X L tb o root a pp) (hi : PMs X L tb o root b mi) (hs : PlainIx b := by intro _ _; rfl) : PPs X L tb o root (.Subscript a b pos) (.ix pp mi) :=
  ⟨fun W tk => PEimp (pe_ix (IxR.or ix_list (IxR.or ix_tup (ix_dict (hu_of (Lay.room (X := X) (L := L) (tb := tb) (o := o) (k := k)))))) (ha.run W tk) (hi.run W tk) hs) fun σ H Q h => by
  have hK := Lay.K (X := X) (L := L) (tb := tb) (o := o) (k := k)
  obtain ⟨γ, G, g, P, e, vr, d, gp, st, hv, m, kk⟩ := h
  simp only [evPs, bnd_assoc] at m
  refine ⟨γ, G, _, P, e, vr, d, gp, st, hv, m, fun vc H1 acs e1 m1 => ?_⟩
  refine ⟨γ, G, _, _, e1, vr, d, gp, st.spl stb_foc, hv, fun Z H S ⟨Sa, Sb, a1, a2, aj, q1, q2⟩ => rep_mono a2 q2.whole, m1, fun v H' y e' m' => ?_⟩
  split at m'
  · rename_i hw
    simp only [bnd_val] at m'
    obtain ⟨Z, S1, S2, k1, dj, re, ⟨Sab, Sc, b1, b2, bj, ⟨Sa, Sb, a1, a2, aj, q1, dc, back, T1, T2, h1, h2, tj, F, hbk, hwk, hm⟩, q3⟩, r', h', g'⟩ := id m'
    rw [hwk, Option.isSome_iff_exists] at hw
    obtain ⟨dd, hw⟩ := hw
    simp only [walkD] at hw
    have go : ∀ {p : Addr} {kd : Kd} {ow : Bool} {xs : List D} {vs : List V} {j : Nat} {x : D} {w : V}, FocP L tb.attr vr d (acs ++ [.ix y]) w Z H' Sb → Q w H' := fun fp =>
      kk _ H' _ e' ⟨Z, S1, S2, k1, dj, re, ⟨Sa, Sb, fun b z => b1 b (a1 b z), fun b z => b1 b (a2 b z), aj, q1, fp⟩, r', h', g'⟩
    cases dc with
    | nd kd ow xs =>
      have hrep := F.rep
      simp only [Rep] at hrep
      obtain ⟨q, vs, ev, sh, ho, rr⟩ := hrep
      cases qs : stepD tb.attr (.nd kd ow xs) (.ix y) with
      | none => rw [qs] at hw; cases hw
      | some j =>
        rw [qs] at hw
        simp only [Option.bind_some, D.kids] at hw
        cases qx : xs[j]? with
        | none => rw [qx] at hw; cases hw
        | some xx =>
          obtain ⟨w, ew, fp⟩ := foc_kid (acs := acs) (at' := tb.attr) h1 h2 tj F hbk hwk hm ev sh ho rr qs qx
          have fin := go (p := q) (kd := kd) (ow := ow) (xs := xs) (vs := vs) (j := j) (x := xx) fp
          cases kd with
          | lst =>
            cases y <;> simp only [stepD, reduceCtorEq] at qs
            rename_i i
            refine .inl ⟨q, vs, i, w, ev, rep_int q3, .of sh.1, ?_, fin⟩
            unfold atI
            rw [rr.length, qs]
            exact ew
          | tup =>
            cases y <;> simp only [stepD, reduceCtorEq] at qs
            rename_i i
            refine .inr (.inl ⟨q, vs, i, w, ev, rep_int q3, by rw [hK]; exact sh.2, ?_, fin⟩)
            unfold atI
            rw [rr.length, qs]
            exact ew
          | dk ks =>
            simp only [stepD] at qs
            cases qk : y.key with
            | none => rw [qk] at qs; cases qs
            | some kk' =>
              rw [qk] at qs
              simp only [Option.bind_some] at qs
              obtain ⟨g0, g1, g2, g3⟩ := sh
              exact .inr (.inr ⟨q, _, kk', w, ev, g2, key_kV q3 qk, keyIx_look qs g1 ew, fin⟩)
          | _ => simp only [stepD, reduceCtorEq] at qs
    | _ => simp only [stepD, Option.bind_none, reduceCtorEq] at hw
  · exact m'.none.elim⟩
end
end PL

/-! PL.Mut: methods that change a list; isinstance; dicts asked. -/
namespace PL
open PySem L2
section
variable {X : Cx} {L : Lo} {tb : Tab} {o : Orc} {k : Nat} {pos p apos : Pos} {a b c : Expr} {es : List Expr} {ca cb cc : E} {W : WX} {x : Str}
/-- an object at a path's end is changed -/
theorem mut_state {Z S1 S2 T1 T2 U1 U2 : AS} {H : Hp} {σ : St} {e : Env} {root : Nat} {vr : V} {l : Addr} {dc dc' : D} {back : D → D} {ob : HO} (k : Ok Z (OrS S1 S2) H) (dj : ∀ b, S1 b → ¬ S2 b) (re : RepE L Z H σ e S1) (hv : σ[root]? = some (some vr))
    (F : Foc L Z H (.ref l) dc T1 T2 vr back) (t1 : ∀ b, T1 b → S2 b) (t2 : ∀ b, T2 b → S2 b) (tj : ∀ b, T1 b → ¬ T2 b) (hl : T1 l) (mu : Mut (some ob)) (new : Rep L Z (upd H l ob) (.ref l) dc' U1) (u1 : ∀ b, U1 b → S2 b) (u1t : ∀ b, U1 b → ¬ T2 b) (u2 : ∀ b, U2 b → S2 b) (uj : ∀ b, U1 b → ¬ U2 b) (u2t : ∀ b, U2 b → ¬ T2 b) :
    Step Z (OrS S1 S2) H Z (OrS (OrS S1 (OrS U1 T2)) U2) (upd H l ob) ∧ Ok Z (OrS (OrS S1 (OrS U1 T2)) U2) (upd H l ob) ∧ (∀ b, OrS S1 (OrS U1 T2) b → ¬ U2 b) ∧ RepE L Z (upd H l ob) σ (e.set root (some (back dc'))) (OrS S1 (OrS U1 T2)) := by
  have fr : Fr (fun b => b = l) H (upd H l ob) := fun b o e n => by rw [upd_ne n]; exact e
  have ow : OwnW (fun b => b = l) H := fun b o e n => by
    have := k.own l (.inr (t1 l hl))
    rw [n] at e
    rw [e] at this
    exact this
  have nl : ∀ b, S1 b → b ≠ l := fun b z y => by subst y; exact dj b z (t1 b hl)
  have zl : ∀ b, Z b → b ≠ l := fun b z y => by subst y; exact k.dj b (.inr (t1 b hl)) z
  have sub : ∀ b, OrS (OrS S1 (OrS U1 T2)) U2 b → OrS S1 S2 b := fun b z => by
    rcases z with (z | z | z) | z
    · exact .inl z
    · exact .inr (u1 b z)
    · exact .inr (t2 b z)
    · exact .inr (u2 b z)
  refine ⟨⟨fun _ z => z, fun _ z => .inl z, fun b z => .inl (sub b z), fun b ob' e n => fr b ob' e fun y => n (by rw [y]; exact .inr (t1 l hl)), fun b => upd_nn⟩, ⟨fun b z => k.dj b (sub b z), fun b z => ?_, fun b z y => k.zd b z (upd_nn y)⟩, fun b z y => ?_, ?_⟩
  · by_cases c : b = l
    · subst c; rw [upd_same]; exact mu
    · rw [upd_ne c]; exact k.own b (sub b z)
  · rcases z with z | z | z
    · exact dj b z (u2 b y)
    · exact uj b z y
    · exact u2t b y z
  · have re1 : RepE L Z (upd H l ob) σ e S1 := by
      obtain ⟨Fm, f1, f2, f3⟩ := re.ex
      refine ⟨re.len, Fm, f1, f2, fun i d hd => ?_⟩
      obtain ⟨v, ev, r⟩ := f3 i d hd
      exact ⟨v, ev, rep_frW fr ow (fun b z => zl b z) (fun _ z => z) (fun b z => nl b (f1 i b z)) r⟩
    refine (re1.forget root).put hv (F.put (U := fun b => b = l) (S1' := U1) (S' := OrS U1 T2) fr ow (fun b z => zl b z) (fun _ z => z) (fun b z y => by subst y; exact tj b hl z) (fun b z => .inl z) (fun b z => .inr z) u1t new) (fun b z => .inr z) (fun b z => .inl z) fun b z y => ?_
    rcases z with z | z
    · exact dj b y (u1 b z)
    · exact dj b y (t2 b z)
/-- a list's children in the heap behind a change of the list itself -/
theorem kids_upd {Z S : AS} {H : Hp} {l : Addr} {ob : HO} {vs : List V} {xs : List D} (k : ∀ b, S b → Mut (H b)) (ml : Mut (H l)) (zl : ∀ b, Z b → b ≠ l) (sl : ∀ b, S b → b ≠ l) (h : Reps L Z H vs xs S) : Reps L Z (upd H l ob) vs xs S :=
  reps_frW (U := fun b => b = l) (fun b o e n => by rw [upd_ne n]; exact e) (fun b o e n => by rw [n] at e; rw [e] at ml; exact ml) (fun b z => zl b z) (fun _ z => z) (fun b z => sl b z) h
theorem kid_upd {Z S : AS} {H : Hp} {l : Addr} {ob : HO} {v : V} {x : D} (ml : Mut (H l)) (zl : ∀ b, Z b → b ≠ l) (sl : ∀ b, S b → b ≠ l) (h : Rep L Z H v x S) : Rep L Z (upd H l ob) v x S :=
  rep_frW (U := fun b => b = l) (fun b o e n => by rw [upd_ne n]; exact e) (fun b o e n => by rw [n] at e; rw [e] at ml; exact ml) (fun b z => zl b z) (fun _ z => z) (fun b z => sl b z) h
/-- a path's end is a list of ours -/
theorem foc_list {at' : Nat → Str → Bool} {vr vc : V} {d : D} {acs : List Acc} {Z S : AS} {H : Hp} {xs : List D} (h : FocP L at' vr d acs vc Z H S) (hw : walkD at' acs d = some (.nd .lst true xs)) :
    ∃ (l : Addr) (vs : List V) (back : D → D) (S1 S2 : AS), vc = .ref l ∧ H l = some (.lst vs) ∧ (∀ b, S1 b → S b) ∧ (∀ b, S2 b → S b) ∧ (∀ b, S1 b → ¬ S2 b) ∧ S1 l ∧ Foc L Z H (.ref l) (.nd .lst true xs) S1 S2 vr back ∧ Reps L Z H vs xs (fun b => S1 b ∧ b ≠ l) ∧
      (∀ (α : Type) (f : D → Option (α × D)), modD at' f acs d = (f (.nd .lst true xs)).map fun (r, x) => (r, back x)) := by
  obtain ⟨dc, back, S1, S2, h1, h2, dj, F, hb, hwk, hm⟩ := h
  have e : dc = .nd .lst true xs := by
    have := hwk []
    rw [List.append_nil, hw] at this
    exact (Option.some.inj this).symm
  subst e
  obtain ⟨l, vs, ev, hl, ho, rr⟩ := shape_lst F.rep
  subst ev
  exact ⟨l, vs, back, S1, S2, rfl, hl, h1, h2, dj, ho rfl, F, reps_mono (fun b z => ⟨z.1, z.2 rfl⟩) rr, fun α f => by
    have := hm α f []
    rw [List.append_nil] at this
    exact this⟩
theorem mu_start {root : Nat} {pp : Ps} {ms : Ms} {bm : Mu} {σ : St} {H : Hp} {Q : VK} {Qc : VK} (h : tG L W (Rep L) (evE tb o (.mu bm root pp ms)) σ H Q)
    (k : ∀ (vr vc : V) (d : D) (acs : List Acc) (H1 : Hp) (e1 : Env) (xs : List D), σ[root]? = some (some vr) → walkD tb.attr acs d = some (.nd .lst true xs) →
      MidH L σ H1 e1 (Spl (fun Z H S => Reps L Z H [] [] S) (FocP L tb.attr vr d acs vc)) (GE L W σ (Rep L) Q) (bnd (evMs tb o ms d root e1) fun ds e => match modD tb.attr (fun x => muD bm x ds) acs d with
        | none => none
        | some (r, d') => some (.val r (e.set root (some d')))) → Qc vc H1) : tPth L W tb o root pp σ H Qc := by
  obtain ⟨e, m⟩ := h.mid
  simp only [evE] at m
  cases q : e.at root with
  | none => rw [q] at m; exact m.none.elim
  | some d =>
    rw [q] at m
    obtain ⟨vr, hv, m1⟩ := (Mid.toH m).aside gp_e q
    refine ⟨_, _, _, _, _, vr, d, gp_e, stb_reps, hv, m1, fun vc H' acs e' m' => ?_⟩
    cases qw : walkD tb.attr acs d with
    | none => rw [qw] at m'; exact m'.none.elim
    | some dw =>
      rw [qw] at m'
      cases dw with
      | nd kd ow xs =>
        cases kd with
        | lst =>
          cases ow with
          | true => exact k vr vc d acs H' e' xs hv qw m'
          | false => exact m'.none.elim
        | _ => exact m'.none.elim
      | _ => exact m'.none.elim
theorem ty_list {K : PySem.W.Frag} {H : Hp} {l : Addr} {vs : List V} (h : H l = some (.lst vs)) : tyV K "list" (.ref l) H := Or.inl ⟨rfl, _, SqL.of h⟩
theorem ce_append [Lay X L tb o k] {root : Nat} {pp : Ps} {m1 : M} (hp : PPs X L tb o root a pp) (ha : PMs X L tb o root b m1)
    (hbase : attributeBase a "append" X.env (eval a X.env) = eval a X.env := by rfl)
    (hfew : ((backTo pos (starEach [b] X.env)).all (fun x => !x.1) && (backToKw pos (keywordEach [] X.env)).all (fun x => x.1.isSome)
      && decide ([b].length + ([] : List Keyword).length + (if ([] : List Keyword).isEmpty then 0 else 1) < 30)) = true := by rfl)
    (hline : (apos.endLine == pos.line) = true := by rfl) (hs : starEach [b] X.env = (false, eval b X.env) :: starEach [] X.env := by rfl) (hplain : (backTo pos (starEach [] X.env)).any (·.1) = false := by rfl) :
    PEs X L tb o (.Call (.Attribute a "append" apos) [b] [] pos) (.mu .append root pp (.c m1 .n)) :=
  ⟨fun W tk => PEimp (pe_bm PySem.F.plainAttrs_list PySem.F.slot_list_append PySem.F.type_list_append mt_append (hp.run W tk) (pa_cons (ha.run W tk) pa_nil hs) hbase hfew hline hs hplain) fun σ H Q h => by
    refine mu_start h fun vr vc d acs H1 e1 xs hv hw m => ?_
    obtain ⟨Z, S1, S2, k1, dj, re, ⟨Sa, Sb, a1, a2, aj, q1, q2⟩, r', h', g⟩ := id m
    obtain ⟨l, vs, back, T1, T2, ev, hl, _⟩ := foc_list q2 hw
    subst ev
    refine ⟨ty_list hl, ?_⟩
    simp only [evMs, bnd_assoc, bnd_val] at m
    refine ⟨_, _, _, _, e1, vr, d, gp_e, stb_reps.spl stb_foc, hv, fun Z H S ⟨Sa, Sb, a1, a2, aj, q1, q2⟩ => rep_mono a2 q2.whole, m, fun v H2 y e2 m2 => ?_⟩
    obtain ⟨Z, S1, S2, k1, dj, re, ⟨Sab, Sc, b1, b2, bj, ⟨Sa, Sb, a1, a2, aj, q1, q2⟩, q3⟩, r', h', g⟩ := m2
    obtain ⟨l', vs, back, T1, T2, ev, hl, t1, t2, tj, hT, F, rr, hm⟩ := foc_list q2 hw
    cases ev
    rw [hm] at h'
    simp only [muD] at h'
    split at h'
    · cases h'
    · rename_i rr0 dd heq
      split at heq
      · rename_i hsz
        simp only [Option.map_some, Option.some.injEq, Prod.mk.injEq] at heq
        obtain ⟨e3, e4⟩ := heq
        cases h'
        subst e3 e4
        refine ⟨l, vs, v, rfl, rfl, hl, by rw [rr.length]; exact hsz, ?_⟩
        have ml : Mut (H2 l) := k1.own l (.inr (b1 l (a2 l (t1 l hT))))
        have zl : ∀ b, Z b → b ≠ l := fun b z y => by subst y; exact k1.dj b (.inr (b1 b (a2 b (t1 b hT)))) z
        have cl : ∀ b, Sc b → b ≠ l := fun b z y => by subst y; exact bj b (a2 b (t1 b hT)) z
        have new : Rep L Z (upd H2 l (.lst (vs ++ [v]))) (.ref l) (.nd .lst true (xs ++ [y])) (OrS T1 Sc) := by
          simp only [Rep]
          refine ⟨l, vs ++ [v], rfl, ⟨upd_same, fun z => by cases z⟩, fun _ => .inl hT, ?_⟩
          exact reps_append (S1 := fun b => T1 b ∧ b ≠ l) (S2 := Sc) (fun b z => ⟨.inl z.1, fun _ => z.2⟩) (fun b z => ⟨.inr z, fun _ => cl b z⟩) (fun b z y => bj b (a2 b (t1 b z.1)) y)
            (kids_upd (fun b z => k1.own b (.inr (b1 b (a2 b (t1 b z.1))))) ml zl (fun b z => z.2) rr) (reps_cons (S1 := Sc) (S2 := NoAS) (fun _ z => z) (fun _ z => z.elim) (fun _ _ z => z) (kid_upd ml zl cl q3) reps_nil)
        obtain ⟨st, ok, dd, re2⟩ := mut_state (ob := .lst (vs ++ [v])) (U2 := NoAS) k1 dj re hv F (fun b z => b1 b (a2 b (t1 b z))) (fun b z => b1 b (a2 b (t2 b z))) tj hT (by exact trivial) new (fun b z => z.elim (fun z => b1 b (a2 b (t1 b z))) (b2 b)) (fun b z y => z.elim (fun z => tj b z y) (fun z => bj b (a2 b (t2 b y)) z)) (fun _ z => z.elim) (fun _ _ z => z) (fun _ z => z.elim)
        exact g .non _ Z _ NoAS st ok dd re2 (by simp only [Rep])
      · cases heq⟩
theorem ce_reverse [Lay X L tb o k] {root : Nat} {pp : Ps} (hp : PPs X L tb o root a pp)
    (hbase : attributeBase a "reverse" X.env (eval a X.env) = eval a X.env := by rfl) (hline : (apos.endLine == pos.line) = true := by rfl) :
    PEs X L tb o (.Call (.Attribute a "reverse" apos) [] [] pos) (.mu .reverse root pp .n) :=
  ⟨fun W tk => PEimp (pe_bm0 PySem.F.plainAttrs_list PySem.F.slot_list_reverse PySem.F.type_list_reverse mt_reverse (hp.run W tk) hbase hline) fun σ H Q h => by
    refine mu_start h fun vr vc d acs H1 e1 xs hv hw m => ?_
    simp only [evMs, bnd_val] at m
    obtain ⟨Z, S1, S2, k1, dj, re, ⟨Sa, Sb, a1, a2, aj, q1, q2⟩, r', h', g⟩ := m
    obtain ⟨l, vs, back, T1, T2, ev, hl, t1, t2, tj, hT, F, rr, hm⟩ := foc_list q2 hw
    subst ev
    refine ⟨ty_list hl, l, vs, rfl, rfl, hl, ?_⟩
    rw [hm] at h'
    simp only [muD, Option.map_some] at h'
    cases h'
    have ml : Mut (H1 l) := k1.own l (.inr (a2 l (t1 l hT)))
    have zl : ∀ b, Z b → b ≠ l := fun b z y => by subst y; exact k1.dj b (.inr (a2 b (t1 b hT))) z
    have new : Rep L Z (upd H1 l (.lst vs.reverse)) (.ref l) (.nd .lst true xs.reverse) T1 := by
      simp only [Rep]
      refine ⟨l, vs.reverse, rfl, ⟨upd_same, fun z => by cases z⟩, fun _ => hT, ?_⟩
      exact reps_mono (fun b z => ⟨z.1, fun _ => z.2⟩) (reps_reverse (kids_upd (fun b z => k1.own b (.inr (a2 b (t1 b z.1)))) ml zl (fun b z => z.2) rr))
    obtain ⟨st, ok, dd, re2⟩ := mut_state (ob := .lst vs.reverse) (U2 := NoAS) k1 dj re hv F (fun b z => a2 b (t1 b z)) (fun b z => a2 b (t2 b z)) tj hT (by exact trivial) new (fun b z => a2 b (t1 b z)) tj (fun _ z => z.elim) (fun _ _ z => z) (fun _ z => z.elim)
    exact g .non _ Z _ NoAS st ok dd re2 (by simp only [Rep])⟩
theorem ce_clear [Lay X L tb o k] {root : Nat} {pp : Ps} (hp : PPs X L tb o root a pp)
    (hbase : attributeBase a "clear" X.env (eval a X.env) = eval a X.env := by rfl) (hline : (apos.endLine == pos.line) = true := by rfl) :
    PEs X L tb o (.Call (.Attribute a "clear" apos) [] [] pos) (.mu .clear root pp .n) :=
  ⟨fun W tk => PEimp (pe_bm0 PySem.F.plainAttrs_list PySem.F.slot_list_clear PySem.F.type_list_clear mt_clear (hp.run W tk) hbase hline) fun σ H Q h => by
    refine mu_start h fun vr vc d acs H1 e1 xs hv hw m => ?_
    simp only [evMs, bnd_val] at m
    obtain ⟨Z, S1, S2, k1, dj, re, ⟨Sa, Sb, a1, a2, aj, q1, q2⟩, r', h', g⟩ := m
    obtain ⟨l, vs, back, T1, T2, ev, hl, t1, t2, tj, hT, F, rr, hm⟩ := foc_list q2 hw
    subst ev
    refine ⟨ty_list hl, l, vs, rfl, rfl, hl, ?_⟩
    rw [hm] at h'
    simp only [muD, Option.map_some] at h'
    cases h'
    have new : Rep L Z (upd H1 l (.lst [])) (.ref l) (.nd .lst true []) T1 := by
      simp only [Rep]
      exact ⟨l, [], rfl, ⟨upd_same, fun z => by cases z⟩, fun _ => hT, reps_nil⟩
    obtain ⟨st, ok, dd, re2⟩ := mut_state (ob := .lst []) (U2 := NoAS) k1 dj re hv F (fun b z => a2 b (t1 b z)) (fun b z => a2 b (t2 b z)) tj hT (by exact trivial) new (fun b z => a2 b (t1 b z)) tj (fun _ z => z.elim) (fun _ _ z => z) (fun _ z => z.elim)
    exact g .non _ Z _ NoAS st ok dd re2 (by simp only [Rep])⟩
theorem ce_pop [Lay X L tb o k] {root : Nat} {pp : Ps} (hp : PPs X L tb o root a pp)
    (hbase : attributeBase a "pop" X.env (eval a X.env) = eval a X.env := by rfl) (hline : (apos.endLine == pos.line) = true := by rfl) :
    PEs X L tb o (.Call (.Attribute a "pop" apos) [] [] pos) (.mu .pop root pp .n) :=
  ⟨fun W tk => PEimp (pe_bm0 PySem.F.plainAttrs_list PySem.F.slot_list_pop PySem.F.type_list_pop mt_pop (hp.run W tk) hbase hline) fun σ H Q h => by
    refine mu_start h fun vr vc d acs H1 e1 xs hv hw m => ?_
    simp only [evMs, bnd_val] at m
    obtain ⟨Z, S1, S2, k1, dj, re, ⟨Sa, Sb, a1, a2, aj, q1, q2⟩, r', h', g⟩ := m
    obtain ⟨l, vs, back, T1, T2, ev, hl, t1, t2, tj, hT, F, rr, hm⟩ := foc_list q2 hw
    subst ev
    rw [hm] at h'
    simp only [muD] at h'
    cases qy : xs[xs.length - 1]? with
    | none => rw [qy] at h'; cases h'
    | some y =>
      rw [qy] at h'
      simp only [Option.map_some] at h'
      cases h'
      have ml : Mut (H1 l) := k1.own l (.inr (a2 l (t1 l hT)))
      have zl : ∀ b, Z b → b ≠ l := fun b z y => by subst y; exact k1.dj b (.inr (a2 b (t1 b hT))) z
      -- the list is what was ahead, and the last one
      have split : xs = xs.dropLast ++ [y] := by
        have hne : xs ≠ [] := fun z => by rw [z] at qy; simp at qy
        have := List.dropLast_concat_getLast hne
        rw [List.getLast_eq_getElem hne] at this
        have hy : xs[xs.length - 1]'(by have := List.length_pos_iff.mpr hne; omega) = y := by
          rw [List.getElem?_eq_getElem (by have := List.length_pos_iff.mpr hne; omega)] at qy
          exact Option.some.inj qy
        rw [hy] at this
        exact this.symm
      have rr' := rr
      rw [split] at rr'
      obtain ⟨us, ws, V1, V2, ee, v1, v2, vj, r1, r2⟩ := reps_split rr'
      obtain ⟨w, ew, rw'⟩ := reps1 r2
      subst ew
      have hlast : vs.dropLast = us := by rw [ee]; simp
      have hget : vs[vs.length - 1]? = some w := by rw [ee]; simp
      refine ⟨ty_list hl, l, vs, w, rfl, rfl, hl, hget, ?_⟩
      rw [hlast]
      have sl : ∀ b, V2 b → b ≠ l := fun b z => (v2 b z).2
      have new : Rep L Z (upd H1 l (.lst us)) (.ref l) (.nd .lst true xs.dropLast) (fun b => V1 b ∨ b = l) := by
        simp only [Rep]
        refine ⟨l, us, rfl, ⟨upd_same, fun z => by cases z⟩, fun _ => .inr rfl, ?_⟩
        exact reps_mono (fun b z => ⟨.inl z, fun _ => (v1 b z).2⟩) (kids_upd (fun b z => k1.own b (.inr (a2 b (t1 b (v1 b z).1)))) ml zl (fun b z => (v1 b z).2) r1)
      have u1 : ∀ b, (V1 b ∨ b = l) → T1 b := fun b z => z.elim (fun z => (v1 b z).1) fun z => by rw [z]; exact hT
      obtain ⟨st, ok, dd, re2⟩ := mut_state (ob := .lst us) (U2 := V2) k1 dj re hv F (fun b z => a2 b (t1 b z)) (fun b z => a2 b (t2 b z)) tj hT (by exact trivial) new (fun b z => a2 b (t1 b (u1 b z))) (fun b z => tj b (u1 b z)) (fun b z => a2 b (t1 b (v2 b z).1)) (fun b z y => z.elim (fun z => vj b z y) fun z => (v2 b y).2 z) (fun b z => tj b (v2 b z).1)
      exact g w _ Z _ V2 st ok dd re2 (kid_upd ml zl sl rw')⟩
end
end PL

/-! PL.At: an object that is being made; displays of dicts; isinstance; dicts asked. -/
namespace PL
open PySem L2
/-- p is held, and stands as ob -/
def At (p : Addr) (ob : HO) : AS → Hp → AS → Prop := fun _ H S => S p ∧ H p = some ob
theorem stb_at {p : Addr} {ob : HO} : Stb (At p ob) := ⟨fun f o hz zz hs ⟨h1, h2⟩ => ⟨h1, f p ob h2 (hs p h1)⟩, fun hs ⟨h1, h2⟩ => ⟨hs p h1, h2⟩⟩
section
variable {L : Lo} {W : WX} {σ : St} {γ : Type} {G : AS → AS → Hp → Out γ → Prop} {H : Hp} {e : Env} {P : AS → Hp → AS → Prop}
theorem MidH.newAt {p : Addr} {ob : HO} {r : R γ} (gp : GS G) (st : Stb P) (m : MidH L σ H e P G r) (hp : H p = Option.none) (mu : Mut (some ob)) : MidH L σ (upd H p ob) e (Spl P (At p ob)) G r := by
  obtain ⟨Z, S1, S2, k, dj, re, rs, r', h', g⟩ := m
  have f0 : Fr NoAS H (upd H p ob) := upd_fr hp NoAS
  have np : ∀ b, OrS S1 S2 b → b ≠ p := fun b z y => by subst y; exact k.sd z hp
  have nz : ∀ b, Z b → b ≠ p := fun b z y => by subst y; exact k.zd b z hp
  refine ⟨Z, S1, OrS S2 (fun b => b = p), ⟨fun b hb z => ?_, fun b hb => ?_, fun b z y => k.zd b z (upd_nn y)⟩, fun b z y => y.elim (dj b z) (np b (.inl z)), re.fr f0 (fun _ z => z.elim) (fun _ _ z => z) (fun _ z => z) (fun _ _ z => z),
    ⟨S2, fun b => b = p, fun b z => .inl z, fun b z => .inr z, fun b z y => np b (.inr z) y, st.st f0 (fun _ _ _ z => z.elim) (fun _ _ z => z) (fun _ z => z) (fun _ _ z => z) rs, rfl, upd_same⟩, r', h', gp.step g ⟨fun _ z => z, fun _ z => .inl z, fun b z => ?_, upd_fr hp _, fun b => upd_nn⟩⟩
  · rcases hb with hb | hb | hb
    · exact k.dj b (.inl hb) z
    · exact k.dj b (.inr hb) z
    · exact nz b z hb
  · by_cases c : b = p
    · subst c; rw [upd_same]; exact mu
    · rw [upd_ne c]
      rcases hb with hb | hb | hb
      · exact k.own b (.inl hb)
      · exact k.own b (.inr hb)
      · exact absurd hb c
  · rcases z with z | z | z
    · exact .inl (.inl z)
    · exact .inl (.inr z)
    · exact .inr (by rw [z]; exact hp)
/-- .. it goes on -/
theorem MidH.updAt {p : Addr} {ob ob' : HO} {r : R γ} (gp : GS G) (st : Stb P) (m : MidH L σ H e (Spl P (At p ob)) G r) (mu : Mut (some ob')) : MidH L σ (upd H p ob') e (Spl P (At p ob')) G r := by
  obtain ⟨Z, S1, S2, k, dj, re, ⟨Sa, Sb, h1, h2, aj, q1, q2, q3⟩, r', h', g⟩ := m
  have fr : Fr (fun b => b = p) H (upd H p ob') := fun b o e n => by rw [upd_ne n]; exact e
  have ow : OwnW (fun b => b = p) H := fun b o e n => by
    have := k.own p (.inr (h2 p q2))
    rw [n] at e
    rw [e] at this
    exact this
  have zp : ∀ b, Z b → b ≠ p := fun b z y => by subst y; exact k.dj b (.inr (h2 b q2)) z
  have sp : ∀ b, S1 b → b ≠ p := fun b z y => by subst y; exact dj b z (h2 b q2)
  have re1 : RepE L Z (upd H p ob') σ e S1 := by
    obtain ⟨Fm, f1, f2, f3⟩ := re.ex
    refine ⟨re.len, Fm, f1, f2, fun i d hd => ?_⟩
    obtain ⟨v, ev, r⟩ := f3 i d hd
    exact ⟨v, ev, rep_frW fr ow (fun b z => zp b z) (fun _ z => z) (fun b z => sp b (f1 i b z)) r⟩
  refine ⟨Z, S1, S2, ⟨k.dj, fun b hb => ?_, fun b z y => k.zd b z (upd_nn y)⟩, dj, re1, ⟨Sa, Sb, h1, h2, aj, st.st fr ow (fun b z => zp b z) (fun _ z => z) (fun b z y => by subst y; exact aj b z q2) q1, q2, upd_same⟩, r', h', gp.step g ⟨fun _ z => z, fun _ z => .inl z, fun _ z => .inl z, fun b o e n => ?_, fun b => upd_nn⟩⟩
  · by_cases c : b = p
    · subst c; rw [upd_same]; exact mu
    · rw [upd_ne c]; exact k.own b hb
  · exact fr b o e fun y => n (by rw [y]; exact .inr (h2 p q2))
end
section
variable {X : Cx} {L : Lo} {tb : Tab} {o : Orc} {k : Nat} {pos p apos : Pos} {a b c : Expr} {es : List Expr} {ca cb cc : E} {W : WX} {x : Str}
theorem ce_dnew : PEs X L tb o (.Dict [] [] pos) .dnew := ⟨fun W tk => PEimp pe_dnewK fun σ H Q h => by
  obtain ⟨e, m⟩ := h.mid
  simp only [evE] at m
  intro p hp
  refine m.new hp trivial fun Z S k r np => ?_
  simp only [Rep]
  exact ⟨p, [], rfl, ⟨List.nodup_nil, rfl, upd_same, fun z => by cases z⟩, fun _ => .inr rfl, reps_nil⟩⟩
theorem ce_ddisp (ha : PEs X L tb o a ca) (hb : PEs X L tb o b cb) : PEs X L tb o (.Dict [some a] [b] pos) (.ddisp ca cb) :=
  ⟨fun W tk => PEimp (pe_disp (L2.pps_cons (ha.run W tk) (hb.run W tk) L2.pps_nil) rfl rfl (fun z => by cases z) (Nat.le_of_ble_eq_true rfl)) fun σ H Q h => by
    obtain ⟨e, m⟩ := h.mid
    simp only [evE] at m
    intro p hp
    have m1 := (Mid.toH m).newAt gs_e stb_reps hp (ob := .dK []) trivial
    show tG L W (Rep L) (evE tb o ca) σ _ _
    refine (m1.bind (rep := Rep L) gp_e (stb_reps.spl stb_at)).imp fun x H1 ⟨d1, e1, m2⟩ => ?_
    refine (m2.bind (rep := Rep L) gp_e ((stb_reps.spl stb_at).spl stb_rep)).imp fun y H2 ⟨d2, e2, m3⟩ => ?_
    show H2 p = _ ∧ _
    obtain ⟨Z, S1, S2, k1, dj, re, ⟨Sx, Sy, g1, g2, gj, ⟨Sw, Sk, b1, b2, bj, ⟨Sa, Sb, a1, a2, aj, q1, q2⟩, q3⟩, q4⟩, r', h', g⟩ := m3
    refine ⟨q2.2, ?_⟩
    cases qk : d1.key with
    | none => rw [qk] at h'; cases h'
    | some kk =>
      rw [qk] at h'
      cases h'
      refine ⟨[(kk, y)], ?_, Nat.le_of_ble_eq_true rfl, ?_⟩
      · rw [key_kV q3 qk]; rfl
      · have zp : ∀ b, Z b → b ≠ p := fun b z y => by subst y; exact k1.dj b (.inr (g1 b (b1 b (a2 b q2.1)))) z
        have sp : ∀ b, S1 b → b ≠ p := fun b z y => by subst y; exact dj b z (g1 b (b1 b (a2 b q2.1)))
        have yp : ∀ b, Sy b → b ≠ p := fun b z y => by subst y; exact gj b (b1 b (a2 b q2.1)) z
        have ml : Mut (H2 p) := by rw [q2.2]; exact trivial
        have re1 : RepE L Z (upd H2 p (.dK (mergeK [] [(kk, y)]))) σ e2 S1 := by
          obtain ⟨Fm, f1, f2, f3⟩ := re.ex
          refine ⟨re.len, Fm, f1, f2, fun i d hd => ?_⟩
          obtain ⟨v, ev, r⟩ := f3 i d hd
          exact ⟨v, ev, kid_upd ml zp (fun b z => sp b (f1 i b z)) r⟩
        have sub : ∀ b, OrS S1 (fun b => Sy b ∨ b = p) b → OrS S1 S2 b := fun b z => z.elim .inl fun z => .inr (z.elim (g2 b) fun z => by rw [z]; exact g1 p (b1 p (a2 p q2.1)))
        refine g (.ref p) _ Z S1 (fun b => Sy b ∨ b = p) ⟨fun _ z => z, fun _ z => .inl z, fun b z => .inl (sub b z), fun b ob e n => ?_, fun b => upd_nn⟩ ⟨fun b z => k1.dj b (sub b z), fun b z => ?_, fun b z y => k1.zd b z (upd_nn y)⟩ (fun b z y => y.elim (fun y => dj b z (g2 b y)) (sp b z)) re1 ?_
        · rw [upd_ne (fun y => n (by rw [y]; exact .inr (g1 p (b1 p (a2 p q2.1)))))]; exact e
        · by_cases c : b = p
          · subst c; rw [upd_same]; exact trivial
          · rw [upd_ne c]; exact k1.own b (sub b z)
        · simp only [Rep]
          refine ⟨p, [y], rfl, ⟨by simp, rfl, by rw [upd_same]; rfl, fun z => by cases z⟩, fun _ => .inr rfl, ?_⟩
          exact reps_cons (S1 := Sy) (S2 := NoAS) (fun b z => ⟨.inl z, fun _ => yp b z⟩) (fun _ z => z.elim) (fun _ _ z => z) (kid_upd ml zp yp q4) reps_nil⟩

/-! ### isinstance -/
def tyS : Ty → String
  | .int => "int" | .bool => "bool" | .str => "str" | .tuple => "tuple" | .list => "list" | .dict => "dict" | .none => "NoneType" | .cls _ => "type"
theorem kit_isT {K : PySem.W.Frag} : ∀ {t u : Ty} {b : Bool}, u ≠ .none → (∀ c, t ≠ .cls c) → isT t u = some b → PySem.W.kitOne K (.type (tyS t)) (.type (tyS u)) = some b
  | t, .cls c, b, _, _, h => by cases t <;> simp only [isT, reduceCtorEq] at h
  | t, .none, b, h, _, _ => absurd rfl h
  | .cls c, _, _, _, h, _ => absurd rfl (h c)
  | .int, .int, b, _, _, h | .int, .bool, b, _, _, h | .int, .str, b, _, _, h | .int, .tuple, b, _, _, h | .int, .list, b, _, _, h | .int, .dict, b, _, _, h
  | .bool, .int, b, _, _, h | .bool, .bool, b, _, _, h | .bool, .str, b, _, _, h | .bool, .tuple, b, _, _, h | .bool, .list, b, _, _, h | .bool, .dict, b, _, _, h
  | .str, .int, b, _, _, h | .str, .bool, b, _, _, h | .str, .str, b, _, _, h | .str, .tuple, b, _, _, h | .str, .list, b, _, _, h | .str, .dict, b, _, _, h
  | .tuple, .int, b, _, _, h | .tuple, .bool, b, _, _, h | .tuple, .str, b, _, _, h | .tuple, .tuple, b, _, _, h | .tuple, .list, b, _, _, h | .tuple, .dict, b, _, _, h
  | .list, .int, b, _, _, h | .list, .bool, b, _, _, h | .list, .str, b, _, _, h | .list, .tuple, b, _, _, h | .list, .list, b, _, _, h | .list, .dict, b, _, _, h
  | .dict, .int, b, _, _, h | .dict, .bool, b, _, _, h | .dict, .str, b, _, _, h | .dict, .tuple, b, _, _, h | .dict, .list, b, _, _, h | .dict, .dict, b, _, _, h
  | .none, .int, b, _, _, h | .none, .bool, b, _, _, h | .none, .str, b, _, _, h | .none, .tuple, b, _, _, h | .none, .list, b, _, _, h | .none, .dict, b, _, _, h => by
    simp only [isT, Option.some.injEq] at h
    subst h
    exact kit_ty (by decide +kernel)
theorem tyx_of {K : PySem.W.Frag} (hK : K = L.K) {Z S : AS} {H : Hp} {v : V} {d : D} {t : Ty} (e : tyD d = some t) (r : Rep L Z H v d S) : TyX K H v (.type (tyS t)) ∧ ∀ c, t ≠ .cls c := by
  cases d with
  | non => cases e; rw [rep_non r]; exact ⟨.base .non, fun c z => by cases z⟩
  | bl b => cases e; rw [rep_bl r]; exact ⟨.base (.bl b), fun c z => by cases z⟩
  | int i => cases e; rw [rep_int r]; exact ⟨.base (.int i), fun c z => by cases z⟩
  | str i => cases e; rw [rep_str r]; exact ⟨.base (.str i), fun c z => by cases z⟩
  | nd kd ow xs =>
    cases kd with
    | tup =>
      cases e
      obtain ⟨a, vs, rfl, _, h, rr⟩ := shape_tup r
      refine ⟨?_, fun c z => by cases z⟩
      rcases h with (h | ⟨ob, h⟩) | ⟨ob, its, n, h1, h2, _⟩
      · exact .base (.tup h)
      · exact .fTuple h
      · exact .kTuple (by rw [hK]; exact h1) h2
    | lst =>
      cases e
      obtain ⟨a, vs, rfl, h, _, rr⟩ := shape_lst r
      exact ⟨.base (.lst h), fun c z => by cases z⟩
    | cl =>
      cases e
      obtain ⟨a, vs, rfl, h, rr⟩ := shape_cl r
      refine ⟨?_, fun c z => by cases z⟩
      rcases h with ⟨ob, h⟩ | ⟨ob, its, n, h1, h2, _⟩
      · exact .base (.frz h)
      · exact .kList (by rw [hK]; exact h1) h2
    | dk ks =>
      cases e
      obtain ⟨a, vs, rfl, h0, h1, h, _, rr⟩ := shape_dk r
      exact ⟨.base (.dK h), fun c z => by cases z⟩
    | ins c ns => cases e
/-- a built-in class by its name -/
theorem pe_ty [Lay X L tb o k] {u : Ty} {x : Str} {pos : Pos} (hx : x = PySem.Str.ofString (tyS u) := by rfl) (hg : Gl X x) (hb : x ∈ biNames := by decide +kernel) (hv : bootBuiltins x = some (.type (tyS u)) := by decide +kernel) (hn : x ≠ "__name__" := by decide) (hd : (x == ("__debug__" : Str)) = false := by decide) : PE X (.Name x pos) (tC (.ty (tyS u))) :=
  pe_bltn hg (Lay.bi (X := X) (L := L) (tb := tb) (o := o) (k := k) x hb) hv rfl hn hd
theorem isi_mid {σ : St} {H : Hp} {Q : VK} {ts : List Ty} {R : V → Hp → Prop} (hR : ∀ x H d b, isD d ts = some b → (∃ Z S, Rep L Z H x d S) → (∀ e, Mid L W σ H e [x] [d] (Rep L) Q (some (.val (.bl b) e)) → R x H)) (h : tG L W (Rep L) (evE tb o (.isi ca ts)) σ H Q) : tG L W (Rep L) (evE tb o ca) σ H R := by
  obtain ⟨e, m⟩ := h.mid
  simp only [evE] at m
  refine m.one.imp fun x H1 ⟨d, e1, m1⟩ => ?_
  obtain ⟨dd, hd, m2⟩ := m1.opt
  cases q : isD d ts with
  | none => rw [q] at hd; cases hd
  | some b =>
    rw [q] at hd
    cases hd
    obtain ⟨Z, S, k', rs⟩ := m1.reps
    obtain ⟨v', ev, r1⟩ := reps1 rs
    cases ev
    exact hR x H1 d b q ⟨Z, S, r1⟩ e1 m2
theorem ce_isi [Lay X L tb o k] {T : Expr} (u : Ty) (ha : PEs X L tb o a ca) (hT : PE X T (tC (.ty (tyS u)))) (hu : u ≠ .none := by intro z; cases z) (hg : Gl X "isinstance" := by rfl) (hs : starEach [a, T] X.env = (false, eval a X.env) :: starEach [T] X.env := by rfl) (hs2 : starEach [T] X.env = (false, eval T X.env) :: starEach [] X.env := by rfl) :
    PEs X L tb o (.Call (.Name "isinstance" p) [a, T] [] pos) (.isi ca [u]) :=
  ⟨fun W tk => PEimp (pe_callB call_isi hg (Lay.bi (X := X) (L := L) (tb := tb) (o := o) (k := k) _ (by decide +kernel)) (by decide +kernel) (pa_cons (ha.run W tk) (pa_cons hT pa_nil hs2) hs) (he := hs) (hpl := by rw [hs2]; rfl)) fun σ H Q h => by
    have hK := Lay.K (X := X) (L := L) (tb := tb) (o := o) (k := k)
    refine isi_mid (fun x H d b hb ⟨Z, S, r⟩ e m => ?_) h
    unfold isD at hb
    cases qt : tyD d with
    | none => rw [qt] at hb; cases hb
    | some t =>
      rw [qt] at hb
      simp only [Option.bind_some, isTs] at hb
      obtain ⟨ty, nc⟩ := tyx_of hK qt r
      cases qi : isT t u with
      | none => rw [qi] at hb; cases hb
      | some b' =>
        rw [qi] at hb
        simp only [Bool.or_false, Option.some.injEq] at hb
        subst hb
        exact ⟨x, .ty (tyS u), _, _, b', rfl, .ty _, ty, kit_isT hu nc qi, m.fin fun _ _ _ _ => by simp only [Rep]⟩⟩
theorem ce_isi2 [Lay X L tb o k] {T U : Expr} (u w : Ty) {x1 : Nat} {tp : Pos} (ha : PEs X L tb o a ca) (hT : PE X T (tC (.ty (tyS u)))) (hU : PE X U (tC (.ty (tyS w)))) (hu : u ≠ .none := by intro z; cases z) (hw : w ≠ .none := by intro z; cases z) (hg : Gl X "isinstance" := by rfl)
    (hs : starEach [a, .Tuple [T, U] x1 tp] X.env = (false, eval a X.env) :: starEach [.Tuple [T, U] x1 tp] X.env := by rfl) (hs2 : starEach [.Tuple [T, U] x1 tp] X.env = (false, eval (.Tuple [T, U] x1 tp) X.env) :: starEach [] X.env := by rfl) (hs3 : starEach [T, U] X.env = (false, eval T X.env) :: starEach [U] X.env := by rfl) (hs4 : starEach [U] X.env = (false, eval U X.env) :: starEach [] X.env := by rfl) :
    PEs X L tb o (.Call (.Name "isinstance" p) [a, .Tuple [T, U] x1 tp] [] pos) (.isi ca [u, w]) :=
  ⟨fun W tk => PEimp (pe_callB call_isiT hg (Lay.bi (X := X) (L := L) (tb := tb) (o := o) (k := k) _ (by decide +kernel)) (by decide +kernel) (pa_cons (ha.run W tk) (pa_cons (pe_tup (pa_cons hT (pa_cons hU pa_nil hs4) hs3)) pa_nil hs2) hs) (he := hs) (hpl := by rw [hs2]; rfl)) fun σ H Q h => by
    have hK := Lay.K (X := X) (L := L) (tb := tb) (o := o) (k := k)
    refine isi_mid (fun x H d b hb ⟨Z, S, r⟩ e m => ?_) h
    refine ⟨by show 2 ≤ sizeLine; decide, fun q hq => ?_⟩
    have m2 := m.growT (ob := .tup [.ty (tyS u), .ty (tyS w)]) hq
    unfold isD at hb
    cases qt : tyD d with
    | none => rw [qt] at hb; cases hb
    | some t =>
      rw [qt] at hb
      simp only [Option.bind_some, isTs] at hb
      have r2 : Rep L Z (upd H q (.tup [.ty (tyS u), .ty (tyS w)])) x d S := rep_fr (upd_fr hq NoAS) (fun _ z => z.elim) (fun _ _ z => z) (fun _ z => z) (fun _ _ z => z) r
      obtain ⟨ty, nc⟩ := tyx_of hK qt r2
      cases qi : isT t u with
      | none => rw [qi] at hb; cases hb
      | some b1 =>
        cases qj : isT t w with
        | none => rw [qi, qj] at hb; cases hb
        | some b2 =>
          rw [qi, qj] at hb
          simp only [Bool.or_false, Option.some.injEq] at hb
          subst hb
          refine ⟨x, q, [.ty (tyS u), .ty (tyS w)], _, [.type (tyS u), .type (tyS w)], (b1 || b2), rfl, upd_same, .cons (.ty _) (.cons (.ty _) .nil), ty, ?_, m2.fin fun _ _ _ _ => by simp only [Rep]⟩
          refine kitAny_cons (kit_isT hu nc qi) (fun z => ?_) (fun z => by rw [z]; rfl)
          subst z
          refine kitAny_cons (kit_isT hw nc qj) (fun z => ?_) (fun z => by rw [z]; rfl)
          subst z
          exact kitAny_nil⟩

/-! ### d.get -/
theorem dk_mid {Z S : AS} {H : Hp} {v : V} {ks : List Key} {ow : Bool} {xs : List D} (h : Rep L Z H v (.nd (.dk ks) ow xs) S) : ∃ a, v = .ref a ∧ IsD H a := by
  obtain ⟨a, vs, rfl, h0, h1, h2, _, rr⟩ := shape_dk h
  exact ⟨a, rfl, .inl ⟨_, Rd.of h2⟩⟩
theorem look_getD {ks : List Key} {xs : List D} {vs : List V} {Z S : AS} {H : Hp} {kk : Key} (hl : ks.length = vs.length) (rr : Reps L Z H vs xs S) {dflt : D} {vd : V} {S2 : AS} (rd : Rep L Z H vd dflt S2) :
    Rep L Z H ((valV (ks.zip vs) kk).getD vd) ((lookD ks xs kk).getD dflt) (OrS S S2) := by
  obtain ⟨i1, i2⟩ := look_zip kk hl rr
  cases q : lookD ks xs kk with
  | none =>
    have := look_none (by rw [hl]; exact rr.length) q
    rw [this] at i1
    cases q2 : valV (ks.zip vs) kk with
    | none => exact rep_mono (fun b z => .inr z) rd
    | some _ => rw [q2] at i1; cases i1
  | some d =>
    obtain ⟨j, v, e1, e2, e3, e4⟩ := i2 d q
    rw [e4]
    obtain ⟨v', e3', rv⟩ := rr.get e2
    rw [e3] at e3'
    cases e3'
    exact rep_mono (fun b z => .inl z) rv
theorem ce_get [Lay X L tb o k] (ha : PEs X L tb o a ca) (hb : PEs X L tb o b cb) (m : M1 X a "get" apos b pos := by exact ⟨rfl, rfl, rfl, rfl⟩) : PEs X L tb o (.Call (.Attribute a "get" apos) [b] [] pos) (.bm .get ca (.c cb .n)) :=
  ⟨fun W tk => PEimp (pe_dget1 (hu_of (Lay.room (X := X) (L := L) (tb := tb) (o := o) (k := k))) (ha.run W tk) (hb.run W tk) m) fun σ H Q h => by
    obtain ⟨e, m⟩ := h.mid
    simp only [evE, evEs, bnd_assoc, bnd_val] at m
    refine m.one.imp fun x H1 ⟨d, e1, m1⟩ => ?_
    cases qo : okB .get d with
    | false => simp only [qo, Bool.false_eq_true, if_false] at m1; exact m1.none.elim
    | true =>
    simp only [qo, if_true] at m1
    have isdk : ∃ ks ow xs, d = .nd (.dk ks) ow xs := by
      cases d with
      | nd kd ow xs => cases kd <;> first | exact ⟨_, _, _, rfl⟩ | (simp only [okB, Bool.false_eq_true] at qo)
      | _ => simp only [okB, Bool.false_eq_true] at qo
    obtain ⟨ks, ow, xs, rfl⟩ := isdk
    obtain ⟨Z, S, k', rs⟩ := m1.reps
    obtain ⟨v', ev, r1⟩ := reps1 rs
    cases ev
    obtain ⟨q, rfl, hd⟩ := dk_mid r1
    refine ⟨q, rfl, hd, ?_⟩
    refine m1.one.imp fun y H2 ⟨d2, e2, m2⟩ => ?_
    obtain ⟨dd, hd2, m3⟩ := m2.opt
    obtain ⟨Z, S, k', rs, u⟩ := m3.use
    obtain ⟨S1, S2, h1, h2, dj, r1, r2⟩ := reps2 rs
    simp only [bmD] at hd2
    cases qk : d2.key with
    | none => rw [qk] at hd2; cases hd2
    | some kk =>
      rw [qk] at hd2
      cases hd2
      obtain ⟨q', vs, eq', h0, hl, hq, _, rr⟩ := shape_dk r1
      cases eq'
      refine ⟨valV (ks.zip vs) kk, by rw [key_kV r2 qk]; exact DGet.k hq, u.fin _ ?_⟩
      exact rep_mono (fun b z => z.elim (fun z => h1 b z.1) fun z => z.elim) (look_getD (dflt := .non) (vd := .non) (S2 := NoAS) hl rr (by simp only [Rep]))⟩
theorem ce_get2 [Lay X L tb o k] (ha : PEs X L tb o a ca) (hb : PEs X L tb o b cb) (hc : PEs X L tb o c cc) (m : M2 X a "get" apos b c pos := by exact ⟨rfl, rfl, rfl, rfl⟩) : PEs X L tb o (.Call (.Attribute a "get" apos) [b, c] [] pos) (.bm .get2 ca (.c cb (.c cc .n))) :=
  ⟨fun W tk => PEimp (pe_dget2 (hu_of (Lay.room (X := X) (L := L) (tb := tb) (o := o) (k := k))) (ha.run W tk) (hb.run W tk) (hc.run W tk) m) fun σ H Q h => by
    obtain ⟨e, m⟩ := h.mid
    simp only [evE, evEs, bnd_assoc, bnd_val] at m
    refine m.one.imp fun x H1 ⟨d, e1, m1⟩ => ?_
    cases qo : okB .get2 d with
    | false => simp only [qo, Bool.false_eq_true, if_false] at m1; exact m1.none.elim
    | true =>
    simp only [qo, if_true] at m1
    have isdk : ∃ ks ow xs, d = .nd (.dk ks) ow xs := by
      cases d with
      | nd kd ow xs => cases kd <;> first | exact ⟨_, _, _, rfl⟩ | (simp only [okB, Bool.false_eq_true] at qo)
      | _ => simp only [okB, Bool.false_eq_true] at qo
    obtain ⟨ks, ow, xs, rfl⟩ := isdk
    obtain ⟨Z, S, k', rs⟩ := m1.reps
    obtain ⟨v', ev, r1⟩ := reps1 rs
    cases ev
    obtain ⟨q, rfl, hd⟩ := dk_mid r1
    refine ⟨q, rfl, hd, ?_⟩
    refine m1.one.imp fun y H2 ⟨d2, e2, m2⟩ => ?_
    refine m2.one.imp fun z H3 ⟨d3, e3, m3⟩ => ?_
    obtain ⟨dd, hd2, m4⟩ := m3.opt
    obtain ⟨Z, S, k', rs, u⟩ := m4.use
    simp only [List.nil_append, List.cons_append, Reps] at rs
    obtain ⟨v1, ws1, S1, R1, e1', s1, t1, j1, r1, v2, ws2, S2, R2, e2', s2, t2, j2, r2, v3, ws3, S3, R3, e3', s3, t3, j3, r3, e4'⟩ := rs
    cases e1'
    cases e2'
    cases e3'
    simp only [bmD] at hd2
    cases qk : d2.key with
    | none => rw [qk] at hd2; cases hd2
    | some kk =>
      rw [qk] at hd2
      cases hd2
      obtain ⟨q', vs, eq', h0, hl, hq, _, rr⟩ := shape_dk r1
      cases eq'
      refine ⟨valV (ks.zip vs) kk, by rw [key_kV r2 qk]; exact DGet.k hq, u.fin _ ?_⟩
      exact rep_mono (fun b z => z.elim (fun z => s1 b z.1) fun z => t1 b (t2 b (s3 b z))) (look_getD hl rr r3)⟩
end
end PL

/-! PL.Loop: what is walked; targets; comprehensions. -/
namespace PL
open PySem L2
/-- what an iterator gives at a turn -/
def Yk (L : Lo) (Z : AS) (H : Hp) (x : V) (H' : Hp) (d : D) : Prop := (H' = H ∨ ∃ p xs, H p = none ∧ H' = upd H p (.tup xs)) ∧ Rep L Z H' x d NoAS
structure WkOk (L : Lo) (Hd : AS → Hp → AS → Prop) (J : It) (items : List D) : Prop where
  ex : ∃ (GH : Hp → Prop) (Y : Nat → Hp → V → Hp → Prop), Walk J items.length GH Y ∧ (∀ Z H S, Hd Z H S → GH H) ∧ ∀ Z H S i x H' d, Hd Z H S → items[i]? = some d → Y i H x H' → Yk L Z H x H' d
def tIt (L : Lo) (W : WX) (tb : Tab) (o : Orc) (c : I) : TI := fun σ H R => ∃ (γ : Type) (G : AS → AS → Hp → Out γ → Prop) (f : List D → Env → PL.R γ) (P : AS → Hp → AS → Prop) (e : Env), GP L W σ G ∧ Stb P ∧ MidH L σ H e P G (bnd (evI tb o c e) f) ∧
  ∀ J H' items e' Hd, Stb Hd → WkOk L Hd J items → MidH L σ H' e' (Spl P Hd) G (f items e') → R J H'
structure PIs (X : Cx) (L : Lo) (tb : Tab) (o : Orc) (tg it : Expr) (c : I) : Prop where
  run : ∀ W, Takes X W → PI X tg it (tIt L W tb o c)
theorem PIimp {X : Cx} {tg it : Expr} {t t' : TI} (p : PI X tg it t) (h : ∀ σ H Q, t' σ H Q → t σ H Q) : PI X tg it t' := ⟨fun pins s σ H R I hq => p.run pins s σ H R I (h σ H R hq)⟩
def stb_true : Stb (fun _ _ _ => True) := ⟨fun _ _ _ _ _ _ => trivial, fun _ _ => trivial⟩
section
variable {L : Lo} {W : WX} {σ : St} {γ : Type} {G : AS → AS → Hp → Out γ → Prop} {H : Hp} {e : Env} {P : AS → Hp → AS → Prop} {r : R γ}
theorem MidH.plus (m : MidH L σ H e P G r) : MidH L σ H e (Spl P (fun _ _ _ => True)) G r := m.imp fun Z S _ q => ⟨S, NoAS, fun _ z => z, fun _ z => z.elim, fun _ _ z => z, q, trivial⟩
theorem MidH.grow {p : Addr} {ob : HO} (gp : GP L W σ G) (st : Stb P) (m : MidH L σ H e P G r) (hp : H p = Option.none) : MidH L σ (upd H p ob) e P G r := by
  obtain ⟨Z, S1, S2, k, dj, re, rs, r', e', g⟩ := m
  have f0 : Fr NoAS H (upd H p ob) := upd_fr hp NoAS
  have k2 : Ok Z (OrS S1 S2) (upd H p ob) := by
    refine ⟨k.dj, fun b hb => ?_, fun b z y => k.zd b z (upd_nn y)⟩
    rw [upd_ne (fun c => by subst c; exact k.sd hb hp)]
    exact k.own b hb
  exact ⟨Z, S1, S2, k2, dj, re.fr f0 (fun _ z => z.elim) (fun _ _ z => z) (fun _ z => z) fun _ _ z => z, st.st f0 (fun _ _ _ z => z.elim) (fun _ _ z => z) (fun _ z => z) (fun _ _ z => z) rs, r', e', gp.step g ⟨fun _ z => z, fun _ z => .inl z, fun b z => .inl z, upd_fr hp _, fun b => upd_nn⟩⟩
/-- what is in hand becomes shared -/
theorem MidH.freeze {v : V} {d : D} (gp : GP L W σ G) (st : Stb P) (m : MidH L σ H e (Spl P (fun Z H S => Rep L Z H v d S)) G r) : MidH L σ H e (Spl P (fun Z H S => Rep L Z H v d.frz S)) G r := by
  obtain ⟨Z, S1, S2, k, dj, re, ⟨Sa, Sb, h1, h2, aj, q1, q2⟩, r', h', g⟩ := m
  have sub : ∀ b, OrS S1 Sa b → OrS S1 S2 b := fun b z => z.elim .inl fun z => .inr (h1 b z)
  refine ⟨OrS Z Sb, S1, Sa, ⟨fun b z y => ?_, fun b z => k.own b (sub b z), fun b z => z.elim (k.zd b) fun z => k.sd (.inr (h2 b z))⟩, fun b z y => dj b z (h1 b y), re.z fun b z => .inl z,
    ⟨Sa, NoAS, fun _ z => z, fun _ z => z.elim, fun _ _ z => z, st.st (U := NoAS) fr_refl (fun _ _ _ z => z.elim) (fun _ _ z => z) (fun b z => .inl z) (fun _ _ z => z) q1, rep_frz (fun b z => .inr z) (fun b z => .inl z) q2⟩, r', h', gp.step g ⟨fun b z => .inl z, fun b z => z.elim .inl fun z => .inr (.inl (.inr (h2 b z))), fun b z => .inl (sub b z), fr_refl, fun _ z => z⟩⟩
  rcases y with y | y
  · exact k.dj b (sub b z) y
  · rcases z with z | z
    · exact dj b z (h2 b y)
    · exact aj b z y
end
theorem frzL_get {ds : List D} {i : Nat} {d : D} (h : (frzL ds)[i]? = some d) : d.fz = true := by
  induction ds generalizing i with
  | nil => simp [frzL] at h
  | cons x xs ih =>
    cases i with
    | zero => simp only [frzL, List.getElem?_cons_zero, Option.some.injEq] at h; subst h; exact frz_fz x
    | succ i => simp only [frzL, List.getElem?_cons_succ] at h; exact ih h
/-- a list or a tuple that is shared, walked -/
theorem wk_lst {L : Lo} {K : PySem.W.Frag} {a : Addr} {xs : List D} {vs : List V} : WkOk L (fun Z H S => Rep L Z H (.ref a) (.nd .lst false (frzL xs)) S ∧ H a = some (.lst vs) ∧ vs.length = (frzL xs).length) (Itl K a) (frzL xs) := by
  refine ⟨fun H => H a = some (.lst vs) ∧ vs.length = (frzL xs).length, YAt vs, ?_, fun Z H S ⟨_, h⟩ => h, fun Z H S i x H' d ⟨r, hl, _⟩ hd ⟨e, hx⟩ => ?_⟩
  · refine ⟨fun i H hi ⟨q, ql⟩ => ⟨vs, vs[i], .of q, by simp [show i < vs.length by omega]⟩, fun H ⟨q, ql⟩ => ⟨vs, .of q, by omega⟩, fun i H x H' hi ⟨q, ql⟩ y => ⟨y.1, y.2 vs (.of q)⟩⟩
  · subst e
    refine ⟨.inl rfl, ?_⟩
    obtain ⟨a', ws, ea, hw, _, rr⟩ := shape_lst r
    cases ea
    rw [hl] at hw
    cases hw
    obtain ⟨v, ev, rv⟩ := rr.get hd
    rw [hx] at ev
    cases ev
    exact rep_fz (frzL_get hd) rv
theorem stb_lst {L : Lo} {a : Addr} {xs : List D} {vs : List V} : Stb (fun Z H S => Rep L Z H (.ref a) (.nd .lst false (frzL xs)) S ∧ H a = some (.lst vs) ∧ vs.length = (frzL xs).length) where
  st := fun {Z Z' H H' U S} f o hz zz hs ⟨h1, h2, h3⟩ => by
    refine ⟨rep_frW f o hz zz hs h1, f a _ h2 ?_, h3⟩
    simp only [Rep, shapeOk] at h1
    obtain ⟨a', ws, e, ⟨g1, g2⟩, _⟩ := h1
    cases e
    exact hz a (g2 trivial)
  mo := fun hs ⟨h1, h2, h3⟩ => ⟨rep_mono hs h1, h2, h3⟩
theorem wk_tup {L : Lo} {K : PySem.W.Frag} (hK : K = L.K) {a : Addr} {xs : List D} {vs : List V} : WkOk L (fun Z H S => Reps L Z H vs (frzL xs) S ∧ SqT K H a vs) (Itt K a) (frzL xs) := by
  refine ⟨fun H => SqT K H a vs ∧ vs.length = (frzL xs).length, YAt vs, ?_, fun Z H S ⟨r, h⟩ => ⟨h, r.length⟩, fun Z H S i x H' d ⟨r, hl⟩ hd ⟨e, hx⟩ => ?_⟩
  · refine ⟨fun i H hi ⟨q, ql⟩ => ⟨vs, vs[i], q, by simp [show i < vs.length by omega]⟩, fun H ⟨q, ql⟩ => ⟨vs, q, by omega⟩, fun i H x H' hi ⟨q, ql⟩ y => ⟨y.1, y.2 vs q⟩⟩
  · subst e
    refine ⟨.inl rfl, ?_⟩
    obtain ⟨v, ev, rv⟩ := r.get hd
    rw [hx] at ev
    cases ev
    exact rep_fz (frzL_get hd) rv
theorem stb_tup {L : Lo} {K : PySem.W.Frag} {a : Addr} {xs : List D} {vs : List V} : Stb (fun Z H S => Reps L Z H vs (frzL xs) S ∧ SqT K H a vs) :=
  ⟨fun f o hz zz hs ⟨h1, h2⟩ => ⟨reps_frW f o hz zz hs h1, SqT.fr f o h2⟩, fun hs ⟨h1, h2⟩ => ⟨reps_mono hs h1, h2⟩⟩
theorem wk_cl {L : Lo} {K : PySem.W.Frag} (hK : K = L.K) {a : Addr} {xs : List D} {vs : List V} : WkOk L (fun Z H S => Reps L Z H vs (frzL xs) S ∧ FzL L H a vs) (Itl K a) (frzL xs) := by
  refine ⟨fun H => SqL K H a vs ∧ vs.length = (frzL xs).length, YAt vs, ?_, fun Z H S ⟨r, h⟩ => ⟨by rw [hK]; exact h.sq, r.length⟩, fun Z H S i x H' d ⟨r, hl⟩ hd ⟨e, hx⟩ => ?_⟩
  · refine ⟨fun i H hi ⟨q, ql⟩ => ⟨vs, vs[i], q, by simp [show i < vs.length by omega]⟩, fun H ⟨q, ql⟩ => ⟨vs, q, by omega⟩, fun i H x H' hi ⟨q, ql⟩ y => ⟨y.1, y.2 vs q⟩⟩
  · subst e
    refine ⟨.inl rfl, ?_⟩
    obtain ⟨v, ev, rv⟩ := r.get hd
    rw [hx] at ev
    cases ev
    exact rep_fz (frzL_get hd) rv
theorem stb_cl {L : Lo} {a : Addr} {xs : List D} {vs : List V} : Stb (fun Z H S => Reps L Z H vs (frzL xs) S ∧ FzL L H a vs) :=
  ⟨fun f o hz zz hs ⟨h1, h2⟩ => ⟨reps_frW f o hz zz hs h1, FzL.fr f o h2⟩, fun hs ⟨h1, h2⟩ => ⟨reps_mono hs h1, h2⟩⟩
theorem wk_rng {L : Lo} {lo hi : Int} : WkOk L (fun _ _ _ => True) (Itr lo (hi - lo).toNat) (rangeD lo hi) := by
  refine ⟨fun _ => True, YFn fun i => .int (lo + i), ?_, fun _ _ _ _ => trivial, ?_⟩
  · have : (rangeD lo hi).length = (hi - lo).toNat := by simp [rangeD]
    rw [this]
    exact walk_range
  · intro Z H S i x H' d _ hd y
    obtain ⟨e1, e2⟩ := y
    subst e1 e2
    refine ⟨.inl rfl, ?_⟩
    simp only [rangeD, List.getElem?_map] at hd
    cases q : (List.range (hi - lo).toNat)[i]? with
    | none => rw [q] at hd; cases hd
    | some j =>
      rw [q] at hd
      have : j = i := by
        obtain ⟨h1, h2⟩ := List.getElem?_eq_some_iff.mp q
        rw [List.getElem_range] at h2
        exact h2.symm
      subst this
      simp only [Option.map_some, Option.some.injEq] at hd
      subst hd
      simp only [Rep]
section
variable {X : Cx} {L : Lo} {tb : Tab} {o : Orc} {k : Nat} {pos p apos : Pos} {a b c tg : Expr} {es : List Expr} {ca cb cc : E} {W : WX} {x : Str}
theorem seqD_frz {d : D} {xs : List D} (h : seqD d.frz = some xs) : (∃ ow ys, d = .nd .tup ow ys ∧ xs = frzL ys) ∨ (∃ ow ys, d = .nd .lst ow ys ∧ xs = frzL ys) ∨ ∃ ow ys, d = .nd .cl ow ys ∧ xs = frzL ys := by
  cases d with
  | nd kd ow ys =>
    cases kd <;> simp only [D.frz, seqD, Option.some.injEq, reduceCtorEq] at h
    · exact .inl ⟨ow, ys, rfl, h.symm⟩
    · exact .inr (.inr ⟨ow, ys, rfl, h.symm⟩)
    · exact .inr (.inl ⟨ow, ys, rfl, h.symm⟩)
  | _ => simp only [D.frz, seqD, reduceCtorEq] at h
/-- for x in a list -/
theorem ci_lst [Lay X L tb o k] (ha : PEs X L tb o a ca) : PIs X L tb o tg a (.seqL ca) := ⟨fun W tk => PIimp (pi_list (ha.run W tk)) fun σ H Q h => by
  have hK := Lay.K (X := X) (L := L) (tb := tb) (o := o) (k := k)
  obtain ⟨γ, G, f, P, e, gp, st, m, kk⟩ := h
  simp only [evI, bnd_assoc] at m
  refine (m.bind (rep := Rep L) gp st).imp fun v H1 ⟨d, e1, m1⟩ => ?_
  cases q : seqD d.frz with
  | none => rw [q] at m1; exact m1.none.elim
  | some xs =>
    rw [q] at m1
    cases ql : isLst d with
    | false => simp only [ql, Bool.false_eq_true, if_false] at m1; exact m1.none.elim
    | true =>
    simp only [ql, if_true, bnd_val] at m1
    have m2 := m1.freeze gp st
    rcases seqD_frz q with ⟨ow, ys, rfl, rfl⟩ | ⟨ow, ys, rfl, rfl⟩ | ⟨ow, ys, rfl, rfl⟩
    · cases ql
    · obtain ⟨Z, S1, S2, k1, dj, re, ⟨Sa, Sb, h1, h2, aj, q1, q2⟩, r', h', g⟩ := id m2
      obtain ⟨l, vs, rfl, hl, _, rr⟩ := shape_lst q2
      have hlen := rr.length
      refine ⟨l, rfl, ⟨vs, .of hl⟩, kk _ H1 _ e1 _ stb_lst (wk_lst (vs := vs)) ⟨Z, S1, S2, k1, dj, re, ⟨Sa, Sb, h1, h2, aj, q1, q2, hl, hlen⟩, r', h', g⟩⟩
    · obtain ⟨Z, S1, S2, k1, dj, re, ⟨Sa, Sb, h1, h2, aj, q1, q2⟩, r', h', g⟩ := id m2
      obtain ⟨l, vs, rfl, hl, rr⟩ := shape_cl q2
      refine ⟨l, rfl, ⟨vs, by rw [hK]; exact hl.sq⟩, kk _ H1 _ e1 _ stb_cl (wk_cl hK) ⟨Z, S1, S2, k1, dj, re, ⟨Sa, Sb, h1, h2, aj, q1, rr, hl⟩, r', h', g⟩⟩⟩
/-- for x in a tuple -/
theorem ci_tup [Lay X L tb o k] (ha : PEs X L tb o a ca) : PIs X L tb o tg a (.seqT ca) := ⟨fun W tk => PIimp (pi_tup (ha.run W tk)) fun σ H Q h => by
  have hK := Lay.K (X := X) (L := L) (tb := tb) (o := o) (k := k)
  obtain ⟨γ, G, f, P, e, gp, st, m, kk⟩ := h
  simp only [evI, bnd_assoc] at m
  refine (m.bind (rep := Rep L) gp st).imp fun v H1 ⟨d, e1, m1⟩ => ?_
  cases q : seqD d.frz with
  | none => rw [q] at m1; exact m1.none.elim
  | some xs =>
    rw [q] at m1
    cases ql : isLst d with
    | true => simp only [ql, if_true] at m1; exact m1.none.elim
    | false =>
    simp only [ql, Bool.false_eq_true, if_false, bnd_val] at m1
    have m2 := m1.freeze gp st
    rcases seqD_frz q with ⟨ow, ys, rfl, rfl⟩ | ⟨ow, ys, rfl, rfl⟩ | ⟨ow, ys, rfl, rfl⟩
    · obtain ⟨Z, S1, S2, k1, dj, re, ⟨Sa, Sb, h1, h2, aj, q1, q2⟩, r', h', g⟩ := id m2
      obtain ⟨l, vs, rfl, _, hl, rr⟩ := shape_tup q2
      rw [← hK] at hl
      exact ⟨l, rfl, ⟨vs, hl⟩, kk _ H1 _ e1 _ stb_tup (wk_tup hK) ⟨Z, S1, S2, k1, dj, re, ⟨Sa, Sb, h1, h2, aj, q1, rr, hl⟩, r', h', g⟩⟩
    · cases ql
    · cases ql⟩
theorem ci_rng [Lay X L tb o k] (ha : PEs X L tb o a ca) (hg : Gl X "range" := by rfl) (hs : starEach [a] X.env = [(false, eval a X.env)] := by rfl) : PIs X L tb o tg (.Call (.Name "range" p) [a] [] pos) (.rng ca) :=
  ⟨fun W tk => PIimp (pi_range1 hg (Lay.bi (X := X) (L := L) (tb := tb) (o := o) (k := k) _ (by decide +kernel)) (pa_cons (ha.run W tk) pa_nil hs) hs) fun σ H Q h => by
  obtain ⟨γ, G, f, P, e, gp, st, m, kk⟩ := h
  simp only [evI, bnd_assoc] at m
  refine (m.bind (rep := Rep L) gp st).imp fun v H1 ⟨d, e1, m1⟩ => ?_
  cases d with
  | int j =>
    dsimp only at m1
    cases q : okR 0 j with
    | false => simp only [q, Bool.false_eq_true, if_false] at m1; exact m1.none.elim
    | true =>
      simp only [q, if_true, bnd_val] at m1
      obtain ⟨Z, S1, S2, k1, dj, re, ⟨Sa, Sb, h1, h2, aj, q1, q2⟩, r', h', g⟩ := id m1
      simp only [okR, Bool.and_eq_true, decide_eq_true_eq] at q
      refine ⟨j, by rw [rep_int q2], q.1.2, q.2, kk _ H1 _ e1 _ stb_true (by have := wk_rng (L := L) (lo := 0) (hi := j); rw [Int.sub_zero] at this; exact this) ⟨Z, S1, S2, k1, dj, re, ⟨Sa, Sb, h1, h2, aj, q1, trivial⟩, r', h', g⟩⟩
  | _ => exact m1.none.elim⟩
theorem ci_rng2 [Lay X L tb o k] (ha : PEs X L tb o a ca) (hb : PEs X L tb o b cb) (hg : Gl X "range" := by rfl) (hs : starEach [a, b] X.env = [(false, eval a X.env), (false, eval b X.env)] := by rfl) (hs2 : starEach [b] X.env = [(false, eval b X.env)] := by rfl) : PIs X L tb o tg (.Call (.Name "range" p) [a, b] [] pos) (.rng2 ca cb) :=
  ⟨fun W tk => PIimp (pi_range2 hg (Lay.bi (X := X) (L := L) (tb := tb) (o := o) (k := k) _ (by decide +kernel)) (pa_cons (ha.run W tk) (pa_cons (hb.run W tk) pa_nil hs2) (by rw [hs, hs2])) hs hs2) fun σ H Q h => by
  obtain ⟨γ, G, f, P, e, gp, st, m, kk⟩ := h
  simp only [evI, bnd_assoc] at m
  refine (m.bind (rep := Rep L) gp st).imp fun v H1 ⟨d, e1, m1⟩ => ?_
  refine (m1.bind (rep := Rep L) gp (st.spl stb_rep)).imp fun w H2 ⟨d2, e2, m2⟩ => ?_
  cases d with
  | int i =>
    cases d2 with
    | int j =>
      dsimp only at m2
      cases q : okR i j with
      | false => simp only [q, Bool.false_eq_true, if_false] at m2; exact m2.none.elim
      | true =>
        simp only [q, if_true, bnd_val] at m2
        obtain ⟨Z, S1, S2, k1, dj, re, ⟨Sx, Sy, g1, g2, gj, ⟨Sa, Sb, h1, h2, aj, q1, q2⟩, q3⟩, r', h', g⟩ := id m2
        simp only [okR, Bool.and_eq_true, decide_eq_true_eq] at q
        refine ⟨i, j, by rw [rep_int q2, rep_int q3], ⟨q.1.1.1, q.1.1.2, q.1.2, q.2⟩, kk _ H2 _ e2 _ stb_true wk_rng ⟨Z, S1, S2, k1, dj, re, ⟨Sa, NoAS, fun b z => g1 b (h1 b z), fun _ z => z.elim, fun _ _ z => z, q1, trivial⟩, r', h', g⟩⟩
    | _ => exact m2.none.elim
  | _ => exact m2.none.elim⟩
end
end PL

/-! PL.Lc: targets; comprehensions. -/
namespace PL
open PySem L2
mutual
def T.sl : T → List Nat
  | .v i => [i]
  | .t ts => slL ts
def slL : List T → List Nat
  | [] => []
  | t :: ts => t.sl ++ slL ts
end
def Chg (sl : List Nat) (σ σ' : St) : Prop := σ'.length = σ.length ∧ ∀ i : Nat, i ∉ sl → σ'[i]? = σ[i]?
theorem Chg.trans {a b : List Nat} {σ σ1 σ2 : St} (h : Chg a σ σ1) (h' : Chg b σ1 σ2) : Chg (a ++ b) σ σ2 :=
  ⟨h'.1.trans h.1, fun i n => by rw [h'.2 i fun z => n (List.mem_append_right _ z), h.2 i fun z => n (List.mem_append_left _ z)]⟩
def tTg (L : Lo) (pr : List Nat) (t : T) : TG := fun v σ H Q => ∃ d Z S1 S2 e e', RepE L Z H σ e S1 ∧ Rep L Z H v d S2 ∧ (∀ b, S1 b → ¬ S2 b) ∧ storeT pr t d e = some e' ∧
  ∀ σ', Chg t.sl σ σ' → (∀ i ∈ pr, i ∉ t.sl) → RepE L Z H σ' e' (OrS S1 S2) → Q σ' H
def tTgs (L : Lo) (pr : List Nat) (t : List T) : TGs := fun v σ H Q => ∃ d Z S1 S2 e e', RepE L Z H σ e S1 ∧ Reps L Z H v d S2 ∧ (∀ b, S1 b → ¬ S2 b) ∧ storeTs pr t d e = some e' ∧
  ∀ σ', Chg (slL t) σ σ' → (∀ i ∈ pr, i ∉ slL t) → RepE L Z H σ' e' (OrS S1 S2) → Q σ' H
structure PTg (X : Cx) (L : Lo) (pr : List Nat) (tg : Expr) (t : T) : Prop where
  run : PG X tg (tTg L pr t)
structure PTgs (X : Cx) (L : Lo) (pr : List Nat) (tg : List Expr) (t : List T) : Prop where
  run : L2.PGs X tg (tTgs L pr t)
theorem PGimp {X : Cx} {tg : Expr} {t t' : TG} (p : PG X tg t) (h : ∀ v σ H Q, t' v σ H Q → t v σ H Q) : PG X tg t' := ⟨fun pins s σ H v u Q I r hq => p.run pins s σ H v u Q I r (h v σ H Q hq)⟩
theorem PGsimp {X : Cx} {tg : List Expr} {t t' : TGs} (p : L2.PGs X tg t) (h : ∀ v σ H Q, t' v σ H Q → t v σ H Q) : L2.PGs X tg t' := ⟨fun pins s σ H v u Q I r hq => p.run pins s σ H v u Q I r (h v σ H Q hq)⟩
section
variable {X : Cx} {L : Lo} {pos : Pos} {pr : List Nat}
theorem tg_v (i : Nat) {x : Str} (hN : X.N.Nodup) (hi : X.N[i]? = some x := by rfl) (hx : Loc X.env.scope x := by first | exact Or.inl rfl | exact Or.inr rfl)
    (hf : X.fn x = true ∨ X.env.scope.names.lookup x = some .local := by first | exact .inl rfl | exact .inr rfl) : PTg X L pr (.Name x pos) (.v i) := ⟨PGimp (pg_name hN hi hx hf) fun v σ H Q ⟨d, Z, S1, S2, e, e', re, r, dj, hs, k⟩ => by
  simp only [storeT] at hs
  have np : i ∉ pr := fun z => by
    rw [show pr.contains i = true from by simpa using z] at hs
    simp at hs
  rw [show pr.contains i = false from by simpa using np] at hs
  simp only [Bool.false_eq_true, if_false, Option.some.injEq] at hs
  subst hs
  refine k _ ⟨by simp, fun j hj => ?_⟩ (fun j hj => ?_) (re.store r (fun b z => .inr z) (fun b z => .inl z) fun b z y => dj b y z)
  · simp only [T.sl, List.mem_singleton] at hj
    rw [List.getElem?_set]
    split
    · rename_i h; exact absurd h.symm hj
    · rfl
  · simp only [T.sl, List.mem_singleton]
    exact fun z => np (z ▸ hj)⟩
theorem tgs_nil : PTgs X L pr [] [] := ⟨PGsimp pgs_nil fun v σ H Q ⟨d, Z, S1, S2, e, e', re, r, dj, hs, k⟩ => by
  cases d with
  | cons x xs => simp only [storeTs, reduceCtorEq] at hs
  | nil =>
    simp only [Reps] at r
    simp only [storeTs, Option.some.injEq] at hs
    subst r hs
    exact ⟨rfl, k σ ⟨rfl, fun _ _ => rfl⟩ (fun _ _ => by simp [slL]) (re.mono fun b z => .inl z)⟩⟩
theorem tgs_cons {x : Expr} {xs : List Expr} {t : T} {ts : List T} (h1 : PTg X L pr x t) (h2 : PTgs X L pr xs ts)
    (hs : (assignEach (x :: xs) X.env).map (·.2) = assign x X.env :: (assignEach xs X.env).map (·.2) := by rfl) : PTgs X L pr (x :: xs) (t :: ts) := ⟨PGsimp (pgs_cons h1.run h2.run hs) fun v σ H Q ⟨d, Z, S1, S2, e, e', re, r, dj, hst, k⟩ => by
  cases d with
  | nil => simp only [storeTs, reduceCtorEq] at hst
  | cons d ds =>
    simp only [storeTs] at hst
    simp only [Reps] at r
    obtain ⟨v1, vs, T1, T2, ev, t1, t2, tj, r1, r2⟩ := r
    subst ev
    cases q : storeT pr t d e with
    | none => rw [q] at hst; cases hst
    | some e1 =>
      rw [q] at hst
      refine ⟨v1, vs, rfl, d, Z, S1, T1, e, e1, re, r1, fun b z y => dj b z (t1 b y), q, fun σ1 c1 n1 re1 => ?_⟩
      refine ⟨ds, Z, OrS S1 T1, T2, e1, e', re1, r2, fun b z y => z.elim (fun z => dj b z (t2 b y)) fun z => tj b z y, hst, fun σ2 c2 n2 re2 => ?_⟩
      refine k σ2 (by simp only [slL]; exact c1.trans c2) (fun i hi => ?_) (re2.mono fun b z => ?_)
      · simp only [slL, List.mem_append, not_or]
        exact ⟨n1 i hi, n2 i hi⟩
      · rcases z with (z | z) | z
        · exact .inl z
        · exact .inr (t1 b z)
        · exact .inr (t2 b z)⟩
theorem storeTs_len {pr : List Nat} : ∀ (ts : List T) (xs : List D) (e e' : Env), storeTs pr ts xs e = some e' → xs.length = ts.length
  | [], [], _, _, _ => rfl
  | [], x :: xs, _, _, h => by simp only [storeTs, reduceCtorEq] at h
  | t :: ts, [], _, _, h => by simp only [storeTs, reduceCtorEq] at h
  | t :: ts, x :: xs, e, e', h => by
    simp only [storeTs] at h
    cases q : storeT pr t x e with
    | none => rw [q] at h; cases h
    | some e1 => rw [q] at h; simp [storeTs_len ts xs e1 e' h]
theorem tg_t {tb : Tab} {o : Orc} {k : Nat} [Lay X L tb o k] {es : List Expr} {j : Nat} {ts : List T} (h : PTgs X L pr es ts)
    (hn : (assignEach es X.env).length = ts.length := by rfl) (hst : (assignEach es X.env).findIdx? (·.1) = none := by rfl) : PTg X L pr (.Tuple es j pos) (.t ts) := ⟨PGimp (pg_tup (Lay.calm (X := X) (L := L) (tb := tb) (o := o) (k := k)) h.run hn hst) fun v σ H Q ⟨d, Z, S1, S2, e, e', re, r, dj, hs, kk⟩ => by
  have hK := Lay.K (X := X) (L := L) (tb := tb) (o := o) (k := k)
  cases d with
  | nd kd ow xs =>
    cases kd with
    | tup =>
      obtain ⟨a, vs, rfl, e0, sq, rr⟩ := shape_tup r
      simp only [storeT] at hs
      exact ⟨a, vs, rfl, by rw [hK]; exact sq, by rw [rr.length]; exact storeTs_len ts xs e e' hs, xs, Z, S1, S2, e, e', re, rr, dj, hs, fun σ' c n re' => kk σ' (by simpa only [T.sl] using c) (by simpa only [T.sl] using n) re'⟩
    | _ => simp only [storeT, reduceCtorEq] at hs
  | _ => simp only [storeT, reduceCtorEq] at hs⟩
end

/-! ### comprehensions -/
structure PIf (X : Cx) (L : Lo) (tb : Tab) (o : Orc) (ifs : List Expr) (c : C) : Prop where
  run : ∀ W, Takes X W → PTs X ifs (tG L W repB (evT tb o c))
theorem PTsimp {X : Cx} {e : List Expr} {t t' : TT} (p : PTs X e t) (h : ∀ σ H Q, t' σ H Q → t σ H Q) : PTs X e t' := ⟨fun pins s σ H Q I hq => p.run pins s σ H Q I (h σ H Q hq)⟩
theorem cf_n {X : Cx} {L : Lo} {tb : Tab} {o : Orc} : PIf X L tb o [] .tt := ⟨fun W tk => PTsimp pts_nil fun σ H Q h => by
  obtain ⟨e, m⟩ := h.mid
  simp only [evT] at m
  exact m.fin fun Z S _ _ => rfl⟩
theorem cf_1 {X : Cx} {L : Lo} {tb : Tab} {o : Orc} {c : Expr} {cc : C} (h : PTs' X L tb o c cc) : PIf X L tb o [c] cc := ⟨fun W tk => pts_one (h.run W tk)⟩
theorem set_get {α : Type} {l : List α} {i j : Nat} {x : α} : (l.set i x)[j]? = if i = j then (if j < l.length then some x else none) else l[j]? := by
  rw [List.getElem?_set]
  split
  · rename_i h; subst h; rfl
  · rfl
theorem wipe_get {σ : St} {i : Nat} : ∀ {vs : List Nat}, (wipe σ vs)[i]? = if i ∈ vs then (if i < σ.length then some none else none) else σ[i]?
  | [] => by simp [wipe]
  | v :: vs => by
    unfold wipe
    rw [set_get, wipe_length, wipe_get]
    by_cases c : v = i
    · subst c; simp
    · rw [if_neg c]; simp only [List.mem_cons, show ¬ i = v from fun z => c z.symm, false_or]
theorem wipe_chg {σ σ' : St} {sl own : List Nat} (h : Chg sl (wipe σ own) σ') (hs : ∀ i ∈ sl, i ∈ own) : wipe σ' own = wipe σ own := by
  have hl : σ'.length = σ.length := by rw [h.1, wipe_length]
  refine List.ext_getElem? fun i => ?_
  rw [wipe_get, wipe_get]
  by_cases c : i ∈ own
  · rw [if_pos c, if_pos c, hl]
  · rw [if_neg c, if_neg c, h.2 i fun z => c (hs i z), wipe_get, if_neg c]
theorem RepE.wipe {L : Lo} {Z S : AS} {H : Hp} {σ : St} {e : Env} (h : RepE L Z H σ e S) : ∀ own, RepE L Z H (L2.wipe σ own) (wipeE e own) S
  | [] => h
  | v :: vs => by
    have ih := RepE.wipe h vs
    unfold L2.wipe wipeE
    obtain ⟨F, f1, f2, f3⟩ := ih.ex
    refine ⟨by rw [List.length_set, List.length_set]; exact ih.len, F, f1, f2, fun i d hd => ?_⟩
    rw [set_get] at hd
    by_cases c : v = i
    · rw [if_pos c] at hd
      split at hd <;> cases hd
    · rw [if_neg c] at hd
      obtain ⟨w, ew, r⟩ := f3 i d hd
      refine ⟨w, ?_, r⟩
      rw [set_get, if_neg c]; exact ew
theorem RepE.unwipe {L : Lo} {Z S : AS} {H : Hp} {σ : St} {e : Env} {own : List Nat} (h : RepE L Z H (L2.wipe σ own) e S) : RepE L Z H σ e S := by
  obtain ⟨F, f1, f2, f3⟩ := h.ex
  refine ⟨by rw [← wipe_length σ own]; exact h.len, F, f1, f2, fun i d hd => ?_⟩
  obtain ⟨w, ew, r⟩ := f3 i d hd
  exact ⟨w, (wipe_some ew).1, r⟩
section
variable {L : Lo} {W : WX} {σ : St} {α β γ : Type} {rep : AS → Hp → β → α → AS → Prop} {G : AS → AS → Hp → Out γ → Prop} {H : Hp} {e : Env} {P : AS → Hp → AS → Prop} {r : R γ}
/-- a value is asked for: what is held stays -/
theorem MidH.ask {W' : WX} {ev : Env → R α} {d : α} {e1 : Env} (gs : GS G) (st : Stb P) (m : MidH L σ H e P G r) (h : ev e = some (.val d e1)) :
    tG L W' rep ev σ H (fun v H1 => MidH L σ H1 e1 (Spl P (fun Z H S => rep Z H v d S)) G r) := by
  obtain ⟨Z, S1, S2, k, dj, re, rs, r', h', g⟩ := m
  have k1 : Ok Z S1 H := k.mono fun b z => .inl z
  refine ⟨Z, S1, e, _, k1, re, h, ?_⟩
  intro v H' Z' T1 T2 a k' dj' re' rv
  obtain ⟨a', k2, d2⟩ := a.hold k dj k'
  refine ⟨Z', T1, OrS S2 T2, k2.mono fun b z => ?_, fun b hb z => ?_, re',
    ⟨S2, T2, fun b z => .inl z, fun b z => .inr z, fun b z y => d2 b (.inr y) z, st.st a.fr k1.own.w (fun b z y => k1.dj b y z) a.zz (fun b z y => dj b y z) rs, rv⟩, r', h', gs.step g (a'.trans (Step.refl fun b z => ?_))⟩
  · rcases z with z | z | z
    · exact .inl (.inl z)
    · exact .inr z
    · exact .inl (.inr z)
  · rcases z with z | z
    · exact d2 b (.inl hb) z
    · exact dj' b hb z
  · rcases z with z | z | z
    · exact .inl (.inl z)
    · exact .inr z
    · exact .inl (.inr z)
/-- what an iterator gives goes into a target -/
theorem MidH.yield {pr : List Nat} {t : T} {x : V} {H' : Hp} {d : PL.D} {e1 : Env} (gs : GS G) (st : Stb P) (m : MidH L σ H e P G r)
    (hY : ∀ Z S, P Z H S → Yk L Z H x H' d) (hs : storeT pr t d e = some e1) {Q : St → Hp → Prop} (kk : ∀ σ2, Chg t.sl σ σ2 → (∀ i ∈ pr, i ∉ t.sl) → MidH L σ2 H' e1 P G r → Q σ2 H') : tTg L pr t x σ H' Q := by
  obtain ⟨Z, S1, S2, k, dj, re, rs, r', h', g⟩ := m
  obtain ⟨y1, y2⟩ := hY Z S2 rs
  have f0 : Fr NoAS H H' := by
    rcases y1 with rfl | ⟨p, xs, hp, rfl⟩
    · exact fr_refl
    · exact upd_fr hp NoAS
  have nn : ∀ b, H' b = Option.none → H b = Option.none := by
    rcases y1 with rfl | ⟨p, xs, hp, rfl⟩
    · exact fun _ z => z
    · exact fun b => upd_nn
  have re1 : RepE L Z H' σ e S1 := re.fr f0 (fun _ z => z.elim) (fun _ _ z => z) (fun _ z => z) fun _ _ z => z
  have rs1 : P Z H' S2 := st.st f0 (fun _ _ _ z => z.elim) (fun _ _ z => z) (fun _ z => z) (fun _ _ z => z) rs
  have k1 : Ok Z (OrS S1 S2) H' := ⟨k.dj, fun b hb => by
    have := k.own b hb
    cases e : H b with
    | none => exact absurd e (k.sd hb)
    | some ob => rw [f0 b ob e fun z => z, ← e]; exact this, fun b z y => k.zd b z (nn b y)⟩
  refine ⟨d, Z, S1, NoAS, e, e1, re1, y2, fun _ _ z => z, hs, fun σ2 c n re2 => kk σ2 c n ⟨Z, S1, S2, k1, dj, re2.mono fun b z => z.elim id fun z => z.elim, rs1, r', h', gs.step g ⟨fun _ z => z, fun _ z => .inl z, fun _ z => .inl z, fun b ob e _ => f0 b ob e fun z => z, nn⟩⟩⟩
theorem MidH.wipe (m : MidH L σ H e P G r) (own : List Nat) : MidH L (L2.wipe σ own) H (wipeE e own) P G r := by
  obtain ⟨Z, S1, S2, k, dj, re, rs, r', h', g⟩ := m
  exact ⟨Z, S1, S2, k, dj, re.wipe own, rs, r', h', g⟩
end
theorem Spl.swap {A B C : AS → Hp → AS → Prop} {Z S : AS} {H : Hp} (h : Spl (Spl A B) C Z H S) : Spl (Spl A C) B Z H S := by
  obtain ⟨Sab, Sc, b1, b2, bj, ⟨Sa, Sb, a1, a2, aj, q1, q2⟩, q3⟩ := h
  exact ⟨OrS Sa Sc, Sb, fun b z => z.elim (fun z => b1 b (a1 b z)) (b2 b), fun b z => b1 b (a2 b z), fun b z y => z.elim (fun z => aj b z y) fun z => bj b (a2 b y) z, ⟨Sa, Sc, fun b z => .inl z, fun b z => .inr z, fun b z y => bj b (a1 b z) y, q1, q3⟩, q2⟩
theorem Spl.assoc {A B C : AS → Hp → AS → Prop} {Z S : AS} {H : Hp} (h : Spl (Spl A B) C Z H S) : Spl A (Spl B C) Z H S := by
  obtain ⟨Sab, Sc, b1, b2, bj, ⟨Sa, Sb, a1, a2, aj, q1, q2⟩, q3⟩ := h
  exact ⟨Sa, OrS Sb Sc, fun b z => b1 b (a1 b z), fun b z => z.elim (fun z => b1 b (a2 b z)) (b2 b), fun b z y => y.elim (aj b z) (bj b (a1 b z)), q1, Sb, Sc, fun b z => .inl z, fun b z => .inr z, fun b z y => bj b (a2 b z) y, q2, q3⟩
theorem Spl.left {A B : AS → Hp → AS → Prop} (sa : Stb A) {Z S : AS} {H : Hp} (h : Spl A B Z H S) : A Z H S := by
  obtain ⟨Sa, Sb, a1, a2, aj, q1, q2⟩ := h
  exact sa.mo a1 q1
theorem Spl.mid {A A' B : AS → Hp → AS → Prop} {Z S : AS} {H : Hp} (h : Spl A B Z H S) (k : ∀ S, A Z H S → A' Z H S) : Spl A' B Z H S := by
  obtain ⟨Sa, Sb, a1, a2, aj, q1, q2⟩ := h
  exact ⟨Sa, Sb, a1, a2, aj, k Sa q1, q2⟩
section
variable {X : Cx} {L : Lo} {tb : Tab} {o : Orc} {k : Nat} {pos : Pos}
theorem lc_run [Lay X L tb o k] {W : WX} {W0 W1 : WX} {elt : E} {tg : T} {it : I} {cond : C} {own : List Nat} (hsub : ∀ i ∈ tg.sl, i ∈ own) {σ : St} {H : Hp} {Q : V → Hp → Prop} (h : tG L W (Rep L) (evE tb o (.lc elt tg it cond own)) σ H Q) :
    tLc (tIt L W tb o it) (tTg L [] tg) (tG L W0 repB (evT tb o cond)) (tG L W1 (Rep L) (evE tb o elt)) own σ H Q := by
  obtain ⟨e, m⟩ := h.mid
  simp only [evE] at m
  refine ⟨_, _, _, _, e, gp_e, stb_reps, Mid.toH m, fun J H1 items e1 Hd sth wk m1 => fun dl hD => ?_⟩
  obtain ⟨GH, Y, w, hgh, hy⟩ := wk.ex
  cases q : loopC (fun x e => storeT [] tg x e) (fun e => evT tb o cond e) (fun e => evE tb o elt e) own items (wipeE e1 own) with
  | none => rw [q] at m1; exact m1.none.elim
  | some p =>
  obtain ⟨ds9, e9⟩ := p
  rw [q] at m1
  dsimp only at m1
  by_cases hz : ds9.length ≤ sizeLine
  · rw [if_pos hz] at m1
    have m2 := (m1.newAt gs_e (stb_reps.spl sth) hD (ob := .lst []) trivial).wipe own
    let Base : AS → Hp → AS → Prop := Spl (fun Z H S => Reps L Z H [] [] S) Hd
    have sb : Stb Base := stb_reps.spl sth
    let Pv : Nat → Hp → Prop := fun i H' => ∃ (acc : List V) (dacc ds : List D) (e : Env), MidH L (L2.wipe σ own) H' e (Spl (Spl Base (fun Z H S => Reps L Z H acc dacc S)) (At dl (.lst acc))) (GE L W σ (Rep L) Q) (some (.val (.nd .lst true ds9) e9)) ∧
      loopC (fun x e => storeT [] tg x e) (fun e => evT tb o cond e) (fun e => evE tb o elt e) own (items.drop i) e = some (ds, e9) ∧ dacc ++ ds = ds9
    refine lc_it (g := tTg L [] tg) (tt := tG L W0 repB (evT tb o cond)) (te := tG L W1 (Rep L) (evE tb o elt)) (Qd := fun H => Q (.ref dl) H) w Pv ?_ ?_ ?_ ?_
    · refine ⟨[], [], ds9, _, m2.imp fun Z S _ p => ?_, q, rfl⟩
      exact p.mid fun S z => ⟨S, NoAS, fun _ z => z, fun _ z => z.elim, fun _ _ z => z, z, reps_nil⟩
    · rintro i H' hi ⟨acc, dacc, ds, e, ⟨Z, S1, S2, _, _, _, ⟨Sa, Sb, _, _, _, ⟨Sc, Sd, _, _, _, ⟨Se, Sf, _, _, _, _, hh⟩, _⟩, _⟩, _⟩, _, _⟩
      exact hgh _ _ _ hh
    · rintro i x H2 H3 hi ⟨acc, dacc, ds, e, m3, hl, hds⟩ hY
      have hget : items[i]? = some items[i] := List.getElem?_eq_getElem hi
      rw [List.drop_eq_getElem_cons hi] at hl
      simp only [loopC] at hl
      cases qt : storeT [] tg items[i] e with
      | none => rw [qt] at hl; cases hl
      | some e2 =>
      rw [qt] at hl
      dsimp only at hl
      refine MidH.yield (P := Spl (Spl Base (fun Z H S => Reps L Z H acc dacc S)) (At dl (.lst acc))) (G := GE L W σ (Rep L) Q) gs_e ((sb.spl stb_reps).spl stb_at) m3 (fun Z S ⟨Sa, Sb, _, _, _, ⟨Sc, Sd, _, _, _, ⟨Se, Sf, _, _, _, _, hh⟩, _⟩, _⟩ => hy _ _ _ i x H3 _ hh hget hY) qt fun σ2 ch _ m4 => ?_
      have hw := wipe_chg ch hsub
      refine ⟨hw, ?_⟩
      cases qc : evT tb o cond e2 with
      | none => rw [qc] at hl; cases hl
      | some rc =>
      rw [qc] at hl
      cases rc with
      | exc x e => cases hl
      | val b e3 =>
      refine (m4.ask (rep := repB) gs_e ((sb.spl stb_reps).spl stb_at) qc).imp fun b' H4 m5 => ?_
      have eb : b' = b := by
        obtain ⟨Z, S1, S2, _, _, _, ⟨_, _, _, _, _, _, z⟩, _⟩ := m5
        exact z
      subst eb
      have m6 := m5.imp fun Z S _ p => Spl.left ((sb.spl stb_reps).spl stb_at) p
      cases b' with
      | false =>
        simp only [Bool.false_eq_true, if_false] at hl ⊢
        refine ⟨acc, dacc, ds, _, ?_, hl, hds⟩
        have m7 := m6.wipe own
        rw [hw] at m7
        exact m7
      | true =>
        simp only [if_true] at hl ⊢
        cases qe : evE tb o elt e3 with
        | none => rw [qe] at hl; cases hl
        | some re =>
        rw [qe] at hl
        cases re with
        | exc x e => cases hl
        | val y e4 =>
        dsimp only at hl
        cases ql : loopC (fun x e => storeT [] tg x e) (fun e => evT tb o cond e) (fun e => evE tb o elt e) own (items.drop (i + 1)) (wipeE e4 own) with
        | none => rw [ql] at hl; cases hl
        | some p =>
        obtain ⟨ds1, e9'⟩ := p
        rw [ql] at hl
        simp only [Option.map_some, Option.some.injEq, Prod.mk.injEq] at hl
        obtain ⟨rfl, rfl⟩ := hl
        refine (m6.ask (rep := Rep L) gs_e ((sb.spl stb_reps).spl stb_at) qe).imp fun yv H5 m8 => ?_
        have ha : H5 dl = some (.lst acc) ∧ acc.length = dacc.length := by
          obtain ⟨Z, S1, S2, _, _, _, ⟨_, _, _, _, _, ⟨_, _, _, _, _, ⟨_, _, _, _, _, _, rr⟩, z⟩, _⟩, _⟩ := m8
          exact ⟨z.2, rr.length⟩
        refine ⟨acc, ha.1, by rw [ha.2]; rw [← hds] at hz; simp at hz; omega, acc ++ [yv], dacc ++ [y], ds1, _, ?_, ql, by simpa using hds⟩
        have m9 := m8.imp fun Z S _ p => Spl.swap p
        have m10 := m9.imp (P' := Spl (Spl Base (fun Z H S => Reps L Z H (acc ++ [yv]) (dacc ++ [y]) S)) (At dl (.lst acc))) fun Z S _ p => p.mid fun S z => by
          obtain ⟨Sa, Sb, a1, a2, aj, q1, Sc, Sd, b1, b2, bj, q2, q3⟩ := Spl.assoc z
          exact ⟨Sa, Sb, a1, a2, aj, q1, reps_append b1 b2 bj q2 (reps_cons (S1 := Sd) (S2 := NoAS) (fun _ z => z) (fun _ z => z.elim) (fun _ _ z => z) q3 reps_nil)⟩
        have m11 := (m10.updAt gs_e (sb.spl stb_reps) (ob' := .lst (acc ++ [yv])) trivial).wipe own
        rw [hw] at m11
        exact m11
    · rintro H' ⟨acc, dacc, ds, e, m3, hl, hds⟩
      rw [List.drop_length] at hl
      simp only [loopC, Option.some.injEq, Prod.mk.injEq] at hl
      obtain ⟨rfl, rfl⟩ := hl
      rw [List.append_nil] at hds
      subst hds
      obtain ⟨Z, S1, S2, k1, dj, re, ⟨Sa, Sb, a1, a2, aj, ⟨Sc, Sd, b1, b2, bj, _, rr⟩, hat⟩, r', h', g⟩ := m3
      cases h'
      refine g (.ref dl) H' Z S1 S2 (Step.refl fun _ z => z) k1 dj re.unwipe ?_
      simp only [Rep]
      exact ⟨dl, acc, rfl, ⟨hat.2, fun z => by cases z⟩, fun _ => a2 dl hat.1, reps_mono (fun b z => ⟨a1 b (b2 b z), fun _ y => aj b (b2 b z) (y ▸ hat.1)⟩) rr⟩
  · rw [if_neg hz] at m1
    exact m1.none.elim
theorem ce_lc [Lay X L tb o k] {elt tg iter : Expr} {ifs : List Expr} {scope : Scope} (own : List (Str × Nat)) {ct : T} {ci : I} {cc : C} {ce : E} {ownI : List Nat} (hN : X.N.Nodup) (ok : BlkOk X.N X.env.scope scope own) (hi : PIs X L tb o tg iter ci)
    (hg : ∀ (s : Shared) (H : Hp) (C : Addr) (cl : List (Str × Addr)) (fp : List Addr), PTg (X.blk s H scope (compEnvC scope cl C X.env) fp) L [] tg ct) (hf : ∀ (s : Shared) (H : Hp) (C : Addr) (cl : List (Str × Addr)) (fp : List Addr), PIf (X.blk s H scope (compEnvC scope cl C X.env) fp) L tb o ifs cc)
    (he : ∀ (s : Shared) (H : Hp) (C : Addr) (cl : List (Str × Addr)) (fp : List Addr), PEs (X.blk s H scope (compEnvC scope cl C X.env) fp) L tb o elt ce) (hw : own.map (·.2) = ownI := by rfl) (hsub : ∀ i ∈ ct.sl, i ∈ ownI := by decide) (hs : ∀ x, foldedSetIterable iter X.env x = pure x := by intro _; rfl) :
    PEs X L tb o (.ListComp elt [⟨tg, iter, ifs, 0⟩] scope pos) (.lc ce ct ci cc ownI) := by
  subst hw
  exact ⟨fun W tk => PEimp (pe_lc (Lay.calm (X := X) (L := L) (tb := tb) (o := o) (k := k)) hN (hi.run W tk) ok (fun s H C cl fp => (hg s H C cl fp).run) (fun s H C cl fp => (hf s H C cl fp).run _ L2.takes0) (fun s H C cl fp => (he s H C cl fp).run _ L2.takes0) hs)
    fun σ H Q h => lc_run (X := X) (k := k) hsub h⟩
end
end PL

/-! PL.Stm: statements. -/
namespace PL
open PySem L2
/-- the changed parameters' slots are as they were -/
def Same (pr : List Nat) (σ σ' : St) : Prop := ∀ i ∈ pr, σ'[i]? = σ[i]?
theorem Same.refl {pr : List Nat} {σ : St} : Same pr σ σ := fun _ _ => rfl
theorem Same.trans {pr : List Nat} {σ σ1 σ2 : St} (h : Same pr σ σ1) (h' : Same pr σ1 σ2) : Same pr σ σ2 := fun i hi => (h' i hi).trans (h i hi)
theorem Same.chg {pr sl : List Nat} {σ σ' : St} (h : Chg sl σ σ') (n : ∀ i ∈ pr, i ∉ sl) : Same pr σ σ' := fun i hi => h.2 i (n i hi)
def GoodS (L : Lo) (W : WX) (pr : List Nat) (σ : St) (D : Ends) : AS → AS → Hp → Out Fl → Prop := fun Z S H r =>
  match r with
  | .val .nx e => ∀ σ' H' Z' S1, Step Z S H Z' S1 H' → Ok Z' S1 H' → RepE L Z' H' σ' e S1 → Same pr σ σ' → D.nx σ' H'
  | .val .bk e => ∀ σ' H' Z' S1, Step Z S H Z' S1 H' → Ok Z' S1 H' → RepE L Z' H' σ' e S1 → Same pr σ σ' → D.bk σ' H'
  | .val .ct e => ∀ σ' H' Z' S1, Step Z S H Z' S1 H' → Ok Z' S1 H' → RepE L Z' H' σ' e S1 → Same pr σ σ' → D.ct σ' H'
  | .val (.rt d) e => ∀ σ' v H' Z' S1 S2, Step Z S H Z' (OrS S1 S2) H' → Ok Z' (OrS S1 S2) H' → (∀ b, S1 b → ¬ S2 b) → RepE L Z' H' σ' e S1 → Rep L Z' H' v d S2 → Same pr σ σ' → D.rt v H'
  | .exc x e => ∀ σ' cls dd H' Z' S1, Step Z S H Z' S1 H' → Ok Z' S1 H' → RepE L Z' H' σ' e S1 → Same pr σ σ' → RepX L Z' H' cls dd x → W cls dd σ' H'
section
variable {L : Lo} {W : WX} {pr : List Nat} {σ σ1 : St} {D : Ends}
theorem gs_s : GS (GoodS L W pr σ D) := ⟨fun {Z S Z1 S1 H H1 r} g a => by
  cases r with
  | exc x e => exact fun σ' cls dd H' Z' T1 b => g σ' cls dd H' Z' T1 (a.trans b)
  | val f e =>
    cases f with
    | nx => exact fun σ' H' Z' T1 b => g σ' H' Z' T1 (a.trans b)
    | bk => exact fun σ' H' Z' T1 b => g σ' H' Z' T1 (a.trans b)
    | ct => exact fun σ' H' Z' T1 b => g σ' H' Z' T1 (a.trans b)
    | rt d => exact fun σ' v H' Z' T1 T2 b => g σ' v H' Z' T1 T2 (a.trans b)⟩
theorem gp_s (h : Same pr σ σ1) : GP L W σ1 (GoodS L W pr σ D) := ⟨fun g a => gs_s.step g a, fun g cls dd H' Z' S1 a k re rx => g σ1 cls dd H' Z' S1 a k re h rx⟩
theorem GoodS.same {Z S : AS} {H : Hp} {r : Out Fl} (g : GoodS L W pr σ D Z S H r) (h : Same pr σ σ1) : GoodS L W pr σ1 D Z S H r := by
  cases r with
  | exc x e => exact fun σ' cls dd H' Z' T1 b k re s => g σ' cls dd H' Z' T1 b k re (h.trans s)
  | val f e =>
    cases f with
    | nx => exact fun σ' H' Z' T1 b k re s => g σ' H' Z' T1 b k re (h.trans s)
    | bk => exact fun σ' H' Z' T1 b k re s => g σ' H' Z' T1 b k re (h.trans s)
    | ct => exact fun σ' H' Z' T1 b k re s => g σ' H' Z' T1 b k re (h.trans s)
    | rt d => exact fun σ' v H' Z' T1 T2 b k dj re rv s => g σ' v H' Z' T1 T2 b k dj re rv (h.trans s)
end
def tS (L : Lo) (W : WX) (pr : List Nat) (ev : Env → SR) : TS := fun D σ H => ∃ Z S e r, Ok Z S H ∧ RepE L Z H σ e S ∧ ev e = some r ∧ GoodS L W pr σ D Z S H r
structure PCs (X : Cx) (L : Lo) (tb : Tab) (o : Orc) (pr : List Nat) (st : Stmt) (c : S) : Prop where
  run : ∀ W, Takes X W → PS X st (tS L W pr (exS tb o pr c))
structure PCss (X : Cx) (L : Lo) (tb : Tab) (o : Orc) (pr : List Nat) (st : List Stmt) (c : List S) : Prop where
  run : ∀ W, Takes X W → PSs X st (tS L W pr (exSs tb o pr c))
section
variable {L : Lo} {W : WX} {pr : List Nat} {σ : St} {D : Ends} {H : Hp} {e : Env} {P : AS → Hp → AS → Prop}
abbrev nP : AS → Hp → AS → Prop := fun _ _ _ => True
theorem tS.mid {ev : Env → SR} (h : tS L W pr ev D σ H) : ∃ e, MidH L σ H e nP (GoodS L W pr σ D) (ev e) := by
  obtain ⟨Z, S, e, r, k, re, h, g⟩ := h
  exact ⟨e, Z, S, NoAS, k.noOr, fun _ _ z => z, re, trivial, r, h, gs_s.step g (Step.refl fun b z => z.elim id fun z => z.elim)⟩
/-- what is held is wanted no more -/
theorem MidH.tS {σ0 : St} {ev : Env → SR} (h : Same pr σ0 σ) (m : MidH L σ H e P (GoodS L W pr σ0 D) (ev e)) : tS L W pr ev D σ H := by
  obtain ⟨Z, S1, S2, k, dj, re, rs, r', h', g⟩ := m
  exact ⟨Z, S1, e, r', k.mono fun b z => .inl z, re, h', (gs_s.step g (Step.refl fun b z => .inl z)).same h⟩
/-- a statement's run, then more -/
theorem MidH.body {γ : Type} {G : AS → AS → Hp → Out γ → Prop} {ev : Env → SR} {f : Fl → Env → R γ} {D' : Ends} (gp : ∀ σ', Same pr σ σ' → GP L W σ' G) (st : Stb P) (m : MidH L σ H e P G (bnd (ev e) f))
    (hn : ∀ σ' H' e', Same pr σ σ' → MidH L σ' H' e' P G (f .nx e') → D'.nx σ' H') (hb : ∀ σ' H' e', Same pr σ σ' → MidH L σ' H' e' P G (f .bk e') → D'.bk σ' H')
    (hc : ∀ σ' H' e', Same pr σ σ' → MidH L σ' H' e' P G (f .ct e') → D'.ct σ' H') (hr : ∀ σ' H' e' v d, Same pr σ σ' → MidH L σ' H' e' (Spl P (fun Z H S => Rep L Z H v d S)) G (f (.rt d) e') → D'.rt v H') : PL.tS L W pr ev D' σ H := by
  obtain ⟨Z, S1, S2, k, dj, re, rs, r', h, g⟩ := m
  have k1 : Ok Z S1 H := k.mono fun b z => .inl z
  have gp0 := gp σ Same.refl
  cases q : ev e with
  | none => rw [q] at h; cases h
  | some r =>
    rw [q] at h
    refine ⟨Z, S1, e, r, k1, re, q, ?_⟩
    have go : ∀ (fl : Fl) (e1 : Env), f fl e1 = some r' → ∀ σ' H' Z' T, Step Z S1 H Z' T H' → Ok Z' T H' → RepE L Z' H' σ' e1 T → Same pr σ σ' → MidH L σ' H' e1 P G (f fl e1) := fun fl e1 hf σ' H' Z' T a k' re' sm => by
      obtain ⟨a', k2, d2⟩ := a.hold k dj k'
      exact ⟨Z', T, S2, k2, d2, re', st.st a.fr k1.own.w (fun b z y => k1.dj b y z) a.zz (fun b z y => dj b y z) rs, r', hf, gp0.step g a'⟩
    cases r with
    | exc x e1 =>
      simp only [bnd_exc, Option.some.injEq] at h
      subst h
      intro σ' cls dd H' Z' T a k' re' sm rx
      obtain ⟨a', k2, _⟩ := a.hold k dj k'
      exact (gp σ' sm).exc g cls dd H' Z' (OrS T S2) a' k2 (re'.mono fun b z => .inl z) rx
    | val fl e1 =>
      simp only [bnd_val] at h
      cases fl with
      | nx => exact fun σ' H' Z' T a k' re' sm => hn σ' H' e1 sm (go _ _ h _ _ _ _ a k' re' sm)
      | bk => exact fun σ' H' Z' T a k' re' sm => hb σ' H' e1 sm (go _ _ h _ _ _ _ a k' re' sm)
      | ct => exact fun σ' H' Z' T a k' re' sm => hc σ' H' e1 sm (go _ _ h _ _ _ _ a k' re' sm)
      | rt d =>
        intro σ' v H' Z' T1 T2 a k' dj' re' rv sm
        obtain ⟨a', k2, d2⟩ := a.hold k dj k'
        refine hr σ' H' e1 v d sm ⟨Z', T1, OrS S2 T2, k2.mono fun b z => ?_, fun b hb z => ?_, re', ⟨S2, T2, fun b z => .inl z, fun b z => .inr z, fun b z y => d2 b (.inr y) z, st.st a.fr k1.own.w (fun b z y => k1.dj b y z) a.zz (fun b z y => dj b y z) rs, rv⟩, r', h, gp0.step g (a'.trans (Step.refl fun b z => ?_))⟩
        · rcases z with z | z | z
          · exact .inl (.inl z)
          · exact .inr z
          · exact .inl (.inr z)
        · rcases z with z | z
          · exact d2 b (.inl hb) z
          · exact dj' b hb z
        · rcases z with z | z | z
          · exact .inl (.inl z)
          · exact .inr z
          · exact .inl (.inr z)
/-- the ends -/
theorem MidH.endN {σ0 : St} (h : Same pr σ0 σ) (m : MidH L σ H e P (GoodS L W pr σ0 D) (some (.val .nx e))) : D.nx σ H := by
  obtain ⟨Z, S1, S2, k, dj, re, rs, r', h', g⟩ := m
  cases h'
  exact g σ H Z S1 (Step.refl fun b z => .inl z) (k.mono fun b z => .inl z) re h
theorem MidH.endB {σ0 : St} (h : Same pr σ0 σ) (m : MidH L σ H e P (GoodS L W pr σ0 D) (some (.val .bk e))) : D.bk σ H := by
  obtain ⟨Z, S1, S2, k, dj, re, rs, r', h', g⟩ := m
  cases h'
  exact g σ H Z S1 (Step.refl fun b z => .inl z) (k.mono fun b z => .inl z) re h
theorem MidH.endC {σ0 : St} (h : Same pr σ0 σ) (m : MidH L σ H e P (GoodS L W pr σ0 D) (some (.val .ct e))) : D.ct σ H := by
  obtain ⟨Z, S1, S2, k, dj, re, rs, r', h', g⟩ := m
  cases h'
  exact g σ H Z S1 (Step.refl fun b z => .inl z) (k.mono fun b z => .inl z) re h
theorem MidH.endR {σ0 : St} {d : PL.D} {v : V} (h : Same pr σ0 σ) (m : MidH L σ H e (Spl P (fun Z H S => Rep L Z H v d S)) (GoodS L W pr σ0 D) (some (.val (.rt d) e))) : D.rt v H := by
  obtain ⟨Z, S1, S2, k, dj, re, ⟨Sa, Sb, a1, a2, aj, q1, q2⟩, r', h', g⟩ := m
  cases h'
  exact g σ v H Z S1 Sb (Step.refl fun b z => z.elim .inl fun z => .inr (a2 b z)) (k.mono fun b z => z.elim .inl fun z => .inr (a2 b z)) (fun b z y => dj b z (a2 b y)) re q2 h
/-- a value in hand goes into a target -/
theorem MidH.store {γ : Type} {G : AS → AS → Hp → Out γ → Prop} {r : R γ} {t : T} {x : V} {d : PL.D} {e1 : Env} (gs : GS G) (st : Stb P) (m : MidH L σ H e (Spl P (fun Z H S => Rep L Z H x d S)) G r) (hs : storeT pr t d e = some e1)
    {Q : St → Hp → Prop} (kk : ∀ σ2, Chg t.sl σ σ2 → (∀ i ∈ pr, i ∉ t.sl) → MidH L σ2 H e1 P G r → Q σ2 H) : tTg L pr t x σ H Q := by
  obtain ⟨Z, S1, S2, k, dj, re, ⟨Sa, Sb, a1, a2, aj, q1, q2⟩, r', h', g⟩ := m
  have sub : ∀ b, OrS (OrS S1 Sb) Sa b → OrS S1 S2 b := fun b z => z.elim (fun z => z.elim .inl fun z => .inr (a2 b z)) fun z => .inr (a1 b z)
  exact ⟨d, Z, S1, Sb, e, e1, re, q2, fun b z y => dj b z (a2 b y), hs, fun σ2 c n re2 => kk σ2 c n ⟨Z, OrS S1 Sb, Sa, k.mono sub, fun b z y => z.elim (fun z => dj b z (a1 b y)) fun z => aj b y z, re2, q1, r', h', gs.step g (Step.refl sub)⟩⟩
end
section
variable {X : Cx} {L : Lo} {tb : Tab} {o : Orc} {k : Nat} {pr : List Nat} {pos p : Pos} {W : WX} {a b : Expr} {ca cb : E}
theorem stb_n : Stb nP := stb_true
/-! ### blocks -/
theorem css_nil : PCss X L tb o pr [] [] := ⟨fun W tk => PSsimp pss_nil fun D σ H h => by
  obtain ⟨e, m⟩ := h.mid
  simp only [exSs] at m
  exact m.endN Same.refl⟩
theorem css_cons {st : Stmt} {sts : List Stmt} {c : S} {cs : List S} (h1 : PCs X L tb o pr st c) (h2 : PCss X L tb o pr sts cs) : PCss X L tb o pr (st :: sts) (c :: cs) := ⟨fun W tk => PSsimp (pss_cons (h1.run W tk) (h2.run W tk)) fun D σ H h => by
  obtain ⟨e, m⟩ := h.mid
  simp only [exSs] at m
  exact m.body (ev := exS tb o pr c) (fun σ' s => gp_s s) stb_n (fun σ' H' e' s m => m.tS s) (fun σ' H' e' s m => MidH.endB (D := D) s m) (fun σ' H' e' s m => MidH.endC (D := D) s m) (fun σ' H' e' v d s m => MidH.endR (D := D) s m)⟩
/-! ### small ones -/
theorem cs_pas : PCs X L tb o pr (.Pass pos) .pas := ⟨fun W tk => PSimp ps_pass fun D σ H h => by
  obtain ⟨e, m⟩ := h.mid
  simp only [exS] at m
  exact m.endN Same.refl⟩
theorem cs_doc {x j pos pos'} : PCs X L tb o pr (.Expr (.Constant (.str x) j pos) pos') .pas := ⟨fun W tk => PSimp ps_doc fun D σ H h => by
  obtain ⟨e, m⟩ := h.mid
  simp only [exS] at m
  exact m.endN Same.refl⟩
theorem cs_brk : PCs X L tb o pr (.Break pos) .brk := ⟨fun W tk => PSimp ps_break fun D σ H h => by
  obtain ⟨e, m⟩ := h.mid
  simp only [exS] at m
  exact m.endB Same.refl⟩
theorem cs_cnt : PCs X L tb o pr (.Continue pos) .cnt := ⟨fun W tk => PSimp ps_continue fun D σ H h => by
  obtain ⟨e, m⟩ := h.mid
  simp only [exS] at m
  exact m.endC Same.refl⟩
theorem cs_bad {st : Stmt} : PCs X L tb o pr st .bad := ⟨fun W tk => PSimp ps_never fun D σ H h => by
  obtain ⟨e, m⟩ := h.mid
  simp only [exS] at m
  exact m.none.elim⟩
theorem cs_ex (ha : PEs X L tb o a ca) (hs : swapsWith a none pos.line X.env = pure false := by rfl) : PCs X L tb o pr (.Expr a pos) (.ex ca) := ⟨fun W tk => PSimp (ps_expr (ha.run W tk) hs) fun D σ H h => by
  obtain ⟨e, m⟩ := h.mid
  simp only [exS] at m
  exact (m.bind (rep := Rep L) (gp_s Same.refl) stb_n).imp fun v H1 ⟨d, e1, m1⟩ => m1.endN Same.refl⟩
theorem cs_ret (ha : PEs X L tb o a ca) : PCs X L tb o pr (.Return (some a) pos) (.ret ca) := ⟨fun W tk => PSimp (ps_ret (ha.run W tk)) fun D σ H h => by
  obtain ⟨e, m⟩ := h.mid
  simp only [exS] at m
  exact (m.bind (rep := Rep L) (gp_s Same.refl) stb_n).imp fun v H1 ⟨d, e1, m1⟩ => m1.endR Same.refl⟩
theorem cs_retN : PCs X L tb o pr (.Return none pos) .retN := ⟨fun W tk => PSimp ps_retN fun D σ H h => by
  obtain ⟨e, m⟩ := h.mid
  simp only [exS] at m
  exact MidH.endR (P := nP) (σ0 := σ) Same.refl (m.imp fun Z S _ _ => ⟨S, NoAS, fun _ z => z, fun _ z => z.elim, fun _ _ z => z, trivial, by simp only [Rep]⟩)⟩
/-! ### target = value -/
theorem asg_end {t : T} {D : Ends} {σ : St} {H1 : Hp} {e1 : Env} {x : V} {d : PL.D} (m : MidH L σ H1 e1 (Spl nP (fun Z H S => Rep L Z H x d S)) (GoodS L W pr σ D) (nxt (storeT pr t d e1))) : tTg L pr t x σ H1 D.nx := by
  cases q : storeT pr t d e1 with
  | none => rw [q] at m; exact m.none.elim
  | some e2 =>
    rw [q] at m
    exact m.store gs_s stb_n q fun σ2 c n m2 => MidH.endN (Same.chg c n) m2
theorem cs_asg {tg : Expr} {t : T} (ha : PEs X L tb o a ca) (hg : PTg X L pr tg t) (hs : swapsWithSole [tg] a pos.line X.env = pure false := by rfl) (hw : swappedStores [tg] a X.env = pure none := by rfl)
    (h1 : (assignEach [tg] X.env).map (·.2) = [assign tg X.env] := by rfl) : PCs X L tb o pr (.Assign [tg] a pos) (.asg t ca) := ⟨fun W tk => PSimp (ps_asg (ha.run W tk) hg.run hs hw h1) fun D σ H h => by
  obtain ⟨e, m⟩ := h.mid
  simp only [exS] at m
  exact (m.bind (rep := Rep L) (gp_s Same.refl) stb_n).imp fun v H1 ⟨d, e1, m1⟩ => asg_end m1⟩
theorem cs_set (i : Nat) {x : Str} (hN : X.N.Nodup) (ha : PEs X L tb o a ca) (hi : X.N[i]? = some x := by rfl) (hx : Loc X.env.scope x := by first | exact Or.inl rfl | exact Or.inr rfl) (hs : swapsWith a (some (.Name x p)) pos.line X.env = pure false := by rfl)
    (hf : X.fn x = true ∨ X.env.scope.names.lookup x = some .local := by first | exact .inl rfl | exact .inr rfl) : PCs X L tb o pr (.Assign [.Name x p] a pos) (.asg (.v i) ca) := ⟨fun W tk => PSimp (ps_set hN hi hx (ha.run W tk) hs hf) fun D σ H h => by
  obtain ⟨e, m⟩ := h.mid
  simp only [exS] at m
  refine (m.bind (rep := Rep L) (gp_s Same.refl) stb_n).imp fun v H1 ⟨d, e1, m1⟩ => ?_
  simp only [storeT] at m1
  by_cases np : pr.contains i = true
  · rw [if_pos np] at m1; exact m1.none.elim
  · rw [if_neg np] at m1
    obtain ⟨Z, S1, S2, k, dj, re, ⟨Sa, Sb, a1, a2, aj, q1, q2⟩, r', h', g⟩ := m1
    cases h'
    have sub : ∀ b, OrS S1 Sb b → OrS S1 S2 b := fun b z => z.elim .inl fun z => .inr (a2 b z)
    exact g _ H1 Z (OrS S1 Sb) (Step.refl sub) (k.mono sub) (re.store q2 (fun b z => .inr z) (fun b z => .inl z) fun b z y => dj b y (a2 b z)) fun j hj => by
      rw [set_get, if_neg fun z => np (by subst z; simpa using hj)]⟩
theorem cs_lc [Lay X L tb o k] (i : Nat) {y : Str} {py spos : Pos} {elt tg iter : Expr} {ifs : List Expr} {scope : Scope} (own : List (Str × Nat)) {ct : T} {ci : I} {cc : C} {ce : E} {ownI : List Nat} (hN : X.N.Nodup) (ok : BlkOk X.N X.env.scope scope own) (hsw : swapsWith (.ListComp elt [⟨tg, iter, ifs, 0⟩] scope pos) (some (.Name y py)) spos.line X.env = pure true) (hi : PIs X L tb o tg iter ci)
    (hg : ∀ (s : Shared) (H : Hp) (C : Addr) (cl : List (Str × Addr)) (fp : List Addr), PTg (X.blk s H scope (compEnvC scope cl C X.env) fp) L [] tg ct) (hf : ∀ (s : Shared) (H : Hp) (C : Addr) (cl : List (Str × Addr)) (fp : List Addr), PIf (X.blk s H scope (compEnvC scope cl C X.env) fp) L tb o ifs cc)
    (he : ∀ (s : Shared) (H : Hp) (C : Addr) (cl : List (Str × Addr)) (fp : List Addr), PEs (X.blk s H scope (compEnvC scope cl C X.env) fp) L tb o elt ce) (hy : X.N[i]? = some y := by rfl) (hyl : X.env.scope.names.lookup y = some .local := by rfl) (hw : own.map (·.2) = ownI := by rfl) (hsub : ∀ i ∈ ct.sl, i ∈ ownI := by decide) (hs : ∀ x, foldedSetIterable iter X.env x = pure x := by intro _; rfl) :
    PCs X L tb o pr (.Assign [.Name y py] (.ListComp elt [⟨tg, iter, ifs, 0⟩] scope pos) spos) (.asg (.v i) (.lc ce ct ci cc ownI)) := by
  subst hw
  exact ⟨fun W tk => PSimp (ps_setLc (Lay.calm (X := X) (L := L) (tb := tb) (o := o) (k := k)) hN hy hyl hsw (hi.run W tk) ok (fun s H C cl fp => (hg s H C cl fp).run) (fun s H C cl fp => (hf s H C cl fp).run _ L2.takes0) (fun s H C cl fp => (he s H C cl fp).run _ L2.takes0) hs)
    fun D σ H h => by
      refine lc_run (X := X) (k := k) (W := W) hsub ?_
      obtain ⟨e, m⟩ := h.mid
      simp only [exS] at m
      refine (m.bind (rep := Rep L) (gp_s Same.refl) stb_n).imp fun v H1 ⟨d, e1, m1⟩ => ?_
      simp only [storeT] at m1
      by_cases np : pr.contains i = true
      · rw [if_pos np] at m1; exact m1.none.elim
      · rw [if_neg np] at m1
        obtain ⟨Z, S1, S2, k, dj, re, ⟨Sa, Sb, a1, a2, aj, q1, q2⟩, r', h', g⟩ := m1
        cases h'
        have sub : ∀ b, OrS S1 Sb b → OrS S1 S2 b := fun b z => z.elim .inl fun z => .inr (a2 b z)
        exact g _ H1 Z (OrS S1 Sb) (Step.refl sub) (k.mono sub) (re.store q2 (fun b z => .inr z) (fun b z => .inl z) fun b z y => dj b y (a2 b z)) fun j hj => by
          rw [set_get, if_neg fun z => np (by subst z; simpa using hj)]⟩
/-! ### if, for, while -/
theorem cs_ite {c : Expr} {cc : C} {sa sb : List Stmt} {xa xb : List S} (hc : PTs' X L tb o c cc) (ha : PCss X L tb o pr sa xa) (hb : PCss X L tb o pr sb xb) : PCs X L tb o pr (.If c sa sb pos) (.ite cc xa xb) := ⟨fun W tk => PSimp (ps_if (hc.run W tk) (ha.run W tk) (hb.run W tk)) fun D σ H h => by
  obtain ⟨e, m⟩ := h.mid
  simp only [exS] at m
  refine (m.bind (rep := repB) (gp_s Same.refl) stb_n).imp fun v H1 ⟨d, e1, m1⟩ => ?_
  have ev : v = d := by
    obtain ⟨Z, S1, S2, _, _, _, ⟨_, _, _, _, _, _, z⟩, _⟩ := m1
    exact z
  subst ev
  cases v with
  | true => simp only [if_true] at m1 ⊢; exact m1.tS Same.refl
  | false => simp only [Bool.false_eq_true, if_false] at m1 ⊢; exact m1.tS Same.refl⟩
theorem cs_for [Lay X L tb o k] {tg iter : Expr} {t : T} {ci : I} {body : List Stmt} {xb : List S} (hp : PassesOwn (model X.prog X.w) X.A X.env X.xe) (hi : PIs X L tb o tg iter ci) (hg : PTg X L pr tg t) (hb : PCss X L tb o pr body xb)
    (hs : ∀ x, foldedSetIterable iter X.env x = pure x := by intro _; rfl) : PCs X L tb o pr (.For tg iter body [] pos) (.for t ci xb) := ⟨fun W tk => PSimp (ps_for hp (Lay.calm (X := X) (L := L) (tb := tb) (o := o) (k := k)) (hi.run W tk) hg.run (hb.run W tk) hs) fun D σ H h => by
  obtain ⟨e, m⟩ := h.mid
  simp only [exS] at m
  refine ⟨_, _, _, _, e, gp_s Same.refl, stb_n, m, fun J H1 items e1 Hd sth wk m1 => ?_⟩
  obtain ⟨GH, Y, w, hgh, hy⟩ := wk.ex
  let Pv : Nat → St → Hp → Prop := fun i σ' H' => ∃ e, Same pr σ σ' ∧ MidH L σ' H' e (Spl nP Hd) (GoodS L W pr σ D) (loopF (fun x e => storeT pr t x e) (fun e => exSs tb o pr xb e) (items.drop i) e)
  have sb : Stb (Spl nP Hd) := stb_n.spl sth
  refine for_it (g := tTg L pr t) w Pv ⟨e1, Same.refl, m1⟩ ?_ ?_ ?_
  · rintro i σ' H' hi ⟨e, sm, ⟨Z, S1, S2, _, _, _, ⟨Sa, Sb, _, _, _, _, hh⟩, _⟩⟩
    exact hgh _ _ _ hh
  · rintro i x σ' H2 H3 hi ⟨e, sm, m3⟩ hY
    have hget : items[i]? = some items[i] := List.getElem?_eq_getElem hi
    rw [List.drop_eq_getElem_cons hi] at m3
    simp only [loopF] at m3
    cases qt : storeT pr t items[i] e with
    | none => rw [qt] at m3; exact m3.none.elim
    | some e2 =>
    rw [qt] at m3
    dsimp only at m3
    refine MidH.yield gs_s sb m3 (fun Z S ⟨Sa, Sb, _, _, _, _, hh⟩ => hy _ _ _ i x H3 _ hh hget hY) qt fun σ2 ch np m4 => ?_
    have s2 := sm.trans (Same.chg ch np)
    refine MidH.body (f := fun f e2 => match f with
      | .nx => loopF (fun x e => storeT pr t x e) (fun e => exSs tb o pr xb e) (items.drop (i + 1)) e2
      | .ct => loopF (fun x e => storeT pr t x e) (fun e => exSs tb o pr xb e) (items.drop (i + 1)) e2
      | .bk => some (.val .nx e2)
      | .rt d => some (.val (.rt d) e2)) (ev := exSs tb o pr xb) (fun σ3 s => gp_s (s2.trans s)) sb m4 (fun σ3 H' e' s m => ⟨e', s2.trans s, m⟩) (fun σ3 H' e' s m => MidH.endN (s2.trans s) m) (fun σ3 H' e' s m => ⟨e', s2.trans s, m⟩) (fun σ3 H' e' v d s m => MidH.endR (D := D) (s2.trans s) m)
  · rintro σ' H' ⟨e, sm, m3⟩
    rw [List.drop_length] at m3
    simp only [loopF] at m3
    exact m3.endN sm⟩
theorem cs_whl {c : Expr} {cc : C} {body : List Stmt} {xb : List S} (hp : PassesOwn (model X.prog X.w) X.A X.env X.xe) (hc : PTs' X L tb o c cc) (hb : PCss X L tb o pr body xb) : PCs X L tb o pr (.While c body [] pos) (.whl cc xb) := ⟨fun W tk => PSimp (ps_while hp (hc.run W tk) (hb.run W tk)) fun D σ H h => by
  obtain ⟨e, m⟩ := h.mid
  simp only [exS] at m
  refine ⟨fun n σ' H' => ∃ e, Same pr σ σ' ∧ MidH L σ' H' e nP (GoodS L W pr σ D) (loopW (fun e => evT tb o cc e) (fun e => exSs tb o pr xb e) n e), ⟨whileMost, e, Same.refl, m⟩, ?_⟩
  rintro n σ' H' ⟨e, sm, m⟩
  cases n with
  | zero => simp only [loopW] at m; exact m.none.elim
  | succ n =>
    simp only [loopW] at m
    refine (m.bind (rep := repB) (gp_s sm) stb_n).imp fun v H1 ⟨d, e1, m1⟩ => ?_
    have ev : v = d := by
      obtain ⟨Z, S1, S2, _, _, _, ⟨_, _, _, _, _, _, z⟩, _⟩ := m1
      exact z
    subst ev
    have m2 := m1.imp (P' := nP) fun Z S _ _ => trivial
    cases v with
    | true =>
      simp only [if_true] at m2 ⊢
      refine ⟨fun σ2 H2 => ∃ e, Same pr σ σ2 ∧ MidH L σ2 H2 e nP (GoodS L W pr σ D) (loopW (fun e => evT tb o cc e) (fun e => exSs tb o pr xb e) n e), fun σ2 H2 q => ⟨n, Nat.lt_succ_self n, q⟩, ?_⟩
      refine MidH.body (f := fun f e2 => match f with
        | .nx => loopW (fun e => evT tb o cc e) (fun e => exSs tb o pr xb e) n e2
        | .ct => loopW (fun e => evT tb o cc e) (fun e => exSs tb o pr xb e) n e2
        | .bk => some (.val .nx e2)
        | .rt d => some (.val (.rt d) e2)) (ev := exSs tb o pr xb) (fun σ3 s => gp_s (sm.trans s)) stb_n m2 (fun σ3 H' e' s m => ⟨e', sm.trans s, m⟩) (fun σ3 H' e' s m => MidH.endN (sm.trans s) m) (fun σ3 H' e' s m => ⟨e', sm.trans s, m⟩) (fun σ3 H' e' v d s m => MidH.endR (D := D) (sm.trans s) m)
    | false =>
      simp only [Bool.false_eq_true, if_false] at m2 ⊢
      exact m2.endN sm⟩
end
end PL

/-! PL.Sub: statements that change an object: a[i] = v, a.f = v, setdefault. -/
namespace PL
open PySem L2
/-! ### lists of keys and of names -/
theorem keyIx_mem : ∀ {ks : List Key} {k : Key}, keyIx ks k = none ↔ k ∉ ks
  | [], k => by simp [keyIx]
  | k' :: ks, k => by
    have ih := keyIx_mem (ks := ks) (k := k)
    simp only [keyIx]
    by_cases c : k' = k
    · rw [if_pos c]; simp [c]
    · rw [if_neg c, Option.map_eq_none_iff, ih]; simp [show ¬ k = k' from fun z => c z.symm]
theorem putD_old : ∀ {ks : List Key} {xs : List D} {k : Key} {j : Nat} {d : D}, keyIx ks k = some j → ks.length = xs.length → putD ks xs k d = (ks, xs.set j d)
  | [], xs, k, j, d, h, _ => by simp [keyIx] at h
  | k' :: ks, [], k, j, d, h, hl => by simp at hl
  | k' :: ks, x :: xs, k, j, d, h, hl => by
    simp only [keyIx] at h
    simp only [putD]
    by_cases c : k' = k
    · rw [if_pos c] at h ⊢; cases h; rfl
    · rw [if_neg c] at h ⊢
      cases q : keyIx ks k with
      | none => rw [q] at h; cases h
      | some i =>
        rw [q] at h
        simp only [Option.map_some, Option.some.injEq] at h
        subst h
        rw [putD_old q (by simpa using hl)]
        rfl
theorem putD_new : ∀ {ks : List Key} {xs : List D} {k : Key} {d : D}, keyIx ks k = none → ks.length = xs.length → putD ks xs k d = (ks ++ [k], xs ++ [d])
  | [], [], k, d, h, _ => rfl
  | [], x :: xs, k, d, h, hl => by simp at hl
  | k' :: ks, [], k, d, h, hl => by simp at hl
  | k' :: ks, x :: xs, k, d, h, hl => by
    simp only [keyIx] at h
    simp only [putD]
    by_cases c : k' = k
    · rw [if_pos c] at h; cases h
    · rw [if_neg c] at h ⊢
      rw [putD_new (by simpa using h) (by simpa using hl)]
      rfl
theorem any_zip {ks : List Key} {vs : List V} {k : Key} (hl : ks.length = vs.length) : ((ks.zip vs).any fun kv => decide (kv.1 = k)) = true ↔ k ∈ ks := by
  constructor
  · intro h
    obtain ⟨kv, hm, e⟩ := List.any_eq_true.mp h
    have := List.of_mem_zip hm
    rw [← of_decide_eq_true e]; exact this.1
  · intro h
    obtain ⟨i, hi, e⟩ := List.getElem_of_mem h
    refine List.any_eq_true.mpr ⟨(ks[i], vs[i]'(by omega)), ?_, by simp [e]⟩
    exact List.mem_iff_getElem.mpr ⟨i, by simp; omega, by simp⟩
theorem map_zip_old : ∀ {ks : List Key} {vs : List V} {k : Key} {j : Nat} {v : V}, ks.Nodup → keyIx ks k = some j → ks.length = vs.length → (ks.zip vs).map (fun kv => if kv.1 = k then (kv.1, v) else kv) = ks.zip (vs.set j v)
  | [], vs, k, j, d, _, h, _ => by simp [keyIx] at h
  | k' :: ks, [], k, j, d, _, h, hl => by simp at hl
  | k' :: ks, x :: vs, k, j, v, nd, h, hl => by
    simp only [keyIx] at h
    rw [List.nodup_cons] at nd
    by_cases c : k' = k
    · rw [if_pos c] at h; cases h
      simp only [List.zip_cons_cons, List.map_cons, if_pos c, List.set_cons_zero]
      congr 1
      rw [List.map_congr_left (g := id) (fun kv hm => ?_), List.map_id]
      have := (List.of_mem_zip (a := kv.1) (b := kv.2) hm).1
      rw [if_neg fun z => nd.1 (by rw [c, ← z]; exact this)]; rfl
    · rw [if_neg c] at h
      cases q : keyIx ks k with
      | none => rw [q] at h; cases h
      | some i =>
        rw [q] at h
        simp only [Option.map_some, Option.some.injEq] at h
        subst h
        simp only [List.zip_cons_cons, List.map_cons, if_neg c, List.set_cons_succ]
        rw [map_zip_old nd.2 q (by simpa using hl)]
theorem keyIx_lt : ∀ {ks : List Key} {k : Key} {j : Nat}, keyIx ks k = some j → j < ks.length
  | [], k, j, h => by simp [keyIx] at h
  | k' :: ks, k, j, h => by
    simp only [keyIx] at h
    by_cases c : k' = k
    · rw [if_pos c] at h; cases h; simp
    · rw [if_neg c] at h
      cases q : keyIx ks k with
      | none => rw [q] at h; cases h
      | some i =>
        rw [q] at h
        simp only [Option.map_some, Option.some.injEq] at h
        subst h
        have := keyIx_lt q
        simp; omega
/-- a pair more, or in its place -/
theorem putK_zip {ks : List Key} {vs : List V} {xs : List D} {k : Key} {v : V} {d : D} (nd : ks.Nodup) (hv : ks.length = vs.length) (hx : ks.length = xs.length) :
    (∃ j, keyIx ks k = some j ∧ j < xs.length ∧ putK (ks.zip vs) k v = ks.zip (vs.set j v) ∧ putD ks xs k d = (ks, xs.set j d)) ∨ (keyIx ks k = none ∧ (ks ++ [k]).Nodup ∧ putK (ks.zip vs) k v = (ks ++ [k]).zip (vs ++ [v]) ∧ putD ks xs k d = (ks ++ [k], xs ++ [d])) := by
  cases q : keyIx ks k with
  | some j =>
    refine .inl ⟨j, rfl, by have := keyIx_lt q; omega, ?_, putD_old q hx⟩
    have hm : k ∈ ks := Classical.byContradiction fun n => by rw [keyIx_mem.mpr n] at q; cases q
    unfold putK
    rw [if_pos ((any_zip hv).mpr hm), map_zip_old nd q hv]
  | none =>
    have hm := keyIx_mem.mp q
    refine .inr ⟨rfl, by rw [List.nodup_append]; exact ⟨nd, by simp, fun a ha b hb => by simp at hb; rw [hb]; exact fun z => hm (z ▸ ha)⟩, ?_, putD_new q hx⟩
    unfold putK
    rw [if_neg fun z => hm ((any_zip hv).mp z), List.zip_append hv]
    rfl
section
variable {L : Lo} {Z : AS} {H : Hp}
/-- a child exchanged, another's footprint beside -/
theorem reps_set {ds : List D} {vs : List V} {S1 S2 S : AS} {j : Nat} {v : V} {d : D} (h : Reps L Z H vs ds S1) (hj : j < ds.length) (r : Rep L Z H v d S2) (h1 : ∀ b, S1 b → S b) (h2 : ∀ b, S2 b → S b) (dj : ∀ b, S1 b → ¬ S2 b) : Reps L Z H (vs.set j v) (ds.set j d) S := by
  obtain ⟨v0, T1, T2, e, t1, t2, tj, r0, put⟩ := reps_at h (List.getElem?_eq_getElem hj)
  exact put (U := NoAS) fr_refl (fun _ _ _ z => z.elim) (fun _ _ z => z) (fun _ z => z) (fun _ _ z => z) h2 (fun b z => h1 b (t2 b z)) (fun b z y => dj b (t2 b y) z) r
end
section
variable {X : Cx} {L : Lo} {tb : Tab} {o : Orc} {k : Nat} {pr : List Nat} {pos p apos : Pos} {W : WX} {a b c : Expr} {ca cb : E}
theorem mut_go {Z S1 S2 T1 T2 Sa Sb : AS} {H : Hp} {σ : St} {e : Env} {root : Nat} {vr : V} {l : Addr} {dc dc' : D} {back : D → D} {ob : HO} {Ds : Ends} (k1 : Ok Z (OrS S1 S2) H) (dj : ∀ b, S1 b → ¬ S2 b) (re : RepE L Z H σ e S1) (hv : σ[root]? = some (some vr))
    (F : Foc L Z H (.ref l) dc T1 T2 vr back) (a1 : ∀ b, Sa b → S2 b) (a2 : ∀ b, Sb b → S2 b) (aj : ∀ b, Sa b → ¬ Sb b) (t1 : ∀ b, T1 b → Sb b) (t2 : ∀ b, T2 b → Sb b) (tj : ∀ b, T1 b → ¬ T2 b) (hl : T1 l) (mu : Mut (some ob)) (new : Rep L Z (upd H l ob) (.ref l) dc' (OrS T1 Sa))
    (g : GoodS L W pr σ Ds Z (OrS S1 S2) H (.val .nx (e.set root (some (back dc'))))) : Ds.nx σ (upd H l ob) := by
  obtain ⟨st, ok, dd, re2⟩ := mut_state (ob := ob) (U2 := NoAS) k1 dj re hv F (fun b z => a2 b (t1 b z)) (fun b z => a2 b (t2 b z)) tj hl mu new (fun b z => z.elim (fun z => a2 b (t1 b z)) (a1 b)) (fun b z y => z.elim (fun z => tj b z y) (fun z => aj b z (t2 b y))) (fun _ z => z.elim) (fun _ _ z => z) (fun _ z => z.elim)
  exact g σ _ Z _ (st.trans (Step.refl fun b z => .inl z)) (ok.mono fun b z => .inl z) re2 Same.refl
/-- a dict with a pair more -/
theorem rep_dput {Z Sa T1 : AS} {H : Hp} {l : Addr} {ks : List Key} {vs : List V} {xs : List D} {kk : Key} {v : V} {d : D} (nd : ks.Nodup) (hv : ks.length = vs.length) (rr : Reps L Z H vs xs (fun b => T1 b ∧ b ≠ l)) (rv : Rep L Z H v d Sa) (dj : ∀ b, T1 b → ¬ Sa b) (hl : T1 l) (ml : Mut (H l)) (zl : ∀ b, Z b → b ≠ l) :
    Rep L Z (upd H l (.dK (putK (ks.zip vs) kk v))) (.ref l) (.nd (.dk (putD ks xs kk d).1) true (putD ks xs kk d).2) (OrS T1 Sa) := by
  have hx : ks.length = xs.length := by rw [hv, rr.length]
  have cl : ∀ b, Sa b → b ≠ l := fun b z y => by subst y; exact dj b hl z
  have r1 : ∀ {ob : HO}, Reps L Z (upd H l ob) vs xs (fun b => T1 b ∧ b ≠ l) := reps_frW (U := fun b => b = l) (fun b o e n => by rw [upd_ne n]; exact e) (fun b o e n => by rw [n] at e; rw [e] at ml; exact ml) (fun b z => zl b z) (fun _ z => z) (fun b z => z.2) rr
  have r2 : ∀ {ob : HO}, Rep L Z (upd H l ob) v d Sa := kid_upd ml zl cl rv
  simp only [Rep]
  rcases putK_zip (v := v) (d := d) (k := kk) nd hv hx with ⟨j, q, hj, e1, e2⟩ | ⟨q, nd', e1, e2⟩
  · rw [e1, e2]
    refine ⟨l, vs.set j v, rfl, ⟨nd, by simpa using hv, upd_same, fun z => by cases z⟩, fun _ => .inl hl, ?_⟩
    exact reps_set r1 hj r2 (fun b z => ⟨.inl z.1, fun _ => z.2⟩) (fun b z => ⟨.inr z, fun _ => cl b z⟩) fun b z y => dj b z.1 y
  · rw [e1, e2]
    refine ⟨l, vs ++ [v], rfl, ⟨nd', by simp [hv], upd_same, fun z => by cases z⟩, fun _ => .inl hl, ?_⟩
    exact reps_append (S1 := fun b => T1 b ∧ b ≠ l) (S2 := Sa) (fun b z => ⟨.inl z.1, fun _ => z.2⟩) (fun b z => ⟨.inr z, fun _ => cl b z⟩) (fun b z y => dj b z.1 y) r1 (reps_cons (S1 := Sa) (S2 := NoAS) (fun _ z => z) (fun _ z => z.elim) (fun _ _ z => z) r2 reps_nil)
theorem pset_or {t u : TSet} (h1 : PSet X t) (h2 : PSet X u) : PSet X (fun o i v H Q => t o i v H Q ∨ u o i v H Q) := by
  intro pins s σ H o i v ov iv w Q I ro ri rv h
  rcases h with h | h
  · exact h1 pins s σ H o i v ov iv w Q I ro ri rv h
  · exact h2 pins s σ H o i v ov iv w Q I ro ri rv h
/-- a path's end -/
theorem FocP.at {at' : Nat → Str → Bool} {vr vc : V} {d : D} {acs : List Acc} {Z S : AS} {H : Hp} {α : Type} {f : D → Option (α × D)} {r : α} {d' : D} (h : FocP L at' vr d acs vc Z H S) (hm : modD at' f acs d = some (r, d')) :
    ∃ (dc dc' : D) (back : D → D) (S1 S2 : AS), (∀ b, S1 b → S b) ∧ (∀ b, S2 b → S b) ∧ (∀ b, S1 b → ¬ S2 b) ∧ Foc L Z H vc dc S1 S2 vr back ∧ f dc = some (r, dc') ∧ d' = back dc' := by
  obtain ⟨dc, back, S1, S2, h1, h2, dj, F, hb, hwk, hm'⟩ := h
  have := hm' α f []
  rw [List.append_nil, hm] at this
  simp only [modD] at this
  cases q : f dc with
  | none => rw [q] at this; cases this
  | some p =>
    obtain ⟨r1, x⟩ := p
    rw [q] at this
    simp only [Option.map_some, Option.some.injEq, Prod.mk.injEq] at this
    exact ⟨dc, x, back, S1, S2, h1, h2, dj, F, by rw [this.1, q], this.2⟩
theorem cs_sub [Lay X L tb o k] {root : Nat} {pp : Ps} {mi : M} (ha : PEs X L tb o a ca) (hp : PPs X L tb o root b pp) (hi : PMs X L tb o root c mi)
    (has : ∀ v, assign (.Subscript b c p) X.env v = (do
      let ov ← holding [v] (eval b X.env)
      let iv ← holding [v, ov] (eval c X.env)
      standAt p
      holding [v, ov, iv] (setItem ov iv v)
      release [v, ov, iv] []) := by intro _; rfl) (hs : swapsWithSole [.Subscript b c p] a pos.line X.env = pure false := by rfl) (hw : swappedStores [.Subscript b c p] a X.env = pure none := by rfl)
    (h1 : (assignEach [.Subscript b c p] X.env).map (·.2) = [assign (.Subscript b c p) X.env] := by rfl) : PCs X L tb o pr (.Assign [.Subscript b c p] a pos) (.sub root pp mi ca) :=
  ⟨fun W tk => PSimp (ps_asg (ha.run W tk) (pg_sub (hp.run W tk) (hi.run W tk) (pset_or set_list (set_dict (hu_of (Lay.room (X := X) (L := L) (tb := tb) (o := o) (k := k))))) has) hs hw h1) fun Ds σ H h => by
  obtain ⟨e, m⟩ := h.mid
  simp only [exS] at m
  refine (m.bind (rep := Rep L) (gp_s Same.refl) stb_n).imp fun v H1 ⟨dv, e1, m1⟩ => ?_
  cases q : e1.at root with
  | none => rw [q] at m1; exact m1.none.elim
  | some d =>
    rw [q] at m1
    obtain ⟨vr, hv, m2⟩ := m1.aside (gp_s Same.refl) q
    refine ⟨_, _, _, _, _, vr, d, gp_s Same.refl, stb_n.spl stb_rep, hv, m2, fun vc H2 acs e2 m3 => ?_⟩
    refine ⟨_, _, _, _, e2, vr, d, gp_s Same.refl, (stb_n.spl stb_rep).spl stb_foc, hv, fun Z H S ⟨Sa, Sb, a1, a2, aj, q1, q2⟩ => rep_mono a2 q2.whole, m3, fun iv H3 y e3 m4 => ?_⟩
    obtain ⟨Z, S1, S2, k1, dj, re, ⟨Sab, Sc, b1, b2, bj, ⟨Sa', Sb, a1', a2, aj', ⟨Sn, Sa, n1, n2, nj, _, rv⟩, fo⟩, ri⟩, r', h', g⟩ := m4
    have a1 : ∀ b, Sa b → Sab b := fun b z => a1' b (n2 b z)
    have aj : ∀ b, Sa b → ¬ Sb b := fun b z => aj' b (n2 b z)
    split at h'
    · cases h'
    · rename_i r0 d' hm
      cases h'
      obtain ⟨dc, dc', back, T1, T2, t1, t2, tj, F, hf, rfl⟩ := fo.at hm
      simp only [Option.map_eq_some_iff, Prod.mk.injEq, true_and] at hf
      obtain ⟨x, hf, rfl⟩ := hf
      have hrep := F.rep
      cases dc with
      | nd kd ow xs =>
        cases kd with
        | lst =>
          cases ow with
          | false => cases y <;> simp only [setD, reduceCtorEq] at hf
          | true =>
            cases y <;> simp only [setD, reduceCtorEq] at hf
            rename_i i
            cases qj : ixN xs.length i with
            | none => rw [qj] at hf; cases hf
            | some j =>
              rw [qj] at hf
              simp only [Option.map_some, Option.some.injEq] at hf
              subst hf
              obtain ⟨l, vs, rfl, hl, ho, rr⟩ := shape_lst hrep
              have hT := ho rfl
              have ml : Mut (H3 l) := by rw [hl]; trivial
              have zl : ∀ b, Z b → b ≠ l := fun b z y => by subst y; exact k1.dj b (.inr (b1 b (a2 b (t1 b hT)))) z
              refine .inl ⟨l, vs, i, j, rfl, rep_int ri, hl, by rw [rr.length]; exact qj, ?_⟩
              refine mut_go (Sa := Sa) (Sb := Sb) k1 dj re hv F (fun b z => b1 b (a1 b z)) (fun b z => b1 b (a2 b z)) aj t1 t2 tj hT (by exact trivial) ?_ g
              simp only [Rep]
              refine ⟨l, _, rfl, ⟨upd_same, fun z => by cases z⟩, fun _ => .inl hT, ?_⟩
              have cl : ∀ b, Sa b → b ≠ l := fun b z y => by subst y; exact aj b z (t1 b hT)
              exact reps_set (S1 := fun b => T1 b ∧ b ≠ l) (S2 := Sa) (reps_frW (U := fun b => b = l) (fun b o e n => by rw [upd_ne n]; exact e) (fun b o e n => by rw [n] at e; rw [e] at ml; exact ml) (fun b z => zl b z) (fun _ z => z) (fun b z => z.2) (reps_mono (fun b z => ⟨z.1, z.2 rfl⟩) rr))
                (ixN_seq qj).2.1 (kid_upd ml zl cl rv) (fun b z => ⟨.inl z.1, fun _ => z.2⟩) (fun b z => ⟨.inr z, fun _ => cl b z⟩) fun b z y => aj b y (t1 b z.1)
        | dk ks =>
          cases ow with
          | false => simp only [setD, reduceCtorEq] at hf
          | true =>
            simp only [setD] at hf
            cases qk : y.key with
            | none => rw [qk] at hf; cases hf
            | some kk =>
              rw [qk] at hf
              simp only [Option.bind_some] at hf
              split at hf
              · rename_i hsz
                cases hf
                obtain ⟨l, vs, rfl, nd, hlen, hl, ho, rr⟩ := shape_dk hrep
                have hT := ho rfl
                have ml : Mut (H3 l) := by rw [hl]; trivial
                have zl : ∀ b, Z b → b ≠ l := fun b z y => by subst y; exact k1.dj b (.inr (b1 b (a2 b (t1 b hT)))) z
                refine .inr ⟨l, _, rfl, by rw [key_kV ri qk]; exact DPut.k hl (by simp; omega), ?_⟩
                refine mut_go (Sa := Sa) (Sb := Sb) k1 dj re hv F (fun b z => b1 b (a1 b z)) (fun b z => b1 b (a2 b z)) aj t1 t2 tj hT (by exact trivial) ?_ g
                exact rep_dput nd hlen (reps_mono (fun b z => ⟨z.1, z.2 rfl⟩) rr) rv (fun b z y => aj b y (t1 b z)) hT ml zl
              · cases hf
        | _ => simp only [setD, reduceCtorEq] at hf
      | _ => simp only [setD, reduceCtorEq] at hf⟩
end
end PL

/-! PL.Sda: setdefault, fields, name op= value. -/
namespace PL
open PySem L2
section
variable {L : Lo} {Z : AS} {H : Hp}
/-- what is at the path's end changes: the rest stands ready -/
theorem Foc.re {Z1 : AS} {H1 : Hp} {vc v : V} {dc dc1 : D} {T1 T2 T1' U : AS} {back : D → D} (h : Foc L Z H vc dc T1 T2 v back) (f : Fr U H H1) (o : OwnW U H) (hz : ∀ b, Z b → ¬ U b) (zz : ∀ b, Z b → Z1 b) (h2 : ∀ b, T2 b → ¬ U b) (r : Rep L Z1 H1 vc dc1 T1') : Foc L Z1 H1 vc dc1 T1' T2 v back where
  rep := r
  put := fun {Z'' H'' U' S1' S' dc'} f' o' hz' zz' n2 s1 s2 dj r => by
    refine h.put (U := OrS U U') (fun b ob e n => f' b ob (f b ob e fun z => n (.inl z)) fun z => n (.inr z)) (fun b ob e u => ?_) (fun b z y => y.elim (hz b z) (hz' b (zz b z))) (fun b z => zz' b (zz b z)) (fun b z y => y.elim (h2 b z) (n2 b z)) s1 s2 dj r
    by_cases c : U b
    · exact o b ob e c
    · exact o' b ob (f b ob e c) (u.resolve_left c)
theorem foc_kid0 {vr : V} {k : Kd} {o : Bool} {xs : List D} {back : D → D} {S1 S2 : AS} {p : Addr} {vs : List V} {j : Nat} {x : D} (dj : ∀ b, S1 b → ¬ S2 b) (F : Foc L Z H (.ref p) (.nd k o xs) S1 S2 vr back)
    (sh : shapeOk L Z H p o k vs) (ho : o = true → S1 p) (rr : Reps L Z H vs xs (fun b => S1 b ∧ (o = true → b ≠ p))) (hx : xs[j]? = some x) :
    ∃ w T1 T2, vs[j]? = some w ∧ (∀ b, T1 b → S1 b) ∧ (∀ b, T2 b → S1 b ∨ S2 b) ∧ (∀ b, T1 b → ¬ T2 b) ∧ Foc L Z H w x T1 T2 vr (fun y => back (.nd k o (xs.set j y))) := by
  obtain ⟨w, T1, T2, ew, t1, t2, tj, rw', put⟩ := reps_at rr hx
  refine ⟨w, T1, OrS S2 (OrS T2 (fun b => o = true ∧ b = p)), ew, fun b z => (t1 b z).1, fun b z => ?_, fun b z y => ?_, ⟨rw', ?_⟩⟩
  · rcases z with z | z | z
    · exact .inr z
    · exact .inl (t2 b z).1
    · rw [z.2]; exact .inl (ho z.1)
  · rcases y with y | y | y
    · exact dj b (t1 b z).1 y
    · exact tj b z y
    · exact (t1 b z).2 y.1 y.2
  · intro Z' H' U S1' S' dc' f o' hz zz n2 s1 s2 dj' r
    refine F.put (U := U) (S1' := OrS S1' (OrS T2 (fun b => o = true ∧ b = p))) f o' hz zz (fun b z => n2 b (.inl z)) (fun b z => z.elim (s1 b) fun z => s2 b (.inr z)) (fun b z => s2 b (.inl z)) (fun b z y => ?_) ?_
    · rcases z with z | z | z
      · exact dj' b z (.inl y)
      · exact dj b (t2 b z).1 y
      · rw [z.2] at y; exact dj p (ho z.1) y
    · simp only [Rep]
      refine ⟨p, vs, rfl, ?_, fun z => .inr (.inr ⟨z, rfl⟩), ?_⟩
      · have np : o = true → ¬ U p := fun z => n2 p (.inr (.inr ⟨z, rfl⟩))
        cases k with
        | tup => exact ⟨sh.1, SqT.fr f o' sh.2⟩
        | cl => exact ⟨sh.1, FzL.fr f o' sh.2⟩
        | lst =>
          obtain ⟨g1, g2⟩ := sh
          refine ⟨f p _ g1 ?_, fun z => zz p (g2 z)⟩
          cases o with
          | true => exact np rfl
          | false => exact hz p (g2 rfl)
        | dk ks =>
          obtain ⟨g0, g1, g2, g3⟩ := sh
          refine ⟨g0, g1, f p _ g2 ?_, fun z => zz p (g3 z)⟩
          cases o with
          | true => exact np rfl
          | false => exact hz p (g3 rfl)
        | ins c ns =>
          obtain ⟨g1, ⟨dx, g2⟩, g3⟩ := sh
          refine ⟨g1, ⟨dx, f p _ g2 ?_⟩, fun z => zz p (g3 z)⟩
          cases o with
          | true => exact np rfl
          | false => exact hz p (g3 rfl)
      · have q := put (S' := fun b => OrS S1' (OrS T2 (fun b => o = true ∧ b = p)) b ∧ (o = true → b ≠ p)) (S1' := S1') (v' := w) (d' := dc') f o' hz zz (fun b z => n2 b (.inr (.inl z)))
          (fun b z => ⟨.inl z, fun y e => dj' b z (.inr (.inr ⟨y, e⟩))⟩) (fun b z => ⟨.inr (.inl z), (t2 b z).2⟩) (fun b z y => dj' b z (.inr (.inl y))) r
        rw [set_self ew] at q
        exact q
/-- a focus, held -/
def HFoc (L : Lo) (vr vc : V) (dc : D) (back : D → D) : AS → Hp → AS → Prop := fun Z H S => ∃ T1 T2 : AS, (∀ b, T1 b → S b) ∧ (∀ b, T2 b → S b) ∧ (∀ b, T1 b → ¬ T2 b) ∧ Foc L Z H vc dc T1 T2 vr back
theorem stb_hfoc {vr vc : V} {dc : D} {back : D → D} : Stb (HFoc L vr vc dc back) where
  st := fun f o hz zz hs ⟨T1, T2, t1, t2, tj, F⟩ => ⟨T1, T2, t1, t2, tj, F.st f o hz zz (fun b z => hs b (t1 b z)) fun b z => hs b (t2 b z)⟩
  mo := fun hs ⟨T1, T2, t1, t2, tj, F⟩ => ⟨T1, T2, fun b z => hs b (t1 b z), fun b z => hs b (t2 b z), tj, F⟩
theorem keyIx_app : ∀ {ks : List Key} {k : Key}, keyIx ks k = none → keyIx (ks ++ [k]) k = some ks.length
  | [], k, _ => by simp [keyIx]
  | k' :: ks, k, h => by
    simp only [keyIx] at h
    by_cases c : k' = k
    · rw [if_pos c] at h; cases h
    · rw [if_neg c] at h
      simp only [List.cons_append, keyIx, if_neg c, keyIx_app (by simpa using h), Option.map_some, List.length_cons]
theorem look_ix : ∀ {ks : List Key} {xs : List D} {k : Key} {d : D}, lookD ks xs k = some d → ∃ j, keyIx ks k = some j ∧ xs[j]? = some d
  | [], xs, k, d, h => by simp [lookD] at h
  | k' :: ks, [], k, d, h => by simp [lookD] at h
  | k' :: ks, x :: xs, k, d, h => by
    simp only [lookD] at h
    simp only [keyIx]
    by_cases c : k' = k
    · rw [if_pos c] at h ⊢; cases h; exact ⟨0, rfl, rfl⟩
    · rw [if_neg c] at h ⊢
      obtain ⟨j, e1, e2⟩ := look_ix h
      exact ⟨j + 1, by rw [e1]; rfl, by simpa using e2⟩
theorem look_ix0 : ∀ {ks : List Key} {xs : List D} {k : Key}, ks.length = xs.length → lookD ks xs k = none → keyIx ks k = none
  | [], xs, k, _, h => rfl
  | k' :: ks, [], k, hl, h => by simp at hl
  | k' :: ks, x :: xs, k, hl, h => by
    simp only [lookD] at h
    simp only [keyIx]
    by_cases c : k' = k
    · rw [if_pos c] at h; cases h
    · rw [if_neg c] at h ⊢
      rw [look_ix0 (by simpa using hl) h]; rfl
theorem valV_ix : ∀ {ks : List Key} {vs : List V} {k : Key}, ks.length = vs.length → keyIx ks k = none → valV (ks.zip vs) k = none
  | [], vs, k, _, _ => by simp [valV]
  | k' :: ks, [], k, hl, _ => by simp at hl
  | k' :: ks, v :: vs, k, hl, h => by
    simp only [keyIx] at h
    by_cases c : k' = k
    · rw [if_pos c] at h; cases h
    · rw [if_neg c] at h
      rw [List.zip_cons_cons, valV_neg c]
      exact valV_ix (by simpa using hl) (by simpa using h)
end
section
variable {X : Cx} {L : Lo} {tb : Tab} {o : Orc} {k : Nat} {pr : List Nat} {pos p1 p2 p3 p4 p5 : Pos} {W : WX} {a b c : Expr} {ca cb cc : E}
theorem isD_ref {H : Hp} {l : Addr} {kvs : List (Key × V)} (h : H l = some (.dK kvs)) : IsD H l := .inl ⟨kvs, .inl h⟩
/-- a path's end is a dict of ours -/
theorem foc_dict {at' : Nat → Str → Bool} {vr vc : V} {d : D} {acs : List Acc} {Z S : AS} {H : Hp} {ks : List Key} {xs : List D} (h : FocP L at' vr d acs vc Z H S) (hw : walkD at' acs d = some (.nd (.dk ks) true xs)) :
    ∃ (l : Addr) (vs : List V) (back : D → D) (S1 S2 : AS), vc = .ref l ∧ ks.Nodup ∧ ks.length = vs.length ∧ H l = some (.dK (ks.zip vs)) ∧ (∀ b, S1 b → S b) ∧ (∀ b, S2 b → S b) ∧ (∀ b, S1 b → ¬ S2 b) ∧ S1 l ∧ Foc L Z H (.ref l) (.nd (.dk ks) true xs) S1 S2 vr back ∧ Reps L Z H vs xs (fun b => S1 b ∧ b ≠ l) ∧
      (∀ (α : Type) (f : D → Option (α × D)), modD at' f acs d = (f (.nd (.dk ks) true xs)).map fun (r, x) => (r, back x)) := by
  obtain ⟨dc, back, S1, S2, h1, h2, dj, F, hb, hwk, hm⟩ := h
  have e : dc = .nd (.dk ks) true xs := by
    have := hwk []
    rw [List.append_nil, hw] at this
    exact (Option.some.inj this).symm
  subst e
  obtain ⟨l, vs, ev, nd, hlen, hl, ho, rr⟩ := shape_dk F.rep
  subst ev
  exact ⟨l, vs, back, S1, S2, rfl, nd, hlen, hl, h1, h2, dj, ho rfl, F, reps_mono (fun b z => ⟨z.1, z.2 rfl⟩) rr, fun α f => by
    have := hm α f []
    rw [List.append_nil] at this
    exact this⟩
theorem sd_start {root : Nat} {pp : Ps} {σ : St} {e : PL.Env} {H : Hp} {Qc : VK} {Ds : Ends} {f : List Acc → D → List Key → List D → PL.Env → SR}
    (m : MidH L σ H e nP (GoodS L W pr σ Ds) (match e.at root with
      | none => none
      | some d => bnd (evPs tb o pp d root (e.set root none)) fun acs e => match walkD tb.attr acs d with
        | some (.nd (.dk ks) true xs) => f acs d ks xs e
        | _ => none))
    (k : ∀ (vr vc : V) (d : D) (acs : List Acc) (H1 : Hp) (e1 : PL.Env) (ks : List Key) (xs : List D), σ[root]? = some (some vr) → walkD tb.attr acs d = some (.nd (.dk ks) true xs) →
      MidH L σ H1 e1 (Spl nP (FocP L tb.attr vr d acs vc)) (GoodS L W pr σ Ds) (f acs d ks xs e1) → Qc vc H1) : tPth L W tb o root pp σ H Qc := by
  cases q : e.at root with
  | none => rw [q] at m; exact m.none.elim
  | some d =>
    rw [q] at m
    obtain ⟨vr, hv, m1⟩ := m.aside (gp_s Same.refl) q
    refine ⟨_, _, _, _, _, vr, d, gp_s Same.refl, stb_n, hv, m1, fun vc H' acs e' m' => ?_⟩
    cases qw : walkD tb.attr acs d with
    | none => rw [qw] at m'; exact m'.none.elim
    | some dw =>
      rw [qw] at m'
      cases dw with
      | nd kd ow xs =>
        cases kd with
        | dk ks =>
          cases ow with
          | true => exact k vr vc d acs H' e' ks xs hv qw m'
          | false => exact m'.none.elim
        | _ => exact m'.none.elim
      | _ => exact m'.none.elim
theorem mid_upd {Z S1 S2 : AS} {H : Hp} {σ : St} {e : PL.Env} {l : Addr} {ob : HO} (k : Ok Z (OrS S1 S2) H) (dj : ∀ b, S1 b → ¬ S2 b) (re : RepE L Z H σ e S1) (hl : S2 l) (mu : Mut (some ob)) : Ok Z (OrS S1 S2) (upd H l ob) ∧ RepE L Z (upd H l ob) σ e S1 ∧ Step Z (OrS S1 S2) H Z (OrS S1 S2) (upd H l ob) := by
  have ml : Mut (H l) := k.own l (.inr hl)
  have zl : ∀ b, Z b → b ≠ l := fun b z y => by subst y; exact k.dj b (.inr hl) z
  refine ⟨⟨k.dj, fun b hb => ?_, fun b z y => k.zd b z (upd_nn y)⟩, ?_, ⟨fun _ z => z, fun _ z => .inl z, fun _ z => .inl z, fun b o e n => ?_, fun b => upd_nn⟩⟩
  · by_cases c : b = l
    · subst c; rw [upd_same]; exact mu
    · rw [upd_ne c]; exact k.own b hb
  · obtain ⟨Fm, f1, f2, f3⟩ := re.ex
    refine ⟨re.len, Fm, f1, f2, fun i d hd => ?_⟩
    obtain ⟨v, ev, r⟩ := f3 i d hd
    exact ⟨v, ev, kid_upd ml zl (fun b z y => by subst y; exact dj b (f1 i b z) hl) r⟩
  · rw [upd_ne fun y => n (by rw [y]; exact .inr hl)]; exact e
/-- a list of ours gets a member more -/
theorem app_fin {σ : St} {e : PL.Env} {H : Hp} {root : Nat} {vr vc : V} {Ds : Ends} {ys : List D} {bk : D → D} {f : D → PL.Env → SR} (hv : σ[root]? = some (some vr)) (m : MidH L σ H e (HFoc L vr vc (.nd .lst true ys) bk) (GoodS L W pr σ Ds) (bnd (evE tb o cc e) f))
    (hf : ∀ dv e, f dv e = if ys.length < sizeLine then some (.val .nx (e.set root (some (bk (.nd .lst true (ys ++ [dv])))))) else none) :
    tG L W (Rep L) (evE tb o cc) σ H fun wv H1 => ∃ l vs, vc = .ref l ∧ H1 l = some (.lst vs) ∧ vs.length < sizeLine ∧ Ds.nx σ (upd H1 l (.lst (vs ++ [wv]))) := by
  refine (m.bind (rep := Rep L) (gp_s Same.refl) stb_hfoc).imp fun wv H1 ⟨dv, e1, m1⟩ => ?_
  obtain ⟨Z, S1, S2, k1, dj, re, ⟨Sb, Sa, b1, b2, bj, ⟨T1, T2, t1, t2, tj, F⟩, rv⟩, r', h', g⟩ := m1
  rw [hf] at h'
  split at h'
  · rename_i hsz
    cases h'
    obtain ⟨l, vs, rfl, hl, ho, rr⟩ := shape_lst F.rep
    have hT := ho rfl
    have ml : Mut (H1 l) := by rw [hl]; trivial
    have zl : ∀ b, Z b → b ≠ l := fun b z y => by subst y; exact k1.dj b (.inr (b1 b (t1 b hT))) z
    have cl : ∀ b, Sa b → b ≠ l := fun b z y => by subst y; exact bj b (t1 b hT) z
    refine ⟨l, vs, rfl, hl, by rw [rr.length]; exact hsz, ?_⟩
    refine mut_go (Sa := Sa) (Sb := Sb) k1 dj re hv F b2 b1 (fun b z y => bj b y z) t1 t2 tj hT (by exact trivial) ?_ g
    simp only [Rep]
    refine ⟨l, vs ++ [wv], rfl, ⟨upd_same, fun z => by cases z⟩, fun _ => .inl hT, ?_⟩
    exact reps_append (S1 := fun b => T1 b ∧ b ≠ l) (S2 := Sa) (fun b z => ⟨.inl z.1, fun _ => z.2⟩) (fun b z => ⟨.inr z, fun _ => cl b z⟩) (fun b z y => bj b (t1 b z.1) y)
      (reps_frW (U := fun b => b = l) (fun b o e n => by rw [upd_ne n]; exact e) (fun b o e n => by rw [n] at e; rw [e] at ml; exact ml) (fun b z => zl b z) (fun _ z => z) (fun b z => z.2) (reps_mono (fun b z => ⟨z.1, z.2 rfl⟩) rr))
      (reps_cons (S1 := Sa) (S2 := NoAS) (fun _ z => z) (fun _ z => z.elim) (fun _ _ z => z) (kid_upd ml zl cl rv) reps_nil)
  · cases h'
/-- a.setdefault(k, []).append(v) -/
theorem cs_sda [Lay X L tb o k] {root : Nat} {pp : Ps} {mi : M} (hp : PPs X L tb o root a pp) (hi : PMs X L tb o root b mi) (hc : PEs X L tb o c cc) (mm : M2 X a "setdefault" p1 b (.List [] p2) p3 := by exact ⟨rfl, rfl, rfl, rfl⟩)
    (hbase : attributeBase (.Call (.Attribute a "setdefault" p1) [b, .List [] p2] [] p3) "append" X.env (eval (.Call (.Attribute a "setdefault" p1) [b, .List [] p2] [] p3) X.env) = eval (.Call (.Attribute a "setdefault" p1) [b, .List [] p2] [] p3) X.env := by rfl)
    (hfew : ((backTo p5 (starEach [c] X.env)).all (fun x => !x.1) && (backToKw p5 (keywordEach [] X.env)).all (fun x => x.1.isSome)
      && decide ([c].length + ([] : List Keyword).length + (if ([] : List Keyword).isEmpty then 0 else 1) < 30)) = true := by rfl)
    (hline : (p4.endLine == p5.line) = true := by rfl) (hs : starEach [c] X.env = (false, eval c X.env) :: starEach [] X.env := by rfl) (hplain : (backTo p5 (starEach [] X.env)).any (·.1) = false := by rfl)
    (hsw : swapsWith (.Call (.Attribute (.Call (.Attribute a "setdefault" p1) [b, .List [] p2] [] p3) "append" p4) [c] [] p5) none pos.line X.env = pure false := by rfl) :
    PCs X L tb o pr (.Expr (.Call (.Attribute (.Call (.Attribute a "setdefault" p1) [b, .List [] p2] [] p3) "append" p4) [c] [] p5) pos) (.sda root pp mi cc) :=
  ⟨fun W tk => PSimp (ps_expr (pe_bm PySem.F.plainAttrs_list PySem.F.slot_list_append PySem.F.type_list_append mt_append (pe_dsetd (hp.run W tk) (hi.run W tk) (pe_lst pa_nil) mm) (pa_cons (hc.run W tk) pa_nil hs) hbase hfew hline hs hplain) hsw) fun Ds σ H h => by
  obtain ⟨e, m⟩ := h.mid
  simp only [exS] at m
  refine sd_start m fun vr vc d acs H1 e1 ks xs hv hw m1 => ?_
  -- the dict
  have isd : ∃ l kvs, vc = .ref l ∧ H1 l = some (.dK kvs) := by
    obtain ⟨Z, S1, S2, k1, dj, re, ⟨Sa, Sb, a1, a2, aj, _, fo⟩, r', h', g⟩ := m1
    obtain ⟨l, vs, back, T1, T2, ev, nd, hlen, hl, _⟩ := foc_dict fo hw
    exact ⟨l, _, ev, hl⟩
  obtain ⟨l, kvs, rfl, hl0⟩ := isd
  refine ⟨l, rfl, isD_ref hl0, _, _, _, _, e1, vr, d, gp_s Same.refl, stb_n.spl stb_foc, hv, fun Z H S ⟨Sa, Sb, a1, a2, aj, q1, q2⟩ => rep_mono a2 q2.whole, m1, fun yv H2 y e2 m2 => ?_⟩
  refine ⟨Nat.zero_le _, fun nl hnl => ?_⟩
  split at m2
  · rename_i hok
    unfold sdaOk at hok
    cases qk : y.key with
    | none => rw [qk] at hok; cases hok
    | some kk =>
    rw [qk] at hok
    dsimp only at hok
    rw [Bool.and_eq_true, decide_eq_true_eq] at hok
    obtain ⟨hsz, hlk⟩ := hok
    have m3 := m2.newAt gs_s ((stb_n.spl stb_foc).spl stb_rep) hnl (ob := .lst []) trivial
    obtain ⟨Z, S1, S2, k1, dj, re, ⟨S3, Sn, c1, c2, cj, ⟨Sab, Sc, b1, b2, bj, ⟨Sa, Sb, a1, a2, aj, _, fo⟩, ry⟩, hat⟩, r', h', g⟩ := m3
    obtain ⟨l', vs, back, T1, T2, ev, nd, hlen, hl, t1, t2, tj, hT, F, rr, hm⟩ := foc_dict fo hw
    cases ev
    have hx : ks.length = xs.length := by rw [hlen, rr.length]
    have sb : ∀ b, Sb b → S2 b := fun b z => c1 b (b1 b (a2 b z))
    refine ⟨_, kk, hl, key_kV ry qk, by simp; omega, fun v hvv => ?_, fun hvn => ?_⟩
    · -- there is a list already
      have hne : keyIx ks kk ≠ none := fun z => by rw [valV_ix hlen z] at hvv; cases hvv
      cases qd : lookD ks xs kk with
      | none => exact absurd (look_ix0 hx qd) hne
      | some dl =>
        rw [qd] at hlk
        obtain ⟨j, ej, ex⟩ := look_ix qd
        cases dl with
        | nd kd ow ys =>
          cases kd with
          | lst =>
            cases ow with
            | true =>
              obtain ⟨w, U1, U2, ew, u1, u2, uj, F2⟩ := foc_kid0 (vs := vs) tj F ⟨nd, hlen, hl, fun z => by cases z⟩ (fun _ => hT) (reps_mono (fun b z => ⟨z.1, fun _ => z.2⟩) rr) ex
              have evw : v = w := by
                rw [keyIx_look ej hlen ew] at hvv
                exact (Option.some.inj hvv).symm
              subst evw
              have hty : ∃ q qs, v = .ref q ∧ upd H2 nl (.lst []) q = some (.lst qs) := by
                obtain ⟨q, qs, eq, hq, _⟩ := shape_lst F2.rep
                exact ⟨q, qs, eq, hq⟩
              obtain ⟨q, qs, rfl, hq⟩ := hty
              refine ⟨ty_list hq, ?_⟩
              refine (app_fin (tb := tb) (o := o) (cc := cc) (ys := ys) (bk := fun y => back (.nd (.dk ks) true (xs.set j y))) hv ⟨Z, S1, S2, k1, dj, re, ⟨U1, U2, fun b z => sb b (t1 b (u1 b z)), fun b z => sb b ((u2 b z).elim (t1 b) (t2 b)), uj, F2⟩, r', h', g⟩ fun dv e => ?_).imp fun wv H4 ⟨l2, vs2, e2, h2, h3, h4⟩ => ?_
              · rw [hm]
                simp only [sdaD, qk, Option.bind_some, qd]
                by_cases hz : ys.length < sizeLine
                · rw [if_pos hz, if_pos hz, putD_old ej hx]; rfl
                · rw [if_neg hz, if_neg hz]; rfl
              · exact ⟨l2, vs2, wv, e2, rfl, h2, h3, h4⟩
            | false => cases hlk
          | _ => cases hlk
        | _ => cases hlk
    · -- a new one
      have qn : keyIx ks kk = none := by
        cases q : keyIx ks kk with
        | none => rfl
        | some j =>
          have hj := keyIx_lt q
          rw [keyIx_look q hlen (List.getElem?_eq_getElem (by omega))] at hvn
          cases hvn
      have qd : lookD ks xs kk = none := by
        cases q : lookD ks xs kk with
        | none => rfl
        | some d => obtain ⟨j, ej, _⟩ := look_ix q; rw [qn] at ej; cases ej
      have ml : Mut (upd H2 nl (.lst []) l) := by rw [hl]; trivial
      have zl : ∀ b, Z b → b ≠ l := fun b z y => by subst y; exact k1.dj b (.inr (sb b (t1 b hT))) z
      have nT : ∀ b, T1 b → ¬ (b = nl) := fun b z y => by subst y; exact cj b (b1 b (a2 b (t1 b z))) hat.1
      have nT2 : ∀ b, T2 b → ¬ (b = nl) := fun b z y => by subst y; exact cj b (b1 b (a2 b (t2 b z))) hat.1
      have rnl : Rep L Z (upd H2 nl (.lst [])) (.ref nl) (.nd .lst true []) (fun b => b = nl) := by
        simp only [Rep]
        exact ⟨nl, [], rfl, ⟨hat.2, fun z => by cases z⟩, fun _ => rfl, reps_nil⟩
      have rnew := rep_dput (kk := kk) nd hlen rr rnl (fun b z y => nT b z y) hT ml zl
      rw [putD_new qn hx] at rnew
      have F1 := F.re (U := fun b => b = l) (Z1 := Z) (fun b o e n => by rw [upd_ne n]; exact e) (fun b o e n => by rw [n] at e; rw [e] at ml; exact ml) (fun b z => zl b z) (fun _ z => z) (fun b z y => by subst y; exact tj b hT z) rnew
      have dj1 : ∀ b, OrS T1 (fun b => b = nl) b → ¬ T2 b := fun b z y => z.elim (fun z => tj b z y) fun z => nT2 b y z
      obtain ⟨l9, vs1, e9, nd1, hlen1, hl1, ho1, rr1⟩ := shape_dk F1.rep
      cases e9
      obtain ⟨w, U1, U2, ew, u1, u2, uj, F2⟩ := foc_kid0 (vs := vs1) (j := xs.length) (x := .nd .lst true []) dj1 F1 ⟨nd1, hlen1, hl1, fun z => by cases z⟩ ho1 rr1 (by simp)
      have evw : w = .ref nl := by
        have e1 : (ks ++ [kk]).zip vs1 = putK (ks.zip vs) kk (.ref nl) := by
          have := hl1.symm.trans (upd_same (H := upd H2 nl (.lst [])))
          simpa using this
        have e2 := keyIx_look (j := xs.length) (f := kk) (ks := ks ++ [kk]) (vs := vs1) (w := w) (by rw [← hx]; exact keyIx_app qn) hlen1 ew
        rw [e1, valV_put, if_pos rfl] at e2
        exact (Option.some.inj e2).symm
      subst evw
      have hnl2 : upd (upd H2 nl (.lst [])) l (.dK (putK (ks.zip vs) kk (.ref nl))) nl = some (.lst []) := by
        rw [upd_ne (fun z => nT l hT z.symm), upd_same]
      refine ⟨ty_list hnl2, ?_⟩
      obtain ⟨k2, re2, st2⟩ := mid_upd (ob := .dK (putK (ks.zip vs) kk (.ref nl))) k1 dj re (sb l (t1 l hT)) trivial
      refine (app_fin (tb := tb) (o := o) (cc := cc) (ys := []) (bk := fun y => back (.nd (.dk (ks ++ [kk])) true ((xs ++ [D.nd .lst true []]).set xs.length y))) hv ⟨Z, S1, S2, k2, dj, re2, ⟨U1, U2, fun b z => ?_, fun b z => ?_, uj, F2⟩, r', h', gs_s.step g st2⟩ fun dv e => ?_).imp fun wv H4 ⟨l2, vs2, e2, h2, h3, h4⟩ => ?_
      · exact (u1 b z).elim (fun z => sb b (t1 b z)) fun z => by subst z; exact c2 b hat.1
      · exact (u2 b z).elim (fun z => z.elim (fun z => sb b (t1 b z)) fun z => by subst z; exact c2 b hat.1) fun z => sb b (t2 b z)
      · rw [hm]
        simp only [sdaD, qk, Option.bind_some, qd]
        rw [if_pos hsz, if_pos (by decide)]
        simp
      · exact ⟨l2, vs2, wv, e2, rfl, h2, h3, h4⟩
  · exact m2.none.elim⟩
/-- a.setdefault(k, v), alone -/
theorem cs_sdf [Lay X L tb o k] {root : Nat} {pp : Ps} {mi mv : M} (hp : PPs X L tb o root a pp) (hi : PMs X L tb o root b mi) (hc : PMs X L tb o root c mv) (mm : M2 X a "setdefault" p1 b c p3 := by exact ⟨rfl, rfl, rfl, rfl⟩)
    (hsw : swapsWith (.Call (.Attribute a "setdefault" p1) [b, c] [] p3) none pos.line X.env = pure false := by rfl) :
    PCs X L tb o pr (.Expr (.Call (.Attribute a "setdefault" p1) [b, c] [] p3) pos) (.sdf root pp mi mv) :=
  ⟨fun W tk => PSimp (ps_expr (pe_dsetd (hp.run W tk) (hi.run W tk) (hc.run W tk) mm) hsw) fun Ds σ H h => by
  obtain ⟨e, m⟩ := h.mid
  simp only [exS] at m
  refine sd_start (f := fun acs d ks xs e => bnd (evM tb o mi d root e) fun k e => bnd (evM tb o mv d root e) fun v e =>
    match modD tb.attr (fun x => (sdfD x k v).map fun y => ((), y)) acs d with
    | none => none
    | some (_, d') => some (.val .nx (e.set root (some d')))) m fun vr vc d acs H1 e1 ks xs hv hw m1 => ?_
  have isd : ∃ l kvs, vc = .ref l ∧ H1 l = some (.dK kvs) := by
    obtain ⟨Z, S1, S2, k1, dj, re, ⟨Sa, Sb, a1, a2, aj, _, fo⟩, r', h', g⟩ := m1
    obtain ⟨l, vs, back, T1, T2, ev, nd, hlen, hl, _⟩ := foc_dict fo hw
    exact ⟨l, _, ev, hl⟩
  obtain ⟨l, kvs, rfl, hl0⟩ := isd
  refine ⟨l, rfl, isD_ref hl0, _, _, _, _, e1, vr, d, gp_s Same.refl, stb_n.spl stb_foc, hv, fun Z H S ⟨Sa, Sb, a1, a2, aj, q1, q2⟩ => rep_mono a2 q2.whole, m1, fun yv H2 y e2 m2 => ?_⟩
  refine ⟨_, _, _, _, e2, vr, d, gp_s Same.refl, (stb_n.spl stb_foc).spl stb_rep, hv, fun Z H S ⟨Sc, _, c1, _, _, ⟨Sa, Sb, a1, a2, aj, q1, q2⟩, _⟩ => rep_mono (fun b z => c1 b (a2 b z)) q2.whole, m2, fun zv H3 z e3 m3 => ?_⟩
  obtain ⟨Z, S1, S2, k1, dj, re, ⟨Sab, Sv, b1, b2, bj, ⟨Sc, Sk, c1, c2, cj, ⟨Sa, Sb, a1, a2, aj, _, fo⟩, ry⟩, rv⟩, r', h', g⟩ := m3
  obtain ⟨l', vs, back, T1, T2, ev, nd, hlen, hl, t1, t2, tj, hT, F, rr, hm⟩ := foc_dict fo hw
  cases ev
  have hx : ks.length = xs.length := by rw [hlen, rr.length]
  rw [hm] at h'
  simp only [sdfD] at h'
  cases qk : y.key with
  | none => rw [qk] at h'; cases h'
  | some kk =>
    rw [qk] at h'
    simp only [Option.bind_some] at h'
    have sb : ∀ b, Sb b → S2 b := fun b z => b1 b (c1 b (a2 b z))
    have ml : Mut (H3 l) := by rw [hl]; trivial
    have zl : ∀ b, Z b → b ≠ l := fun b z y => by subst y; exact k1.dj b (.inr (sb b (t1 b hT))) z
    have bj' : ∀ b, Sv b → ¬ Sb b := fun b z y => bj b (c1 b (a2 b y)) z
    by_cases hsz : ks.length < sizeLine
    · rw [if_pos hsz] at h'
      simp only [Option.map_some] at h'
      cases h'
      cases qd : lookD ks xs kk with
      | some dv =>
        rw [qd] at g
        dsimp only at g
        obtain ⟨j, ej, ex⟩ := look_ix qd
        have hj := keyIx_lt ej
        have hval := keyIx_look ej hlen (List.getElem?_eq_getElem (by omega))
        refine ⟨_, kk, hl, key_kV ry qk, by simp; omega, fun v _ => ?_, fun hn => by rw [hval] at hn; cases hn⟩
        refine g σ H3 Z (OrS S1 Sb) (Step.refl fun b z => z.elim .inl fun z => .inr (sb b z)) (k1.mono fun b z => z.elim .inl fun z => .inr (sb b z)) ?_ Same.refl
        exact (re.forget root).put hv (F.put (U := NoAS) fr_refl (fun _ _ _ z => z.elim) (fun _ _ z => z) (fun _ z => z) (fun _ _ z => z) t1 t2 tj F.rep) (fun b z => .inr z) (fun b z => .inl z) fun b z y => dj b y (sb b z)
      | none =>
        rw [qd] at g
        dsimp only at g
        have qn := look_ix0 hx qd
        refine ⟨_, kk, hl, key_kV ry qk, by simp; omega, fun v hvv => (by rw [valV_ix hlen qn] at hvv; cases hvv), fun hn => ?_⟩
        exact mut_go (Sa := Sv) (Sb := Sb) k1 dj re hv F b2 sb bj' t1 t2 tj hT (by exact trivial) (rep_dput nd hlen rr rv (fun b z y => bj' b y (t1 b z)) hT ml zl) g
    · rw [if_neg hsz] at h'; cases h'⟩
theorem strIx_put : ∀ {ns : List Str} {vs : List V} {xs : List D} {f : Str} {v : V} {d : D}, ns.length = vs.length → ns.length = xs.length →
    (∃ j, j < xs.length ∧ putF f v (ns.zip vs) = ns.zip (vs.set j v) ∧ putN ns xs f d = (ns, xs.set j d)) ∨ (putF f v (ns.zip vs) = (ns ++ [f]).zip (vs ++ [v]) ∧ putN ns xs f d = (ns ++ [f], xs ++ [d]))
  | [], [], [], f, v, d, _, _ => .inr ⟨rfl, rfl⟩
  | [], [], x :: xs, f, v, d, _, h => by simp at h
  | [], v' :: vs, xs, f, v, d, h, _ => by simp at h
  | n :: ns, [], xs, f, v, d, h, _ => by simp at h
  | n :: ns, v' :: vs, [], f, v, d, _, h => by simp at h
  | n :: ns, v' :: vs, x :: xs, f, v, d, h1, h2 => by
    simp only [List.zip_cons_cons, putF, putN]
    by_cases c : n = f
    · rw [if_pos c, if_pos c]
      exact .inl ⟨0, by simp, rfl, rfl⟩
    · rw [if_neg c, if_neg c]
      rcases strIx_put (f := f) (v := v) (d := d) (ns := ns) (vs := vs) (xs := xs) (by simpa using h1) (by simpa using h2) with ⟨j, hj, e1, e2⟩ | ⟨e1, e2⟩
      · exact .inl ⟨j + 1, by simpa using hj, by rw [e1]; rfl, by rw [e2]; rfl⟩
      · exact .inr ⟨by rw [e1]; rfl, by rw [e2]; rfl⟩
/-- a.f = v -/
theorem cs_fld [Lay X L tb o k] {root : Nat} {pp : Ps} {f : Str} (ha : PEs X L tb o a ca) (hp : PPs X L tb o root b pp) (hs : swapsWith a (some (.Attribute b f p1)) pos.line X.env = pure false := by rfl) :
    PCs X L tb o pr (.Assign [.Attribute b f p1] a pos) (.fld root pp f ca) :=
  ⟨fun W tk => PSimp (ps_fld (hp.run W tk) (ha.run W tk) hs) fun Ds σ H h => by
  obtain ⟨e, m⟩ := h.mid
  simp only [exS] at m
  refine (m.bind (rep := Rep L) (gp_s Same.refl) stb_n).imp fun v H1 ⟨dv, e1, m1⟩ => ?_
  cases q : e1.at root with
  | none => rw [q] at m1; exact m1.none.elim
  | some d =>
    rw [q] at m1
    obtain ⟨vr, hv, m2⟩ := m1.aside (gp_s Same.refl) q
    refine ⟨_, _, _, _, _, vr, d, gp_s Same.refl, stb_n.spl stb_rep, hv, m2, fun vc H2 acs e2 m3 => ?_⟩
    obtain ⟨Z, S1, S2, k1, dj, re, ⟨Sa', Sb, a1', a2, aj', ⟨Sn, Sa, n1, n2, nj, _, rv⟩, fo⟩, r', h', g⟩ := m3
    have a1 : ∀ b, Sa b → S2 b := fun b z => a1' b (n2 b z)
    have aj : ∀ b, Sa b → ¬ Sb b := fun b z => aj' b (n2 b z)
    split at h'
    · cases h'
    · rename_i r0 d' hm
      cases h'
      obtain ⟨dc, dc', back, T1, T2, t1, t2, tj, F, hf, rfl⟩ := fo.at hm
      simp only [Option.map_eq_some_iff, Prod.mk.injEq, true_and] at hf
      obtain ⟨x, hf, rfl⟩ := hf
      have hrep := F.rep
      cases dc with
      | nd kd ow xs =>
        cases kd with
        | ins c ns =>
          cases ow with
          | false => simp only [fsetD, reduceCtorEq] at hf
          | true =>
            simp only [fsetD] at hf
            split at hf
            · rename_i hc
              cases hf
              simp only [Rep, shapeOk] at hrep
              obtain ⟨l, vs, rfl, ⟨hlen, ⟨dx, hl⟩, _⟩, ho, rr⟩ := hrep
              have hT := ho trivial
              obtain ⟨hcl, hn⟩ := Lay.att (X := X) (L := L) (tb := tb) (o := o) (k := k) c f hc.2
              have ml : Mut (H2 l) := by rw [hl]; trivial
              have zl : ∀ b, Z b → b ≠ l := fun b z y => by subst y; exact k1.dj b (.inr (a2 b (t1 b hT))) z
              have cl : ∀ b, Sa b → b ≠ l := fun b z y => by subst y; exact aj b z (t1 b hT)
              have hx : ns.length = xs.length := by rw [hlen, rr.length]
              refine ⟨l, _, dx, ns.zip vs, rfl, hl, hcl, hn, by simp; omega, ?_⟩
              refine mut_go (Sa := Sa) (Sb := Sb) k1 dj re hv F a1 a2 aj t1 t2 tj hT (by exact trivial) ?_ g
              have r1 : ∀ {ob : HO}, Reps L Z (upd H2 l ob) vs xs (fun b => T1 b ∧ b ≠ l) := reps_frW (U := fun b => b = l) (fun b o e n => by rw [upd_ne n]; exact e) (fun b o e n => by rw [n] at e; rw [e] at ml; exact ml) (fun b z => zl b z) (fun _ z => z) (fun b z => z.2) (reps_mono (fun b z => ⟨z.1, z.2 trivial⟩) rr)
              have r2 : ∀ {ob : HO}, Rep L Z (upd H2 l ob) v dv Sa := kid_upd ml zl cl rv
              simp only [Rep]
              rcases strIx_put (v := v) (d := dv) (f := f) hlen hx with ⟨j, hj, e1, e2⟩ | ⟨e1, e2⟩
              · rw [e1, e2]
                refine ⟨l, vs.set j v, rfl, ⟨by simpa using hlen, ⟨dx, upd_same⟩, fun z => by cases z⟩, fun _ => .inl hT, ?_⟩
                exact reps_set r1 hj r2 (fun b z => ⟨.inl z.1, fun _ => z.2⟩) (fun b z => ⟨.inr z, fun _ => cl b z⟩) fun b z y => aj b y (t1 b z.1)
              · rw [e1, e2]
                refine ⟨l, vs ++ [v], rfl, ⟨by simp [hlen], ⟨dx, upd_same⟩, fun z => by cases z⟩, fun _ => .inl hT, ?_⟩
                exact reps_append (S1 := fun b => T1 b ∧ b ≠ l) (S2 := Sa) (fun b z => ⟨.inl z.1, fun _ => z.2⟩) (fun b z => ⟨.inr z, fun _ => cl b z⟩) (fun b z y => aj b y (t1 b z.1)) r1 (reps_cons (S1 := Sa) (S2 := NoAS) (fun _ z => z) (fun _ z => z.elim) (fun _ _ z => z) r2 reps_nil)
            · cases hf
        | _ => simp only [fsetD, reduceCtorEq] at hf
      | _ => simp only [fsetD, reduceCtorEq] at hf⟩
/-- a name op= e, ints -/
theorem aug_run {op : BOp} {fn : Int → Int → Int} (hop : ∀ x y z, binD op (.int x) y = some z → ∃ j, y = .int j ∧ z = .int (fn x j)) {i : Nat} {Ds : Ends} {σ : St} {H : Hp} (h : tS L W pr (exS tb o pr (.aug i op ca)) Ds σ H) : tAug i (tG L W (Rep L) (evE tb o ca)) (ipI fn) Ds σ H := by
  obtain ⟨e, m⟩ := h.mid
  simp only [exS] at m
  cases q : e.at i with
  | none => rw [q] at m; exact m.none.elim
  | some d =>
    rw [q] at m
    cases d with
    | int x =>
      have hv : σ[i]? = some (some (.int x)) := by
        obtain ⟨Z, S1, S2, k1, dj, re, _, _⟩ := m
        obtain ⟨v, U1, U2, ev, h1, h2, uj, rv, re2⟩ := re.at q
        rw [rep_int rv] at ev
        exact ev
      refine ⟨.int x, hv, ?_⟩
      refine (m.bind (rep := Rep L) (gp_s Same.refl) stb_n).imp fun v H1 ⟨d, e1, m1⟩ => ?_
      cases qb : binD op (.int x) d with
      | none => rw [qb] at m1; exact m1.none.elim
      | some z =>
        rw [qb] at m1
        obtain ⟨j, rfl, rfl⟩ := hop _ _ _ qb
        simp only [storeT] at m1
        by_cases np : pr.contains i = true
        · rw [if_pos np] at m1; exact m1.none.elim
        · rw [if_neg np] at m1
          obtain ⟨Z, S1, S2, k, dj, re, ⟨Sa, Sb, a1, a2, aj, q1, q2⟩, r', h', g⟩ := m1
          cases h'
          refine ⟨x, j, rfl, rep_int q2, ?_⟩
          exact g _ H1 Z S1 (Step.refl fun b z => .inl z) (k.mono fun b z => .inl z) (re.store (S1 := NoAS) (by simp only [Rep]) (fun _ z => z.elim) (fun b z => z) fun _ z => z.elim) fun j hj => by
            rw [set_get, if_neg fun z => np (by subst z; simpa using hj)]
    | _ => exact m.none.elim
theorem cs_aadd (i : Nat) {x : Str} (hN : X.N.Nodup) (ha : PEs X L tb o a ca) (hi : X.N[i]? = some x := by rfl) (hx : Loc X.env.scope x := by first | exact Or.inl rfl | exact Or.inr rfl)
    (hf : X.fn x = true ∨ X.env.scope.names.lookup x = some .local := by first | exact .inl rfl | exact .inr rfl) : PCs X L tb o pr (.AugAssign (.Name x p1) .Add a pos) (.aug i .add ca) :=
  ⟨fun W tk => PSimp (ps_aug hN hi hx (ha.run W tk) ip_add hf) fun Ds σ H h => aug_run (fun x y z hz => by
    cases y <;> simp only [binD, reduceCtorEq, Option.some.injEq] at hz
    exact ⟨_, rfl, hz.symm⟩) h⟩
theorem cs_asub (i : Nat) {x : Str} (hN : X.N.Nodup) (ha : PEs X L tb o a ca) (hi : X.N[i]? = some x := by rfl) (hx : Loc X.env.scope x := by first | exact Or.inl rfl | exact Or.inr rfl)
    (hf : X.fn x = true ∨ X.env.scope.names.lookup x = some .local := by first | exact .inl rfl | exact .inr rfl) : PCs X L tb o pr (.AugAssign (.Name x p1) .Sub a pos) (.aug i .sub ca) :=
  ⟨fun W tk => PSimp (ps_aug hN hi hx (ha.run W tk) ip_sub hf) fun Ds σ H h => aug_run (fun x y z hz => by
    cases y <;> simp only [binD, reduceCtorEq, Option.some.injEq] at hz
    exact ⟨_, rfl, hz.symm⟩) h⟩
end
end PL

/-! PL.Fn: defs; the law. -/
namespace PL
open PySem L2
open PyProof.Rows (envOfC)
/-- what stays of the program while it runs -/
structure Fix (P : Program) (w : World) (K : PySem.W.Frag) (mg : Str → Option Value) (L : Lo) (tb : Tab) : Prop where
  kk : K = L.K
  bi : ∀ x, x ∈ biNames → mg x = none
  top : ∀ f, L.ftop f = true → mg (L.fname f) = some (.ref (L.fadr f))
  ctp : ∀ c, L.ctop c = true → mg (L.cname c) = some (.ref (L.cls c))
  met : ∀ c m f, tb.meth c m = some f → Cls K (L.cls c) ∧ Meth K (L.cls c) m (L.fadr f)
  mak : ∀ c f, tb.init c = some f → Mk K (L.cls c) (L.fadr f)
  att : ∀ c f, tb.attr c f = true → Cls K (L.cls c) ∧ NoAttr K (L.cls c) f
  fn : ∀ f fn, tb.fns[f]? = some fn → PySem.W.keepIn K (.ref (L.fadr f)) = true ∧ Binds K (L.ffd f) (L.fps f) [] ∧ (L.fps f).length = fn.np
def FnAll (P : Program) (w : World) (K : PySem.W.Frag) (mg : Str → Option Value) (base : Heap) (L : Lo) (tb : Tab) (o : Orc) (k : Nat) : Prop :=
  ∀ f fn, tb.fns[f]? = some fn → FnOk P w K mg base (L2.CX P w) k (L.fadr f) (L.ffd f) (L.fps f) (spF L tb o f)
theorem lay_of {P : Program} {w : World} {K : PySem.W.Frag} {mg : Str → Option Value} {base : Heap} {L : Lo} {tb : Tab} {o : Orc} {k : Nat} (F : Fix P w K mg L tb) (A : FnAll P w K mg base L tb o k) {N : List Str} {qual : Str} {scope : Scope} {f : Addr} {cd : Value} {Ar : Around} {outer : List PySem.Env} {s : Shared} {H : Hp} {E : XK}
    (hr : Room (k + 1) (Ar.deeper (envOfC qual scope s.heap.objs.size f cd))) : Lay (cxOf (L2.CX P w) P w K mg base N qual scope f cd Ar outer s H E) L tb o k :=
  ⟨F.kk, rfl, hr, F.bi, F.top, F.ctp, F.met, F.mak, F.att, fun f fn h => ⟨A f fn h, F.fn f fn h⟩⟩
section
variable {L : Lo} {Z : AS} {H : Hp} {σ : St}
theorem finals_set : ∀ {io : List Nat} {e : PL.Env} {i : Nat}, i ∉ io → finals io (e.set i none) = finals io e
  | [], _, _, _ => rfl
  | j :: io, e, i, h => by
    have h1 : i ≠ j := fun z => h (by rw [z]; exact List.mem_cons_self)
    have : Env.at (e.set i none) j = e.at j := by
      unfold Env.at
      rw [set_get, if_neg h1]
    simp only [finals, this, finals_set (fun z => h (List.mem_cons_of_mem _ z))]
theorem reps_finals : ∀ {io : List Nat} {e : PL.Env} {S : AS} {vs : List V} {fs : List D}, RepE L Z H σ e S → finals io e = some fs → io.Nodup → (∀ i ∈ io, σ[i]? = some (some (vs.getD i .non))) → Reps L Z H (ioV io vs) fs S
  | [], e, S, vs, fs, re, h, _, _ => by
    simp only [finals, Option.some.injEq] at h
    subst h
    exact reps_nil
  | i :: io, e, S, vs, fs, re, h, nd, hv => by
    simp only [finals] at h
    cases q : e.at i with
    | none => rw [q] at h; cases h
    | some d =>
      rw [q] at h
      cases q2 : finals io e with
      | none => rw [q2] at h; cases h
      | some ds =>
        rw [q2] at h
        cases h
        rw [List.nodup_cons] at nd
        obtain ⟨v, S1, S2, ev, h1, h2, dj, rv, re2⟩ := re.at q
        rw [hv i List.mem_cons_self] at ev
        cases ev
        have := reps_finals re2 (by rw [finals_set nd.1]; exact q2) nd.2 fun j hj => hv j (List.mem_cons_of_mem _ hj)
        exact reps_cons h1 h2 dj rv this
theorem repE_start : ∀ {ds : List D} {vs : List V} {S : AS} {n : Nat}, Reps L Z H vs ds S → RepE L Z H (vs.map some ++ List.replicate n none) (ds.map some ++ List.replicate n none) S
  | [], vs, S, n, h => by
    simp only [Reps] at h
    subst h
    refine ⟨by simp, fun _ => NoAS, fun _ _ z => z.elim, fun _ _ _ _ z => z.elim, fun i d hd => ?_⟩
    simp only [List.map_nil, List.nil_append, List.getElem?_replicate] at hd
    split at hd <;> cases hd
  | d :: ds, vs, S, n, h => by
    have hl := h.length
    simp only [Reps] at h
    obtain ⟨v, ws, S1, S2, ev, h1, h2, dj, r1, r2⟩ := h
    subst ev
    have ih := repE_start (n := n) r2
    have e0 : RepE L Z H (some v :: (ws.map some ++ List.replicate n none)) (none :: (ds.map some ++ List.replicate n none)) S2 := by
      obtain ⟨F, f1, f2, f3⟩ := ih.ex
      refine ⟨by simpa using ih.len, fun i => match i with | 0 => NoAS | i + 1 => F i, fun i b z => ?_, fun i j b hij z => ?_, fun i d hd => ?_⟩
      · cases i with
        | zero => exact z.elim
        | succ i => exact f1 i b z
      · cases i with
        | zero => exact z.elim
        | succ i =>
          cases j with
          | zero => exact fun y => y.elim
          | succ j => exact f2 i j b (fun c => hij (by rw [c])) z
      · cases i with
        | zero => simp at hd
        | succ i =>
          simp only [List.getElem?_cons_succ] at hd ⊢
          exact f3 i d hd
    have := RepE.put (e := none :: (ds.map some ++ List.replicate n none)) (i := 0) (by simpa using e0) (v := v) (by simp) r1 h1 h2 dj
    simpa using this
end
section
variable {P : Program} {w : World} {K : PySem.W.Frag} {mg : Str → Option Value} {base : Heap} {L : Lo} {tb : Tab}
theorem spF_len {o : Orc} {f : Nat} {fn : Fn} (hf : tb.fns[f]? = some fn) {vs : List V} {H : Hp} {Q : VK} {E : XK} (h : spF L tb o f vs H Q E) : vs.length = fn.np := by
  obtain ⟨fn', Z, S, ds, r, h1, h2, k, rs, _⟩ := h
  rw [hf] at h1
  cases h1
  rw [rs.length, h2]
/-- a def by its body -/
theorem fn_ok {o : Orc} {j f : Nat} {fn : Fn} {x qual : Str} {st : Stmt} {N : List Str} (hf : tb.fns[f]? = some fn) (F : Fun K x qual st (L.fadr f) (L.ffd f)) (S : FnScope N (L.fps f) (defScope st)) (hp : (L.fps f).length = fn.np) (hN : N.length = fn.nl) (hle : fn.np ≤ fn.nl) (hnd : fn.io.Nodup) (hio : ∀ i ∈ fn.io, i < fn.np)
    (hb : ∀ (cdv : Value) (A : Around) (outer : List PySem.Env) (s : Shared) (H : Hp) (E : XK), Room (j + 1) (A.deeper (envOfC qual (defScope st) s.heap.objs.size (L.fadr f) cdv)) → PCss (cxOf (L2.CX P w) P w K mg base N qual (defScope st) (L.fadr f) cdv A outer s H E) L tb o fn.io (defBody st) fn.body) :
    FnOk P w K mg base (L2.CX P w) (j + 2) (L.fadr f) (L.ffd f) (L.fps f) (spF L tb (runFn tb o) f) := by
  refine F.okX S (fun vs H Q E h => by rw [spF_len hf h, hp]) (fun cdv A outer s H vs Q E hr hsp => ?_)
  refine ⟨_, (hb cdv A outer s H E hr).run (fun cls d _ H => E cls d H) (takes_of rfl rfl rfl rfl), ?_⟩
  have hl := spF_len hf hsp
  obtain ⟨fn', Z, S0, ds, r, h1, h2, k, rs, hrun, hgood⟩ := hsp
  rw [hf] at h1
  cases h1
  simp only [runFn, hf, if_pos h2] at hrun
  have hst : L2.start N vs = vs.map some ++ List.replicate (fn.nl - fn.np) none := by
    unfold L2.start
    rw [hN, hl]
  have hslot : ∀ i ∈ fn.io, (L2.start N vs)[i]? = some (some (vs.getD i .non)) := fun i hi => by
    have := hio i hi
    rw [hst, List.getElem?_append_left (by simp; omega), List.getElem?_map, List.getElem?_eq_getElem (by omega)]
    simp [List.getD, List.getElem?_eq_getElem (show i < vs.length by omega)]
  have re := repE_start (n := fn.nl - fn.np) rs
  rw [← hst] at re
  cases q : exSs tb o fn.io fn.body (ds.map some ++ List.replicate (fn.nl - fn.np) none) with
  | none => rw [q] at hrun; cases hrun
  | some r0 =>
    rw [q] at hrun
    refine ⟨Z, S0, _, r0, k, re, q, ?_⟩
    have fin : ∀ {σ' : St} {e : PL.Env} {S1 : AS} {Z' : AS} {H' : Hp} {fs : List D}, RepE L Z' H' σ' e S1 → Same fn.io (L2.start N vs) σ' → finals fn.io e = some fs → Reps L Z' H' (ioV fn.io vs) fs S1 := fun re' sm hfs =>
      reps_finals re' hfs hnd fun i hi => by rw [sm i hi]; exact hslot i hi
    cases r0 with
    | exc xx e =>
      dsimp only at hrun
      cases qf : finals fn.io e with
      | none => rw [qf] at hrun; cases hrun
      | some fs =>
        rw [qf] at hrun
        cases hrun
        exact fun σ' cls dd H' Z' S1 a k' re' sm rx => hgood cls dd H' Z' S1 a k' (fin re' sm qf) rx
    | val fl e =>
      cases fl with
      | nx =>
        dsimp only at hrun
        cases qf : finals fn.io e with
        | none => rw [qf] at hrun; cases hrun
        | some fs =>
          rw [qf] at hrun
          cases hrun
          exact fun σ' H' Z' S1 a k' re' sm => hgood .non H' Z' S1 NoAS (a.trans (Step.refl fun b z => z.elim id fun z => z.elim)) k'.noOr (fun _ _ z => z) (fin re' sm qf) (by simp only [Rep])
      | rt d =>
        dsimp only at hrun
        cases qf : finals fn.io e with
        | none => rw [qf] at hrun; cases hrun
        | some fs =>
          rw [qf] at hrun
          cases hrun
          exact fun σ' v H' Z' S1 S2 a k' dj re' rv sm => hgood v H' Z' S1 S2 a k' dj (fin re' sm qf) rv
      | bk => cases hrun
      | ct => cases hrun
theorem olen : ∀ k, OLen tb (callF tb k)
  | 0 => fun f fn hf ds h => by simp only [callF] at h; exact absurd rfl h
  | k + 1 => fun f fn hf ds h => by
    simp only [callF, runFn, hf] at h
    by_cases c : ds.length = fn.np
    · exact c
    · rw [if_neg c] at h; exact absurd rfl h
/-- all defs, by the depth of calls -/
theorem fn_all (F : Fix P w K mg L tb) (h : ∀ (o : Orc) (j : Nat), OLen tb o → FnAll P w K mg base L tb o j → FnAll P w K mg base L tb (runFn tb o) (j + 2)) : ∀ k, FnAll P w K mg base L tb (callF tb k) (2 * k)
  | 0 => fun f fn hf => ⟨fun vs H Q E q => by rw [spF_len hf q, (F.fn f fn hf).2.2], fun A outer s H args us vs Q E _ _ _ _ q => by
    obtain ⟨fn', Z, S0, ds, r, h1, h2, k, rs, hrun, hgood⟩ := q
    simp only [callF] at hrun
    cases hrun⟩
  | k + 1 => by
    have := h (callF tb k) (2 * k) (olen k) (fn_all F h k)
    exact this
/-- what the law is to promise -/
def spL (K : PySem.W.Frag) : Sp := fun vs H Q _ => ∃ (a : Addr) (ns : List Int), vs = [.ref a] ∧ ((∃ o, H a = some (.frz o (.lst (ns.map V.int)))) ∨ KForm K "list" a (ns.map V.int)) ∧ ns.length ≤ 63 ∧ ∀ H', Q (.bl true) H'
abbrev scriptD (ns : List Int) : D := .nd .cl false (ns.map .int)
theorem law_fn {k f : Nat} {fn : Fn} {ps : List Str} (hf : tb.fns[f]? = some fn) (hnp : fn.np = 1) (hio : fn.io = []) (hps : L.fps f = ps) (A : FnAll P w K mg base L tb (callF tb k) (2 * k)) (h : ∀ ns : List Int, ns.length ≤ 63 → callF tb k f [scriptD ns] = some (.val (.bl true) [])) :
    FnOk P w K mg base (L2.CX P w) (2 * k) (L.fadr f) (L.ffd f) ps (spL L.K) := by
  subst hps
  refine (A f fn hf).imp fun vs H Q E ⟨a, ns, e, hz, hl, q⟩ => ?_
  subst e
  refine ⟨fn, NoAS, NoAS, [scriptD ns], _, hf, by rw [hnp]; rfl, ⟨fun _ _ z => z, fun _ z => z.elim, fun _ z => z.elim⟩, ?_, h ns hl, ?_⟩
  · refine reps_cons (S1 := NoAS) (S2 := NoAS) (fun _ z => z) (fun _ z => z) (fun _ _ z => z) ?_ reps_nil
    simp only [Rep]
    exact ⟨a, _, rfl, ⟨rfl, hz⟩, fun z => (by cases z), reps_of_ints ns⟩
  · intro v H' Z' S1 S2 _ _ _ _ rv
    rw [rep_bl rv]
    exact q H'
theorem fz_of {K : PySem.W.Frag} {H : Hp} {a : Addr} {vs : List V} (ho : Only H) (h : SqL K H a vs) : (∃ o, H a = some (.frz o (.lst vs))) ∨ KForm K "list" a vs := by
  rcases h with (h | ⟨o, h⟩) | ⟨o, its, n, h1, h2, h3, h4, h5, h6⟩
  · rcases ho a with z | ⟨o, xs, z⟩
    · rw [z] at h; cases h
    · rw [z] at h; cases h
  · exact .inl ⟨o, h⟩
  · exact .inr ⟨o, its, n, h1, h2, h3, h4, h5, h6⟩
theorem cx_false {P : Program} {w : World} {outer : List PySem.Env} {H : Hp} {s s' : Shared} {e : Value} (h : L2.CX P w outer H s (fun _ _ _ => False) e s') : False := by
  obtain ⟨_, _, _, _, _, _, _, _, _, _, _, _, z⟩ := h
  exact z
end
end PL

set_option autoImplicit true
set_option relaxedAutoImplicit true
/-! PL.Ev: the small language's run, equation by equation (for simp). -/
namespace PL
open PySem L2
section
variable {tb : Tab} {o : Orc} {pr : List Nat} {cond : C}
@[simp] theorem eq_evE_1 : evE tb o (.nop) e = (some (.val .non e)) := by rw [evE] <;> rfl
@[simp] theorem eq_evE_2 : evE tb o (.var i) e = (match e.at i with
    | none => none
    | some d => if d.fz then some (.val d e) else some (.val d.frz (e.set i (some d.frz)))) := by rw [evE] <;> rfl
@[simp] theorem eq_evE_3 : evE tb o (.mv i) e = (match e.at i with
    | none => none
    | some d => some (.val d (e.set i none))) := by rw [evE] <;> rfl
@[simp] theorem eq_evE_4 : evE tb o (.non) e = (some (.val .non e)) := by rw [evE] <;> rfl
@[simp] theorem eq_evE_5 : evE tb o (.bl b) e = (some (.val (.bl b) e)) := by rw [evE] <;> rfl
@[simp] theorem eq_evE_6 : evE tb o (.int i) e = (some (.val (.int i) e)) := by rw [evE] <;> rfl
@[simp] theorem eq_evE_7 : evE tb o (.str x) e = (some (.val (.str x) e)) := by rw [evE] <;> rfl
@[simp] theorem eq_evE_8 : evE tb o (.view is a) e = (viewOut (evE tb o a (viewEnv is 0 e)) e) := by rw [evE] <;> rfl
@[simp] theorem eq_evE_9 : evE tb o (.tup es) e = (bnd (evEs tb o es e) fun ds e => if ds.length ≤ sizeLine then some (.val (.nd .tup false ds) e) else none) := by rw [evE] <;> rfl
@[simp] theorem eq_evE_10 : evE tb o (.lst es) e = (bnd (evEs tb o es e) fun ds e => if ds.length ≤ sizeLine then some (.val (.nd .lst true ds) e) else none) := by rw [evE] <;> rfl
@[simp] theorem eq_evE_11 : evE tb o (.dnew) e = (some (.val (.nd (.dk []) true []) e)) := by rw [evE] <;> rfl
@[simp] theorem eq_evE_12 : evE tb o (.ddisp a b) e = (bnd (evE tb o a e) fun x e => bnd (evE tb o b e) fun y e => match x.key with
    | none => none
    | some kk => some (.val (.nd (.dk [kk]) true [y]) e)) := by rw [evE] <;> rfl
@[simp] theorem eq_evE_13 : evE tb o (.un op a) e = (bnd (evE tb o a e) fun d e => opt (unD op d) e) := by rw [evE] <;> rfl
@[simp] theorem eq_evE_14 : evE tb o (.bin op a b) e = (bnd (evE tb o a e) fun x e => bnd (evE tb o b e) fun y e => opt (binD op x y) e) := by rw [evE] <;> rfl
@[simp] theorem eq_evE_15 : evE tb o (.cmp op a b) e = (bnd (evE tb o a e) fun x e => bnd (evE tb o b e) fun y e => opt ((cmpD op x y).map .bl) e) := by rw [evE] <;> rfl
@[simp] theorem eq_evE_16 : evE tb o (.chain op op' a b c) e = (bnd (evE tb o a e) fun x e => bnd (evE tb o b e) fun y e => match cmpD op x y with
    | none => none
    | some false => some (.val (.bl false) e)
    | some true => bnd (evE tb o c e) fun z e => opt ((cmpD op' y z).map .bl) e) := by rw [evE] <;> rfl
@[simp] theorem eq_evE_17 : evE tb o (.and a b) e = (bnd (evE tb o a e) fun x e => match x with
    | .bl true => evE tb o b e
    | .bl false => some (.val (.bl false) e)
    | _ => none) := by rw [evE] <;> rfl
@[simp] theorem eq_evE_18 : evE tb o (.or a b) e = (bnd (evE tb o a e) fun x e => match x with
    | .bl false => evE tb o b e
    | .bl true => some (.val (.bl true) e)
    | _ => none) := by rw [evE] <;> rfl
@[simp] theorem eq_evE_19 : evE tb o (.ife t a b) e = (bnd (evT tb o t e) fun c e => if c then evE tb o a e else evE tb o b e) := by rw [evE] <;> rfl
@[simp] theorem eq_evE_20 : evE tb o (.sub a i) e = (bnd (evE tb o a e) fun x e => bnd (evE tb o i e) fun y e => opt (subD x y) e) := by rw [evE] <;> rfl
@[simp] theorem eq_evE_21 : evE tb o (.slc a lo hi) e = (bnd (evE tb o a e) fun x e => bnd (evE tb o lo e) fun l e => match partE lo l with
    | none => none
    | some l' => bnd (evE tb o hi e) fun h e => opt ((partE hi h).bind (cutOf x l')) e) := by rw [evE] <;> rfl
@[simp] theorem eq_evE_22 : evE tb o (.fld a f) e = (bnd (evE tb o a e) fun x e => opt (fldD tb.attr x f) e) := by rw [evE] <;> rfl
@[simp] theorem eq_evE_23 : evE tb o (.call f es) e = (bnd (evAs tb o es e) fun as e => runCall tb o f as e) := by rw [evE] <;> rfl
@[simp] theorem eq_evE_24 : evE tb o (.meth m a es) e = (bnd (evE tb o a e) fun x e => match x with
    | .nd (.ins c ns) _ _ => match tb.meth c m with
      | none => none
      | some f => if ns.contains m then none else bnd (evAs tb o es e) fun as e => runCall tb o f (.d x :: as) e
    | _ => none) := by rw [evE] <;> rfl
@[simp] theorem eq_evE_25 : evE tb o (.methR m i es) e = (match e.at i with
    | some (.nd (.ins c ns) _ _) => match tb.meth c m with
      | none => none
      | some f => if ns.contains m then none else bnd (evAs tb o es e) fun as e => runCall tb o f (.r i :: as) e
    | _ => none) := by rw [evE] <;> rfl
@[simp] theorem eq_evE_26 : evE tb o (.mk c es) e = (bnd (evEs tb o es e) fun ds e => match tb.init c with
    | none => none
    | some f => if (tb.fns[f]?).map (·.io) = some [0] then
        match o f (.nd (.ins c []) true [] :: ds.map D.frz) with
        | some (.val .non [x]) => some (.val x e)
        | some (.exc x [_]) => some (.exc x e)
        | _ => none
      else none) := by rw [evE] <;> rfl
@[simp] theorem eq_evE_27 : evE tb o (.bi b a) e = (bnd (evE tb o a e) fun x e => opt (biD b x) e) := by rw [evE] <;> rfl
@[simp] theorem eq_evE_28 : evE tb o (.bi2 mx a b) e = (bnd (evE tb o a e) fun x e => bnd (evE tb o b e) fun y e => opt (bi2D mx x y) e) := by rw [evE] <;> rfl
@[simp] theorem eq_evE_29 : evE tb o (.bm b a es) e = (bnd (evE tb o a e) fun x e => if okB b x then bnd (evEs tb o es e) fun ds e => opt (bmD b x ds) e else none) := by rw [evE] <;> rfl
@[simp] theorem eq_evE_30 : evE tb o (.mu b root p es) e = (match e.at root with
    | none => none
    | some d => bnd (evPs tb o p d root (e.set root none)) fun acs e => match walkD tb.attr acs d with
      | some (.nd .lst true _) => bnd (evMs tb o es d root e) fun ds e =>
        match modD tb.attr (fun x => muD b x ds) acs d with
        | none => none
        | some (r, d') => some (.val r (e.set root (some d')))
      | _ => none) := by rw [evE] <;> rfl
@[simp] theorem eq_evE_31 : evE tb o (.isi a ts) e = (bnd (evE tb o a e) fun x e => opt ((isD x ts).map .bl) e) := by rw [evE] <;> rfl
@[simp] theorem eq_evE_32 : evE tb o (.lc elt tg it cond own) e = (bnd (evI tb o it e) fun xs e =>
      match loopC (fun x e => storeT [] tg x e) (fun e => evT tb o cond e) (fun e => evE tb o elt e) own xs (wipeE e own) with
      | none => none
      | some (ds, e) => if ds.length ≤ sizeLine then some (.val (.nd .lst true ds) e) else none) := by rw [evE] <;> rfl
@[simp] theorem eq_evT_33 : evT tb o (.tt) e = (some (.val true e)) := by rw [evT] <;> rfl
@[simp] theorem eq_evT_34 : evT tb o (.and a b) e = (bnd (evT tb o a e) fun c e => if c then evT tb o b e else some (.val false e)) := by rw [evT] <;> rfl
@[simp] theorem eq_evT_35 : evT tb o (.or a b) e = (bnd (evT tb o a e) fun c e => if c then some (.val true e) else evT tb o b e) := by rw [evT] <;> rfl
@[simp] theorem eq_evT_36 : evT tb o (.not a) e = (bnd (evT tb o a e) fun c e => some (.val (!c) e)) := by rw [evT] <;> rfl
@[simp] theorem eq_evT_37 : evT tb o (.view is a) e = (match evT tb o a (viewEnv is 0 e) with
    | some (.val c _) => some (.val c e)
    | _ => none) := by rw [evT] <;> rfl
@[simp] theorem eq_evT_38 : evT tb o (.e a) e = (bnd (evE tb o a e) fun x e => opt (truth x) e) := by rw [evT] <;> rfl
@[simp] theorem eq_evEs_39 : evEs tb o (.n) e = (some (.val [] e)) := by rw [evEs] <;> rfl
@[simp] theorem eq_evEs_40 : evEs tb o (.c a es) e = (bnd (evE tb o a e) fun x e => bnd (evEs tb o es e) fun xs e => some (.val (x :: xs) e)) := by rw [evEs] <;> rfl
@[simp] theorem eq_evEs_41 : evEs tb o (.io u0 u1) x1 = (none) := by rw [evEs] <;> rfl
@[simp] theorem eq_evAs_42 : evAs tb o (.n) e = (some (.val [] e)) := by rw [evAs] <;> rfl
@[simp] theorem eq_evAs_43 : evAs tb o (.c a es) e = (bnd (evE tb o a e) fun x e => bnd (evAs tb o es e) fun xs e => some (.val (.d x :: xs) e)) := by rw [evAs] <;> rfl
@[simp] theorem eq_evAs_44 : evAs tb o (.io i es) e = (match e.at i with
    | none => none
    | some _ => bnd (evAs tb o es e) fun xs e => some (.val (.r i :: xs) e)) := by rw [evAs] <;> rfl
@[simp] theorem eq_evM_45 : evM tb o (.v is a) d root e = (viewOut (evE tb o a (viewEnv is 0 (e.set root (some d)))) e) := by rw [evM] <;> rfl
@[simp] theorem eq_evM_46 : evM tb o (.h a) x1 x2 e = (evE tb o a e) := by rw [evM] <;> rfl
@[simp] theorem eq_evMs_47 : evMs tb o (.n) x1 x2 e = (some (.val [] e)) := by rw [evMs] <;> rfl
@[simp] theorem eq_evMs_48 : evMs tb o (.c a es) d root e = (bnd (evM tb o a d root e) fun x e => bnd (evMs tb o es d root e) fun xs e => some (.val (x :: xs) e)) := by rw [evMs] <;> rfl
@[simp] theorem eq_evPs_49 : evPs tb o (.n) x1 x2 e = (some (.val [] e)) := by rw [evPs] <;> rfl
@[simp] theorem eq_evPs_50 : evPs tb o (.fld p f) d root e = (bnd (evPs tb o p d root e) fun as e => if (walkD tb.attr (as ++ [.fld f]) d).isSome then some (.val (as ++ [.fld f]) e) else none) := by rw [evPs] <;> rfl
@[simp] theorem eq_evPs_51 : evPs tb o (.ix p a) d root e = (bnd (evPs tb o p d root e) fun as e => bnd (evM tb o a d root e) fun x e => if (walkD tb.attr (as ++ [.ix x]) d).isSome then some (.val (as ++ [.ix x]) e) else none) := by rw [evPs] <;> rfl
@[simp] theorem eq_evI_52 : evI tb o (.seqL a) e = (bnd (evE tb o a e) fun x e => match seqD x.frz with
    | some xs => if isLst x then some (.val xs e) else none
    | none => none) := by rw [evI] <;> rfl
@[simp] theorem eq_evI_53 : evI tb o (.seqT a) e = (bnd (evE tb o a e) fun x e => match seqD x.frz with
    | some xs => if isLst x then none else some (.val xs e)
    | none => none) := by rw [evI] <;> rfl
@[simp] theorem eq_evI_54 : evI tb o (.rng a) e = (bnd (evE tb o a e) fun x e => match x with
    | .int j => if okR 0 j then some (.val (rangeD 0 j) e) else none
    | _ => none) := by rw [evI] <;> rfl
@[simp] theorem eq_evI_55 : evI tb o (.rng2 a b) e = (bnd (evE tb o a e) fun x e => bnd (evE tb o b e) fun y e => match x, y with
    | .int i, .int j => if okR i j then some (.val (rangeD i j) e) else none
    | _, _ => none) := by rw [evI] <;> rfl
@[simp] theorem eq_evI_56 : evI tb o (.rng3 u0 u1 u2) x1 = (none) := by rw [evI] <;> rfl
@[simp] theorem eq_evI_57 : evI tb o (.enm a) e = (bnd (evE tb o a e) fun x e => match seqD x.frz with
    | some xs => some (.val (xs.mapIdx fun i d => .nd .tup false [.int i, d]) e)
    | none => none) := by rw [evI] <;> rfl
@[simp] theorem eq_evI_58 : evI tb o (.zip a b) e = (bnd (evE tb o a e) fun x e => bnd (evE tb o b e) fun y e => match seqD x.frz, seqD y.frz with
    | some xs, some ys => some (.val ((xs.zip ys).map fun p => .nd .tup false [p.1, p.2]) e)
    | _, _ => none
) := by rw [evI] <;> rfl
@[simp] theorem eq_exS_59 : exS tb o pr (.asg t a) e = (bnd (evE tb o a e) fun x e => nxt (storeT pr t x e)) := by rw [exS] <;> rfl
@[simp] theorem eq_exS_60 : exS tb o pr (.par i j a b) e = (bnd (evE tb o a e) fun x e => bnd (evE tb o b e) fun y e => nxt ((storeT pr (.v i) x e).bind (storeT pr (.v j) y))) := by rw [exS] <;> rfl
@[simp] theorem eq_exS_61 : exS tb o pr (.sub root p i a) e = (bnd (evE tb o a e) fun v e => match e.at root with
    | none => none
    | some d => bnd (evPs tb o p d root (e.set root none)) fun acs e => bnd (evM tb o i d root e) fun k e =>
      match modD tb.attr (fun x => (setD x k v).map fun y => ((), y)) acs d with
      | none => none
      | some (_, d') => some (.val .nx (e.set root (some d')))) := by rw [exS] <;> rfl
@[simp] theorem eq_exS_62 : exS tb o pr (.fld root p f a) e = (bnd (evE tb o a e) fun v e => match e.at root with
    | none => none
    | some d => bnd (evPs tb o p d root (e.set root none)) fun acs e =>
      match modD tb.attr (fun x => (fsetD tb.attr x f v).map fun y => ((), y)) acs d with
      | none => none
      | some (_, d') => some (.val .nx (e.set root (some d')))) := by rw [exS] <;> rfl
@[simp] theorem eq_exS_63 : exS tb o pr (.sdf root p k a) e = (match e.at root with
    | none => none
    | some d => bnd (evPs tb o p d root (e.set root none)) fun acs e => match walkD tb.attr acs d with
      | some (.nd (.dk _) true _) => bnd (evM tb o k d root e) fun k e => bnd (evM tb o a d root e) fun v e =>
        match modD tb.attr (fun x => (sdfD x k v).map fun y => ((), y)) acs d with
        | none => none
        | some (_, d') => some (.val .nx (e.set root (some d')))
      | _ => none) := by rw [exS] <;> rfl
@[simp] theorem eq_exS_64 : exS tb o pr (.sda root p k a) e = (match e.at root with
    | none => none
    | some d => bnd (evPs tb o p d root (e.set root none)) fun acs e => match walkD tb.attr acs d with
      | some (.nd (.dk ks) true xs) => bnd (evM tb o k d root e) fun k e => if sdaOk ks xs k then bnd (evE tb o a e) fun v e =>
        match modD tb.attr (fun x => (sdaD x k v).map fun y => ((), y)) acs d with
        | none => none
        | some (_, d') => some (.val .nx (e.set root (some d')))
        else none
      | _ => none) := by rw [exS] <;> rfl
@[simp] theorem eq_exS_65 : exS tb o pr (.aug i op a) e = (match e.at i with
    | some (.int x) => bnd (evE tb o a e) fun y e => match binD op (.int x) y with
      | some z => nxt (storeT pr (.v i) z e)
      | none => none
    | _ => none) := by rw [exS] <;> rfl
@[simp] theorem eq_exS_66 : exS tb o pr (.ex a) e = (bnd (evE tb o a e) fun _ e => some (.val .nx e)) := by rw [exS] <;> rfl
@[simp] theorem eq_exS_67 : exS tb o pr (.ret a) e = (bnd (evE tb o a e) fun x e => some (.val (.rt x) e)) := by rw [exS] <;> rfl
@[simp] theorem eq_exS_68 : exS tb o pr (.retN) e = (some (.val (.rt .non) e)) := by rw [exS] <;> rfl
@[simp] theorem eq_exS_69 : exS tb o pr (.ite t a b) e = (bnd (evT tb o t e) fun c e => if c then exSs tb o pr a e else exSs tb o pr b e) := by rw [exS] <;> rfl
@[simp] theorem eq_exS_70 : exS tb o pr (.for t it body) e = (bnd (evI tb o it e) fun xs e => loopF (fun x e => storeT pr t x e) (fun e => exSs tb o pr body e) xs e) := by rw [exS] <;> rfl
@[simp] theorem eq_exS_71 : exS tb o pr (.whl t body) e = (loopW (fun e => evT tb o t e) (fun e => exSs tb o pr body e) whileMost e) := by rw [exS] <;> rfl
@[simp] theorem eq_exS_72 : exS tb o pr (.brk) e = (some (.val .bk e)) := by rw [exS] <;> rfl
@[simp] theorem eq_exS_73 : exS tb o pr (.cnt) e = (some (.val .ct e)) := by rw [exS] <;> rfl
@[simp] theorem eq_exS_74 : exS tb o pr (.pas) e = (some (.val .nx e)) := by rw [exS] <;> rfl
@[simp] theorem eq_exS_75 : exS tb o pr (.rse u0 u1) x1 = (none) := by rw [exS] <;> rfl
@[simp] theorem eq_exS_76 : exS tb o pr (.bad) x1 = (none) := by rw [exS] <;> rfl
@[simp] theorem eq_exSs_77 : exSs tb o pr [] e = (some (.val .nx e)) := by rw [exSs] <;> rfl
@[simp] theorem eq_exSs_78 : exSs tb o pr (s :: ss) e = (bnd (exS tb o pr s e) fun f e1 => match f with
    | .nx => exSs tb o pr ss e1
    | f => some (.val f e1)
) := by rw [exSs] <;> rfl
end
end PL
namespace PL
open PySem L2
@[simp] theorem at_zero (x : Option D) (e : Env) : Env.at (x :: e) 0 = x := of_eq_true (eq_self _)
@[simp] theorem at_succ (x : Option D) (e : Env) (n : Nat) : Env.at (x :: e) (n + 1) = Env.at e n := of_eq_true (eq_self _)
@[simp] theorem opt_some {α : Type} (x : α) (e : Env) : opt (some x) e = some (.val x e) := of_eq_true (eq_self _)
@[simp] theorem opt_none {α : Type} (e : Env) : opt (none : Option α) e = none := of_eq_true (eq_self _)
@[simp] theorem nxt_some (e : Env) : nxt (some e) = some (.val .nx e) := of_eq_true (eq_self _)
@[simp] theorem nxt_none : nxt none = none := of_eq_true (eq_self _)
@[simp] theorem storeT_v (i : Nat) (d : D) (e : Env) : storeT [] (.v i) d e = some (e.set i (some d)) := by simp [storeT]
@[simp] theorem storeT_t (pr : List Nat) (ts : List T) (ow : Bool) (xs : List D) (e : Env) : storeT pr (.t ts) (.nd .tup ow xs) e = storeTs pr ts xs e := by simp [storeT]
@[simp] theorem storeTs_n (pr : List Nat) (e : Env) : storeTs pr [] [] e = some e := by simp [storeTs]
@[simp] theorem storeTs_c (pr : List Nat) (t : T) (ts : List T) (d : D) (ds : List D) (e : Env) : storeTs pr (t :: ts) (d :: ds) e = (storeT pr t d e).bind (storeTs pr ts ds) := by simp [storeTs]
@[simp] theorem loopF_n (tg : D → Env → Option Env) (b : Env → SR) (e : Env) : loopF tg b [] e = some (.val .nx e) := of_eq_true (eq_self _)
@[simp] theorem loopC_n (tg : D → Env → Option Env) (c : Env → R Bool) (b : Env → R D) (own : List Nat) (e : Env) : loopC tg c b own [] e = some ([], e) := of_eq_true (eq_self _)
@[simp] theorem wipe_n (e : Env) : wipeE e [] = e := of_eq_true (eq_self _)
@[simp] theorem wipe_c (e : Env) (v : Nat) (vs : List Nat) : wipeE e (v :: vs) = (wipeE e vs).set v none := of_eq_true (eq_self _)
@[simp] theorem fz_int (i : Int) : (D.int i).fz = true := of_eq_true (eq_self _)
@[simp] theorem fz_bl (i : Bool) : (D.bl i).fz = true := of_eq_true (eq_self _)
@[simp] theorem fz_str (i : Str) : (D.str i).fz = true := of_eq_true (eq_self _)
@[simp] theorem fz_non : (D.non).fz = true := of_eq_true (eq_self _)
@[simp] theorem fz_nd (k : Kd) (ow : Bool) (xs : List D) : (D.nd k ow xs).fz = (!ow && fzL xs) := of_eq_true (eq_self _)
@[simp] theorem fzL_n : fzL [] = true := of_eq_true (eq_self _)
@[simp] theorem fzL_c (x : D) (xs : List D) : fzL (x :: xs) = (x.fz && fzL xs) := of_eq_true (eq_self _)
@[simp] theorem frz_int (i : Int) : (D.int i).frz = .int i := of_eq_true (eq_self _)
@[simp] theorem frz_bl (i : Bool) : (D.bl i).frz = .bl i := of_eq_true (eq_self _)
@[simp] theorem frz_str (i : Str) : (D.str i).frz = .str i := of_eq_true (eq_self _)
@[simp] theorem frz_non : (D.non).frz = .non := of_eq_true (eq_self _)
@[simp] theorem frz_nd (k : Kd) (ow : Bool) (xs : List D) : (D.nd k ow xs).frz = .nd k false (frzL xs) := of_eq_true (eq_self _)
@[simp] theorem frzL_n : frzL [] = [] := of_eq_true (eq_self _)
@[simp] theorem frzL_c (x : D) (xs : List D) : frzL (x :: xs) = x.frz :: frzL xs := of_eq_true (eq_self _)
@[simp] theorem nf_int (i : Int) : (D.int i).nf = true := of_eq_true (eq_self _)
@[simp] theorem nf_bl (i : Bool) : (D.bl i).nf = true := of_eq_true (eq_self _)
@[simp] theorem nf_str (i : Str) : (D.str i).nf = true := of_eq_true (eq_self _)
@[simp] theorem nf_non : (D.non).nf = true := of_eq_true (eq_self _)
@[simp] theorem nf_tup (ow : Bool) (xs : List D) : (D.nd .tup ow xs).nf = nfL xs := of_eq_true (eq_self _)
@[simp] theorem nf_cl (ow : Bool) (xs : List D) : (D.nd .cl ow xs).nf = nfL xs := of_eq_true (eq_self _)
@[simp] theorem nf_lst (ow : Bool) (xs : List D) : (D.nd .lst ow xs).nf = (ow && nfL xs) := of_eq_true (eq_self _)
@[simp] theorem nfL_n : nfL [] = true := of_eq_true (eq_self _)
@[simp] theorem nfL_c (x : D) (xs : List D) : nfL (x :: xs) = (x.nf && nfL xs) := of_eq_true (eq_self _)
@[simp] theorem frzL_ints (l : List Int) : frzL (l.map D.int) = l.map D.int := by
  induction l with
  | nil => rfl
  | cons a l ih => simp [ih]
@[simp] theorem fzL_ints (l : List Int) : fzL (l.map D.int) = true := by
  induction l with
  | nil => rfl
  | cons a l ih => simp [ih]
@[simp] theorem frz_frz (d : D) : d.frz.frz = d.frz := frz_of_fz _ (frz_fz d)
@[simp] theorem frz_fz' (d : D) : d.frz.fz = true := frz_fz d
@[simp] theorem frzL_frzL (d : List D) : frzL (frzL d) = frzL d := frzL_of_fz _ (frzL_fz d)
@[simp] theorem frzL_fz' (d : List D) : fzL (frzL d) = true := frzL_fz d
@[simp] theorem frzL_app (a b : List D) : frzL (a ++ b) = frzL a ++ frzL b := frzL_append a b
@[simp] theorem fzL_app (a b : List D) : fzL (a ++ b) = (fzL a && fzL b) := fzL_append a b
@[simp] theorem viewOut_val (d : D) (e' e : Env) : viewOut (some (.val d e')) e = if d.nf then some (.val d e) else none := of_eq_true (eq_self _)
@[simp] theorem viewEnv_n (is : List Nat) (k : Nat) : viewEnv is k [] = [] := of_eq_true (eq_self _)
@[simp] theorem viewEnv_c (is : List Nat) (k : Nat) (x : Option D) (e : Env) : viewEnv is k (x :: e) = (if is.contains k then x.map D.frz else none) :: viewEnv is (k + 1) e := of_eq_true (eq_self _)
@[simp] theorem intsD_map (l : List Int) : intsD (l.map D.int) = some l := by
  induction l with
  | nil => rfl
  | cons a l ih => simp [intsD, ih]
theorem loopF_turn {tg : D → Env → Option Env} {b : Env → SR} {x : D} {xs : List D} {e e1 e2 : Env} (h1 : tg x e = some e1) (h2 : b e1 = some (.val .nx e2)) : loopF tg b (x :: xs) e = loopF tg b xs e2 := by simp only [loopF, h1, h2, bnd_val]
theorem loopF_ret {tg : D → Env → Option Env} {b : Env → SR} {x d : D} {xs : List D} {e e1 e2 : Env} (h1 : tg x e = some e1) (h2 : b e1 = some (.val (.rt d) e2)) : loopF tg b (x :: xs) e = some (.val (.rt d) e2) := by simp only [loopF, h1, h2, bnd_val]
theorem loopC_yes {tg : D → Env → Option Env} {c : Env → R Bool} {b : Env → R D} {own : List Nat} {x d : D} {xs : List D} {e e1 e2 e3 : Env} (h1 : tg x e = some e1) (h2 : c e1 = some (.val true e2)) (h3 : b e2 = some (.val d e3)) : loopC tg c b own (x :: xs) e = (loopC tg c b own xs (wipeE e3 own)).map fun (ds, e4) => (d :: ds, e4) := by simp only [loopC, h1, h2, h3]
theorem loopC_no {tg : D → Env → Option Env} {c : Env → R Bool} {b : Env → R D} {own : List Nat} {x : D} {xs : List D} {e e1 e2 : Env} (h1 : tg x e = some e1) (h2 : c e1 = some (.val false e2)) : loopC tg c b own (x :: xs) e = loopC tg c b own xs (wipeE e2 own) := by simp only [loopC, h1, h2]
theorem call_succ (tb : Tab) (k f : Nat) (ds : List D) : callF tb (k + 1) f ds = runFn tb (callF tb k) f ds := rfl
section
set_option autoImplicit true
set_option relaxedAutoImplicit true
@[simp] theorem op_truth_1 : truth .non = (some false) := by first | exact of_eq_true (eq_self _) | simp only [truth] | (cases a <;> rfl)
@[simp] theorem op_truth_2 : truth (.bl b) = (some b) := by first | exact of_eq_true (eq_self _) | simp only [truth] | (cases a <;> rfl)
@[simp] theorem op_truth_3 : truth (.int i) = (some (i != 0)) := by first | exact of_eq_true (eq_self _) | simp only [truth] | (cases a <;> rfl)
@[simp] theorem op_truth_4 : truth (.str x) = (if x.length ≤ sizeLine then some (x.length != 0) else none) := by first | exact of_eq_true (eq_self _) | simp only [truth] | (cases a <;> rfl)
@[simp] theorem op_truth_5 : truth (.nd .tup u0 xs) = (some (!xs.isEmpty)) := by first | exact of_eq_true (eq_self _) | simp only [truth] | (cases a <;> rfl)
@[simp] theorem op_truth_6 : truth (.nd .lst u0 xs) = (some (!xs.isEmpty)) := by first | exact of_eq_true (eq_self _) | simp only [truth] | (cases a <;> rfl)
@[simp] theorem op_truth_7 : truth (.nd .cl u0 xs) = (some (!xs.isEmpty)) := by first | exact of_eq_true (eq_self _) | simp only [truth] | (cases a <;> rfl)
@[simp] theorem op_truth_8 : truth (.nd (.dk ks) u0 u1) = (some (!ks.isEmpty)) := by first | exact of_eq_true (eq_self _) | simp only [truth] | (cases a <;> rfl)
@[simp] theorem op_D_key_9 : D.key (.int i) = (some (.inl i)) := by first | exact of_eq_true (eq_self _) | simp only [D.key] | (cases a <;> rfl)
@[simp] theorem op_D_key_10 : D.key (.str x) = (some (.inr x)) := by first | exact of_eq_true (eq_self _) | simp only [D.key] | (cases a <;> rfl)
@[simp] theorem op_unD_11 : unD .neg (.int i) = (some (.int (-i))) := by first | exact of_eq_true (eq_self _) | simp only [unD] | (cases a <;> rfl)
@[simp] theorem op_unD_12 : unD .not (.bl b) = (some (.bl (!b))) := by first | exact of_eq_true (eq_self _) | simp only [unD] | (cases a <;> rfl)
@[simp] theorem op_binD_13 : binD .add (.int i) (.int j) = (some (.int (i + j))) := by first | exact of_eq_true (eq_self _) | simp only [binD] | (cases a <;> rfl)
@[simp] theorem op_binD_14 : binD .sub (.int i) (.int j) = (some (.int (i - j))) := by first | exact of_eq_true (eq_self _) | simp only [binD] | (cases a <;> rfl)
@[simp] theorem op_binD_15 : binD .mul (.int i) (.int j) = (if mulOk i j then some (.int (i * j)) else none) := by first | exact of_eq_true (eq_self _) | simp only [binD] | (cases a <;> rfl)
@[simp] theorem op_binD_16 : binD .fdiv (.int i) (.int j) = (if 0 < j ∧ j < 1073741824 then some (.int (i / j)) else none) := by first | exact of_eq_true (eq_self _) | simp only [binD] | (cases a <;> rfl)
@[simp] theorem op_binD_17 : binD .mod (.int i) (.int j) = (if 0 < j then some (.int (i % j)) else none) := by first | exact of_eq_true (eq_self _) | simp only [binD] | (cases a <;> rfl)
@[simp] theorem op_binD_18 : binD .pow (.int i) (.int j) = (if 0 ≤ j ∧ j ≤ 1000000 ∧ i.natAbs < 2 ^ 64 then some (.int (i ^ j.toNat)) else none) := by first | exact of_eq_true (eq_self _) | simp only [binD] | (cases a <;> rfl)
@[simp] theorem op_binD_19 : binD .add (.str x) (.str y) = (if x.length + y.length ≤ sizeLine then some (.str (x ++ y)) else none) := by first | exact of_eq_true (eq_self _) | simp only [binD] | (cases a <;> rfl)
@[simp] theorem op_binD_20 : binD .add (.nd .lst u0 xs) (.nd .lst u1 ys) = (if xs.length + ys.length ≤ sizeLine then some (.nd .lst true (xs ++ ys)) else none) := by first | exact of_eq_true (eq_self _) | simp only [binD] | (cases a <;> rfl)
@[simp] theorem op_binD_21 : binD .add (.nd .tup u0 xs) (.nd .tup u1 ys) = (if xs.length + ys.length ≤ sizeLine then some (.nd .tup false (xs ++ ys)) else none) := by first | exact of_eq_true (eq_self _) | simp only [binD] | (cases a <;> rfl)
@[simp] theorem op_binD_22 : binD .mul (.nd .lst u0 xs) (.int k) = (if fzL xs = true ∧ -(2 ^ 63) ≤ k ∧ k < 2 ^ 63 ∧ xs.length * k.toNat ≤ sizeLine then some (.nd .lst true (List.replicate k.toNat xs).flatten) else none) := by first | exact of_eq_true (eq_self _) | simp only [binD] | (cases a <;> rfl)
@[simp] theorem op_cmpD_23 : cmpD .lt (.int i) (.int j) = (some (decide (i < j))) := by first | exact of_eq_true (eq_self _) | simp only [cmpD] | (cases a <;> rfl)
@[simp] theorem op_cmpD_24 : cmpD .le (.int i) (.int j) = (some (decide (i ≤ j))) := by first | exact of_eq_true (eq_self _) | simp only [cmpD] | (cases a <;> rfl)
@[simp] theorem op_cmpD_25 : cmpD .gt (.int i) (.int j) = (some (decide (j < i))) := by first | exact of_eq_true (eq_self _) | simp only [cmpD] | (cases a <;> rfl)
@[simp] theorem op_cmpD_26 : cmpD .ge (.int i) (.int j) = (some (decide (j ≤ i))) := by first | exact of_eq_true (eq_self _) | simp only [cmpD] | (cases a <;> rfl)
@[simp] theorem op_cmpD_27 : cmpD .eq a b = (eqD a b) := by first | exact of_eq_true (eq_self _) | simp only [cmpD] | (cases a <;> rfl)
@[simp] theorem op_cmpD_28 : cmpD .ne a b = ((eqD a b).map (!·)) := by first | exact of_eq_true (eq_self _) | simp only [cmpD] | (cases a <;> rfl)
@[simp] theorem op_cmpD_29 : cmpD .isN a .non = (some a.isN) := by first | exact of_eq_true (eq_self _) | simp only [cmpD] | (cases a <;> rfl)
@[simp] theorem op_cmpD_30 : cmpD .notN a .non = (some (!a.isN)) := by first | exact of_eq_true (eq_self _) | simp only [cmpD] | (cases a <;> rfl)
@[simp] theorem op_cmpD_31 : cmpD .isin a b = (inD a b) := by first | exact of_eq_true (eq_self _) | simp only [cmpD] | (cases a <;> rfl)
@[simp] theorem op_cmpD_32 : cmpD .notin a b = ((inD a b).map (!·)) := by first | exact of_eq_true (eq_self _) | simp only [cmpD] | (cases a <;> rfl)
@[simp] theorem op_subD_33 : subD (.nd .tup u0 xs) (.int i) = (atI xs i) := by first | exact of_eq_true (eq_self _) | simp only [subD] | (cases a <;> rfl)
@[simp] theorem op_subD_34 : subD (.nd .lst u0 xs) (.int i) = (atI xs i) := by first | exact of_eq_true (eq_self _) | simp only [subD] | (cases a <;> rfl)
@[simp] theorem op_subD_35 : subD (.nd .cl u0 xs) (.int i) = (atI xs i) := by first | exact of_eq_true (eq_self _) | simp only [subD] | (cases a <;> rfl)
@[simp] theorem op_subD_36 : subD (.nd (.dk ks) u0 xs) d = (d.key.bind (lookD ks xs)) := by first | exact of_eq_true (eq_self _) | simp only [subD] | (cases a <;> rfl)
@[simp] theorem op_cutOf_37 : cutOf (.nd .lst u0 xs) l h = (some (.nd .lst true (cutD xs l h))) := by first | exact of_eq_true (eq_self _) | simp only [cutOf] | (cases a <;> rfl)
@[simp] theorem op_cutOf_38 : cutOf (.nd .cl u0 xs) l h = (some (.nd .lst true (cutD xs l h))) := by first | exact of_eq_true (eq_self _) | simp only [cutOf] | (cases a <;> rfl)
@[simp] theorem op_cutOf_39 : cutOf (.nd .tup u0 xs) l h = (some (.nd .tup false (cutD xs l h))) := by first | exact of_eq_true (eq_self _) | simp only [cutOf] | (cases a <;> rfl)
@[simp] theorem op_seqD_40 : seqD (.nd .tup u0 xs) = (some xs) := by first | exact of_eq_true (eq_self _) | simp only [seqD] | (cases a <;> rfl)
@[simp] theorem op_seqD_41 : seqD (.nd .lst u0 xs) = (some xs) := by first | exact of_eq_true (eq_self _) | simp only [seqD] | (cases a <;> rfl)
@[simp] theorem op_seqD_42 : seqD (.nd .cl u0 xs) = (some xs) := by first | exact of_eq_true (eq_self _) | simp only [seqD] | (cases a <;> rfl)
@[simp] theorem op_isLst_43 : isLst (.nd .lst u0 u1) = (true) := by first | exact of_eq_true (eq_self _) | simp only [isLst] | (cases a <;> rfl)
@[simp] theorem op_isLst_44 : isLst (.nd .cl u0 u1) = (true) := by first | exact of_eq_true (eq_self _) | simp only [isLst] | (cases a <;> rfl)
@[simp] theorem op_biD_45 : biD .len (.nd .tup u0 xs) = (some (.int xs.length)) := by first | exact of_eq_true (eq_self _) | simp only [biD] | (cases a <;> rfl)
@[simp] theorem op_biD_46 : biD .len (.nd .lst u0 xs) = (some (.int xs.length)) := by first | exact of_eq_true (eq_self _) | simp only [biD] | (cases a <;> rfl)
@[simp] theorem op_biD_47 : biD .len (.nd .cl u0 xs) = (some (.int xs.length)) := by first | exact of_eq_true (eq_self _) | simp only [biD] | (cases a <;> rfl)
@[simp] theorem op_biD_48 : biD .len (.nd (.dk ks) u0 u1) = (some (.int ks.length)) := by first | exact of_eq_true (eq_self _) | simp only [biD] | (cases a <;> rfl)
@[simp] theorem op_biD_49 : biD .len (.str x) = (if x.length ≤ sizeLine then some (.int x.length) else none) := by first | exact of_eq_true (eq_self _) | simp only [biD] | (cases a <;> rfl)
@[simp] theorem op_biD_50 : biD .int (.int i) = (some (.int i)) := by first | exact of_eq_true (eq_self _) | simp only [biD] | (cases a <;> rfl)
@[simp] theorem op_biD_51 : biD .int (.bl b) = (some (.int (if b then 1 else 0))) := by first | exact of_eq_true (eq_self _) | simp only [biD] | (cases a <;> rfl)
@[simp] theorem op_biD_52 : biD .abs (.int i) = (some (.int (if i < 0 then -i else i))) := by first | exact of_eq_true (eq_self _) | simp only [biD] | (cases a <;> rfl)
@[simp] theorem op_biD_53 : biD .list (.nd .tup u0 xs) = (some (.nd .lst true xs)) := by first | exact of_eq_true (eq_self _) | simp only [biD] | (cases a <;> rfl)
@[simp] theorem op_biD_54 : biD .list (.nd .lst u0 xs) = (some (.nd .lst true xs)) := by first | exact of_eq_true (eq_self _) | simp only [biD] | (cases a <;> rfl)
@[simp] theorem op_biD_55 : biD .list (.nd .cl u0 xs) = (some (.nd .lst true xs)) := by first | exact of_eq_true (eq_self _) | simp only [biD] | (cases a <;> rfl)
@[simp] theorem op_biD_56 : biD .tuple (.nd .lst u0 xs) = (some (.nd .tup false xs)) := by first | exact of_eq_true (eq_self _) | simp only [biD] | (cases a <;> rfl)
@[simp] theorem op_biD_57 : biD .tuple (.nd .cl u0 xs) = (some (.nd .tup false xs)) := by first | exact of_eq_true (eq_self _) | simp only [biD] | (cases a <;> rfl)
@[simp] theorem op_biD_58 : biD .tuple (.nd .tup u0 xs) = (some (.nd .tup false xs)) := by first | exact of_eq_true (eq_self _) | simp only [biD] | (cases a <;> rfl)
@[simp] theorem op_biD_59 : biD .sorted (.nd .lst u0 xs) = ((intsD xs).bind fun l => if l.length ≤ sizeLine then some (.nd .lst true ((sortI l).map .int)) else none) := by first | exact of_eq_true (eq_self _) | simp only [biD] | (cases a <;> rfl)
@[simp] theorem op_biD_60 : biD .sorted (.nd (.dk ks) u0 u1) = ((intsD (ks.map keyD)).bind fun l => if l.length < 64 then some (.nd .lst true ((sortI l).map .int)) else none) := by first | exact of_eq_true (eq_self _) | simp only [biD] | (cases a <;> rfl)
@[simp] theorem op_biD_61 : biD .list (.nd (.dk ks) u0 u1) = (some (.nd .lst true (ks.map keyD))) := by first | exact of_eq_true (eq_self _) | simp only [biD] | (cases a <;> rfl)
@[simp] theorem op_biD_62 : biD .sum (.nd .lst u0 xs) = ((intsD xs).map fun l => .int l.sum) := by first | exact of_eq_true (eq_self _) | simp only [biD] | (cases a <;> rfl)
@[simp] theorem op_biD_63 : biD .min (.nd .lst u0 xs) = ((intsD xs).bind fun l => if l.isEmpty then none else some (.int (leastI l))) := by first | exact of_eq_true (eq_self _) | simp only [biD] | (cases a <;> rfl)
@[simp] theorem op_biD_64 : biD .max (.nd .lst u0 xs) = ((intsD xs).bind fun l => if l.isEmpty then none else some (.int (mostI l))) := by first | exact of_eq_true (eq_self _) | simp only [biD] | (cases a <;> rfl)
@[simp] theorem op_biD_65 : biD .all (.nd .lst u0 xs) = ((blsD xs).map fun l => .bl (l.all id)) := by first | exact of_eq_true (eq_self _) | simp only [biD] | (cases a <;> rfl)
@[simp] theorem op_biD_66 : biD .any (.nd .lst u0 xs) = ((blsD xs).map fun l => .bl (l.any id)) := by first | exact of_eq_true (eq_self _) | simp only [biD] | (cases a <;> rfl)
@[simp] theorem op_tyD_68 : tyD .non = (some .none) := by first | exact of_eq_true (eq_self _) | simp only [tyD] | (cases a <;> rfl)
@[simp] theorem op_tyD_69 : tyD (.bl u0) = (some .bool) := by first | exact of_eq_true (eq_self _) | simp only [tyD] | (cases a <;> rfl)
@[simp] theorem op_tyD_70 : tyD (.int u0) = (some .int) := by first | exact of_eq_true (eq_self _) | simp only [tyD] | (cases a <;> rfl)
@[simp] theorem op_tyD_71 : tyD (.str u0) = (some .str) := by first | exact of_eq_true (eq_self _) | simp only [tyD] | (cases a <;> rfl)
@[simp] theorem op_tyD_72 : tyD (.nd .tup u0 u1) = (some .tuple) := by first | exact of_eq_true (eq_self _) | simp only [tyD] | (cases a <;> rfl)
@[simp] theorem op_tyD_73 : tyD (.nd .lst u0 u1) = (some .list) := by first | exact of_eq_true (eq_self _) | simp only [tyD] | (cases a <;> rfl)
@[simp] theorem op_tyD_74 : tyD (.nd .cl u0 u1) = (some .list) := by first | exact of_eq_true (eq_self _) | simp only [tyD] | (cases a <;> rfl)
@[simp] theorem op_tyD_75 : tyD (.nd (.dk u0) u1 u2) = (some .dict) := by first | exact of_eq_true (eq_self _) | simp only [tyD] | (cases a <;> rfl)
@[simp] theorem op_isT_76 : isT .bool .int = (some true) := by first | exact of_eq_true (eq_self _) | simp only [isT] | (cases a <;> rfl)
@[simp] theorem op_okB_77 : okB .get (.nd (.dk u0) u1 u2) = (true) := by first | exact of_eq_true (eq_self _) | simp only [okB] | (cases a <;> rfl)
@[simp] theorem op_okB_78 : okB .get2 (.nd (.dk u0) u1 u2) = (true) := by first | exact of_eq_true (eq_self _) | simp only [okB] | (cases a <;> rfl)
@[simp] theorem op_okB_79 : okB .count (.nd .lst u0 u1) = (true) := by first | exact of_eq_true (eq_self _) | simp only [okB] | (cases a <;> rfl)
@[simp] theorem op_okB_80 : okB .count (.nd .tup u0 u1) = (true) := by first | exact of_eq_true (eq_self _) | simp only [okB] | (cases a <;> rfl)
@[simp] theorem op_okB_81 : okB .index (.nd .lst u0 u1) = (true) := by first | exact of_eq_true (eq_self _) | simp only [okB] | (cases a <;> rfl)
@[simp] theorem op_bmD_82 : bmD .get (.nd (.dk ks) u0 xs) [k] = (k.key.map fun k => (lookD ks xs k).getD .non) := by first | exact of_eq_true (eq_self _) | simp only [bmD] | (cases a <;> rfl)
@[simp] theorem op_bmD_83 : bmD .get2 (.nd (.dk ks) u0 xs) ([k, d]) = (k.key.map fun k => (lookD ks xs k).getD d) := by first | exact of_eq_true (eq_self _) | simp only [bmD] | (cases a <;> rfl)
@[simp] theorem op_muD_84 : muD .append (.nd .lst true xs) [y] = (if xs.length < sizeLine then some (.non, .nd .lst true (xs ++ [y])) else none) := by first | exact of_eq_true (eq_self _) | simp only [muD] | (cases a <;> rfl)
@[simp] theorem op_muD_85 : muD .pop (.nd .lst true xs) [] = ((xs[xs.length - 1]?).map fun y => (y, .nd .lst true xs.dropLast)) := by first | exact of_eq_true (eq_self _) | simp only [muD] | (cases a <;> rfl)
@[simp] theorem op_muD_86 : muD .reverse (.nd .lst true xs) [] = (some (.non, .nd .lst true xs.reverse)) := by first | exact of_eq_true (eq_self _) | simp only [muD] | (cases a <;> rfl)
@[simp] theorem op_muD_87 : muD .clear (.nd .lst true u0) [] = (some (.non, .nd .lst true [])) := by first | exact of_eq_true (eq_self _) | simp only [muD] | (cases a <;> rfl)
@[simp] theorem op_muD_88 : muD .extend (.nd .lst true xs) ([.nd .lst u0 ys]) = (if xs.length + ys.length ≤ sizeLine then some (.non, .nd .lst true (xs ++ ys)) else none) := by first | exact of_eq_true (eq_self _) | simp only [muD] | (cases a <;> rfl)
@[simp] theorem op_inD_93 : inD a (.nd .lst u0 xs) = (inPy a.py (pyL xs)) := by first | exact of_eq_true (eq_self _) | simp only [inD] | (cases a <;> rfl)
@[simp] theorem op_inD_94 : inD a (.nd .cl u0 xs) = (inPy a.py (pyL xs)) := by first | exact of_eq_true (eq_self _) | simp only [inD] | (cases a <;> rfl)
@[simp] theorem op_inD_95 : inD (.int i) (.nd .tup u0 xs) = ((intsD xs).map fun l => l.any fun z => decide (z = i)) := by first | exact of_eq_true (eq_self _) | simp only [inD] | (cases a <;> rfl)
@[simp] theorem op_partE_96 : partE .nop u0 = (some none) := by first | exact of_eq_true (eq_self _) | simp only [partE] | (cases a <;> rfl)
end
section
variable {at' : Nat → Str → Bool}
@[simp] theorem bi2D_int (mx : Bool) (i j : Int) : bi2D mx (.int i) (.int j) = some (.int (if mx then (if j > i then j else i) else (if j < i then j else i))) := of_eq_true (eq_self _)
@[simp] theorem modD_n {α : Type} (f : D → Option (α × D)) (d : D) : modD at' f [] d = f d := of_eq_true (eq_self _)
@[simp] theorem walkD_n (d : D) : walkD at' [] d = some d := of_eq_true (eq_self _)
theorem eqD_int (i j : Int) : eqD (.int i) (.int j) = some (decide (i = j)) := by
  simp only [eqD, D.py, PyData.eqv]
  rw [if_pos ⟨rfl, rfl⟩]
  by_cases c : i = j <;> simp [c]
@[simp] theorem mulOk_l (i j : Int) (h : -(2 ^ 64) < i ∧ i < 2 ^ 64) : mulOk i j = true := by simp [mulOk]; omega
@[simp] theorem mulOk_r (i j : Int) (h : -(2 ^ 64) < j ∧ j < 2 ^ 64) : mulOk i j = true := by simp [mulOk]; omega
end
end PL

/-! PL.Kit: data of laws: pairs of ints, dicts by ints. -/
namespace PL
open PySem L2
theorem small (n : Nat) (h : n ≤ 1000) : n < sizeLine := Nat.lt_of_le_of_lt h (by decide)
@[simp] theorem sz_le {n : Nat} (h : n ≤ 1000) : n ≤ sizeLine := Nat.le_of_lt (small n h)
@[simp] theorem sz_lt {n : Nat} (h : n ≤ 1000) : n < sizeLine := small n h
@[simp] theorem isLst_tup (o : Bool) (xs : List D) : isLst (.nd .tup o xs) = false := of_eq_true (eq_self _)
abbrev iL (l : List Int) : List D := l.map D.int
abbrev pD (p : Int × Int) : D := .nd .tup false [.int p.1, .int p.2]
section
variable {β : Type}
def lk : List (Int × β) → Int → Option β
  | [], _ => none
  | p :: l, k => if p.1 = k then some p.2 else lk l k
def pt : List (Int × β) → Int → β → List (Int × β)
  | [], k, v => [(k, v)]
  | p :: l, k, v => if p.1 = k then (p.1, v) :: l else p :: pt l k v
def kD (l : List (Int × β)) : List Key := l.map fun p => Sum.inl p.1
def vD (f : β → D) (l : List (Int × β)) : List D := l.map fun p => f p.2
@[simp] theorem kD_len (l : List (Int × β)) : (kD l).length = l.length := by simp [kD]
@[simp] theorem vD_len (f : β → D) (l : List (Int × β)) : (vD f l).length = l.length := by simp [vD]
@[simp] theorem lookD_k (f : β → D) : ∀ (l : List (Int × β)) (k : Int), lookD (kD l) (vD f l) (.inl k) = (lk l k).map f
  | [], k => rfl
  | p :: l, k => by
    have ih := lookD_k f l k
    simp only [kD, vD] at ih
    simp only [kD, vD, List.map_cons, lookD, lk, Sum.inl.injEq, ih]
    split <;> rfl
@[simp] theorem hasK_k : ∀ (l : List (Int × β)) (k : Int), hasK (kD l) (.inl k) = (lk l k).isSome
  | [], k => rfl
  | p :: l, k => by
    have ih := hasK_k l k
    simp only [kD, hasK] at ih
    simp only [kD, hasK, List.map_cons, List.any_cons, lk, Sum.inl.injEq, ih]
    by_cases c : p.1 = k <;> simp [c]
@[simp] theorem putD_k (f : β → D) : ∀ (l : List (Int × β)) (k : Int) (v : β), putD (kD l) (vD f l) (.inl k) (f v) = (kD (pt l k v), vD f (pt l k v))
  | [], k, v => rfl
  | p :: l, k, v => by
    have ih := putD_k f l k v
    simp only [kD, vD] at ih
    simp only [kD, vD, List.map_cons, putD, pt, Sum.inl.injEq, ih]
    by_cases c : p.1 = k <;> simp [c]
theorem kD_frz (f g : β → D) (h : ∀ v, (f v).frz = g v) : ∀ l : List (Int × β), frzL (vD f l) = vD g l
  | [] => rfl
  | p :: l => by
    have ih := kD_frz f g h l
    simp only [vD] at ih
    simp only [vD, List.map_cons, frzL, h, ih]
theorem lk_pt (l : List (Int × β)) (k j : Int) (v : β) : lk (pt l k v) j = if j = k then some v else lk l j := by
  induction l with
  | nil =>
    simp only [pt, lk]
    by_cases c : j = k
    · simp [c]
    · rw [if_neg (fun z => c z.symm), if_neg c]
  | cons p l ih =>
    simp only [pt]
    by_cases c : p.1 = k
    · rw [if_pos c]
      simp only [lk]
      by_cases d : j = k
      · simp [d, c]
      · rw [if_neg (fun z => d (z.symm.trans c)), if_neg d, if_neg (fun z => d (z.symm.trans c))]
    · rw [if_neg c]
      simp only [lk, ih]
      by_cases d : p.1 = j
      · rw [if_pos d, if_pos d, if_neg (fun z => c (d.trans z))]
      · rw [if_neg d, if_neg d]
theorem pt_new {l : List (Int × β)} {k : Int} (v : β) (h : lk l k = none) : pt l k v = l ++ [(k, v)] := by
  induction l with
  | nil => rfl
  | cons p l ih =>
    simp only [lk] at h
    by_cases c : p.1 = k
    · rw [if_pos c] at h; cases h
    · rw [if_neg c] at h
      simp only [pt, if_neg c, ih h, List.cons_append]
theorem pt_len_le (l : List (Int × β)) (k : Int) (v : β) : (pt l k v).length ≤ l.length + 1 := by
  induction l with
  | nil => simp [pt]
  | cons p l ih =>
    simp only [pt]
    split
    · simp
    · simp; omega
theorem lk_none {l : List (Int × β)} {k : Int} : lk l k = none ↔ k ∉ l.map (·.1) := by
  induction l with
  | nil => simp [lk]
  | cons p l ih =>
    simp only [lk, List.map_cons, List.mem_cons, not_or]
    by_cases c : p.1 = k
    · simp [c]
    · rw [if_neg c, ih]; simp [show ¬ k = p.1 from fun z => c z.symm]
theorem lk_some_mem {l : List (Int × β)} {k : Int} {v : β} (h : lk l k = some v) : (k, v) ∈ l := by
  induction l with
  | nil => simp [lk] at h
  | cons p l ih =>
    simp only [lk] at h
    by_cases c : p.1 = k
    · rw [if_pos c] at h; cases h; rw [← c]; exact List.mem_cons_self
    · rw [if_neg c] at h; exact List.mem_cons_of_mem _ (ih h)
end
@[simp] theorem atI_neg1 {α : Type} (l : List α) (x : α) : atI (l ++ [x]) (-1) = some x := by
  unfold atI ixN
  simp only [List.length_append, List.length_singleton, show ¬ (0 : Int) ≤ -1 by omega, if_false]
  rw [if_pos (by omega)]
  simp only [Option.bind_some]
  rw [show ((-1 : Int) + ((l.length + 1 : Nat) : Int)).toNat = l.length by omega]
  simp
theorem atI_nat {α : Type} (l : List α) (i : Nat) : atI l (i : Int) = l[i]? := by
  unfold atI ixN
  by_cases c : (i : Int) < l.length
  · simp [c]
  · have : l.length ≤ i := by omega
    simp [c, this]
@[simp] theorem frzL_pD (l : List (Int × Int)) : frzL (l.map pD) = l.map pD := by
  induction l with
  | nil => rfl
  | cons p l ih => simp [ih]
@[simp] theorem fzL_pD (l : List (Int × Int)) : fzL (l.map pD) = true := by
  induction l with
  | nil => rfl
  | cons p l ih => simp [ih]
section
variable {tb : Tab} {o : Orc} {f : Nat} {fn : Fn} {e : Env} {a b c r : D}
theorem call1 (h : tb.fns[f]? = some fn) (hio : fn.io = []) (ho : o f [a.frz] = some (.val r [])) : runCall tb o f [.d a] e = some (.val r e) := by
  simp [runCall, takeArgs, ioOf, putBack, h, hio, ho]
theorem call2 (h : tb.fns[f]? = some fn) (hio : fn.io = []) (ho : o f [a.frz, b.frz] = some (.val r [])) : runCall tb o f [.d a, .d b] e = some (.val r e) := by
  simp [runCall, takeArgs, ioOf, putBack, h, hio, ho]
theorem call3 (h : tb.fns[f]? = some fn) (hio : fn.io = []) (ho : o f [a.frz, b.frz, c.frz] = some (.val r [])) : runCall tb o f [.d a, .d b, .d c] e = some (.val r e) := by
  simp [runCall, takeArgs, ioOf, putBack, h, hio, ho]
end
@[simp] theorem inD_dk (i : Int) (ks : List Key) (ow : Bool) (xs : List D) : inD (.int i) (.nd (.dk ks) ow xs) = some (hasK ks (.inl i)) := by simp only [inD, D.key, Option.map_some]
theorem setD_k {β : Type} (f : β → D) (l : List (Int × β)) (k : Int) (v : β) (h : l.length ≤ 1000) : setD (.nd (.dk (kD l)) true (vD f l)) (.int k) (f v) = some (.nd (.dk (kD (pt l k v))) true (vD f (pt l k v))) := by
  simp only [setD, D.key, Option.bind_some, kD_len, small _ h, if_true, putD_k]
/-- a def that answers; the frame env is the parameters, then nothing -/
theorem run_rt {tb : Tab} {o : Orc} {f : Nat} {fn : Fn} {ds : List D} {env e : Env} {d : D} (h : tb.fns[f]? = some fn) (hl : ds.length = fn.np) (hio : fn.io = []) (he : ds.map some ++ List.replicate (fn.nl - fn.np) none = env) (hx : exSs tb o [] fn.body env = some (.val (.rt d) e)) : runFn tb o f ds = some (.val d []) := by
  subst he
  simp only [runFn, h, hl, if_true, hio, hx, finals, Option.map_some]
@[simp] theorem atI_2_0 {α : Type} (a b : α) : atI [a, b] 0 = some a := of_eq_true (eq_self _)
@[simp] theorem atI_2_1 {α : Type} (a b : α) : atI [a, b] 1 = some b := of_eq_true (eq_self _)
theorem atI_ints (l : List Int) (i : Nat) (h : i < l.length) : atI (iL l) (i : Int) = some (.int l[i]) := by
  rw [atI_nat]
  simp [iL, h]
end PL

namespace K87
open PySem L2 PL
def top (i : Nat) : Stmt := PySem.Challenge.pw_keptinstep_k87_shortest_rings.main.body.getD i (.Pass ⟨0, 0, 0, 0⟩)
/-- followers: 0 pairs, 1 told, 2 one, 3 other -/
def b0_1 : List S := [(.sda 1 .n (.h (.var 2)) (.var 3)), (.sdf 1 .n (.h (.var 3)) (.h (.lst .n)))]
def b0 : List S := [(.asg (.v 1) .dnew), (.for (.t [(.v 2), (.v 3)]) (.seqT (.var 0)) b0_1), (.ret (.mv 1))]
abbrev f0 : Fn := ⟨1, 4, [], b0⟩
/-- way_back: 0 told, 1 start, 2 most, 3 came_from, 4 layer, 5 length, 6 later, 7 number, 8 follower -/
def b1_1 : List S := [(.ite (.e (.cmp .eq (.var 8) (.var 1))) [(.ret (.call 2 (.c (.var 3) (.c (.var 7) (.c (.var 5) .n)))))] []), (.ite (.view [3, 8] (.e (.cmp .notin (.var 8) (.var 3)))) [(.sub 3 .n (.h (.var 8)) (.var 7)), (.ex (.mu .append 6 .n (.c (.h (.var 8)) .n)))] [])]
def b1_2 : List S := [(.for (.v 8) (.seqL (.sub (.var 0) (.var 7))) b1_1)]
def b1_3 : List S := [(.asg (.v 6) (.lst .n)), (.for (.v 7) (.seqL (.var 4)) b1_2), (.ite (.view [6] (.not (.e (.var 6)))) [(.ret .non)] []), (.asg (.v 4) (.var 6))]
def b1 : List S := [(.asg (.v 3) (.ddisp (.var 1) (.var 1))), (.asg (.v 4) (.lst (.c (.var 1) .n))), (.for (.v 5) (.rng2 (.int 1) (.bin .add (.var 2) (.int 1))) b1_3), (.ret .non)]
abbrev f1 : Fn := ⟨3, 9, [], b1⟩
/-- traced: 0 came_from, 1 last, 2 length, 3 made, 4 _ -/
def b2_1 : List S := [(.ex (.mu .append 3 .n (.c (.v [0, 3] (.sub (.var 0) (.sub (.var 3) (.un .neg (.int 1))))) .n)))]
def b2 : List S := [(.asg (.v 3) (.lst (.c (.var 1) .n))), (.for (.v 4) (.rng (.bin .sub (.var 2) (.int 1))) b2_1), (.ex (.mu .reverse 3 .n .n)), (.ret (.mv 3))]
abbrev f2 : Fn := ⟨3, 5, [], b2⟩
/-- ring_in: 0 pairs, 1 told, 2 best, 3 most, 4 start, 5 ring -/
def b3_1 : List S := [(.asg (.v 5) (.call 1 (.c (.var 1) (.c (.var 4) (.c (.var 3) .n))))), (.ite (.e (.cmp .notN (.var 5) .non)) [(.asg (.v 2) (.var 5)), (.asg (.v 3) (.bin .sub (.bi .len (.var 5)) (.int 1)))] [])]
def b3 : List S := [(.asg (.v 1) (.call 0 (.c (.var 0) .n))), (.asg (.v 2) .non), (.asg (.v 3) (.bi .len (.var 1))), (.for (.v 4) (.seqL (.bi .sorted (.var 1))) b3_1), (.ite (.e (.cmp .isN (.var 2) .non)) [(.ret .non)] []), (.ret (.bi .tuple (.var 2)))]
abbrev f3 : Fn := ⟨1, 6, [], b3⟩
/-- ring_of: 0 pairs -/
def b4 : List S := [(.ret (.call 3 (.c (.var 0) .n)))]
abbrev f4 : Fn := ⟨1, 1, [], b4⟩
/-- _law_draws: 0 script, 1 at, 2 limits, 3 cell, 4 state, 5 left, 6 out, 7 limit -/
def b5_1 : List S := [(.ite (.e (.cmp .gt (.var 5) (.int 0))) [(.ex (.mu .append 6 .n (.c (.h (.bin .mod (.bi .int (.var 5)) (.var 7))) .n))), (.asg (.v 5) (.bin .fdiv (.var 5) (.var 7)))] [(.asg (.v 4) (.bin .mod (.bin .add (.bin .mul (.var 4) (.int 16807)) (.int 7919)) (.int 2147483647))), (.ex (.mu .append 6 .n (.c (.h (.bin .mod (.bin .fdiv (.var 4) (.int 131)) (.var 7))) .n)))])]
def b5 : List S := [(.asg (.v 3) (.bin .add (.bin .mul (.int 977) (.var 1)) (.bin .mul (.int 31) (.bi .len (.var 0))))), (.ite (.e (.cmp .lt (.var 1) (.bi .len (.var 0)))) [(.asg (.v 3) (.bin .add (.bin .mul (.int 2) (.bi .abs (.sub (.var 0) (.var 1)))) (.bi .int (.cmp .lt (.sub (.var 0) (.var 1)) (.int 0)))))] []), (.asg (.v 4) (.bin .mod (.bin .add (.bin .add (.bin .mul (.bi .int (.var 3)) (.int 48271)) (.bin .mul (.var 1) (.int 69621))) (.int 12345)) (.int 2147483647))), (.asg (.v 5) (.int 0)), (.ite (.e (.cmp .ge (.var 3) (.bin .pow (.int 10) (.int 18)))) [(.asg (.v 5) (.var 3))] []), (.asg (.v 6) (.lst .n)), (.for (.v 7) (.seqL (.var 2)) b5_1), (.ret (.mv 6))]
abbrev f5 : Fn := ⟨3, 8, [], b5⟩
/-- _law_same: 0 told, 1 due, 2 k -/
def b6_1 : E := (.call 6 (.c (.sub (.var 0) (.var 2)) (.c (.sub (.var 1) (.var 2)) .n)))
def b6 : List S := [(.ite (.e (.cmp .isN (.var 1) .non)) [(.ret (.cmp .isN (.var 0) .non))] []), (.ite (.e (.isi (.var 1) [.tuple])) [(.ite (.or (.not (.e (.isi (.var 0) [.tuple]))) (.e (.cmp .ne (.bi .len (.var 0)) (.bi .len (.var 1))))) [(.ret (.bl false))] []), (.ret (.bi .all (.lc b6_1 (.v 2) (.rng (.bi .len (.var 1))) .tt [2])))] []), (.ite (.e (.isi (.var 1) [.str])) [(.ret (.and (.isi (.var 0) [.str]) (.cmp .eq (.var 0) (.var 1))))] []), (.ite (.e (.isi (.var 1) [.bool])) [(.ret (.and (.isi (.var 0) [.bool]) (.cmp .eq (.var 0) (.var 1))))] []), (.ret (.and (.isi (.var 0) [.int]) (.and (.un .not (.isi (.var 0) [.bool])) (.cmp .eq (.var 0) (.var 1)))))]
abbrev f6 : Fn := ⟨2, 3, [], b6⟩
/-- _law_steps_back: 0 pairs, 1 first, 2 last, 3 row, 4 far, 5 k, 6 pair -/
def b7_1 : List S := [(.ite (.view [3, 4, 5, 6] (.and (.e (.cmp .eq (.sub (.var 6) (.int 0)) (.sub (.var 3) (.var 5)))) (.e (.cmp .notin (.sub (.var 6) (.int 1)) (.var 4))))) [(.sub 4 .n (.h (.sub (.var 6) (.int 1))) (.view [3, 4, 5] (.bin .add (.sub (.var 4) (.sub (.var 3) (.var 5))) (.int 1)))), (.ex (.mu .append 3 .n (.c (.h (.sub (.var 6) (.int 1))) .n)))] [])]
def b7_2 : List S := [(.ite (.view [3, 5] (.e (.cmp .lt (.var 5) (.bi .len (.var 3))))) [(.for (.v 6) (.seqL (.var 0)) b7_1)] [])]
def b7 : List S := [(.asg (.v 3) (.lst (.c (.var 1) .n))), (.asg (.v 4) (.ddisp (.var 1) (.int 0))), (.for (.v 5) (.rng (.int 20)) b7_2), (.ret (.bm .get2 (.var 4) (.c (.var 2) (.c (.int 99) .n))))]
abbrev f7 : Fn := ⟨3, 7, [], b7⟩
/-- law: 0 script, 1 pick, 2 worth, 3 many, 4 cells, 5 pairs, 6 least, 7 told, 8 k, 9 pair, 10 n -/
def b8_1 : E := (.cmp .isin (.tup (.c (.sub (.var 7) (.bin .sub (.var 8) (.int 1))) (.c (.sub (.var 7) (.var 8)) .n))) (.var 5))
def b8_2 : E := (.and (.isi (.var 10) [.int]) (.un .not (.isi (.var 10) [.bool])))
def b8_3 : E := (.bin .add (.call 7 (.c (.var 5) (.c (.sub (.var 9) (.int 1)) (.c (.sub (.var 9) (.int 0)) .n)))) (.int 1))
def b8_4 : E := (.tup (.c (.sub (.var 2) (.bin .mod (.var 8) (.var 3))) (.c (.sub (.var 2) (.bin .mod (.bin .add (.var 8) (.int 1)) (.var 3))) .n)))
def b8_5 : E := (.tup (.c (.sub (.var 2) (.bin .mod (.sub (.var 4) (.bin .mul (.int 2) (.var 8))) (.var 3))) (.c (.sub (.var 2) (.bin .mod (.sub (.var 4) (.bin .add (.bin .mul (.int 2) (.var 8)) (.int 1))) (.var 3))) .n)))
def b8 : List S := [(.asg (.v 1) (.call 5 (.c (.var 0) (.c (.int 0) (.c (.lst (.c (.int 15) (.c (.int 8) (.c (.int 3) (.c (.int 1000) .n))))) .n))))), (.asg (.v 2) (.lst (.c (.int 0) (.c (.int 1) (.c (.int 2) (.c (.bin .add (.bin .pow (.int 10) (.int 20)) (.int 1)) (.c (.int 7) (.c (.bin .pow (.int 10) (.int 20)) (.c (.int 3) (.c (.int 12) (.c (.sub (.var 1) (.int 3)) .n))))))))))), (.asg (.v 3) (.bin .add (.int 2) (.sub (.var 1) (.int 1)))), (.asg (.v 4) (.call 5 (.c (.var 0) (.c (.int 1) (.c (.bin .mul (.lst (.c (.int 5040) (.c (.int 5040) .n))) (.int 14)) .n))))), (.asg (.v 5) (.lc b8_5 (.v 8) (.rng (.sub (.var 1) (.int 0))) .tt [8])), (.ite (.e (.cmp .eq (.sub (.var 1) (.int 2)) (.int 1))) [(.asg (.v 5) (.lc b8_4 (.v 8) (.rng (.sub (.var 1) (.int 0))) .tt [8]))] []), (.ite (.and (.e (.cmp .eq (.sub (.var 1) (.int 2)) (.int 2))) (.e (.cmp .gt (.sub (.var 1) (.int 0)) (.int 1)))) [(.asg (.v 5) (.bin .add (.var 5) (.slc (.var 5) .nop (.int 1))))] []), (.asg (.v 6) (.bi .min (.bin .add (.lst (.c (.int 99) .n)) (.lc b8_3 (.v 9) (.seqL (.var 5)) .tt [9])))), (.asg (.v 7) (.call 4 (.c (.bi .tuple (.var 5)) .n))), (.ite (.e (.cmp .eq (.var 6) (.int 99))) [(.ret (.and (.cmp .isN (.var 7) .non) (.cmp .isN (.call 4 (.c (.bi .tuple (.var 5)) .n)) .non)))] []), (.ite (.or (.not (.e (.isi (.var 7) [.tuple]))) (.e (.cmp .ne (.bi .len (.var 7)) (.var 6)))) [(.ret (.bl false))] []), (.ite (.not (.e (.bi .all (.lc b8_2 (.v 10) (.seqT (.var 7)) .tt [10])))) [(.ret (.bl false))] []), (.ite (.not (.e (.bi .all (.lc b8_1 (.v 8) (.rng (.var 6)) .tt [8])))) [(.ret (.bl false))] []), (.ret (.call 6 (.c (.call 4 (.c (.bi .tuple (.bi .list (.var 5))) .n)) (.c (.var 7) .n))))]
abbrev f8 : Fn := ⟨1, 11, [], b8⟩
def tb : Tab := ⟨[f0, f1, f2, f3, f4, f5, f6, f7, f8], fun _ _ => none, fun _ => none, fun _ => [], fun _ _ => false⟩
def fnames : List Str := ["followers", "way_back", "traced", "ring_in", "ring_of", "_law_draws", "_law_same", "_law_steps_back", "law"]
def fpars : List (List Str) := [["pairs"], ["told", "start", "most"], ["came_from", "last", "length"], ["pairs"], ["pairs"], ["script", "at", "limits"], ["told", "due"], ["pairs", "first", "last"], ["script"]]
def lo (K : PySem.W.Frag) (fa : Nat → Addr) (fd : Nat → FuncData) : Lo := ⟨K, fun _ => 0, fun _ => "", fun i => fnames.getD i "", fa, fd, fun i => fpars.getD i [], fun i => decide (i < 9), fun _ => false⟩
section
variable {P : Program} {w : World} {K : PySem.W.Frag} {mg : Str → Option Value} {base : Heap} {fa : Nat → Addr} {fd : Nat → FuncData} {o : Orc} {j : Nat}
theorem s0 : FnScope ["pairs", "told", "one", "other"] ["pairs"] (defScope (top 1)) := ⟨rfl, rfl, rfl, by decide +kernel, rfl, by decide +kernel, by decide +kernel⟩
theorem d0 (F : Fix P w K mg (lo K fa fd) tb) (ol : OLen tb o) (A : FnAll P w K mg base (lo K fa fd) tb o j) (G : Fun K "followers" "followers" (top 1) (fa 0) (fd 0)) : FnOk P w K mg base (L2.CX P w) (j + 2) (fa 0) (fd 0) ["pairs"] (spF (lo K fa fd) tb (runFn tb o) 0) := by
  refine fn_ok (L := lo K fa fd) (fn := f0) rfl G s0 rfl rfl (by decide) (by decide) (by decide) fun cdv Ar outer s H E hr => ?_
  haveI := lay_of (N := ["pairs", "told", "one", "other"]) (outer := outer) (H := H) (E := E) F A hr
  have nd : List.Nodup (["pairs", "told", "one", "other"] : List Str) := s0.nd
  have pp := passes_of (X := cxOf (L2.CX P w) P w K mg base ["pairs", "told", "one", "other"] "followers" (defScope (top 1)) (fa 0) cdv Ar outer s H E) rfl
  have bk : ∀ {scope : Scope} {own : List (Str × Nat)}, blkC ["pairs", "told", "one", "other"] (defScope (top 1)) scope own = true → BlkOk (cxOf (L2.CX P w) P w K mg base ["pairs", "told", "one", "other"] "followers" (defScope (top 1)) (fa 0) cdv Ar outer s H E).N (cxOf (L2.CX P w) P w K mg base ["pairs", "told", "one", "other"] "followers" (defScope (top 1)) (fa 0) cdv Ar outer s H E).env.scope scope own := fun h => blkOk_by h
  exact (css_cons (cs_set 1 nd ce_dnew)
    (css_cons (cs_for pp (ci_tup (ce_var 0)) (tg_t (tgs_cons (tg_v 2 nd) (tgs_cons (tg_v 3 nd) tgs_nil))) (css_cons (cs_sda (cp_n 1) (cm_h (ce_var 2)) (ce_var 3))
    (css_cons (cs_sdf (cp_n 1) (cm_h (ce_var 3)) (cm_h (ce_lst ca_nil)))
    (css_nil))))
    (css_cons (cs_ret (ce_mv 1))
    (css_nil))))
theorem s1 : FnScope ["told", "start", "most", "came_from", "layer", "length", "later", "number", "follower"] ["told", "start", "most"] (defScope (top 2)) := ⟨rfl, rfl, rfl, by decide +kernel, rfl, by decide +kernel, by decide +kernel⟩
theorem d1 (F : Fix P w K mg (lo K fa fd) tb) (ol : OLen tb o) (A : FnAll P w K mg base (lo K fa fd) tb o j) (G : Fun K "way_back" "way_back" (top 2) (fa 1) (fd 1)) : FnOk P w K mg base (L2.CX P w) (j + 2) (fa 1) (fd 1) ["told", "start", "most"] (spF (lo K fa fd) tb (runFn tb o) 1) := by
  refine fn_ok (L := lo K fa fd) (fn := f1) rfl G s1 rfl rfl (by decide) (by decide) (by decide) fun cdv Ar outer s H E hr => ?_
  haveI := lay_of (N := ["told", "start", "most", "came_from", "layer", "length", "later", "number", "follower"]) (outer := outer) (H := H) (E := E) F A hr
  have nd : List.Nodup (["told", "start", "most", "came_from", "layer", "length", "later", "number", "follower"] : List Str) := s1.nd
  have pp := passes_of (X := cxOf (L2.CX P w) P w K mg base ["told", "start", "most", "came_from", "layer", "length", "later", "number", "follower"] "way_back" (defScope (top 2)) (fa 1) cdv Ar outer s H E) rfl
  have bk : ∀ {scope : Scope} {own : List (Str × Nat)}, blkC ["told", "start", "most", "came_from", "layer", "length", "later", "number", "follower"] (defScope (top 2)) scope own = true → BlkOk (cxOf (L2.CX P w) P w K mg base ["told", "start", "most", "came_from", "layer", "length", "later", "number", "follower"] "way_back" (defScope (top 2)) (fa 1) cdv Ar outer s H E).N (cxOf (L2.CX P w) P w K mg base ["told", "start", "most", "came_from", "layer", "length", "later", "number", "follower"] "way_back" (defScope (top 2)) (fa 1) cdv Ar outer s H E).env.scope scope own := fun h => blkOk_by h
  exact (css_cons (cs_set 3 nd (ce_ddisp (ce_var 1) (ce_var 1)))
    (css_cons (cs_set 4 nd (ce_lst (ca_cons (ce_var 1) ca_nil)))
    (css_cons (cs_for pp (ci_rng2 ce_int (ce_add (ce_var 2) ce_int)) (tg_v 5 nd) (css_cons (cs_set 6 nd (ce_lst ca_nil))
    (css_cons (cs_for pp (ci_lst (ce_var 4)) (tg_v 7 nd) (css_cons (cs_for pp (ci_lst (ce_sub (ce_var 0) (ce_var 7))) (tg_v 8 nd) (css_cons (cs_ite (ct_cmp cmp_eq (ce_var 8) (ce_var 1)) (css_cons (cs_ret (ce_call 2 ol (cg_cons (ce_var 3) (cg_cons (ce_var 7) (cg_cons (ce_var 5) cg_nil)))))
    (css_nil)) (css_nil))
    (css_cons (cs_ite (ct_view (ct_cmp cmp_notin (ce_var 8) (ce_var 3))) (css_cons (cs_sub (ce_var 7) (cp_n 3) (cm_h (ce_var 8)))
    (css_cons (cs_ex (ce_append (cp_n 6) (cm_h (ce_var 8))))
    (css_nil))) (css_nil))
    (css_nil))))
    (css_nil)))
    (css_cons (cs_ite (ct_view (ct_not (ct_e (ce_var 6)))) (css_cons (cs_ret ce_non)
    (css_nil)) (css_nil))
    (css_cons (cs_set 4 nd (ce_var 6))
    (css_nil))))))
    (css_cons (cs_ret ce_non)
    (css_nil)))))
theorem s2 : FnScope ["came_from", "last", "length", "made", "_"] ["came_from", "last", "length"] (defScope (top 3)) := ⟨rfl, rfl, rfl, by decide +kernel, rfl, by decide +kernel, by decide +kernel⟩
theorem d2 (F : Fix P w K mg (lo K fa fd) tb) (ol : OLen tb o) (A : FnAll P w K mg base (lo K fa fd) tb o j) (G : Fun K "traced" "traced" (top 3) (fa 2) (fd 2)) : FnOk P w K mg base (L2.CX P w) (j + 2) (fa 2) (fd 2) ["came_from", "last", "length"] (spF (lo K fa fd) tb (runFn tb o) 2) := by
  refine fn_ok (L := lo K fa fd) (fn := f2) rfl G s2 rfl rfl (by decide) (by decide) (by decide) fun cdv Ar outer s H E hr => ?_
  haveI := lay_of (N := ["came_from", "last", "length", "made", "_"]) (outer := outer) (H := H) (E := E) F A hr
  have nd : List.Nodup (["came_from", "last", "length", "made", "_"] : List Str) := s2.nd
  have pp := passes_of (X := cxOf (L2.CX P w) P w K mg base ["came_from", "last", "length", "made", "_"] "traced" (defScope (top 3)) (fa 2) cdv Ar outer s H E) rfl
  have bk : ∀ {scope : Scope} {own : List (Str × Nat)}, blkC ["came_from", "last", "length", "made", "_"] (defScope (top 3)) scope own = true → BlkOk (cxOf (L2.CX P w) P w K mg base ["came_from", "last", "length", "made", "_"] "traced" (defScope (top 3)) (fa 2) cdv Ar outer s H E).N (cxOf (L2.CX P w) P w K mg base ["came_from", "last", "length", "made", "_"] "traced" (defScope (top 3)) (fa 2) cdv Ar outer s H E).env.scope scope own := fun h => blkOk_by h
  exact (css_cons (cs_set 3 nd (ce_lst (ca_cons (ce_var 1) ca_nil)))
    (css_cons (cs_for pp (ci_rng (ce_sub2 (ce_var 2) ce_int)) (tg_v 4 nd) (css_cons (cs_ex (ce_append (cp_n 3) (cm_v (ce_sub (ce_var 0) (ce_sub (ce_var 3) (ce_neg ce_int))))))
    (css_nil)))
    (css_cons (cs_ex (ce_reverse (cp_n 3)))
    (css_cons (cs_ret (ce_mv 3))
    (css_nil)))))
theorem s3 : FnScope ["pairs", "told", "best", "most", "start", "ring"] ["pairs"] (defScope (top 4)) := ⟨rfl, rfl, rfl, by decide +kernel, rfl, by decide +kernel, by decide +kernel⟩
theorem d3 (F : Fix P w K mg (lo K fa fd) tb) (ol : OLen tb o) (A : FnAll P w K mg base (lo K fa fd) tb o j) (G : Fun K "ring_in" "ring_in" (top 4) (fa 3) (fd 3)) : FnOk P w K mg base (L2.CX P w) (j + 2) (fa 3) (fd 3) ["pairs"] (spF (lo K fa fd) tb (runFn tb o) 3) := by
  refine fn_ok (L := lo K fa fd) (fn := f3) rfl G s3 rfl rfl (by decide) (by decide) (by decide) fun cdv Ar outer s H E hr => ?_
  haveI := lay_of (N := ["pairs", "told", "best", "most", "start", "ring"]) (outer := outer) (H := H) (E := E) F A hr
  have nd : List.Nodup (["pairs", "told", "best", "most", "start", "ring"] : List Str) := s3.nd
  have pp := passes_of (X := cxOf (L2.CX P w) P w K mg base ["pairs", "told", "best", "most", "start", "ring"] "ring_in" (defScope (top 4)) (fa 3) cdv Ar outer s H E) rfl
  have bk : ∀ {scope : Scope} {own : List (Str × Nat)}, blkC ["pairs", "told", "best", "most", "start", "ring"] (defScope (top 4)) scope own = true → BlkOk (cxOf (L2.CX P w) P w K mg base ["pairs", "told", "best", "most", "start", "ring"] "ring_in" (defScope (top 4)) (fa 3) cdv Ar outer s H E).N (cxOf (L2.CX P w) P w K mg base ["pairs", "told", "best", "most", "start", "ring"] "ring_in" (defScope (top 4)) (fa 3) cdv Ar outer s H E).env.scope scope own := fun h => blkOk_by h
  exact (css_cons (cs_set 1 nd (ce_call 0 ol (cg_cons (ce_var 0) cg_nil)))
    (css_cons (cs_set 2 nd ce_non)
    (css_cons (cs_set 3 nd (ce_len (ce_var 1)))
    (css_cons (cs_for pp (ci_lst (ce_sorted (ce_var 1))) (tg_v 4 nd) (css_cons (cs_set 5 nd (ce_call 1 ol (cg_cons (ce_var 1) (cg_cons (ce_var 4) (cg_cons (ce_var 3) cg_nil)))))
    (css_cons (cs_ite (ct_cmp cmp_notN (ce_var 5) ce_non) (css_cons (cs_set 2 nd (ce_var 5))
    (css_cons (cs_set 3 nd (ce_sub2 (ce_len (ce_var 5)) ce_int))
    (css_nil))) (css_nil))
    (css_nil))))
    (css_cons (cs_ite (ct_cmp cmp_isN (ce_var 2) ce_non) (css_cons (cs_ret ce_non)
    (css_nil)) (css_nil))
    (css_cons (cs_ret (ce_tuple (ce_var 2)))
    (css_nil)))))))
theorem s4 : FnScope ["pairs"] ["pairs"] (defScope (top 6)) := ⟨rfl, rfl, rfl, by decide +kernel, rfl, by decide +kernel, by decide +kernel⟩
theorem d4 (F : Fix P w K mg (lo K fa fd) tb) (ol : OLen tb o) (A : FnAll P w K mg base (lo K fa fd) tb o j) (G : Fun K "ring_of" "ring_of" (top 6) (fa 4) (fd 4)) : FnOk P w K mg base (L2.CX P w) (j + 2) (fa 4) (fd 4) ["pairs"] (spF (lo K fa fd) tb (runFn tb o) 4) := by
  refine fn_ok (L := lo K fa fd) (fn := f4) rfl G s4 rfl rfl (by decide) (by decide) (by decide) fun cdv Ar outer s H E hr => ?_
  haveI := lay_of (N := ["pairs"]) (outer := outer) (H := H) (E := E) F A hr
  have nd : List.Nodup (["pairs"] : List Str) := s4.nd
  have pp := passes_of (X := cxOf (L2.CX P w) P w K mg base ["pairs"] "ring_of" (defScope (top 6)) (fa 4) cdv Ar outer s H E) rfl
  have bk : ∀ {scope : Scope} {own : List (Str × Nat)}, blkC ["pairs"] (defScope (top 6)) scope own = true → BlkOk (cxOf (L2.CX P w) P w K mg base ["pairs"] "ring_of" (defScope (top 6)) (fa 4) cdv Ar outer s H E).N (cxOf (L2.CX P w) P w K mg base ["pairs"] "ring_of" (defScope (top 6)) (fa 4) cdv Ar outer s H E).env.scope scope own := fun h => blkOk_by h
  exact (css_cons (cs_ret (ce_call 3 ol (cg_cons (ce_var 0) cg_nil)))
    (css_nil))
theorem s5 : FnScope ["script", "at", "limits", "cell", "state", "left", "out", "limit"] ["script", "at", "limits"] (defScope (top 8)) := ⟨rfl, rfl, rfl, by decide +kernel, rfl, by decide +kernel, by decide +kernel⟩
theorem d5 (F : Fix P w K mg (lo K fa fd) tb) (ol : OLen tb o) (A : FnAll P w K mg base (lo K fa fd) tb o j) (G : Fun K "_law_draws" "_law_draws" (top 8) (fa 5) (fd 5)) : FnOk P w K mg base (L2.CX P w) (j + 2) (fa 5) (fd 5) ["script", "at", "limits"] (spF (lo K fa fd) tb (runFn tb o) 5) := by
  refine fn_ok (L := lo K fa fd) (fn := f5) rfl G s5 rfl rfl (by decide) (by decide) (by decide) fun cdv Ar outer s H E hr => ?_
  haveI := lay_of (N := ["script", "at", "limits", "cell", "state", "left", "out", "limit"]) (outer := outer) (H := H) (E := E) F A hr
  have nd : List.Nodup (["script", "at", "limits", "cell", "state", "left", "out", "limit"] : List Str) := s5.nd
  have pp := passes_of (X := cxOf (L2.CX P w) P w K mg base ["script", "at", "limits", "cell", "state", "left", "out", "limit"] "_law_draws" (defScope (top 8)) (fa 5) cdv Ar outer s H E) rfl
  have bk : ∀ {scope : Scope} {own : List (Str × Nat)}, blkC ["script", "at", "limits", "cell", "state", "left", "out", "limit"] (defScope (top 8)) scope own = true → BlkOk (cxOf (L2.CX P w) P w K mg base ["script", "at", "limits", "cell", "state", "left", "out", "limit"] "_law_draws" (defScope (top 8)) (fa 5) cdv Ar outer s H E).N (cxOf (L2.CX P w) P w K mg base ["script", "at", "limits", "cell", "state", "left", "out", "limit"] "_law_draws" (defScope (top 8)) (fa 5) cdv Ar outer s H E).env.scope scope own := fun h => blkOk_by h
  exact (css_cons (cs_set 3 nd (ce_add (ce_mul ce_int (ce_var 1)) (ce_mul ce_int (ce_len (ce_var 0)))))
    (css_cons (cs_ite (ct_cmp cmp_lt (ce_var 1) (ce_len (ce_var 0))) (css_cons (cs_set 3 nd (ce_add (ce_mul ce_int (ce_abs (ce_sub (ce_var 0) (ce_var 1)))) (ce_int1 (ce_cmp cmp_lt (ce_sub (ce_var 0) (ce_var 1)) ce_int))))
    (css_nil)) (css_nil))
    (css_cons (cs_set 4 nd (ce_mod (ce_add (ce_add (ce_mul (ce_int1 (ce_var 3)) ce_int) (ce_mul (ce_var 1) ce_int)) ce_int) ce_int))
    (css_cons (cs_set 5 nd ce_int)
    (css_cons (cs_ite (ct_cmp cmp_ge (ce_var 3) (ce_pow ce_int ce_int)) (css_cons (cs_set 5 nd (ce_var 3))
    (css_nil)) (css_nil))
    (css_cons (cs_set 6 nd (ce_lst ca_nil))
    (css_cons (cs_for pp (ci_lst (ce_var 2)) (tg_v 7 nd) (css_cons (cs_ite (ct_cmp cmp_gt (ce_var 5) ce_int) (css_cons (cs_ex (ce_append (cp_n 6) (cm_h (ce_mod (ce_int1 (ce_var 5)) (ce_var 7)))))
    (css_cons (cs_set 5 nd (ce_fdiv (ce_var 5) (ce_var 7)))
    (css_nil))) (css_cons (cs_set 4 nd (ce_mod (ce_add (ce_mul (ce_var 4) ce_int) ce_int) ce_int))
    (css_cons (cs_ex (ce_append (cp_n 6) (cm_h (ce_mod (ce_fdiv (ce_var 4) ce_int) (ce_var 7)))))
    (css_nil))))
    (css_nil)))
    (css_cons (cs_ret (ce_mv 6))
    (css_nil)))))))))
theorem s6 : FnScope ["told", "due", "k"] ["told", "due"] (defScope (top 9)) := ⟨rfl, rfl, rfl, by decide +kernel, rfl, by decide +kernel, by decide +kernel⟩
theorem d6 (F : Fix P w K mg (lo K fa fd) tb) (ol : OLen tb o) (A : FnAll P w K mg base (lo K fa fd) tb o j) (G : Fun K "_law_same" "_law_same" (top 9) (fa 6) (fd 6)) : FnOk P w K mg base (L2.CX P w) (j + 2) (fa 6) (fd 6) ["told", "due"] (spF (lo K fa fd) tb (runFn tb o) 6) := by
  refine fn_ok (L := lo K fa fd) (fn := f6) rfl G s6 rfl rfl (by decide) (by decide) (by decide) fun cdv Ar outer s H E hr => ?_
  haveI := lay_of (N := ["told", "due", "k"]) (outer := outer) (H := H) (E := E) F A hr
  have nd : List.Nodup (["told", "due", "k"] : List Str) := s6.nd
  have pp := passes_of (X := cxOf (L2.CX P w) P w K mg base ["told", "due", "k"] "_law_same" (defScope (top 9)) (fa 6) cdv Ar outer s H E) rfl
  have bk : ∀ {scope : Scope} {own : List (Str × Nat)}, blkC ["told", "due", "k"] (defScope (top 9)) scope own = true → BlkOk (cxOf (L2.CX P w) P w K mg base ["told", "due", "k"] "_law_same" (defScope (top 9)) (fa 6) cdv Ar outer s H E).N (cxOf (L2.CX P w) P w K mg base ["told", "due", "k"] "_law_same" (defScope (top 9)) (fa 6) cdv Ar outer s H E).env.scope scope own := fun h => blkOk_by h
  exact (css_cons (cs_ite (ct_cmp cmp_isN (ce_var 1) ce_non) (css_cons (cs_ret (ce_cmp cmp_isN (ce_var 0) ce_non))
    (css_nil)) (css_nil))
    (css_cons (cs_ite (ct_e (ce_isi .tuple (ce_var 1) (pe_ty rfl rfl))) (css_cons (cs_ite (ct_w (cw_or (ct_not (ct_e (ce_isi .tuple (ce_var 0) (pe_ty rfl rfl)))) (cw_oneO (ct_cmp cmp_ne (ce_len (ce_var 0)) (ce_len (ce_var 1)))))) (css_cons (cs_ret ce_bl)
    (css_nil)) (css_nil))
    (css_cons (cs_ret (ce_all (ce_lc [("k", 2)] nd (bk (own := [("k", 2)]) (by decide +kernel)) (ci_rng (ce_len (ce_var 1))) (fun _ _ _ _ _ => (tg_v 2 nd)) (fun _ _ _ _ _ => cf_n) (fun _ _ _ _ _ => (ce_call 6 ol (cg_cons (ce_sub (ce_var 0) (ce_var 2)) (cg_cons (ce_sub (ce_var 1) (ce_var 2)) cg_nil)))))))
    (css_nil))) (css_nil))
    (css_cons (cs_ite (ct_e (ce_isi .str (ce_var 1) (pe_ty rfl rfl))) (css_cons (cs_ret (ce_and (ce_isi .str (ce_var 0) (pe_ty rfl rfl)) (ce_one (ce_cmp cmp_eq (ce_var 0) (ce_var 1)))))
    (css_nil)) (css_nil))
    (css_cons (cs_ite (ct_e (ce_isi .bool (ce_var 1) (pe_ty rfl rfl))) (css_cons (cs_ret (ce_and (ce_isi .bool (ce_var 0) (pe_ty rfl rfl)) (ce_one (ce_cmp cmp_eq (ce_var 0) (ce_var 1)))))
    (css_nil)) (css_nil))
    (css_cons (cs_ret (ce_and (ce_isi .int (ce_var 0) (pe_ty rfl rfl)) (ce_and (ce_not (ce_isi .bool (ce_var 0) (pe_ty rfl rfl))) (ce_one (ce_cmp cmp_eq (ce_var 0) (ce_var 1))))))
    (css_nil))))))
theorem s7 : FnScope ["pairs", "first", "last", "row", "far", "k", "pair"] ["pairs", "first", "last"] (defScope (top 10)) := ⟨rfl, rfl, rfl, by decide +kernel, rfl, by decide +kernel, by decide +kernel⟩
theorem d7 (F : Fix P w K mg (lo K fa fd) tb) (ol : OLen tb o) (A : FnAll P w K mg base (lo K fa fd) tb o j) (G : Fun K "_law_steps_back" "_law_steps_back" (top 10) (fa 7) (fd 7)) : FnOk P w K mg base (L2.CX P w) (j + 2) (fa 7) (fd 7) ["pairs", "first", "last"] (spF (lo K fa fd) tb (runFn tb o) 7) := by
  refine fn_ok (L := lo K fa fd) (fn := f7) rfl G s7 rfl rfl (by decide) (by decide) (by decide) fun cdv Ar outer s H E hr => ?_
  haveI := lay_of (N := ["pairs", "first", "last", "row", "far", "k", "pair"]) (outer := outer) (H := H) (E := E) F A hr
  have nd : List.Nodup (["pairs", "first", "last", "row", "far", "k", "pair"] : List Str) := s7.nd
  have pp := passes_of (X := cxOf (L2.CX P w) P w K mg base ["pairs", "first", "last", "row", "far", "k", "pair"] "_law_steps_back" (defScope (top 10)) (fa 7) cdv Ar outer s H E) rfl
  have bk : ∀ {scope : Scope} {own : List (Str × Nat)}, blkC ["pairs", "first", "last", "row", "far", "k", "pair"] (defScope (top 10)) scope own = true → BlkOk (cxOf (L2.CX P w) P w K mg base ["pairs", "first", "last", "row", "far", "k", "pair"] "_law_steps_back" (defScope (top 10)) (fa 7) cdv Ar outer s H E).N (cxOf (L2.CX P w) P w K mg base ["pairs", "first", "last", "row", "far", "k", "pair"] "_law_steps_back" (defScope (top 10)) (fa 7) cdv Ar outer s H E).env.scope scope own := fun h => blkOk_by h
  exact (css_cons (cs_set 3 nd (ce_lst (ca_cons (ce_var 1) ca_nil)))
    (css_cons (cs_set 4 nd (ce_ddisp (ce_var 1) ce_int))
    (css_cons (cs_for pp (ci_rng ce_int) (tg_v 5 nd) (css_cons (cs_ite (ct_view (ct_cmp cmp_lt (ce_var 5) (ce_len (ce_var 3)))) (css_cons (cs_for pp (ci_lst (ce_var 0)) (tg_v 6 nd) (css_cons (cs_ite (ct_view (ct_w (cw_and (ct_cmp cmp_eq (ce_sub (ce_var 6) ce_int) (ce_sub (ce_var 3) (ce_var 5))) (cw_one (ct_cmp cmp_notin (ce_sub (ce_var 6) ce_int) (ce_var 4)))))) (css_cons (cs_sub (ce_view (ce_add (ce_sub (ce_var 4) (ce_sub (ce_var 3) (ce_var 5))) ce_int)) (cp_n 4) (cm_h (ce_sub (ce_var 6) ce_int)))
    (css_cons (cs_ex (ce_append (cp_n 3) (cm_h (ce_sub (ce_var 6) ce_int))))
    (css_nil))) (css_nil))
    (css_nil)))
    (css_nil)) (css_nil))
    (css_nil)))
    (css_cons (cs_ret (ce_get2 (ce_var 4) (ce_var 2) ce_int))
    (css_nil)))))
theorem s8 : FnScope ["script", "pick", "worth", "many", "cells", "pairs", "least", "told", "k", "pair", "n"] ["script"] (defScope (top 11)) := ⟨rfl, rfl, rfl, by decide +kernel, rfl, by decide +kernel, by decide +kernel⟩
theorem d8 (F : Fix P w K mg (lo K fa fd) tb) (ol : OLen tb o) (A : FnAll P w K mg base (lo K fa fd) tb o j) (G : Fun K "law" "law" (top 11) (fa 8) (fd 8)) : FnOk P w K mg base (L2.CX P w) (j + 2) (fa 8) (fd 8) ["script"] (spF (lo K fa fd) tb (runFn tb o) 8) := by
  refine fn_ok (L := lo K fa fd) (fn := f8) rfl G s8 rfl rfl (by decide) (by decide) (by decide) fun cdv Ar outer s H E hr => ?_
  haveI := lay_of (N := ["script", "pick", "worth", "many", "cells", "pairs", "least", "told", "k", "pair", "n"]) (outer := outer) (H := H) (E := E) F A hr
  have nd : List.Nodup (["script", "pick", "worth", "many", "cells", "pairs", "least", "told", "k", "pair", "n"] : List Str) := s8.nd
  have pp := passes_of (X := cxOf (L2.CX P w) P w K mg base ["script", "pick", "worth", "many", "cells", "pairs", "least", "told", "k", "pair", "n"] "law" (defScope (top 11)) (fa 8) cdv Ar outer s H E) rfl
  have bk : ∀ {scope : Scope} {own : List (Str × Nat)}, blkC ["script", "pick", "worth", "many", "cells", "pairs", "least", "told", "k", "pair", "n"] (defScope (top 11)) scope own = true → BlkOk (cxOf (L2.CX P w) P w K mg base ["script", "pick", "worth", "many", "cells", "pairs", "least", "told", "k", "pair", "n"] "law" (defScope (top 11)) (fa 8) cdv Ar outer s H E).N (cxOf (L2.CX P w) P w K mg base ["script", "pick", "worth", "many", "cells", "pairs", "least", "told", "k", "pair", "n"] "law" (defScope (top 11)) (fa 8) cdv Ar outer s H E).env.scope scope own := fun h => blkOk_by h
  exact (css_cons (cs_set 1 nd (ce_call 5 ol (cg_cons (ce_var 0) (cg_cons ce_int (cg_cons (ce_lst (ca_cons ce_int (ca_cons ce_int (ca_cons ce_int (ca_cons ce_int ca_nil))))) cg_nil)))))
    (css_cons (cs_set 2 nd (ce_lst (ca_cons ce_int (ca_cons ce_int (ca_cons ce_int (ca_cons (ce_add (ce_pow ce_int ce_int) ce_int) (ca_cons ce_int (ca_cons (ce_pow ce_int ce_int) (ca_cons ce_int (ca_cons ce_int (ca_cons (ce_sub (ce_var 1) ce_int) ca_nil)))))))))))
    (css_cons (cs_set 3 nd (ce_add ce_int (ce_sub (ce_var 1) ce_int)))
    (css_cons (cs_set 4 nd (ce_call 5 ol (cg_cons (ce_var 0) (cg_cons ce_int (cg_cons (ce_mul (ce_lst (ca_cons ce_int (ca_cons ce_int ca_nil))) ce_int) cg_nil)))))
    (css_cons (cs_set 5 nd (ce_lc [("k", 8)] nd (bk (own := [("k", 8)]) (by decide +kernel)) (ci_rng (ce_sub (ce_var 1) ce_int)) (fun _ _ _ _ _ => (tg_v 8 nd)) (fun _ _ _ _ _ => cf_n) (fun _ _ _ _ _ => (ce_tup (ca_cons (ce_sub (ce_var 2) (ce_mod (ce_sub (ce_var 4) (ce_mul ce_int (ce_var 8))) (ce_var 3))) (ca_cons (ce_sub (ce_var 2) (ce_mod (ce_sub (ce_var 4) (ce_add (ce_mul ce_int (ce_var 8)) ce_int)) (ce_var 3))) ca_nil))))))
    (css_cons (cs_ite (ct_cmp cmp_eq (ce_sub (ce_var 1) ce_int) ce_int) (css_cons (cs_set 5 nd (ce_lc [("k", 8)] nd (bk (own := [("k", 8)]) (by decide +kernel)) (ci_rng (ce_sub (ce_var 1) ce_int)) (fun _ _ _ _ _ => (tg_v 8 nd)) (fun _ _ _ _ _ => cf_n) (fun _ _ _ _ _ => (ce_tup (ca_cons (ce_sub (ce_var 2) (ce_mod (ce_var 8) (ce_var 3))) (ca_cons (ce_sub (ce_var 2) (ce_mod (ce_add (ce_var 8) ce_int) (ce_var 3))) ca_nil))))))
    (css_nil)) (css_nil))
    (css_cons (cs_ite (ct_w (cw_and (ct_cmp cmp_eq (ce_sub (ce_var 1) ce_int) ce_int) (cw_one (ct_cmp cmp_gt (ce_sub (ce_var 1) ce_int) ce_int)))) (css_cons (cs_set 5 nd (ce_add (ce_var 5) (ce_slc (ce_var 5) co_none (co_some ce_int))))
    (css_nil)) (css_nil))
    (css_cons (cs_set 6 nd (ce_min (ce_add (ce_lst (ca_cons ce_int ca_nil)) (ce_lc [("pair", 9)] nd (bk (own := [("pair", 9)]) (by decide +kernel)) (ci_lst (ce_var 5)) (fun _ _ _ _ _ => (tg_v 9 nd)) (fun _ _ _ _ _ => cf_n) (fun _ _ _ _ _ => (ce_add (ce_call 7 ol (cg_cons (ce_var 5) (cg_cons (ce_sub (ce_var 9) ce_int) (cg_cons (ce_sub (ce_var 9) ce_int) cg_nil)))) ce_int))))))
    (css_cons (cs_set 7 nd (ce_call 4 ol (cg_cons (ce_tuple (ce_var 5)) cg_nil)))
    (css_cons (cs_ite (ct_cmp cmp_eq (ce_var 6) ce_int) (css_cons (cs_ret (ce_and (ce_cmp cmp_isN (ce_var 7) ce_non) (ce_one (ce_cmp cmp_isN (ce_call 4 ol (cg_cons (ce_tuple (ce_var 5)) cg_nil)) ce_non))))
    (css_nil)) (css_nil))
    (css_cons (cs_ite (ct_w (cw_or (ct_not (ct_e (ce_isi .tuple (ce_var 7) (pe_ty rfl rfl)))) (cw_oneO (ct_cmp cmp_ne (ce_len (ce_var 7)) (ce_var 6))))) (css_cons (cs_ret ce_bl)
    (css_nil)) (css_nil))
    (css_cons (cs_ite (ct_not (ct_e (ce_all (ce_lc [("n", 10)] nd (bk (own := [("n", 10)]) (by decide +kernel)) (ci_tup (ce_var 7)) (fun _ _ _ _ _ => (tg_v 10 nd)) (fun _ _ _ _ _ => cf_n) (fun _ _ _ _ _ => (ce_and (ce_isi .int (ce_var 10) (pe_ty rfl rfl)) (ce_one (ce_not (ce_isi .bool (ce_var 10) (pe_ty rfl rfl)))))))))) (css_cons (cs_ret ce_bl)
    (css_nil)) (css_nil))
    (css_cons (cs_ite (ct_not (ct_e (ce_all (ce_lc [("k", 8)] nd (bk (own := [("k", 8)]) (by decide +kernel)) (ci_rng (ce_var 6)) (fun _ _ _ _ _ => (tg_v 8 nd)) (fun _ _ _ _ _ => cf_n) (fun _ _ _ _ _ => (ce_cmp cmp_in (ce_tup (ca_cons (ce_sub (ce_var 7) (ce_sub2 (ce_var 8) ce_int)) (ca_cons (ce_sub (ce_var 7) (ce_var 8)) ca_nil))) (ce_var 5))))))) (css_cons (cs_ret ce_bl)
    (css_nil)) (css_nil))
    (css_cons (cs_ret (ce_call 6 ol (cg_cons (ce_call 4 ol (cg_cons (ce_tuple (ce_list (ce_var 5))) cg_nil)) (cg_cons (ce_var 7) cg_nil))))
    (css_nil)))))))))))))))
theorem dAll (F : Fix P w K mg (lo K fa fd) tb) (G0 : Fun K "followers" "followers" (top 1) (fa 0) (fd 0)) (G1 : Fun K "way_back" "way_back" (top 2) (fa 1) (fd 1)) (G2 : Fun K "traced" "traced" (top 3) (fa 2) (fd 2)) (G3 : Fun K "ring_in" "ring_in" (top 4) (fa 3) (fd 3)) (G4 : Fun K "ring_of" "ring_of" (top 6) (fa 4) (fd 4)) (G5 : Fun K "_law_draws" "_law_draws" (top 8) (fa 5) (fd 5)) (G6 : Fun K "_law_same" "_law_same" (top 9) (fa 6) (fd 6)) (G7 : Fun K "_law_steps_back" "_law_steps_back" (top 10) (fa 7) (fd 7)) (G8 : Fun K "law" "law" (top 11) (fa 8) (fd 8)) (o : Orc) (j : Nat) (ol : OLen tb o) (A : FnAll P w K mg base (lo K fa fd) tb o j) : FnAll P w K mg base (lo K fa fd) tb (runFn tb o) (j + 2)
  | 0, _, hf => by cases Option.some.inj hf; exact d0 F ol A G0
  | 1, _, hf => by cases Option.some.inj hf; exact d1 F ol A G1
  | 2, _, hf => by cases Option.some.inj hf; exact d2 F ol A G2
  | 3, _, hf => by cases Option.some.inj hf; exact d3 F ol A G3
  | 4, _, hf => by cases Option.some.inj hf; exact d4 F ol A G4
  | 5, _, hf => by cases Option.some.inj hf; exact d5 F ol A G5
  | 6, _, hf => by cases Option.some.inj hf; exact d6 F ol A G6
  | 7, _, hf => by cases Option.some.inj hf; exact d7 F ol A G7
  | 8, _, hf => by cases Option.some.inj hf; exact d8 F ol A G8
  | _ + 9, _, hf => by cases hf
end
theorem all_mk {l : PySem.W.OpenLaw} {w : World} {K : PySem.W.Frag} {h : Heap} {mg : Str → Option Value} {fa a0 a1 a2 a3 a4 a5 a6 a7 a8 : Addr} (X : K.In h) (G : h.Ns mainGlobals mg) (hfa : mg "law" = some (.ref fa))
    {od0 an0 od1 an1 od2 an2 od3 an3 od4 an4 od5 an5 od6 an6 od7 an7 od8 an8 : Option Addr} {sl0 sl1 sl2 sl3 sl4 sl5 sl6 sl7 sl8 : Array (Option Value)} {oc0 kV0 dc0 pm0 cd0 ct0 oc1 kV1 dc1 pm1 cd1 ct1 oc2 kV2 dc2 pm2 cd2 ct2 oc3 kV3 dc3 pm3 cd3 ct3 oc4 kV4 dc4 pm4 cd4 ct4 oc5 kV5 dc5 pm5 cd5 ct5 oc6 kV6 dc6 pm6 cd6 ct6 oc7 kV7 dc7 pm7 cd7 ct7 oc8 kV8 dc8 pm8 cd8 ct8 : Value}
    (n0 : PySem.W.nsIn K mainGlobals "followers" = some (some (.ref a0))) (l0 : K.lookup a0 = some ⟨oc0, od0, .func (PySem.W.fnOf "followers" "followers" (defArgs (top 1)) (defBody (top 1)) (defScope (top 1)) .none kV0 dc0 pm0 an0 cd0 ct0), sl0⟩) (c0 : PySem.W.codeIn K cd0 "followers" = true) (k0 : PySem.W.keepIn K (.ref a0) = true)
    (n1 : PySem.W.nsIn K mainGlobals "way_back" = some (some (.ref a1))) (l1 : K.lookup a1 = some ⟨oc1, od1, .func (PySem.W.fnOf "way_back" "way_back" (defArgs (top 2)) (defBody (top 2)) (defScope (top 2)) .none kV1 dc1 pm1 an1 cd1 ct1), sl1⟩) (c1 : PySem.W.codeIn K cd1 "way_back" = true) (k1 : PySem.W.keepIn K (.ref a1) = true)
    (n2 : PySem.W.nsIn K mainGlobals "traced" = some (some (.ref a2))) (l2 : K.lookup a2 = some ⟨oc2, od2, .func (PySem.W.fnOf "traced" "traced" (defArgs (top 3)) (defBody (top 3)) (defScope (top 3)) .none kV2 dc2 pm2 an2 cd2 ct2), sl2⟩) (c2 : PySem.W.codeIn K cd2 "traced" = true) (k2 : PySem.W.keepIn K (.ref a2) = true)
    (n3 : PySem.W.nsIn K mainGlobals "ring_in" = some (some (.ref a3))) (l3 : K.lookup a3 = some ⟨oc3, od3, .func (PySem.W.fnOf "ring_in" "ring_in" (defArgs (top 4)) (defBody (top 4)) (defScope (top 4)) .none kV3 dc3 pm3 an3 cd3 ct3), sl3⟩) (c3 : PySem.W.codeIn K cd3 "ring_in" = true) (k3 : PySem.W.keepIn K (.ref a3) = true)
    (n4 : PySem.W.nsIn K mainGlobals "ring_of" = some (some (.ref a4))) (l4 : K.lookup a4 = some ⟨oc4, od4, .func (PySem.W.fnOf "ring_of" "ring_of" (defArgs (top 6)) (defBody (top 6)) (defScope (top 6)) .none kV4 dc4 pm4 an4 cd4 ct4), sl4⟩) (c4 : PySem.W.codeIn K cd4 "ring_of" = true) (k4 : PySem.W.keepIn K (.ref a4) = true)
    (n5 : PySem.W.nsIn K mainGlobals "_law_draws" = some (some (.ref a5))) (l5 : K.lookup a5 = some ⟨oc5, od5, .func (PySem.W.fnOf "_law_draws" "_law_draws" (defArgs (top 8)) (defBody (top 8)) (defScope (top 8)) .none kV5 dc5 pm5 an5 cd5 ct5), sl5⟩) (c5 : PySem.W.codeIn K cd5 "_law_draws" = true) (k5 : PySem.W.keepIn K (.ref a5) = true)
    (n6 : PySem.W.nsIn K mainGlobals "_law_same" = some (some (.ref a6))) (l6 : K.lookup a6 = some ⟨oc6, od6, .func (PySem.W.fnOf "_law_same" "_law_same" (defArgs (top 9)) (defBody (top 9)) (defScope (top 9)) .none kV6 dc6 pm6 an6 cd6 ct6), sl6⟩) (c6 : PySem.W.codeIn K cd6 "_law_same" = true) (k6 : PySem.W.keepIn K (.ref a6) = true)
    (n7 : PySem.W.nsIn K mainGlobals "_law_steps_back" = some (some (.ref a7))) (l7 : K.lookup a7 = some ⟨oc7, od7, .func (PySem.W.fnOf "_law_steps_back" "_law_steps_back" (defArgs (top 10)) (defBody (top 10)) (defScope (top 10)) .none kV7 dc7 pm7 an7 cd7 ct7), sl7⟩) (c7 : PySem.W.codeIn K cd7 "_law_steps_back" = true) (k7 : PySem.W.keepIn K (.ref a7) = true)
    (n8 : PySem.W.nsIn K mainGlobals "law" = some (some (.ref a8))) (l8 : K.lookup a8 = some ⟨oc8, od8, .func (PySem.W.fnOf "law" "law" (defArgs (top 11)) (defBody (top 11)) (defScope (top 11)) .none kV8 dc8 pm8 an8 cd8 ct8), sl8⟩) (c8 : PySem.W.codeIn K cd8 "law" = true) (k8 : PySem.W.keepIn K (.ref a8) = true)
    (z0 : PySem.W.nsIn K mainGlobals "len" = some none) (z1 : PySem.W.nsIn K mainGlobals "range" = some none) (z2 : PySem.W.nsIn K mainGlobals "int" = some none) (z3 : PySem.W.nsIn K mainGlobals "abs" = some none) (z4 : PySem.W.nsIn K mainGlobals "list" = some none) (z5 : PySem.W.nsIn K mainGlobals "tuple" = some none) (z6 : PySem.W.nsIn K mainGlobals "sorted" = some none) (z7 : PySem.W.nsIn K mainGlobals "sum" = some none) (z8 : PySem.W.nsIn K mainGlobals "all" = some none) (z9 : PySem.W.nsIn K mainGlobals "any" = some none) (z10 : PySem.W.nsIn K mainGlobals "min" = some none) (z11 : PySem.W.nsIn K mainGlobals "max" = some none) (z12 : PySem.W.nsIn K mainGlobals "str" = some none) (z13 : PySem.W.nsIn K mainGlobals "bool" = some none) (z14 : PySem.W.nsIn K mainGlobals "isinstance" = some none) (z15 : PySem.W.nsIn K mainGlobals "enumerate" = some none) (z16 : PySem.W.nsIn K mainGlobals "zip" = some none) (z17 : PySem.W.nsIn K mainGlobals "reversed" = some none) (z18 : PySem.W.nsIn K mainGlobals "dict" = some none) (z19 : PySem.W.nsIn K mainGlobals "repr" = some none) (z20 : PySem.W.nsIn K mainGlobals "set" = some none) (z21 : PySem.W.nsIn K mainGlobals "super" = some none) (z22 : PySem.W.nsIn K mainGlobals "type" = some none)
    {d : Nat} (hl : ∀ ns : List Int, ns.length ≤ 63 → callF tb d 8 [scriptD ns] = some (.val (.bl true) [])) :
    ∃ fd : FuncData, (∀ (s : Shared) (v : Value), BindsTo s fd ⟨[v], []⟩ [("script", v)]) ∧ ∀ base : Heap, K.In base → base.Ns mainGlobals mg → FnOk l.prog w K mg base (L2.CX l.prog w) (2 * d) fa fd ["script"] (spL K) := by
  cases hfa.symm.trans (PySem.W.mg_of X G n8)
  have F0 := fun_mk (st := top 1) l0 c0 k0
  have F1 := fun_mk (st := top 2) l1 c1 k1
  have F2 := fun_mk (st := top 3) l2 c2 k2
  have F3 := fun_mk (st := top 4) l3 c3 k3
  have F4 := fun_mk (st := top 6) l4 c4 k4
  have F5 := fun_mk (st := top 8) l5 c5 k5
  have F6 := fun_mk (st := top 9) l6 c6 k6
  have F7 := fun_mk (st := top 10) l7 c7 k7
  have F8 := fun_mk (st := top 11) l8 c8 k8
  let fad : Nat → Addr := fun i => match i with | 0 => a0 | 1 => a1 | 2 => a2 | 3 => a3 | 4 => a4 | 5 => a5 | 6 => a6 | 7 => a7 | _ => fa
  let ffd : Nat → FuncData := fun i => match i with | 0 => (PySem.W.fnOf "followers" "followers" (defArgs (top 1)) (defBody (top 1)) (defScope (top 1)) .none kV0 dc0 pm0 an0 cd0 ct0) | 1 => (PySem.W.fnOf "way_back" "way_back" (defArgs (top 2)) (defBody (top 2)) (defScope (top 2)) .none kV1 dc1 pm1 an1 cd1 ct1) | 2 => (PySem.W.fnOf "traced" "traced" (defArgs (top 3)) (defBody (top 3)) (defScope (top 3)) .none kV2 dc2 pm2 an2 cd2 ct2) | 3 => (PySem.W.fnOf "ring_in" "ring_in" (defArgs (top 4)) (defBody (top 4)) (defScope (top 4)) .none kV3 dc3 pm3 an3 cd3 ct3) | 4 => (PySem.W.fnOf "ring_of" "ring_of" (defArgs (top 6)) (defBody (top 6)) (defScope (top 6)) .none kV4 dc4 pm4 an4 cd4 ct4) | 5 => (PySem.W.fnOf "_law_draws" "_law_draws" (defArgs (top 8)) (defBody (top 8)) (defScope (top 8)) .none kV5 dc5 pm5 an5 cd5 ct5) | 6 => (PySem.W.fnOf "_law_same" "_law_same" (defArgs (top 9)) (defBody (top 9)) (defScope (top 9)) .none kV6 dc6 pm6 an6 cd6 ct6) | 7 => (PySem.W.fnOf "_law_steps_back" "_law_steps_back" (defArgs (top 10)) (defBody (top 10)) (defScope (top 10)) .none kV7 dc7 pm7 an7 cd7 ct7) | _ => (PySem.W.fnOf "law" "law" (defArgs (top 11)) (defBody (top 11)) (defScope (top 11)) .none kV8 dc8 pm8 an8 cd8 ct8)
  have FX : Fix l.prog w K mg (lo K fad ffd) tb := by
    refine ⟨rfl, fun x hx => ?_, fun f hf => ?_, fun c hc => (by cases hc), fun c m f h => (by cases h), fun c f h => (by cases h), fun c f h => (by cases h), fun f fn hf => ?_⟩
    · simp only [biNames, List.mem_cons, List.not_mem_nil, or_false] at hx
      rcases hx with rfl | rfl | rfl | rfl | rfl | rfl | rfl | rfl | rfl | rfl | rfl | rfl | rfl | rfl | rfl | rfl | rfl | rfl | rfl | rfl | rfl | rfl | rfl
      · exact PySem.W.mg_none_of X G z0
      · exact PySem.W.mg_none_of X G z1
      · exact PySem.W.mg_none_of X G z2
      · exact PySem.W.mg_none_of X G z3
      · exact PySem.W.mg_none_of X G z4
      · exact PySem.W.mg_none_of X G z5
      · exact PySem.W.mg_none_of X G z6
      · exact PySem.W.mg_none_of X G z7
      · exact PySem.W.mg_none_of X G z8
      · exact PySem.W.mg_none_of X G z9
      · exact PySem.W.mg_none_of X G z10
      · exact PySem.W.mg_none_of X G z11
      · exact PySem.W.mg_none_of X G z12
      · exact PySem.W.mg_none_of X G z13
      · exact PySem.W.mg_none_of X G z14
      · exact PySem.W.mg_none_of X G z15
      · exact PySem.W.mg_none_of X G z16
      · exact PySem.W.mg_none_of X G z17
      · exact PySem.W.mg_none_of X G z18
      · exact PySem.W.mg_none_of X G z19
      · exact PySem.W.mg_none_of X G z20
      · exact PySem.W.mg_none_of X G z21
      · exact PySem.W.mg_none_of X G z22
    · match f, hf with
      | 0, _ => exact (PySem.W.mg_of X G n0 :)
      | 1, _ => exact (PySem.W.mg_of X G n1 :)
      | 2, _ => exact (PySem.W.mg_of X G n2 :)
      | 3, _ => exact (PySem.W.mg_of X G n3 :)
      | 4, _ => exact (PySem.W.mg_of X G n4 :)
      | 5, _ => exact (PySem.W.mg_of X G n5 :)
      | 6, _ => exact (PySem.W.mg_of X G n6 :)
      | 7, _ => exact (PySem.W.mg_of X G n7 :)
      | 8, _ => exact (PySem.W.mg_of X G n8 :)
      | i + 9, hf => exact absurd (of_decide_eq_true (show decide (i + 9 < 9) = true from hf)) (by omega)
    · match f, hf with
      | 0, hf => cases Option.some.inj hf; exact ⟨k0, F0.binds (ps := ["pairs"]) (fun _ _ _ _ _ _ us hl => match us, hl with | [_], _ => rfl), rfl⟩
      | 1, hf => cases Option.some.inj hf; exact ⟨k1, F1.binds (ps := ["told", "start", "most"]) (fun _ _ _ _ _ _ us hl => match us, hl with | [_, _, _], _ => rfl), rfl⟩
      | 2, hf => cases Option.some.inj hf; exact ⟨k2, F2.binds (ps := ["came_from", "last", "length"]) (fun _ _ _ _ _ _ us hl => match us, hl with | [_, _, _], _ => rfl), rfl⟩
      | 3, hf => cases Option.some.inj hf; exact ⟨k3, F3.binds (ps := ["pairs"]) (fun _ _ _ _ _ _ us hl => match us, hl with | [_], _ => rfl), rfl⟩
      | 4, hf => cases Option.some.inj hf; exact ⟨k4, F4.binds (ps := ["pairs"]) (fun _ _ _ _ _ _ us hl => match us, hl with | [_], _ => rfl), rfl⟩
      | 5, hf => cases Option.some.inj hf; exact ⟨k5, F5.binds (ps := ["script", "at", "limits"]) (fun _ _ _ _ _ _ us hl => match us, hl with | [_, _, _], _ => rfl), rfl⟩
      | 6, hf => cases Option.some.inj hf; exact ⟨k6, F6.binds (ps := ["told", "due"]) (fun _ _ _ _ _ _ us hl => match us, hl with | [_, _], _ => rfl), rfl⟩
      | 7, hf => cases Option.some.inj hf; exact ⟨k7, F7.binds (ps := ["pairs", "first", "last"]) (fun _ _ _ _ _ _ us hl => match us, hl with | [_, _, _], _ => rfl), rfl⟩
      | 8, hf => cases Option.some.inj hf; exact ⟨k8, F8.binds (ps := ["script"]) (fun _ _ _ _ _ _ us hl => match us, hl with | [_], _ => rfl), rfl⟩
      | _ + 9, hf => cases hf
  refine ⟨ffd 8, fun s v => .of_eq rfl, fun base _ _ => ?_⟩
  exact law_fn (L := lo K fad ffd) (tb := tb) (f := 8) (fn := f8) rfl rfl rfl rfl (fn_all FX (dAll FX F0 F1 F2 F3 F4 F5 F6 F7 F8) d) hl
theorem walk {l : PySem.W.OpenLaw} {q : Program} {loose : List Str} {XP : (Str → Option Value) → Heap → Prop} {YP : World → Heap → Prop} {d : DefRec} {K : Params → PySem.W.Frag} {k : Nat} (hr : Room (2 * k) callerA) (hn : l.most = some 63) (hdf : d.params.defaults = [])
    (hY : ∀ (w : World) (h : Heap), YP w h → (K w.params).In h)
    (F : ∀ (w : World) (mg : Str → Option Value) (fa : Addr) (h : Heap), (K w.params).In h → h.Ns mainGlobals mg → mg d.name = some (.ref fa) →
      ∃ fd : FuncData, (∀ (s : Shared) (u : Value), BindsTo s fd ⟨[u], []⟩ [("script", u)]) ∧ ∀ base : Heap, (K w.params).In base → base.Ns mainGlobals mg → FnOk l.prog w (K w.params) mg base (L2.CX l.prog w) (2 * k) fa fd ["script"] (spL (K w.params))) :
    PySem.W.WalkO q loose XP YP l.row.toRowW d [] (fun f vs => PySem.call f vs) :=
  L2.walk_of (n := 63) (k := 2 * k) (x := "script") (CX := fun w => L2.CX l.prog w) (sp := fun w => spL (K w.params)) hn (by decide) hdf hr hY F (fun w H a ns hl ho hS => ⟨a, ns, rfl, fz_of ho hS, hl, fun _ => rfl⟩) fun w H s e s' z => cx_false z
end K87

namespace K87
open PySem L2 PL
theorem small (n : Nat) (h : n ≤ 1000) : n < sizeLine := Nat.lt_of_le_of_lt h (by decide)
/-- the numbers that are drawn -/
def dr : List Int → Int → Int → List Int
  | [], _, _ => []
  | m :: ms, st, lf => if lf > 0 then (lf % m) :: dr ms st (lf / m) else ((st * 16807 + 7919) % 2147483647 / 131 % m) :: dr ms ((st * 16807 + 7919) % 2147483647) lf
def okM (m : Int) : Prop := 0 < m ∧ m < 1073741824
theorem dr_step {o : Orc} (out : List Int) (a b c d : Option D) (st lf m : Int) (h : okM m) (hl : out.length ≤ 1000) :
    exSs tb o [] b5_1 [a, b, c, d, some (.int st), some (.int lf), some (.nd .lst true (out.map .int)), some (.int m)] =
      if lf > 0 then some (.val .nx [a, b, c, d, some (.int st), some (.int (lf / m)), some (.nd .lst true ((out ++ [lf % m]).map .int)), some (.int m)])
      else some (.val .nx [a, b, c, d, some (.int ((st * 16807 + 7919) % 2147483647)), some (.int lf), some (.nd .lst true ((out ++ [(st * 16807 + 7919) % 2147483647 / 131 % m]).map .int)), some (.int m)]) := by
  obtain ⟨h1, h2⟩ := h
  have hsz := small _ hl
  by_cases c0 : lf > 0
  · simp -implicitDefEqProofs [b5_1, cmpD, truth, c0, biD, binD, h1, h2, muD, modD, walkD, hsz]
  · simp -implicitDefEqProofs [b5_1, cmpD, truth, c0, biD, binD, mulOk, h1, h2, muD, modD, walkD, hsz]
theorem dr_loop {o : Orc} : ∀ (ms : List Int) (out : List Int) (a b c d : Option D) (st lf : Int) (x : Option D), (∀ m ∈ ms, okM m) → out.length + ms.length ≤ 1000 →
    ∃ st' lf' x', loopF (fun x e => some (e.set 7 (some x))) (fun e => exSs tb o [] b5_1 e) (ms.map .int) [a, b, c, d, some (.int st), some (.int lf), some (.nd .lst true (out.map .int)), x]
      = some (.val .nx [a, b, c, d, some (.int st'), some (.int lf'), some (.nd .lst true ((out ++ dr ms st lf).map .int)), x'])
  | [], out, a, b, c, d, st, lf, x, _, _ => ⟨st, lf, x, by simp [dr]⟩
  | m :: ms, out, a, b, c, d, st, lf, x, hm, hl => by
    have hs := dr_step (o := o) out a b c d st lf m (hm m (by simp)) (by simp at hl; omega)
    by_cases c0 : lf > 0
    · obtain ⟨st', lf', x', ih⟩ := dr_loop (o := o) ms (out ++ [lf % m]) a b c d st (lf / m) (some (.int m)) (fun k hk => hm k (by simp [hk])) (by simp at hl ⊢; omega)
      refine ⟨st', lf', x', ?_⟩
      rw [if_pos c0] at hs
      rw [List.map_cons, loopF_turn rfl hs, ih]
      simp [dr, c0]
    · obtain ⟨st', lf', x', ih⟩ := dr_loop (o := o) ms (out ++ [(st * 16807 + 7919) % 2147483647 / 131 % m]) a b c d ((st * 16807 + 7919) % 2147483647) lf (some (.int m)) (fun k hk => hm k (by simp [hk])) (by simp at hl ⊢; omega)
      refine ⟨st', lf', x', ?_⟩
      rw [if_neg c0] at hs
      rw [List.map_cons, loopF_turn rfl hs, ih]
      simp [dr, c0]
theorem dr_len : ∀ (ms : List Int) (st lf : Int), (dr ms st lf).length = ms.length
  | [], _, _ => rfl
  | m :: ms, st, lf => by
    simp only [dr]
    split <;> simp [dr_len ms]
theorem dr_rng : ∀ (ms : List Int) (st lf : Int), (∀ m ∈ ms, okM m) → ∀ (i : Nat) (x m : Int), (dr ms st lf)[i]? = some x → ms[i]? = some m → 0 ≤ x ∧ x < m
  | [], _, _, _, i, x, m, h, _ => by simp [dr] at h
  | k :: ms, st, lf, hm, i, x, m, h, hi => by
    have hk := hm k (by simp)
    have ih := fun st lf => dr_rng ms st lf fun m hm' => hm m (by simp [hm'])
    cases i with
    | zero =>
      simp at hi
      subst hi
      simp only [dr] at h
      split at h <;> simp at h <;> subst h <;> exact ⟨Int.emod_nonneg _ (by have := hk.1; omega), Int.emod_lt_of_pos _ hk.1⟩
    | succ i =>
      simp at hi
      simp only [dr] at h
      split at h <;> simp at h <;> exact ih _ _ i x m h hi
/-- _law_draws -/
theorem e5 : tb.fns[5]? = some f5 := rfl
theorem run5 (k : Nat) (ns : List Int) (at' : Nat) (ms : List Int) (hm : ∀ m ∈ ms, okM m) (hl : ms.length ≤ 1000) :
    ∃ st lf, callF tb (k + 1) 5 [scriptD ns, .int at', .nd .lst false (ms.map .int)] = some (.val (.nd .lst true ((dr ms st lf).map .int)) []) := by
  rw [call_succ]
  have L := fun cell lf => dr_loop (o := callF tb k) ms [] (some (scriptD ns)) (some (.int at')) (some (.nd .lst false (ms.map .int))) (some (.int cell)) ((cell * 48271 + at' * 69621 + 12345) % 2147483647) lf none hm (by simpa using hl)
  by_cases hlt : (at' : Int) < ns.length
  · have hg : atI (ns.map D.int) (at' : Int) = some (.int (ns[at']'(by omega))) := by
      unfold atI ixN
      simp [hlt]
    generalize ns[at']'(by omega) = c at hg
    obtain ⟨cell, hc⟩ : ∃ cell, cell = 2 * (if c < 0 then -c else c) + (if c < 0 then 1 else 0) := ⟨_, rfl⟩
    by_cases h : (10:Int) ^ 18 ≤ cell
    · obtain ⟨st', lf', x', ih⟩ := L cell cell
      refine ⟨((cell * 48271 + at' * 69621 + 12345) % 2147483647), cell, ?_⟩
      simp at h ih
      simp -implicitDefEqProofs [runFn, e5, b5, hlt, hg, ← hc, h, ih, finals]
    · obtain ⟨st', lf', x', ih⟩ := L cell 0
      refine ⟨((cell * 48271 + at' * 69621 + 12345) % 2147483647), 0, ?_⟩
      simp at h ih
      simp -implicitDefEqProofs [runFn, e5, b5, hlt, hg, ← hc, show ¬ (1000000000000000000 ≤ cell) by omega, ih, finals]
  · obtain ⟨cell, hc⟩ : ∃ cell : Int, cell = 977 * at' + 31 * ns.length := ⟨_, rfl⟩
    by_cases h : (10:Int) ^ 18 ≤ cell
    · obtain ⟨st', lf', x', ih⟩ := L cell cell
      refine ⟨((cell * 48271 + at' * 69621 + 12345) % 2147483647), cell, ?_⟩
      simp at h ih
      simp -implicitDefEqProofs [runFn, e5, b5, hlt, ← hc, h, ih, finals]
    · obtain ⟨st', lf', x', ih⟩ := L cell 0
      refine ⟨((cell * 48271 + at' * 69621 + 12345) % 2147483647), 0, ?_⟩
      simp at h ih
      simp -implicitDefEqProofs [runFn, e5, b5, hlt, ← hc, show ¬ (1000000000000000000 ≤ cell) by omega, ih, finals]
end K87

namespace K87
open PySem L2 PL
abbrev lO (l : List Int) : D := .nd .lst true (iL l)
abbrev lF (l : List Int) : D := .nd .lst false (iL l)
abbrev dO (t : List (Int × List Int)) : D := .nd (.dk (kD t)) true (vD lO t)
abbrev dF (t : List (Int × List Int)) : D := .nd (.dk (kD t)) false (vD lF t)
def addT (t : List (Int × List Int)) (p : Int × Int) : List (Int × List Int) :=
  let t1 := pt t p.1 ((lk t p.1).getD [] ++ [p.2])
  if (lk t1 p.2).isSome then t1 else pt t1 p.2 []
def foll (t : List (Int × List Int)) (ps : List (Int × Int)) : List (Int × List Int) := ps.foldl addT t
/-- sizes -/
def okT (n : Nat) (t : List (Int × List Int)) : Prop := t.length ≤ 2 * n ∧ ∀ k v, lk t k = some v → v.length ≤ n
theorem okT_add {n : Nat} {t : List (Int × List Int)} (h : okT n t) (p : Int × Int) : okT (n + 1) (addT t p) := by
  unfold addT
  have h1 := pt_len_le t p.1 ((lk t p.1).getD [] ++ [p.2])
  have hl : ((lk t p.1).getD [] ++ [p.2]).length ≤ n + 1 := by
    cases q : lk t p.1 with
    | none => simp
    | some v => have := h.2 _ _ q; simp; omega
  have k1 : ∀ k v, lk (pt t p.1 ((lk t p.1).getD [] ++ [p.2])) k = some v → v.length ≤ n + 1 := fun k v hv => by
    rw [lk_pt] at hv
    split at hv
    · cases hv; exact hl
    · have := h.2 _ _ hv; omega
  dsimp only
  split
  · exact ⟨by have := h.1; omega, k1⟩
  · have h2 := pt_len_le (pt t p.1 ((lk t p.1).getD [] ++ [p.2])) p.2 ([] : List Int)
    refine ⟨by have := h.1; omega, fun k v hv => ?_⟩
    rw [lk_pt] at hv
    split at hv
    · cases hv; simp
    · exact k1 _ _ hv
theorem kD_pt {β : Type} {l : List (Int × β)} {k : Int} {v w : β} (h : lk l k = some w) : kD (pt l k v) = kD l := by
  induction l with
  | nil => simp [lk] at h
  | cons p l ih =>
    simp only [lk] at h
    by_cases c : p.1 = k
    · simp [pt, c, kD]
    · rw [if_neg c] at h
      have := ih h
      simp only [kD] at this
      simp [pt, c, kD, this]
theorem step0 {o : Orc} (ps : Option D) (t : List (Int × List Int)) (a b : Int) (n : Nat) (h : okT n t) (hn : n ≤ 300) :
    exSs tb o [] b0_1 [ps, some (dO t), some (.int a), some (.int b)] = some (.val .nx [ps, some (dO (addT t (a, b))), some (.int a), some (.int b)]) := by
  have s1 : t.length < sizeLine := small _ (by have := h.1; omega)
  have sda : sdaD (dO t) (.int a) (.int b) = some (dO (pt t a ((lk t a).getD [] ++ [b]))) := by
    have P := putD_k lO t a ((lk t a).getD [] ++ [b])
    simp only [sdaD, D.key, Option.bind_some, lookD_k]
    cases q : lk t a with
    | none =>
      simp only [Option.map_none, kD_len, s1, if_true]
      rw [pt_new _ q]
      simp [dO, kD, vD, lO, iL]
    | some v =>
      have := h.2 _ _ q
      simp only [Option.map_some, List.length_map, if_pos (small v.length (by omega))]
      rw [q] at P
      simp only [Option.getD_some, List.map_append, List.map_cons, List.map_nil] at P ⊢
      have e : (D.nd .lst true (iL v ++ [D.int b])) = lO (v ++ [b]) := by simp [lO, iL]
      rw [e, P, dO, kD_pt q]
  have sok : sdaOk (kD t) (vD lO t) (.int a) = true := by
    simp only [sdaOk, D.key, lookD_k, kD_len, s1, decide_true, Bool.true_and]
    cases q : lk t a <;> simp
  have ok1 := okT_add h (a, b)
  have hx : (pt t a ((lk t a).getD [] ++ [b])).length ≤ 1000 := by
    have := pt_len_le t a ((lk t a).getD [] ++ [b])
    have := h.1
    omega
  have s2 := small _ hx
  have sdf : sdfD (dO (pt t a ((lk t a).getD [] ++ [b]))) (.int b) (lO []) = some (dO (addT t (a, b))) := by
    have P := putD_k lO (pt t a ((lk t a).getD [] ++ [b])) b []
    simp only [sdfD, D.key, Option.bind_some, kD_len, s2, if_true, lookD_k, addT]
    cases q : lk (pt t a ((lk t a).getD [] ++ [b])) b with
    | none =>
      simp only [Option.map_none, Option.isSome_none, Bool.false_eq_true, if_false]
      rw [P]
    | some v => simp
  simp only [dO] at sda
  have sdf : sdfD (.nd (.dk (kD (pt t a ((lk t a).getD [] ++ [b])))) true (vD lO (pt t a ((lk t a).getD [] ++ [b])))) (.int b) (.nd .lst true []) = some (dO (addT t (a, b))) := sdf
  simp -implicitDefEqProofs [b0_1, sok, sda, dO, sdf]
theorem loop0 {o : Orc} (ps : Option D) : ∀ (l : List (Int × Int)) (t : List (Int × List Int)) (n : Nat) (x y : Option D), okT n t → n + l.length ≤ 300 →
    ∃ x' y', loopF (fun x e => storeT [] (.t [.v 2, .v 3]) x e) (fun e => exSs tb o [] b0_1 e) (l.map pD) [ps, some (dO t), x, y] = some (.val .nx [ps, some (dO (foll t l)), x', y'])
  | [], t, n, x, y, _, _ => ⟨x, y, by simp [foll]⟩
  | p :: l, t, n, x, y, h, hn => by
    obtain ⟨x', y', ih⟩ := loop0 (o := o) ps l (addT t p) (n + 1) (some (.int p.1)) (some (.int p.2)) (okT_add h p) (by simp at hn; omega)
    refine ⟨x', y', ?_⟩
    rw [List.map_cons, loopF_turn (by simp) (step0 ps t p.1 p.2 n h (by simp at hn; omega)), ih]
    rfl
theorem vD_F (t : List (Int × List Int)) : frzL (vD lO t) = vD lF t := kD_frz lO lF (fun v => by simp [lO, lF]) t
theorem e0 : tb.fns[0]? = some f0 := rfl
/-- followers -/
theorem run0 (k : Nat) (l : List (Int × Int)) (h : l.length ≤ 300) : callF tb (k + 1) 0 [.nd .tup false (l.map pD)] = some (.val (dO (foll [] l)) []) := by
  rw [call_succ]
  obtain ⟨x', y', ih⟩ := loop0 (o := callF tb k) (some (.nd .tup false (l.map pD))) l [] 0 none none ⟨by simp, fun k v hv => by simp [lk] at hv⟩ (by omega)
  simp only [dO, kD, vD, List.map_nil] at ih
  simp -implicitDefEqProofs [runFn, e0, b0, ih, finals, dO, kD, vD]
end K87

namespace K87
open PySem L2 PL
abbrev dI (o : Bool) (t : List (Int × Int)) : D := .nd (.dk (kD t)) o (vD D.int t)
theorem vI_frz (t : List (Int × Int)) : frzL (vD D.int t) = vD D.int t := kD_frz D.int D.int (fun _ => rfl) t
theorem vI_fz (t : List (Int × Int)) : fzL (vD D.int t) = true := by rw [← vI_frz, frzL_fz]
theorem vI_nf (t : List (Int × Int)) : nfL (vD D.int t) = true := by
  induction t with
  | nil => rfl
  | cons p t ih => simp only [vD] at ih; simp [vD, ih]
def gt (t : List (Int × Int)) (x : Int) : Int := (lk t x).getD 0
/-- back from x, n steps -/
def ch (t : List (Int × Int)) : Nat → Int → List Int
  | 0, x => [x]
  | n + 1, x => x :: ch t n (gt t x)
def chOk (t : List (Int × Int)) : Nat → Int → Prop
  | 0, _ => True
  | n + 1, x => (lk t x).isSome = true ∧ chOk t n (gt t x)
theorem ch_len (t : List (Int × Int)) : ∀ n x, (ch t n x).length = n + 1
  | 0, _ => rfl
  | n + 1, x => by simp [ch, ch_len t n]
theorem step2 {o : Orc} (t : List (Int × Int)) (b c z : Option D) (pre : List Int) (x : Int) (h : (lk t x).isSome = true) (hl : pre.length ≤ 900) :
    exSs tb o [] b2_1 [some (dI false t), b, c, some (lO (pre ++ [x])), z] = some (.val .nx [some (dI false t), b, c, some (lO (pre ++ [x] ++ [gt t x])), z]) := by
  obtain ⟨y, hy⟩ := Option.isSome_iff_exists.mp h
  have s1 : pre.length + 1 < sizeLine := small _ (by omega)
  simp -implicitDefEqProofs [b2_1, gt, hy, vI_frz, vI_fz, dI, lO, iL, s1]
theorem loop2 {o : Orc} (t : List (Int × Int)) (b c : Option D) : ∀ (n : Nat) (items : List D) (pre : List Int) (x : Int) (z : Option D), items.length = n → chOk t n x → pre.length + n ≤ 900 →
    ∃ z', loopF (fun x e => some (e.set 4 (some x))) (fun e => exSs tb o [] b2_1 e) items [some (dI false t), b, c, some (lO (pre ++ [x])), z] = some (.val .nx [some (dI false t), b, c, some (lO (pre ++ ch t n x)), z'])
  | 0, [], pre, x, z, _, _, _ => ⟨z, by simp [ch]⟩
  | n + 1, i :: items, pre, x, z, h, hc, hl => by
    obtain ⟨z', ih⟩ := loop2 (o := o) t b c n items (pre ++ [x]) (gt t x) (some i) (by simpa using h) hc.2 (by simp; omega)
    refine ⟨z', ?_⟩
    rw [loopF_turn rfl (step2 t b c (some i) pre x hc.1 (by omega)), ih]
    simp [ch]
  | 0, _ :: _, _, _, _, h, _, _ => by simp at h
  | n + 1, [], _, _, _, h, _, _ => by simp at h
theorem e2 : tb.fns[2]? = some f2 := rfl
theorem len_rng (n : Nat) : (rangeD 0 (n : Int)).length = n := by simp [rangeD]
theorem okR_n (i j : Int) (h1 : -1000 ≤ i) (h2 : i ≤ 1000) (h3 : -1000 ≤ j) (h4 : j ≤ 1000) : okR i j = true := by
  simp only [okR, Bool.and_eq_true, decide_eq_true_eq]
  omega
/-- traced -/
theorem run2 (k : Nat) (t : List (Int × Int)) (x : Int) (n : Nat) (h : chOk t n x) (hn : n ≤ 900) : callF tb (k + 1) 2 [dI false t, .int x, .int (n + 1 : Nat)] = some (.val (lO (ch t n x).reverse) []) := by
  rw [call_succ]
  obtain ⟨z', ih⟩ := loop2 (o := callF tb k) t (some (.int x)) (some (.int (n + 1 : Nat))) n (rangeD 0 n) [] x none (len_rng n) h (by simpa using hn)
  have e : (((n + 1 : Nat) : Int) - 1) = (n : Int) := by omega
  have ok := okR_n 0 n (by omega) (by omega) (by omega) (by omega)
  simp [dI, lO, iL] at ih
  simp -implicitDefEqProofs [runFn, e2, b2, finals, dI, vI_fz, ok, ih, lO, iL]
end K87

namespace K87
open PySem L2 PL
/-! ### way_back -/
def adj (t : List (Int × List Int)) (x : Int) : List Int := (lk t x).getD []
def key {β : Type} (c : List (Int × β)) (x : Int) : Prop := (lk c x).isSome = true
/-- what is told of a search from s: levels below d are done -/
structure Bf (t : List (Int × List Int)) (s : Int) (cf : List (Int × Int)) (lev : Int → Nat) : Prop where
  i0 : lk cf s = some s
  l0 : lev s = 0
  i1 : ∀ x, key cf x → x = s ∨ ∃ p, lk cf x = some p ∧ key cf p ∧ x ∈ adj t p ∧ lev x = lev p + 1
  kt : ∀ x, key cf x → key t x
/-- all followers of x are met -/
def Don (t : List (Int × List Int)) (s : Int) (cf : List (Int × Int)) (lev : Int → Nat) (x : Int) : Prop := ∀ y ∈ adj t x, y ≠ s ∧ key cf y ∧ lev y ≤ lev x + 1
/-- walks -/
def Wk (t : List (Int × List Int)) : Nat → Int → Int → Prop
  | 0, a, b => a = b
  | n + 1, a, b => ∃ c, Wk t n a c ∧ b ∈ adj t c
theorem key_pt {β : Type} {c : List (Int × β)} {k x : Int} {v : β} : key (pt c k v) x ↔ x = k ∨ key c x := by
  unfold key
  rw [lk_pt]
  by_cases h : x = k <;> simp [h]
/-- back from a key of level n: n + 1 names, the last is s -/
theorem Bf.ok {t : List (Int × List Int)} {s : Int} {cf : List (Int × Int)} {lev : Int → Nat} (B : Bf t s cf lev) : ∀ (n : Nat) (x : Int), key cf x → lev x = n → chOk cf n x
  | 0, _, _, _ => trivial
  | n + 1, x, hk, hl => by
    rcases B.i1 x hk with rfl | ⟨p, hp, kp, _, hlp⟩
    · rw [B.l0] at hl; cases hl
    · refine ⟨hk, ?_⟩
      have : gt cf x = p := by simp [gt, hp]
      rw [this]
      exact B.ok n p kp (by omega)
/-- a row of edges, told from its end: each is reached from the next -/
def Bk (t : List (Int × List Int)) : List Int → Prop
  | [] => True
  | [_] => True
  | x :: y :: r => x ∈ adj t y ∧ Bk t (y :: r)
theorem Bf.path {t : List (Int × List Int)} {s : Int} {cf : List (Int × Int)} {lev : Int → Nat} (B : Bf t s cf lev) : ∀ (n : Nat) (x : Int), key cf x → lev x = n → Bk t (ch cf n x) ∧ (ch cf n x).getLast? = some s ∧ (ch cf n x).head? = some x
  | 0, x, hk, hl => by
    rcases B.i1 x hk with rfl | ⟨p, hp, kp, _, hlp⟩
    · simp [ch, Bk]
    · omega
  | n + 1, x, hk, hl => by
    rcases B.i1 x hk with rfl | ⟨p, hp, kp, he, hlp⟩
    · rw [B.l0] at hl; cases hl
    · have e : gt cf x = p := by simp [gt, hp]
      obtain ⟨h1, h2, h3⟩ := B.path n p kp (by omega)
      simp only [ch, e]
      cases q : ch cf n p with
      | nil => rw [q] at h3; simp at h3
      | cons z r =>
        rw [q] at h1 h2 h3
        simp only [List.head?_cons, Option.some.injEq] at h3
        subst h3
        exact ⟨⟨he, h1⟩, by simpa using h2, by simp⟩
theorem Bf.walk {t : List (Int × List Int)} {s : Int} {cf : List (Int × Int)} {lev : Int → Nat} (B : Bf t s cf lev) : ∀ (n : Nat) (x : Int), key cf x → lev x = n → Wk t n s x
  | 0, x, hk, hl => by
    rcases B.i1 x hk with rfl | ⟨p, hp, kp, _, hlp⟩
    · rfl
    · omega
  | n + 1, x, hk, hl => by
    rcases B.i1 x hk with rfl | ⟨p, hp, kp, he, hlp⟩
    · rw [B.l0] at hl; cases hl
    · exact ⟨p, B.walk n p kp (by omega), he⟩
/-- what is reached within the levels that are done -/
theorem Bf.reach {t : List (Int × List Int)} {s : Int} {cf : List (Int × Int)} {lev : Int → Nat} (B : Bf t s cf lev) {d : Nat} (hd : ∀ x, key cf x → lev x < d → Don t s cf lev x) : ∀ (n : Nat) (x : Int), n ≤ d → Wk t n s x → key cf x ∧ lev x ≤ n
  | 0, x, _, h => by
    cases h
    exact ⟨by simp [key, B.i0], by rw [B.l0]; exact Nat.le_refl 0⟩
  | n + 1, x, hn, ⟨c, hw, he⟩ => by
    obtain ⟨k1, k2⟩ := B.reach hd n c (by omega) hw
    obtain ⟨_, k3, k4⟩ := hd c k1 (by omega) x he
    exact ⟨k3, by omega⟩
/-- no way back within them -/
theorem Bf.noring {t : List (Int × List Int)} {s : Int} {cf : List (Int × Int)} {lev : Int → Nat} (B : Bf t s cf lev) {d : Nat} (hd : ∀ x, key cf x → lev x < d → Don t s cf lev x) (n : Nat) (h1 : 1 ≤ n) (h2 : n ≤ d) : ¬ Wk t n s s := by
  intro h
  cases n with
  | zero => omega
  | succ n =>
    obtain ⟨c, hw, he⟩ := h
    obtain ⟨k1, k2⟩ := B.reach hd n c (by omega) hw
    exact (hd c k1 (by omega) s he).1 rfl
/-- a new key -/
theorem Bf.put {t : List (Int × List Int)} {s : Int} {cf : List (Int × Int)} {lev : Int → Nat} (B : Bf t s cf lev) {x y : Int} (hk : key cf x) (he : y ∈ adj t x) (hn : ¬ key cf y) (hy : key t y) : Bf t s (pt cf y x) (fun z => if z = y then lev x + 1 else lev z) := by
  have ns : ¬ s = y := fun e => hn (by rw [← e]; simp [key, B.i0])
  have nx : ¬ x = y := fun e => hn (e ▸ hk)
  refine ⟨by rw [lk_pt, if_neg ns]; exact B.i0, by rw [if_neg ns]; exact B.l0, fun z hz => ?_, fun z hz => ?_⟩
  · by_cases c : z = y
    · subst c
      exact .inr ⟨x, by rw [lk_pt, if_pos rfl], key_pt.mpr (.inr hk), he, by rw [if_pos rfl, if_neg nx]⟩
    · rcases key_pt.mp hz with z' | z'
      · exact absurd z' c
      · rcases B.i1 z z' with h | ⟨p, h1, h2, h3, h4⟩
        · exact .inl h
        · refine .inr ⟨p, by rw [lk_pt, if_neg c]; exact h1, key_pt.mpr (.inr h2), h3, ?_⟩
          show (if z = y then lev x + 1 else lev z) = (if p = y then lev x + 1 else lev p) + 1
          rw [if_neg c, if_neg (fun e : p = y => hn (e ▸ h2))]
          exact h4
  · rcases key_pt.mp hz with rfl | z'
    · exact hy
    · exact B.kt z z'
theorem Don.put {t : List (Int × List Int)} {s : Int} {cf : List (Int × Int)} {lev : Int → Nat} {x y w : Int} (h : Don t s cf lev w) (hn : ¬ key cf y) (hw : key cf w) : Don t s (pt cf y x) (fun z => if z = y then lev x + 1 else lev z) w := fun z hz => by
  obtain ⟨h1, h2, h3⟩ := h z hz
  refine ⟨h1, key_pt.mpr (.inr h2), ?_⟩
  show (if z = y then lev x + 1 else lev z) ≤ (if w = y then lev x + 1 else lev w) + 1
  rw [if_neg (fun e : z = y => hn (e ▸ h2)), if_neg (fun e : w = y => hn (e ▸ hw))]
  exact h3
end K87

namespace K87
open PySem L2 PL
/-- a way around from s: its names in order -/
structure Ring (t : List (Int × List Int)) (s : Int) (d : Nat) (r : List Int) : Prop where
  len : r.length = d + 1
  bk : Bk t r.reverse
  hd : r.head? = some s
  cl : ∃ z, r.getLast? = some z ∧ s ∈ adj t z
structure Tn (t : List (Int × List Int)) (s : Int) (d : Nat) (layer : List Int) (cf : List (Int × Int)) (lev : Int → Nat) (later : List Int) : Prop where
  B : Bf t s cf lev
  lv : ∀ z, key cf z → lev z ≤ d + 1
  dn : ∀ z, key cf z → lev z < d → Don t s cf lev z
  la : ∀ z, z ∈ later ↔ key cf z ∧ lev z = d + 1
  ly : ∀ z, z ∈ layer ↔ key cf z ∧ lev z = d
  nd : (cf.map (·.1)).Nodup
  cnt : d + 1 + later.length ≤ cf.length
theorem nd_pt {β : Type} {l : List (Int × β)} {k : Int} {v : β} (h : lk l k = none) (nd : (l.map (·.1)).Nodup) : ((pt l k v).map (·.1)).Nodup := by
  rw [pt_new v h, List.map_append, List.nodup_append]
  refine ⟨nd, by simp, fun a ha b hb => ?_⟩
  simp at hb
  subst hb
  exact fun e => lk_none.mp h (e ▸ ha)
theorem Tn.put {t : List (Int × List Int)} {s : Int} {d : Nat} {layer : List Int} {cf : List (Int × Int)} {lev : Int → Nat} {later : List Int} (I : Tn t s d layer cf lev later) {x y : Int} (hx : x ∈ layer) (he : y ∈ adj t x) (hn : lk cf y = none) (hy : key t y) :
    Tn t s d layer (pt cf y x) (fun z => if z = y then lev x + 1 else lev z) (later ++ [y]) := by
  obtain ⟨kx, lx⟩ := (I.ly x).mp hx
  have hk : ¬ key cf y := by simp [key, hn]
  refine ⟨I.B.put kx he hk hy, fun z hz => ?_, fun z hz hl => ?_, fun z => ?_, fun z => ?_, nd_pt hn I.nd, by rw [pt_new x hn]; simp; have := I.cnt; omega⟩
  · show (if z = y then lev x + 1 else lev z) ≤ d + 1
    split
    · omega
    · rename_i c
      exact I.lv z ((key_pt.mp hz).resolve_left c)
  · have hl : (if z = y then lev x + 1 else lev z) < d := hl
    split at hl
    · omega
    · rename_i c
      have kz := (key_pt.mp hz).resolve_left c
      exact (I.dn z kz hl).put hk kz
  · show z ∈ later ++ [y] ↔ key (pt cf y x) z ∧ (if z = y then lev x + 1 else lev z) = d + 1
    by_cases c : z = y
    · subst c
      simp [key_pt, lx]
    · simp only [List.mem_append, List.mem_singleton, c, or_false, key_pt, false_or, if_false]
      exact I.la z
  · show z ∈ layer ↔ key (pt cf y x) z ∧ (if z = y then lev x + 1 else lev z) = d
    by_cases c : z = y
    · subst c
      simp only [if_true, lx]
      constructor
      · intro h; exact absurd ((I.ly z).mp h).1 hk
      · intro h; omega
    · simp only [key_pt, c, false_or, if_false]
      exact I.ly z
theorem ring_of_chain {t : List (Int × List Int)} {s : Int} {cf : List (Int × Int)} {lev : Int → Nat} (B : Bf t s cf lev) {d : Nat} {x : Int} (hk : key cf x) (hl : lev x = d) (he : s ∈ adj t x) : Ring t s d (ch cf d x).reverse := by
  obtain ⟨h1, h2, h3⟩ := B.path d x hk hl
  exact ⟨by simp [ch_len], by simpa using h1, by simpa using h2, ⟨x, by simpa using h3, he⟩⟩
/-- one follower -/
theorem step1 {k : Nat} {t : List (Int × List Int)} {s : Int} {d : Nat} {layer : List Int} {cf : List (Int × Int)} {lev : Int → Nat} {later : List Int} (I : Tn t s d layer cf lev later) (tD m ly : Option D) {x f : Int} (hx : x ∈ layer) (he : f ∈ adj t x) (hf : key t f) (hd : d ≤ 500) (hcf : cf.length ≤ 900) (hla : later.length ≤ 900) :
    (f = s ∧ ∃ r e, exSs tb (callF tb (k + 1)) [] b1_1 [tD, some (.int s), m, some (dI true cf), ly, some (.int (d + 1 : Nat)), some (lO later), some (.int x), some (.int f)] = some (.val (.rt (lO r)) e) ∧ Ring t s d r) ∨
    (f ≠ s ∧ ∃ cf' lev' later', exSs tb (callF tb (k + 1)) [] b1_1 [tD, some (.int s), m, some (dI true cf), ly, some (.int (d + 1 : Nat)), some (lO later), some (.int x), some (.int f)] = some (.val .nx [tD, some (.int s), m, some (dI true cf'), ly, some (.int (d + 1 : Nat)), some (lO later'), some (.int x), some (.int f)]) ∧
      Tn t s d layer cf' lev' later' ∧ (key cf' f ∧ lev' f ≤ lev' x + 1) ∧ (∀ z, Don t s cf lev z → key cf z → Don t s cf' lev' z) ∧ (∀ z, key cf z → key cf' z ∧ lev' z = lev z)) := by
  obtain ⟨kx, lx⟩ := (I.ly x).mp hx
  by_cases c : f = s
  · subst c
    refine .inl ⟨rfl, (ch cf d x).reverse, ?_⟩
    have R := run2 k cf x d (I.B.ok d x kx lx) (by omega)
    have C : ∀ e, runCall tb (callF tb (k + 1)) 2 [.d (.nd (.dk (kD cf)) false (vD .int cf)), .d (.int x), .d (.int ((d : Int) + 1))] e = some (.val (lO (ch cf d x).reverse) e) := fun e => call3 e2 rfl (by simpa [dI, vI_frz] using R)
    refine ⟨[tD, some (.int f), m, some (dI false cf), ly, some (.int (d + 1 : Nat)), some (lO later), some (.int x), some (.int f)], ?_, ring_of_chain I.B kx lx (by simpa using he)⟩
    simp -implicitDefEqProofs [b1_1, eqD_int, dI, vI_frz, C]
  · refine .inr ⟨c, ?_⟩
    cases q : lk cf f with
    | some p =>
      refine ⟨cf, lev, later, ?_, I, ?_, fun z h _ => h, fun z h => ⟨h, rfl⟩⟩
      · simp -implicitDefEqProofs [b1_1, eqD_int, dI, vI_frz, vI_fz, c, q]
      · have kf : key cf f := by simp [key, q]
        exact ⟨kf, by have := I.lv f kf; omega⟩
    | none =>
      have nk : ¬ key cf f := by simp [key, q]
      have nx : ¬ x = f := fun e => nk (e ▸ kx)
      have S := setD_k D.int cf f x (by omega)
      refine ⟨pt cf f x, _, later ++ [f], ?_, I.put hx he q hf, ?_, ?_, ?_⟩
      · simp -implicitDefEqProofs [b1_1, eqD_int, dI, vI_frz, vI_fz, c, q, S, lO, iL, show later.length ≤ 1000 by omega]
      · refine ⟨key_pt.mpr (.inl rfl), ?_⟩
        show (if f = f then lev x + 1 else lev f) ≤ (if x = f then lev x + 1 else lev x) + 1
        rw [if_pos rfl, if_neg nx]
        exact Nat.le_refl _
      · exact fun z h kz => h.put nk kz
      · intro z kz
        refine ⟨key_pt.mpr (.inr kz), ?_⟩
        show (if z = f then lev x + 1 else lev z) = lev z
        rw [if_neg (fun e : z = f => nk (e ▸ kz))]
/-- a number's followers, all of them -/
theorem loop1 {k : Nat} {t : List (Int × List Int)} {s : Int} {d : Nat} {layer : List Int} (tD m ly : Option D) {x : Int} (hx : x ∈ layer) (hd : d ≤ 500) (hT : ∀ c : List (Int × Int), (c.map (·.1)).Nodup → (∀ z, key c z → key t z) → c.length ≤ 600) : ∀ (fs pre : List Int) (cf : List (Int × Int)) (lev : Int → Nat) (later : List Int) (y : Option D),
    Tn t s d layer cf lev later → adj t x = pre ++ fs → (∀ z ∈ fs, key t z) → (∀ z ∈ pre, z ≠ s ∧ key cf z ∧ lev z ≤ lev x + 1) →
    (∃ r e, loopF (fun x e => some (e.set 8 (some x))) (fun e => exSs tb (callF tb (k + 1)) [] b1_1 e) (iL fs) [tD, some (.int s), m, some (dI true cf), ly, some (.int (d + 1 : Nat)), some (lO later), some (.int x), y] = some (.val (.rt (lO r)) e) ∧ Ring t s d r) ∨
    (∃ cf' lev' later' y', loopF (fun x e => some (e.set 8 (some x))) (fun e => exSs tb (callF tb (k + 1)) [] b1_1 e) (iL fs) [tD, some (.int s), m, some (dI true cf), ly, some (.int (d + 1 : Nat)), some (lO later), some (.int x), y] = some (.val .nx [tD, some (.int s), m, some (dI true cf'), ly, some (.int (d + 1 : Nat)), some (lO later'), some (.int x), y']) ∧
      Tn t s d layer cf' lev' later' ∧ Don t s cf' lev' x ∧ (∀ z, Don t s cf lev z → key cf z → Don t s cf' lev' z) ∧ (∀ z, key cf z → key cf' z ∧ lev' z = lev z))
  | [], pre, cf, lev, later, y, I, ha, _, hp => .inr ⟨cf, lev, later, y, by simp, I, fun z hz => hp z (by rw [ha] at hz; simpa using hz), fun z h _ => h, fun z h => ⟨h, rfl⟩⟩
  | f :: fs, pre, cf, lev, later, y, I, ha, hk, hp => by
    have hcf := hT cf I.nd I.B.kt
    have hla : later.length ≤ 900 := by have := I.cnt; omega
    rcases step1 (k := k) I tD m ly (x := x) (f := f) hx (by rw [ha]; simp) (hk f (by simp)) hd (by omega) hla with ⟨_, r, e, h, R⟩ | ⟨ns, cf', lev', later', h, I', kf, keep, ext⟩
    · exact .inl ⟨r, e, loopF_ret rfl h, R⟩
    · have hx' := ((I.ly x).mp hx).1
      rcases loop1 (k := k) tD m ly hx hd hT fs (pre ++ [f]) cf' lev' later' (some (.int f)) I' (by rw [ha]; simp) (fun z hz => hk z (by simp [hz])) (fun z hz => by
          rcases List.mem_append.mp hz with hz | hz
          · obtain ⟨h1, h2, h3⟩ := hp z hz
            obtain ⟨h4, h5⟩ := ext z h2
            refine ⟨h1, h4, ?_⟩
            rw [h5, (ext x hx').2]; exact h3
          · simp at hz; subst hz; exact ⟨ns, kf.1, kf.2⟩) with ⟨r, e, h2, R⟩ | ⟨cf2, lev2, later2, y2, h2, I2, D2, keep2, ext2⟩
      · exact .inl ⟨r, e, (loopF_turn rfl h).trans h2, R⟩
      · refine .inr ⟨cf2, lev2, later2, y2, (loopF_turn rfl h).trans h2, I2, D2, fun z hz kz => keep2 z (keep z hz kz) (ext z kz).1, fun z kz => ?_⟩
        obtain ⟨a1, a2⟩ := ext z kz
        obtain ⟨b1, b2⟩ := ext2 z a1
        exact ⟨b1, by rw [b2, a2]⟩
end K87

namespace K87
open PySem L2 PL
theorem vLF_fz (t : List (Int × List Int)) : fzL (vD lF t) = true := by rw [← vD_F, frzL_fz]
/-- told is closed: each follower is a key -/
def Clo (t : List (Int × List Int)) : Prop := ∀ x y, key t x → y ∈ adj t x → key t y
/-- how many keys a search may have -/
def Few (t : List (Int × List Int)) : Prop := ∀ c : List (Int × Int), (c.map (·.1)).Nodup → (∀ z, key c z → key t z) → c.length ≤ 600
/-- a layer's numbers -/
theorem loop3 {k : Nat} {t : List (Int × List Int)} {s : Int} {d : Nat} {layer : List Int} (m ly : Option D) (hd : d ≤ 500) (hT : Few t) (hC : Clo t) : ∀ (xs pre : List Int) (cf : List (Int × Int)) (lev : Int → Nat) (later : List Int) (x y : Option D),
    Tn t s d layer cf lev later → layer = pre ++ xs → (∀ z ∈ pre, Don t s cf lev z) →
    (∃ r e, loopF (fun x e => some (e.set 7 (some x))) (fun e => exSs tb (callF tb (k + 1)) [] b1_2 e) (iL xs) [some (dF t), some (.int s), m, some (dI true cf), ly, some (.int (d + 1 : Nat)), some (lO later), x, y] = some (.val (.rt (lO r)) e) ∧ Ring t s d r) ∨
    (∃ cf' lev' later' x' y', loopF (fun x e => some (e.set 7 (some x))) (fun e => exSs tb (callF tb (k + 1)) [] b1_2 e) (iL xs) [some (dF t), some (.int s), m, some (dI true cf), ly, some (.int (d + 1 : Nat)), some (lO later), x, y] = some (.val .nx [some (dF t), some (.int s), m, some (dI true cf'), ly, some (.int (d + 1 : Nat)), some (lO later'), x', y']) ∧
      Tn t s d layer cf' lev' later' ∧ (∀ z ∈ layer, Don t s cf' lev' z))
  | [], pre, cf, lev, later, x, y, I, ha, hp => .inr ⟨cf, lev, later, x, y, by simp, I, fun z hz => hp z (by rw [ha] at hz; simpa using hz)⟩
  | n :: xs, pre, cf, lev, later, x, y, I, ha, hp => by
    have hn : n ∈ layer := by rw [ha]; simp
    obtain ⟨kn, ln⟩ := (I.ly n).mp hn
    have ktn := I.B.kt n kn
    obtain ⟨v, hv⟩ := Option.isSome_iff_exists.mp ktn
    have av : adj t n = v := by simp [adj, hv]
    have sub : subD (.nd (.dk (kD t)) false (vD lF t)) (.int n) = some (lF v) := by
      simp only [subD, D.key, Option.bind_some, lookD_k, hv, Option.map_some]
    rcases loop1 (k := k) (some (dF t)) m ly hn hd hT v [] cf lev later y I (by rw [av]; rfl) (fun z hz => hC n z ktn (by rw [av]; exact hz)) (fun z hz => by simp at hz) with ⟨r, e, h, R⟩ | ⟨cf', lev', later', y', h, I', D', keep, ext⟩
    · refine .inl ⟨r, e, loopF_ret (e1 := [some (dF t), some (.int s), m, some (dI true cf), ly, some (.int (d + 1 : Nat)), some (lO later), some (.int n), y]) rfl ?_, R⟩
      simp [dI, dF, lO, iL, lF] at h ⊢
      simp -implicitDefEqProofs [b1_2, hv, dI, dF, lO, iL, vI_fz, vLF_fz, lF, h]
    · have st : exSs tb (callF tb (k + 1)) [] b1_2 [some (dF t), some (.int s), m, some (dI true cf), ly, some (.int (d + 1 : Nat)), some (lO later), some (.int n), y] = some (.val .nx [some (dF t), some (.int s), m, some (dI true cf'), ly, some (.int (d + 1 : Nat)), some (lO later'), some (.int n), y']) := by
        simp [dI, dF, lO, iL, lF] at h ⊢
        simp -implicitDefEqProofs [b1_2, hv, dI, dF, lO, iL, vI_fz, vLF_fz, lF, h]
      rcases loop3 (k := k) m ly hd hT hC xs (pre ++ [n]) cf' lev' later' (some (.int n)) y' I' (by rw [ha]; simp) (fun z hz => by
          rcases List.mem_append.mp hz with hz | hz
          · have kz := ((I.ly z).mp (by rw [ha]; simp [hz])).1
            exact keep z (hp z hz) kz
          · simp at hz; subst hz; exact D') with ⟨r, e, h2, R⟩ | ⟨cf2, lev2, later2, x2, y2, h2, I2, D2⟩
      · exact .inl ⟨r, e, (loopF_turn rfl st).trans h2, R⟩
      · exact .inr ⟨cf2, lev2, later2, x2, y2, (loopF_turn rfl st).trans h2, I2, D2⟩
end K87

namespace K87
open PySem L2 PL
/-- at the start of a turn -/
structure Sr (t : List (Int × List Int)) (s : Int) (d : Nat) (layer : List Int) (cf : List (Int × Int)) (lev : Int → Nat) : Prop where
  B : Bf t s cf lev
  lv : ∀ z, key cf z → lev z ≤ d
  dn : ∀ z, key cf z → lev z < d → Don t s cf lev z
  ly : ∀ z, z ∈ layer ↔ key cf z ∧ lev z = d
  nd : (cf.map (·.1)).Nodup
  cnt : d + 1 ≤ cf.length
theorem Sr.tn {t : List (Int × List Int)} {s : Int} {d : Nat} {layer : List Int} {cf : List (Int × Int)} {lev : Int → Nat} (I : Sr t s d layer cf lev) : Tn t s d layer cf lev [] :=
  ⟨I.B, fun z hz => Nat.le_succ_of_le (I.lv z hz), I.dn, fun z => ⟨fun h => by simp at h, fun ⟨h1, h2⟩ => by have := I.lv z h1; omega⟩, I.ly, I.nd, by simpa using I.cnt⟩
/-- a turn -/
theorem step4 {k : Nat} {t : List (Int × List Int)} {s : Int} {d : Nat} {layer : List Int} {cf : List (Int × Int)} {lev : Int → Nat} (I : Sr t s d layer cf lev) (m : Option D) (ow : Bool) (x y z : Option D) (hd : d ≤ 500) (hT : Few t) (hC : Clo t) :
    (∃ r e, exSs tb (callF tb (k + 1)) [] b1_3 [some (dF t), some (.int s), m, some (dI true cf), some (.nd .lst ow (iL layer)), some (.int (d + 1 : Nat)), x, y, z] = some (.val (.rt (lO r)) e) ∧ Ring t s d r) ∨
    (∃ e, exSs tb (callF tb (k + 1)) [] b1_3 [some (dF t), some (.int s), m, some (dI true cf), some (.nd .lst ow (iL layer)), some (.int (d + 1 : Nat)), x, y, z] = some (.val (.rt .non) e) ∧ ∀ n, 1 ≤ n → ¬ Wk t n s s) ∨
    (∃ cf' lev' layer' y' z', exSs tb (callF tb (k + 1)) [] b1_3 [some (dF t), some (.int s), m, some (dI true cf), some (.nd .lst ow (iL layer)), some (.int (d + 1 : Nat)), x, y, z] =
      some (.val .nx [some (dF t), some (.int s), m, some (dI true cf'), some (lF layer'), some (.int (d + 1 : Nat)), some (lF layer'), y', z']) ∧ Sr t s (d + 1) layer' cf' lev') := by
  rcases loop3 (k := k) m (some (lF layer)) hd hT hC layer [] cf lev [] y z I.tn rfl (fun z hz => by simp at hz) with ⟨r, e, h, R⟩ | ⟨cf', lev', later', x', y', h, I', D'⟩
  · refine .inl ⟨r, e, ?_, R⟩
    simp [dI, dF, lO, iL, lF] at h ⊢
    cases ow <;> simp -implicitDefEqProofs [b1_3, h]
  · have dn' : ∀ z, key cf' z → lev' z < d + 1 → Don t s cf' lev' z := fun z kz hl => by
      by_cases c : lev' z < d
      · exact I'.dn z kz c
      · exact D' z ((I'.ly z).mpr ⟨kz, by omega⟩)
    cases later' with
    | nil =>
      refine .inr (.inl ⟨[some (dF t), some (.int s), m, some (dI true cf'), some (lF layer), some (.int (d + 1 : Nat)), some (lO []), x', y'], ?_, fun n h1 hw => ?_⟩)
      · simp [dI, dF, lO, iL, lF] at h ⊢
        cases ow <;> simp -implicitDefEqProofs [b1_3, h]
      · have all : ∀ z, key cf' z → Don t s cf' lev' z := fun z kz => dn' z kz (by
          have h1 := I'.lv z kz
          have h2 : ¬ lev' z = d + 1 := fun e => by
            have := (I'.la z).mpr ⟨kz, e⟩
            simp at this
          omega)
        exact I'.B.noring (d := n) (fun z kz _ => all z kz) n h1 (Nat.le_refl _) hw
    | cons a la =>
      refine .inr (.inr ⟨cf', lev', a :: la, x', y', ?_, ⟨I'.B, I'.lv, dn', fun z => I'.la z, I'.nd, by have := I'.cnt; simp at this; omega⟩⟩)
      simp [dI, dF, lO, iL, lF] at h ⊢
      cases ow <;> simp -implicitDefEqProofs [b1_3, h]
end K87

namespace K87
open PySem L2 PL
theorem Sr.no {t : List (Int × List Int)} {s : Int} {d : Nat} {layer : List Int} {cf : List (Int × Int)} {lev : Int → Nat} (I : Sr t s d layer cf lev) : ∀ j, 1 ≤ j → j ≤ d → ¬ Wk t j s s := fun j h1 h2 => I.B.noring (d := d) I.dn j h1 h2
/-- the turns -/
theorem loop5 {k : Nat} {t : List (Int × List Int)} {s : Int} (m : Option D) (hT : Few t) (hC : Clo t) : ∀ (n d : Nat) (layer : List Int) (cf : List (Int × Int)) (lev : Int → Nat) (ow : Bool) (l x y z : Option D), Sr t s d layer cf lev → d + n ≤ 500 →
    (∃ d' r e, loopF (fun x e => some (e.set 5 (some x))) (fun e => exSs tb (callF tb (k + 1)) [] b1_3 e) ((List.range' (d + 1) n).map fun i : Nat => D.int (i : Int)) [some (dF t), some (.int s), m, some (dI true cf), some (.nd .lst ow (iL layer)), l, x, y, z] = some (.val (.rt (lO r)) e) ∧ Ring t s d' r ∧ d' < d + n ∧ ∀ j, 1 ≤ j → j ≤ d' → ¬ Wk t j s s) ∨
    (∃ e, loopF (fun x e => some (e.set 5 (some x))) (fun e => exSs tb (callF tb (k + 1)) [] b1_3 e) ((List.range' (d + 1) n).map fun i : Nat => D.int (i : Int)) [some (dF t), some (.int s), m, some (dI true cf), some (.nd .lst ow (iL layer)), l, x, y, z] = some (.val (.rt .non) e) ∧ ∀ j, 1 ≤ j → ¬ Wk t j s s) ∨
    (∃ e, loopF (fun x e => some (e.set 5 (some x))) (fun e => exSs tb (callF tb (k + 1)) [] b1_3 e) ((List.range' (d + 1) n).map fun i : Nat => D.int (i : Int)) [some (dF t), some (.int s), m, some (dI true cf), some (.nd .lst ow (iL layer)), l, x, y, z] = some (.val .nx e) ∧ (∀ j, 1 ≤ j → j ≤ d + n → ¬ Wk t j s s) ∧
      ∃ c : List (Int × Int), (c.map (·.1)).Nodup ∧ (∀ z, key c z → key t z) ∧ d + n + 1 ≤ c.length)
  | 0, d, layer, cf, lev, ow, l, x, y, z, I, _ => .inr (.inr ⟨[some (dF t), some (.int s), m, some (dI true cf), some (.nd .lst ow (iL layer)), l, x, y, z], by simp, by simpa using I.no, cf, I.nd, I.B.kt, I.cnt⟩)
  | n + 1, d, layer, cf, lev, ow, l, x, y, z, I, hn => by
    rcases step4 (k := k) I m ow x y z (by omega) hT hC with ⟨r, e, h, R⟩ | ⟨e, h, N⟩ | ⟨cf', lev', layer', y', z', h, I'⟩
    · exact .inl ⟨d, r, e, loopF_ret rfl h, R, by omega, I.no⟩
    · exact .inr (.inl ⟨e, loopF_ret rfl h, N⟩)
    · rcases loop5 (k := k) m hT hC n (d + 1) layer' cf' lev' false (some (.int (d + 1 : Nat))) (some (lF layer')) y' z' I' (by omega) with ⟨d', r, e, h2, R, h3, h4⟩ | ⟨e, h2, N⟩ | ⟨e, h2, N, c, c1, c2, c3⟩
      · exact .inl ⟨d', r, e, (loopF_turn rfl h).trans h2, R, by omega, h4⟩
      · exact .inr (.inl ⟨e, (loopF_turn rfl h).trans h2, N⟩)
      · exact .inr (.inr ⟨e, (loopF_turn rfl h).trans h2, fun j h1 h5 => N j h1 (by omega), c, c1, c2, by omega⟩)
theorem e1 : tb.fns[1]? = some f1 := rfl
theorem rng1 (n : Nat) : rangeD 1 ((n : Int) + 1) = (List.range' 1 n).map fun i : Nat => D.int (i : Int) := by
  unfold rangeD
  rw [show ((n : Int) + 1 - 1).toNat = n by omega, List.range'_eq_map_range, List.map_map]
  refine List.map_congr_left fun i _ => ?_
  simp
theorem sr0 {t : List (Int × List Int)} {s : Int} (hs : key t s) : Sr t s 0 [s] [(s, s)] (fun _ => 0) := by
  have k1 : ∀ z, key [(s, s)] z ↔ z = s := fun z => by
    simp only [key, lk]
    by_cases c : s = z
    · simp [c]
    · simp [c, show ¬ z = s from fun e => c e.symm]
  refine ⟨⟨by simp [lk], rfl, fun x hx => .inl ((k1 x).mp hx), fun x hx => by rw [(k1 x).mp hx]; exact hs⟩, fun z _ => Nat.le_refl 0, fun z _ h => by omega, fun z => ?_, by simp, by simp⟩
  rw [k1]; simp
theorem b1_run {o : Orc} (t : List (Int × List Int)) (s : Int) (n : Nat) (d : D) (e : PL.Env) (ok : okR 1 ((n : Int) + 1) = true) (h2 : loopF (fun x e => some (e.set 5 (some x))) (fun e => exSs tb o [] b1_3 e) ((List.range' (0 + 1) n).map fun i : Nat => D.int (i : Int)) [some (dF t), some (.int s), some (.int n), some (dI true [(s, s)]), some (.nd .lst true (iL [s])), none, none, none, none] = some (.val (.rt d) e)) :
   exSs tb o [] b1 [some (dF t), some (.int s), some (.int n), none, none, none, none, none, none] = some (.val (.rt d) e) := by
  simp -implicitDefEqProofs [dI, dF, lO, iL, lF, kD, vD] at h2 ⊢
  simp -implicitDefEqProofs [b1, dF, lO, lF, iL, ok, rng1, h2]
theorem b1_runN {o : Orc} (t : List (Int × List Int)) (s : Int) (n : Nat) (e : PL.Env) (ok : okR 1 ((n : Int) + 1) = true) (h2 : loopF (fun x e => some (e.set 5 (some x))) (fun e => exSs tb o [] b1_3 e) ((List.range' (0 + 1) n).map fun i : Nat => D.int (i : Int)) [some (dF t), some (.int s), some (.int n), some (dI true [(s, s)]), some (.nd .lst true (iL [s])), none, none, none, none] = some (.val .nx e)) :
   exSs tb o [] b1 [some (dF t), some (.int s), some (.int n), none, none, none, none, none, none] = some (.val (.rt .non) e) := by
  simp -implicitDefEqProofs [dI, dF, lO, iL, lF, kD, vD] at h2 ⊢
  simp -implicitDefEqProofs [b1, dF, lO, lF, iL, ok, rng1, h2]
/-- way_back -/
theorem run1 (k : Nat) (t : List (Int × List Int)) (s : Int) (n : Nat) (hs : key t s) (hT : Few t) (hC : Clo t) (hn : n ≤ 500) :
    (∃ d r, callF tb (k + 2) 1 [dF t, .int s, .int n] = some (.val (lO r) []) ∧ Ring t s d r ∧ d < n ∧ ∀ j, 1 ≤ j → j ≤ d → ¬ Wk t j s s) ∨
    (callF tb (k + 2) 1 [dF t, .int s, .int n] = some (.val .non []) ∧ ((∀ j, 1 ≤ j → ¬ Wk t j s s) ∨ ((∀ j, 1 ≤ j → j ≤ n → ¬ Wk t j s s) ∧ ∃ c : List (Int × Int), (c.map (·.1)).Nodup ∧ (∀ z, key c z → key t z) ∧ n + 1 ≤ c.length))) := by
  have ok := okR_n 1 ((n : Int) + 1) (by omega) (by omega) (by omega) (by omega)
  rcases loop5 (k := k) (some (.int n)) hT hC n 0 [s] [(s, s)] (fun _ => 0) true none none none none (sr0 hs) (by omega) with ⟨d', r, e, h2, R, h3, h4⟩ | ⟨e, h2, N⟩ | ⟨e, h2, N, c, c1, c2, c3⟩
  · exact .inl ⟨d', r, run_rt e1 rfl rfl rfl (b1_run t s n _ e ok h2), R, by omega, h4⟩
  · exact .inr ⟨run_rt e1 rfl rfl rfl (b1_run t s n _ e ok h2), .inl N⟩
  · exact .inr ⟨run_rt e1 rfl rfl rfl (b1_runN t s n e ok h2), .inr ⟨fun j h1 h3 => N j h1 (by omega), c, c1, c2, by omega⟩⟩
end K87

namespace K87
open PySem L2 PL
theorem nd_sub : ∀ (a b : List Int), a.Nodup → (∀ x ∈ a, x ∈ b) → a.length ≤ b.length
  | [], _, _, _ => by simp
  | x :: a, b, nd, h => by
    rw [List.nodup_cons] at nd
    have hx := h x (by simp)
    have := nd_sub a (b.erase x) nd.2 fun y hy => (List.mem_erase_of_ne (fun e : y = x => nd.1 (by rw [← e]; exact hy))).mpr (h y (by simp [hy]))
    rw [List.length_erase_of_mem hx] at this
    have := List.length_pos_of_mem hx
    simp
    omega
theorem key_mem {β : Type} {t : List (Int × β)} {x : Int} : key t x ↔ x ∈ t.map (·.1) := by
  unfold key
  cases q : lk t x with
  | none => simpa using lk_none.mp q
  | some v => simp; exact ⟨v, lk_some_mem q⟩
theorem few_le {t : List (Int × List Int)} (c : List (Int × Int)) (h1 : (c.map (·.1)).Nodup) (h2 : ∀ z, key c z → key t z) : c.length ≤ t.length := by
  have := nd_sub (c.map (·.1)) (t.map (·.1)) h1 fun x hx => key_mem.mp (h2 x (key_mem.mpr hx))
  simpa using this
/-- what is known of the best so far: bound m, starts xs are done -/
def Best (t : List (Int × List Int)) (best : D) (m : Nat) (xs : List Int) : Prop :=
  (best = .non ∧ m = t.length ∧ ∀ s ∈ xs, ∀ j, 1 ≤ j → ¬ Wk t j s s) ∨ (∃ s r, key t s ∧ best = lF r ∧ Ring t s m r ∧ m < t.length ∧ ∀ s ∈ xs, ∀ j, 1 ≤ j → j ≤ m → ¬ Wk t j s s)
theorem step3 {k : Nat} {t : List (Int × List Int)} {best : D} {m : Nat} {xs : List Int} {s : Int} (B : Best t best m xs) (hs : key t s) (hC : Clo t) (hl : t.length ≤ 400) (p x : Option D) :
    ∃ best' m' x', exSs tb (callF tb (k + 2)) [] b3_1 [p, some (dF t), some best, some (.int (m : Nat)), some (.int s), x] = some (.val .nx [p, some (dF t), some best', some (.int (m' : Nat)), some (.int s), x']) ∧ Best t best' m' (xs ++ [s]) := by
  have hT : Few t := fun c h1 h2 => Nat.le_trans (few_le c h1 h2) (by omega)
  have hm : m ≤ 400 := by
    rcases B with ⟨_, h, _⟩ | ⟨_, _, _, _, _, h, _⟩ <;> omega
  have C : ∀ r e, callF tb (k + 2) 1 [dF t, .int s, .int m] = some (.val r []) → runCall tb (callF tb (k + 2)) 1 [.d (dF t), .d (.int s), .d (.int m)] e = some (.val r e) := fun r e h => call3 e1 rfl (by simpa [dF, frzL_of_fz _ (vLF_fz t)] using h)
  rcases run1 k t s m hs hT hC (by omega) with ⟨d, r, h, R, hd, hn⟩ | ⟨h, hn⟩
  · have C' := fun e => C _ e h
    refine ⟨lF r, d, some (lF r), ?_, .inr ⟨s, r, hs, rfl, R, ?_, fun s' hs' j h1 h2 => ?_⟩⟩
    · simp -implicitDefEqProofs [dF, vLF_fz, lO, lF, iL] at C' ⊢
      simp -implicitDefEqProofs [b3_1, vLF_fz, C', D.isN, R.len]
    · rcases B with ⟨_, h, _⟩ | ⟨_, _, _, _, _, h, _⟩ <;> omega
    · rcases List.mem_append.mp hs' with z | z
      · rcases B with ⟨_, _, h⟩ | ⟨_, _, _, _, _, _, h⟩
        · exact h s' z j h1
        · exact h s' z j h1 (by omega)
      · simp at z; subst z; exact hn j h1 h2
  · have C' := fun e => C _ e h
    refine ⟨best, m, some .non, ?_, ?_⟩
    · simp -implicitDefEqProofs [dF, vLF_fz, lO, lF, iL] at C' ⊢
      simp -implicitDefEqProofs [b3_1, vLF_fz, C', D.isN]
    · rcases B with ⟨e1, e2, h⟩ | ⟨s0, r, h1, h2, h3, h4, h⟩
      · refine .inl ⟨e1, e2, fun s' hs' j hj => ?_⟩
        rcases List.mem_append.mp hs' with z | z
        · exact h s' z j hj
        · simp at z; subst z
          rcases hn with hn | ⟨_, c, c1, c2, c3⟩
          · exact hn j hj
          · have := few_le c c1 c2; omega
      · refine .inr ⟨s0, r, h1, h2, h3, h4, fun s' hs' j hj hj2 => ?_⟩
        rcases List.mem_append.mp hs' with z | z
        · exact h s' z j hj hj2
        · simp at z; subst z
          rcases hn with hn | ⟨hn, _⟩
          · exact hn j hj
          · exact hn j hj hj2
end K87

namespace K87
open PySem L2 PL
theorem loop6 {k : Nat} {t : List (Int × List Int)} (hC : Clo t) (hl : t.length ≤ 400) (p : Option D) : ∀ (ss xs : List Int) (best : D) (m : Nat) (y x : Option D), Best t best m xs → (∀ s ∈ ss, key t s) →
    ∃ best' m' y' x', loopF (fun x e => some (e.set 4 (some x))) (fun e => exSs tb (callF tb (k + 2)) [] b3_1 e) (iL ss) [p, some (dF t), some best, some (.int (m : Nat)), y, x] = some (.val .nx [p, some (dF t), some best', some (.int (m' : Nat)), y', x']) ∧ Best t best' m' (xs ++ ss)
  | [], xs, best, m, y, x, B, _ => ⟨best, m, y, x, by simp, by simpa using B⟩
  | s :: ss, xs, best, m, y, x, B, h => by
    obtain ⟨b1, m1, x1, h1, B1⟩ := step3 (k := k) B (h s (by simp)) hC hl p x
    obtain ⟨b2, m2, y2, x2, h2, B2⟩ := loop6 (k := k) hC hl p ss (xs ++ [s]) b1 m1 (some (.int s)) x1 B1 fun s' hs' => h s' (by simp [hs'])
    exact ⟨b2, m2, y2, x2, (loopF_turn rfl h1).trans h2, by simpa using B2⟩
theorem e3 : tb.fns[3]? = some f3 := rfl
theorem e4 : tb.fns[4]? = some f4 := rfl
theorem ints_keys {β : Type} (t : List (Int × β)) : intsD ((kD t).map keyD) = some (t.map (·.1)) := by
  have : (kD t).map keyD = iL (t.map (·.1)) := by simp [kD, keyD, iL]
  rw [this]
  exact intsD_map _
theorem b3_run {o : Orc} (P : D) (t : List (Int × List Int)) (best : D) (m : Int) (y x : Option D) (hP : P.frz = P) (hPz : P.fz = true) (h64 : t.length < 64) (C : ∀ e, runCall tb o 0 [.d P] e = some (.val (dO t) e))
    (h2 : loopF (fun x e => some (e.set 4 (some x))) (fun e => exSs tb o [] b3_1 e) (iL (sortI (t.map (·.1)))) [some P, some (dF t), some .non, some (.int (t.length : Nat)), none, none] = some (.val .nx [some P, some (dF t), some best, some (.int m), y, x])) (hb : best = .non ∨ ∃ r, best = lF r) :
    ∃ e, exSs tb o [] b3 [some P, none, none, none, none, none] = some (.val (.rt (match best with | .nd _ _ xs => .nd .tup false xs | _ => .non)) e) := by
  rcases hb with rfl | ⟨r, rfl⟩
  · refine ⟨[some P, some (dF t), some .non, some (.int m), y, x], ?_⟩
    simp -implicitDefEqProofs [dF, dO, lO, lF, iL] at C h2 ⊢
    simp -implicitDefEqProofs [b3, hPz, C, vD_F, vLF_fz, ints_keys, h64, h2, D.isN]
  · refine ⟨[some P, some (dF t), some (lF r), some (.int m), y, x], ?_⟩
    simp -implicitDefEqProofs [dF, dO, lO, lF, iL] at C h2 ⊢
    simp -implicitDefEqProofs [b3, hPz, C, vD_F, vLF_fz, ints_keys, h64, h2, D.isN]
end K87

namespace K87
open PySem L2 PL
/-! ### what followers tells -/
theorem addT_key {t : List (Int × List Int)} {p : Int × Int} {x : Int} : key (addT t p) x ↔ x = p.1 ∨ x = p.2 ∨ key t x := by
  unfold addT
  dsimp only
  split
  · rename_i h
    rw [key_pt]
    constructor
    · rintro (h1 | h1)
      · exact .inl h1
      · exact .inr (.inr h1)
    · rintro (h1 | h1 | h1)
      · exact .inl h1
      · subst h1; exact key_pt.mp h
      · exact .inr h1
  · rw [key_pt, key_pt]
    constructor
    · rintro (h1 | h1 | h1)
      · exact .inr (.inl h1)
      · exact .inl h1
      · exact .inr (.inr h1)
    · rintro (h1 | h1 | h1)
      · exact .inr (.inl h1)
      · exact .inl h1
      · exact .inr (.inr h1)
theorem addT_adj {t : List (Int × List Int)} {p : Int × Int} {x : Int} : adj (addT t p) x = if x = p.1 then adj t p.1 ++ [p.2] else adj t x := by
  unfold addT adj
  dsimp only
  split
  · rw [lk_pt]
    split <;> simp
  · rename_i h
    rw [lk_pt]
    by_cases c : x = p.2
    · subst c
      rw [if_pos rfl]
      have hn : ¬ key (pt t p.1 ((lk t p.1).getD [] ++ [p.2])) p.2 := h
      rw [key_pt] at hn
      have h1 : ¬ p.2 = p.1 := fun e => hn (.inl e)
      have h2 : ¬ key t p.2 := fun e => hn (.inr e)
      rw [if_neg h1]
      unfold key at h2
      cases q : lk t p.2 with
      | none => rfl
      | some v => rw [q] at h2; simp at h2
    · rw [if_neg c, lk_pt]
      split <;> simp
theorem foll_key : ∀ (ps : List (Int × Int)) (t : List (Int × List Int)) (x : Int), key (foll t ps) x ↔ key t x ∨ ∃ p ∈ ps, x = p.1 ∨ x = p.2
  | [], t, x => by simp [foll]
  | p :: ps, t, x => by
    have := foll_key ps (addT t p) x
    simp only [foll, List.foldl_cons] at this ⊢
    rw [this, addT_key]
    simp only [List.mem_cons, exists_eq_or_imp]
    constructor
    · rintro ((h | h | h) | h)
      · exact .inr (.inl (.inl h))
      · exact .inr (.inl (.inr h))
      · exact .inl h
      · exact .inr (.inr h)
    · rintro (h | (h | h) | h)
      · exact .inl (.inr (.inr h))
      · exact .inl (.inl h)
      · exact .inl (.inr (.inl h))
      · exact .inr h
theorem foll_adj : ∀ (ps : List (Int × Int)) (t : List (Int × List Int)) (x y : Int), y ∈ adj (foll t ps) x ↔ y ∈ adj t x ∨ (x, y) ∈ ps
  | [], t, x, y => by simp [foll]
  | p :: ps, t, x, y => by
    have := foll_adj ps (addT t p) x y
    simp only [foll, List.foldl_cons] at this ⊢
    rw [this, addT_adj]
    obtain ⟨a, b⟩ := p
    by_cases c : x = a
    · subst c
      simp only [if_true, List.mem_append, List.mem_cons, List.not_mem_nil, or_false, Prod.mk.injEq, true_and]
      constructor
      · rintro ((h | h) | h)
        · exact .inl h
        · exact .inr (.inl h)
        · exact .inr (.inr h)
      · rintro (h | h | h)
        · exact .inl (.inl h)
        · exact .inl (.inr h)
        · exact .inr h
    · simp [c]
theorem foll_clo (ps : List (Int × Int)) : Clo (foll [] ps) := fun x y _ h => by
  rw [foll_adj] at h
  rcases h with h | h
  · simp [adj, lk] at h
  · exact (foll_key ps [] y).mpr (.inr ⟨(x, y), h, .inr rfl⟩)
theorem okT_foll : ∀ (ps : List (Int × Int)) (t : List (Int × List Int)) (n : Nat), okT n t → okT (n + ps.length) (foll t ps)
  | [], t, n, h => h
  | p :: ps, t, n, h => by
    have := okT_foll ps (addT t p) (n + 1) (okT_add h p)
    simp only [foll, List.foldl_cons, List.length_cons] at this ⊢
    rw [show n + (ps.length + 1) = n + 1 + ps.length by omega]
    exact this
theorem foll_len (ps : List (Int × Int)) : (foll [] ps).length ≤ 2 * ps.length := by
  have := (okT_foll ps [] 0 ⟨by simp, fun k v h => by simp [lk] at h⟩).1
  simpa using this
end K87

namespace K87
open PySem L2 PL
abbrev psD (ps : List (Int × Int)) : D := .nd .tup false (ps.map pD)
/-- ring_in -/
theorem run3 (k : Nat) (ps : List (Int × Int)) (h : ps.length ≤ 30) :
    (callF tb (k + 3) 3 [psD ps] = some (.val .non []) ∧ ∀ s j, key (foll [] ps) s → 1 ≤ j → ¬ Wk (foll [] ps) j s s) ∨
    ∃ s d r, callF tb (k + 3) 3 [psD ps] = some (.val (.nd .tup false (iL r)) []) ∧ Ring (foll [] ps) s d r ∧ ∀ s' j, key (foll [] ps) s' → 1 ≤ j → j ≤ d → ¬ Wk (foll [] ps) j s' s' := by
  have hl := foll_len ps
  have hC := foll_clo ps
  generalize ht : foll [] ps = t at *
  have hP : (psD ps).frz = psD ps := by simp [psD]
  have hPz : (psD ps).fz = true := by simp [psD]
  have C : ∀ e, runCall tb (callF tb (k + 2)) 0 [.d (psD ps)] e = some (.val (dO t) e) := fun e => call1 e0 rfl (by rw [hP, ← ht]; exact run0 (k + 1) ps (by omega))
  obtain ⟨best, m, y, x, h2, B⟩ := loop6 (k := k) hC (by omega) (some (psD ps)) (sortI (t.map (·.1))) [] .non t.length none none (.inl ⟨rfl, rfl, fun s hs => by simp at hs⟩) fun s hs => by
    rw [key_mem]; exact List.mem_mergeSort.mp hs
  have all : ∀ s, key t s → s ∈ sortI (t.map (·.1)) := fun s hs => List.mem_mergeSort.mpr (key_mem.mp hs)
  rcases B with ⟨rfl, _, hn⟩ | ⟨s, r, hs, rfl, R, _, hn⟩
  · obtain ⟨e, hb⟩ := b3_run (psD ps) t .non m y x hP hPz (by omega) C h2 (.inl rfl)
    exact .inl ⟨run_rt e3 rfl rfl rfl hb, fun s j hs h1 => hn s (by simpa using all s hs) j h1⟩
  · obtain ⟨e, hb⟩ := b3_run (psD ps) t (lF r) m y x hP hPz (by omega) C h2 (.inr ⟨r, rfl⟩)
    exact .inr ⟨s, m, r, run_rt e3 rfl rfl rfl hb, R, fun s' j hs' h1 h3 => hn s' (by simpa using all s' hs') j h1 h3⟩
theorem wk_key {ps : List (Int × Int)} {j : Nat} {a b : Int} (h1 : 1 ≤ j) (h : Wk (foll [] ps) j a b) : key (foll [] ps) b := by
  cases j with
  | zero => omega
  | succ j =>
    obtain ⟨c, _, he⟩ := h
    rw [foll_adj] at he
    rcases he with he | he
    · simp [adj, lk] at he
    · exact (foll_key ps [] b).mpr (.inr ⟨(c, b), he, .inr rfl⟩)
/-- ring_of -/
theorem run4 (k : Nat) (ps : List (Int × Int)) (h : ps.length ≤ 30) :
    (callF tb (k + 4) 4 [psD ps] = some (.val .non []) ∧ ∀ s j, 1 ≤ j → ¬ Wk (foll [] ps) j s s) ∨
    ∃ s d r, callF tb (k + 4) 4 [psD ps] = some (.val (.nd .tup false (iL r)) []) ∧ Ring (foll [] ps) s d r ∧ ∀ s' j, 1 ≤ j → j ≤ d → ¬ Wk (foll [] ps) j s' s' := by
  have hP : (psD ps).frz = psD ps := by simp [psD]
  have hPz : (psD ps).fz = true := by simp [psD]
  have go : ∀ d, callF tb (k + 3) 3 [psD ps] = some (.val d []) → callF tb (k + 4) 4 [psD ps] = some (.val d []) := fun d hd => by
    have C : ∀ e, runCall tb (callF tb (k + 3)) 3 [.d (psD ps)] e = some (.val d e) := fun e => call1 e3 rfl (by rw [hP]; exact hd)
    refine run_rt (e := [some (psD ps)]) e4 rfl rfl rfl ?_
    simp -implicitDefEqProofs [b4, psD] at C ⊢
    simp -implicitDefEqProofs [C]
  rcases run3 k ps h with ⟨h1, h2⟩ | ⟨s, d, r, h1, R, h2⟩
  · exact .inl ⟨go _ h1, fun s j hj hw => h2 s j (wk_key hj hw) hj hw⟩
  · exact .inr ⟨s, d, r, go _ h1, R, fun s j hj hjd hw => h2 s j (wk_key hj hw) hj hjd hw⟩
end K87

namespace K87
open PySem L2 PL
/-! ### _law_steps_back -/
theorem step7 {o : Orc} (A B P : Option D) (row : List Int) (far : List (Int × Int)) (k : Nat) (p : Int × Int) (hk : k < row.length) (l : Int) (hl : lk far row[k] = some l) (h1 : row.length ≤ 900) (h2 : far.length ≤ 900) :
    exSs tb o [] b7_1 [P, A, B, some (lO row), some (dI true far), some (.int (k : Nat)), some (pD p)] =
      if p.1 = row[k] ∧ lk far p.2 = none then some (.val .nx [P, A, B, some (lO (row ++ [p.2])), some (dI true (pt far p.2 (l + 1))), some (.int (k : Nat)), some (pD p)])
      else some (.val .nx [P, A, B, some (lO row), some (dI true far), some (.int (k : Nat)), some (pD p)]) := by
  have hr := atI_ints row k hk
  generalize row[k] = c at hr hl ⊢
  have S := setD_k D.int far p.2 (l + 1) (by omega)
  by_cases c1 : p.1 = c
  · cases q : lk far p.2 with
    | none =>
      rw [if_pos ⟨c1, rfl⟩]
      simp -implicitDefEqProofs [dI, lO, iL] at hr S ⊢
      simp -implicitDefEqProofs [b7_1, hr, eqD_int, c1, vI_frz, vI_fz, q, hl, S, show row.length ≤ 1000 by omega]
    | some v =>
      rw [if_neg (fun h => by cases h.2)]
      simp -implicitDefEqProofs [dI, lO, iL] at hr S ⊢
      simp -implicitDefEqProofs [b7_1, hr, eqD_int, c1, vI_frz, vI_fz, q, hl, S, show row.length ≤ 1000 by omega]
  · rw [if_neg (fun h => c1 h.1)]
    simp -implicitDefEqProofs [dI, lO, iL] at hr S ⊢
    simp -implicitDefEqProofs [b7_1, hr, eqD_int, c1, vI_frz, vI_fz, hl, S, show row.length ≤ 1000 by omega]
end K87

namespace K87
open PySem L2 PL
/-- walks over pairs -/
def Wp (ps : List (Int × Int)) : Nat → Int → Int → Prop
  | 0, a, b => a = b
  | n + 1, a, b => ∃ c, Wp ps n a c ∧ (c, b) ∈ ps
/-- a search's state: the row, what is told of far -/
structure Qs (ps : List (Int × Int)) (a : Int) (row : List Int) (far : List (Int × Int)) (lev : Int → Nat) : Prop where
  h0 : row[0]? = some a
  l0 : lev a = 0
  fr : ∀ x, lk far x = if x ∈ row then some (lev x : Int) else none
  wk : ∀ x ∈ row, Wp ps (lev x) a x
  mo : ∀ (i j : Nat) (x y : Int), i ≤ j → row[i]? = some x → row[j]? = some y → lev x ≤ lev y
  nd : row.Nodup
  sb : ∀ x ∈ row, x = a ∨ ∃ p ∈ ps, x = p.2
  fl : far.length ≤ row.length
  ix : ∀ (i : Nat) (x : Int), row[i]? = some x → lev x ≤ i
theorem Qs.len {ps : List (Int × Int)} {a : Int} {row : List Int} {far : List (Int × Int)} {lev : Int → Nat} (Q : Qs ps a row far lev) : row.length ≤ 1 + ps.length := by
  have := nd_sub row (a :: ps.map (·.2)) Q.nd fun x hx => by
    rcases Q.sb x hx with h | ⟨p, hp, h⟩
    · simp [h]
    · simp; exact .inr ⟨p.1, by rw [h]; exact hp⟩
  simp at this
  omega
theorem Qs.put {ps : List (Int × Int)} {a : Int} {row : List Int} {far : List (Int × Int)} {lev : Int → Nat} (Q : Qs ps a row far lev) {c y : Int} (hc : c ∈ row) (he : (c, y) ∈ ps) (hy : y ∉ row) (hb : ∀ x ∈ row, lev x ≤ lev c + 1) :
    Qs ps a (row ++ [y]) (pt far y ((lev c : Int) + 1)) (fun z => if z = y then lev c + 1 else lev z) := by
  have ar : a ∈ row := List.mem_of_getElem? Q.h0
  have na : ¬ a = y := fun e => hy (e ▸ ar)
  have keep : ∀ x ∈ row, (if x = y then lev c + 1 else lev x) = lev x := fun x hx => if_neg fun e : x = y => hy (e ▸ hx)
  refine ⟨?_, (show (if a = y then lev c + 1 else lev a) = 0 by rw [keep a ar]; exact Q.l0), fun x => ?_, fun x hx => ?_, fun i j x z hij hi hj => ?_, ?_, fun x hx => ?_, ?_, fun i x hi => ?_⟩
  · rw [List.getElem?_append_left (by have := List.length_pos_of_mem ar; omega)]; exact Q.h0
  · rw [lk_pt, Q.fr]
    by_cases e : x = y
    · simp [e]
    · simp [e]
  · rcases List.mem_append.mp hx with h | h
    · show Wp ps (if x = y then lev c + 1 else lev x) a x
      rw [keep x h]; exact Q.wk x h
    · simp at h; subst h
      show Wp ps (if x = x then lev c + 1 else lev x) a x
      rw [if_pos rfl]
      exact ⟨c, Q.wk c hc, he⟩
  · show (if x = y then lev c + 1 else lev x) ≤ (if z = y then lev c + 1 else lev z)
    by_cases h2 : j < row.length
    · rw [List.getElem?_append_left h2] at hj
      rw [List.getElem?_append_left (by omega)] at hi
      rw [keep x (List.mem_of_getElem? hi), keep z (List.mem_of_getElem? hj)]
      exact Q.mo i j x z hij hi hj
    · have hjl : j < (row ++ [y]).length := (List.getElem?_eq_some_iff.mp hj).1
      have : j = row.length := by simp at hjl; omega
      subst this
      simp at hj
      subst hj
      rw [if_pos rfl]
      by_cases h3 : i < row.length
      · rw [List.getElem?_append_left h3] at hi
        have hx := List.mem_of_getElem? hi
        rw [keep x hx]
        exact hb x hx
      · have : i = row.length := by omega
        subst this
        simp at hi
        subst hi
        rw [if_pos rfl]
        exact Nat.le_refl _
  · rw [List.nodup_append]
    exact ⟨Q.nd, by simp, fun x hx z hz => by simp at hz; subst hz; exact fun e => hy (e ▸ hx)⟩
  · rcases List.mem_append.mp hx with h | h
    · exact Q.sb x h
    · simp at h; subst h; exact .inr ⟨(c, x), he, rfl⟩
  · have := pt_len_le far y ((lev c : Int) + 1)
    have := Q.fl
    simp
    omega
  · show (if x = y then lev c + 1 else lev x) ≤ i
    by_cases h2 : i < row.length
    · rw [List.getElem?_append_left h2] at hi
      rw [keep x (List.mem_of_getElem? hi)]
      exact Q.ix i x hi
    · have hjl : i < (row ++ [y]).length := (List.getElem?_eq_some_iff.mp hi).1
      have : i = row.length := by simp at hjl; omega
      subst this
      simp at hi
      subst hi
      rw [if_pos rfl]
      obtain ⟨j, hj, e⟩ := List.getElem_of_mem hc
      have := Q.ix j c (by rw [List.getElem?_eq_getElem hj, e])
      omega
end K87

namespace K87
open PySem L2 PL
/-- the rows ahead of k are done -/
def Dn (ps : List (Int × Int)) (row : List Int) (lev : Int → Nat) (k : Nat) : Prop := ∀ (i : Nat) (x : Int), i < k → row[i]? = some x → ∀ y, (x, y) ∈ ps → y ∈ row ∧ lev y ≤ lev x + 1
theorem loop7i {o : Orc} {ps : List (Int × Int)} {a c : Int} (hp : ps.length ≤ 400) (A B P : Option D) (k : Nat) : ∀ (qs pre : List (Int × Int)) (row : List Int) (far : List (Int × Int)) (lev : Int → Nat) (pr : Option D),
    pre ++ qs = ps → Qs ps a row far lev → row[k]? = some c → Dn ps row lev k → (∀ x ∈ row, lev x ≤ lev c + 1) → (∀ y, (c, y) ∈ pre → y ∈ row ∧ lev y ≤ lev c + 1) →
    ∃ row' far' lev' pr', loopF (fun x e => some (e.set 6 (some x))) (fun e => exSs tb o [] b7_1 e) (qs.map pD) [P, A, B, some (lO row), some (dI true far), some (.int (k : Nat)), pr] = some (.val .nx [P, A, B, some (lO row'), some (dI true far'), some (.int (k : Nat)), pr']) ∧
      Qs ps a row' far' lev' ∧ row'[k]? = some c ∧ Dn ps row' lev' (k + 1) ∧ (∀ x ∈ row', lev' x ≤ lev' c + 1)
  | [], pre, row, far, lev, pr, h, Q, hk, hD, hb, hn => by
    refine ⟨row, far, lev, pr, by simp, Q, hk, fun i x hi hx y hy => ?_, hb⟩
    by_cases h1 : i < k
    · exact hD i x h1 hx y hy
    · have : i = k := by omega
      subst this
      rw [hx] at hk; cases hk
      exact hn y (by simpa [← h] using hy)
  | (q1, q2) :: qs, pre, row, far, lev, pr, h, Q, hk, hD, hb, hn => by
    have hl := Q.len
    have hfl := Q.fl
    obtain ⟨hkl, hkc⟩ := List.getElem?_eq_some_iff.mp hk
    have hc : c ∈ row := List.mem_of_getElem? hk
    have hlc : lk far row[k] = some (lev c : Int) := by rw [hkc, Q.fr c, if_pos hc]
    have S := step7 (o := o) A B P row far k (q1, q2) hkl _ hlc (by omega) (by omega)
    rw [hkc] at S
    by_cases c1 : q1 = c ∧ lk far q2 = none
    · obtain ⟨rfl, c2⟩ := c1
      rw [if_pos ⟨rfl, c2⟩] at S
      have hy : q2 ∉ row := fun z => by rw [Q.fr, if_pos z] at c2; cases c2
      have Q' := Q.put hc (show (q1, q2) ∈ ps by rw [← h]; simp) hy hb
      have keep : ∀ x ∈ row, (if x = q2 then lev q1 + 1 else lev x) = lev x := fun x hx => if_neg fun e : x = q2 => hy (e ▸ hx)
      obtain ⟨row', far', lev', pr', h1, h2⟩ := loop7i hp A B P k qs (pre ++ [(q1, q2)]) (row ++ [q2]) (pt far q2 ((lev q1 : Int) + 1)) (fun z => if z = q2 then lev q1 + 1 else lev z) (some (pD (q1, q2))) (by simpa using h) Q' (by rw [List.getElem?_append_left hkl]; exact hk)
        (fun i x hi hx y hy => by
          have hil : i < row.length := by omega
          rw [List.getElem?_append_left hil] at hx
          have hxr := List.mem_of_getElem? hx
          obtain ⟨g1, g2⟩ := hD i x hi hx y hy
          refine ⟨by simp [g1], ?_⟩
          show (if y = q2 then lev q1 + 1 else lev y) ≤ (if x = q2 then lev q1 + 1 else lev x) + 1
          rw [keep x hxr, keep y g1]; exact g2)
        (fun x hx => by
          show (if x = q2 then lev q1 + 1 else lev x) ≤ (if q1 = q2 then lev q1 + 1 else lev q1) + 1
          rw [keep q1 hc]
          rcases List.mem_append.mp hx with hx | hx
          · rw [keep x hx]; exact hb x hx
          · simp at hx; subst hx; simp)
        (fun y hy => by
          show _ ∧ (if y = q2 then lev q1 + 1 else lev y) ≤ (if q1 = q2 then lev q1 + 1 else lev q1) + 1
          rw [keep q1 hc]
          rcases List.mem_append.mp hy with hy | hy
          · obtain ⟨g1, g2⟩ := hn y hy
            exact ⟨by simp [g1], by rw [keep y g1]; exact g2⟩
          · simp at hy; subst hy; simp)
      exact ⟨row', far', lev', pr', (loopF_turn rfl S).trans h1, h2⟩
    · rw [if_neg c1] at S
      obtain ⟨row', far', lev', pr', h1, h2⟩ := loop7i hp A B P k qs (pre ++ [(q1, q2)]) row far lev (some (pD (q1, q2))) (by simpa using h) Q hk hD hb
        (fun y hy => by
          rcases List.mem_append.mp hy with hy | hy
          · exact hn y hy
          · simp at hy
            obtain ⟨rfl, rfl⟩ := hy
            have : y ∈ row := by
              apply Classical.byContradiction
              intro z
              exact c1 ⟨rfl, by rw [Q.fr, if_neg z]⟩
            exact ⟨this, hb y this⟩)
      exact ⟨row', far', lev', pr', (loopF_turn rfl S).trans h1, h2⟩
theorem step7o {o : Orc} {ps : List (Int × Int)} {a : Int} (hp : ps.length ≤ 400) (A B : Option D) (k : Nat) {row : List Int} {far : List (Int × Int)} {lev : Int → Nat} (pr : Option D)
    (Q : Qs ps a row far lev) (hD : Dn ps row lev k) (hb : ∀ c, row[k]? = some c → ∀ x ∈ row, lev x ≤ lev c + 1) :
    ∃ row' far' lev' pr', exSs tb o [] b7_2 [some (.nd .lst false (ps.map pD)), A, B, some (lO row), some (dI true far), some (.int (k : Nat)), pr] = some (.val .nx [some (.nd .lst false (ps.map pD)), A, B, some (lO row'), some (dI true far'), some (.int (k : Nat)), pr']) ∧
      Qs ps a row' far' lev' ∧ Dn ps row' lev' (k + 1) ∧ (∀ c, row'[k + 1]? = some c → ∀ x ∈ row', lev' x ≤ lev' c + 1) := by
  by_cases c1 : k < row.length
  · have hk : row[k]? = some row[k] := List.getElem?_eq_getElem c1
    obtain ⟨row', far', lev', pr', h1, Q', hk', hD', hb'⟩ := loop7i (o := o) hp A B (some (.nd .lst false (ps.map pD))) k ps [] row far lev pr rfl Q hk hD (hb _ hk) (fun y hy => by simp at hy)
    refine ⟨row', far', lev', pr', ?_, Q', hD', fun c hc x hx => ?_⟩
    · simp -implicitDefEqProofs [dI, lO, iL, pD] at h1 ⊢
      simp -implicitDefEqProofs [b7_2, vI_frz, vI_fz, h1, c1]
    · have := Q'.mo k (k + 1) _ c (by omega) hk' hc
      have := hb' x hx
      omega
  · refine ⟨row, far, lev, pr, ?_, Q, fun i x hi hx => ?_, fun c hc => ?_⟩
    · simp -implicitDefEqProofs [dI, lO, iL, pD]
      simp -implicitDefEqProofs [b7_2, vI_frz, vI_fz, c1]
    · have := (List.getElem?_eq_some_iff.mp hx).1
      exact hD i x (by omega) hx
    · have := (List.getElem?_eq_some_iff.mp hc).1
      omega
theorem loop7 {o : Orc} {ps : List (Int × Int)} {a : Int} (hp : ps.length ≤ 400) (A B : Option D) : ∀ (n k : Nat) (row : List Int) (far : List (Int × Int)) (lev : Int → Nat) (kk pr : Option D),
    Qs ps a row far lev → Dn ps row lev k → (∀ c, row[k]? = some c → ∀ x ∈ row, lev x ≤ lev c + 1) →
    ∃ row' far' lev' kk' pr', loopF (fun x e => some (e.set 5 (some x))) (fun e => exSs tb o [] b7_2 e) ((List.range' k n).map fun (j : Nat) => D.int (j : Nat)) [some (.nd .lst false (ps.map pD)), A, B, some (lO row), some (dI true far), kk, pr] = some (.val .nx [some (.nd .lst false (ps.map pD)), A, B, some (lO row'), some (dI true far'), kk', pr']) ∧
      Qs ps a row' far' lev' ∧ Dn ps row' lev' (k + n)
  | 0, k, row, far, lev, kk, pr, Q, hD, _ => ⟨row, far, lev, kk, pr, by simp, Q, hD⟩
  | n + 1, k, row, far, lev, kk, pr, Q, hD, hb => by
    obtain ⟨row1, far1, lev1, pr1, h1, Q1, hD1, hb1⟩ := step7o (o := o) hp A B k pr Q hD hb
    obtain ⟨row2, far2, lev2, kk2, pr2, h2, Q2, hD2⟩ := loop7 hp A B n (k + 1) row1 far1 lev1 (some (.int (k : Nat))) pr1 Q1 hD1 hb1
    refine ⟨row2, far2, lev2, kk2, pr2, ?_, Q2, ?_⟩
    · rw [List.range'_succ, List.map_cons]
      exact (loopF_turn rfl h1).trans h2
    · rw [show k + (n + 1) = k + 1 + n by omega]; exact hD2
end K87

namespace K87
open PySem L2 PL
abbrev psL (o : Bool) (ps : List (Int × Int)) : D := .nd .lst o (ps.map pD)
theorem e7 : tb.fns[7]? = some f7 := rfl
theorem wp_in {ps : List (Int × Int)} {a : Int} {row : List Int} {lev : Int → Nat} (h0 : a ∈ row) (l0 : lev a = 0) (hD : ∀ x ∈ row, ∀ y, (x, y) ∈ ps → y ∈ row ∧ lev y ≤ lev x + 1) : ∀ (n : Nat) (b : Int), Wp ps n a b → b ∈ row ∧ lev b ≤ n
  | 0, b, h => by cases h; exact ⟨h0, by omega⟩
  | n + 1, b, ⟨c, h, he⟩ => by
    obtain ⟨h1, h2⟩ := wp_in h0 l0 hD n c h
    obtain ⟨h3, h4⟩ := hD c h1 b he
    exact ⟨h3, by omega⟩
/-- _law_steps_back -/
theorem run7 (k : Nat) (ps : List (Int × Int)) (hp : ps.length ≤ 15) (a b : Int) :
    (∃ n : Nat, callF tb (k + 1) 7 [psL false ps, .int a, .int b] = some (.val (.int n) []) ∧ n ≤ 20 ∧ Wp ps n a b ∧ ∀ m, Wp ps m a b → n ≤ m) ∨
    (callF tb (k + 1) 7 [psL false ps, .int a, .int b] = some (.val (.int 99) []) ∧ ∀ m, ¬ Wp ps m a b) := by
  have Q0 : Qs ps a [a] [(a, 0)] (fun _ => 0) :=
    ⟨rfl, rfl, fun x => by
      simp [lk]
      by_cases c : a = x
      · simp [c]
      · simp [c, show ¬ x = a from fun z => c z.symm], fun x hx => by simp at hx; subst hx; rfl, fun i j x y _ _ _ => Nat.le_refl _, by simp, fun x hx => .inl (by simpa using hx), by simp, fun i x hi => Nat.zero_le _⟩
  obtain ⟨row, far, lev, kk, pr, h1, Q, hD⟩ := loop7 (o := callF tb k) (by omega) (some (.int a)) (some (.int b)) 20 0 [a] [(a, 0)] (fun _ => 0) none none Q0 (fun i x hi => by omega) (fun c _ x _ => Nat.zero_le _)
  have hl := Q.len
  have all : ∀ x ∈ row, ∀ y, (x, y) ∈ ps → y ∈ row ∧ lev y ≤ lev x + 1 := fun x hx y hy => by
    obtain ⟨i, hi, e⟩ := List.getElem_of_mem hx
    exact hD i x (by omega) (by rw [List.getElem?_eq_getElem hi, e]) y hy
  have res : ∃ e, exSs tb (callF tb k) [] b7 [some (psL false ps), some (.int a), some (.int b), none, none, none, none] = some (.val (.rt (.int (if b ∈ row then (lev b : Int) else 99))) e) := by
    refine ⟨[some (psL false ps), some (.int a), some (.int b), some (lO row), some (dI false far), kk, pr], ?_⟩
    have hf := Q.fr b
    have hr : rangeD 0 20 = (List.range' 0 20).map fun (j : Nat) => D.int (j : Nat) := by simp [rangeD, List.range_eq_range']
    have ho : okR 0 20 = true := by decide
    have k1 : kD [(a, (0 : Int))] = [.inl a] := rfl
    have k2 : vD D.int [(a, (0 : Int))] = [.int 0] := rfl
    by_cases c : b ∈ row
    · rw [if_pos c] at hf ⊢
      simp -implicitDefEqProofs [dI, lO, iL, pD, psL] at h1 ⊢
      rw [k1, k2] at h1
      simp -implicitDefEqProofs [b7, vI_frz, vI_fz, h1, hr, hf, ho]
    · rw [if_neg c] at hf ⊢
      simp -implicitDefEqProofs [dI, lO, iL, pD, psL] at h1 ⊢
      rw [k1, k2] at h1
      simp -implicitDefEqProofs [b7, vI_frz, vI_fz, h1, hr, hf, ho]
  obtain ⟨e, res⟩ := res
  have R := run_rt (o := callF tb k) (ds := [psL false ps, .int a, .int b]) e7 rfl rfl rfl res
  have ra : a ∈ row := List.mem_of_getElem? Q.h0
  by_cases c : b ∈ row
  · rw [if_pos c] at R
    refine .inl ⟨lev b, R, ?_, Q.wk b c, fun m hm => (wp_in ra Q.l0 all m b hm).2⟩
    obtain ⟨i, hi, e⟩ := List.getElem_of_mem c
    have := Q.ix i b (by rw [List.getElem?_eq_getElem hi, e])
    omega
  · rw [if_neg c] at R
    exact .inr ⟨R, fun m hm => c (wp_in ra Q.l0 all m b hm).1⟩
end K87

namespace K87
open PySem L2 PL
theorem loopC_map {tg : D → PL.Env → Option PL.Env} {cond : PL.Env → R Bool} {elt : PL.Env → R D} {own : List Nat} (g : D → D) (e0 : PL.Env) : ∀ xs : List D,
    (∀ x ∈ xs, ∃ e1 e2, tg x e0 = some e1 ∧ cond e1 = some (.val true e1) ∧ elt e1 = some (.val (g x) e2) ∧ wipeE e2 own = e0) → loopC tg cond elt own xs e0 = some (xs.map g, e0)
  | [], _ => rfl
  | x :: xs, h => by
    obtain ⟨e1, e2, h1, h2, h3, h4⟩ := h x (by simp)
    have ih := loopC_map g e0 xs fun y hy => h y (by simp [hy])
    simp only [loopC, h1, h2, h3, h4, ih, Option.map_some, List.map_cons]
theorem rangeD_0 (n : Nat) : rangeD 0 (n : Int) = (List.range n).map fun (j : Nat) => D.int (j : Nat) := by
  simp [rangeD]
theorem e6 : tb.fns[6]? = some f6 := rfl
theorem okR_0 (n : Nat) (h : n ≤ 1000) : okR 0 (n : Int) = true := by
  simp [okR]; omega
/-- _law_same -/
theorem run6i (k : Nat) (a : Int) : callF tb (k + 1) 6 [.int a, .int a] = some (.val (.bl true) []) := by
  refine run_rt (e := [some (.int a), some (.int a), none]) e6 rfl rfl rfl ?_
  simp -implicitDefEqProofs [b6, D.isN, eqD_int, isD, tyD, isTs, isT]
theorem blsD_rep (n : Nat) : blsD (List.replicate n (.bl true)) = some (List.replicate n true) := by
  induction n with
  | zero => rfl
  | succ n ih => simp [List.replicate_succ, blsD, ih]
theorem run6 (k : Nat) (r : List Int) (h : r.length ≤ 1000) : callF tb (k + 2) 6 [.nd .tup false (iL r), .nd .tup false (iL r)] = some (.val (.bl true) []) := by
  refine run_rt (e := [some (.nd .tup false (iL r)), some (.nd .tup false (iL r)), none]) e6 rfl rfl rfl ?_
  have L : loopC (fun x e => some (e.set 2 (some x))) (fun e => evT tb (callF tb (k + 1)) .tt e) (fun e => evE tb (callF tb (k + 1)) b6_1 e) [2] (rangeD 0 (r.length : Nat)) [some (.nd .tup false (iL r)), some (.nd .tup false (iL r)), none] = some ((rangeD 0 (r.length : Nat)).map fun _ => .bl true, [some (.nd .tup false (iL r)), some (.nd .tup false (iL r)), none]) := by
    refine loopC_map _ _ _ fun x hx => ?_
    rw [rangeD_0] at hx
    obtain ⟨i, hi, rfl⟩ := List.mem_map.mp hx
    have hi := List.mem_range.mp hi
    have hr := atI_ints r i hi
    refine ⟨_, [some (.nd .tup false (iL r)), some (.nd .tup false (iL r)), some (.int (i : Nat))], rfl, by simp, ?_, by simp [wipeE]⟩
    have C : ∀ e, runCall tb (callF tb (k + 1)) 6 [.d (.int r[i]), .d (.int r[i])] e = some (.val (.bl true) e) := fun e => call2 e6 rfl (run6i k _)
    simp -implicitDefEqProofs [iL] at hr C ⊢
    simp -implicitDefEqProofs [b6_1, hr, C]
  rw [rangeD_0, List.map_map, show ((fun _ => D.bl true) ∘ fun (j : Nat) => D.int (j : Nat)) = fun _ => D.bl true from rfl, List.map_const'] at L
  have B := blsD_rep r.length
  simp -implicitDefEqProofs [iL] at L ⊢
  simp -implicitDefEqProofs [b6, D.isN, eqD_int, isD, tyD, isTs, isT, okR_0 _ h, rangeD_0, L, B, h]
end K87

namespace K87
open PySem L2 PL
theorem bk_at {t : List (Int × List Int)} : ∀ (l : List Int), Bk t l → ∀ (i : Nat) (h : i + 1 < l.length), l[i] ∈ adj t l[i + 1]
  | [], _, i, h => by simp at h
  | [_], _, i, h => by simp at h
  | x :: y :: r, B, 0, h => B.1
  | x :: y :: r, B, i + 1, h => bk_at (y :: r) B.2 i (by simpa using h)
theorem bk_wk {t : List (Int × List Int)} {s : Int} : ∀ (l : List Int) (x : Int), Bk t (x :: l) → (x :: l).getLast? = some s → Wk t l.length s x
  | [], x, _, h => by simp at h; exact h.symm
  | y :: l, x, B, h => ⟨y, bk_wk l y B.2 (by simpa using h), B.1⟩
theorem Ring.wk {t : List (Int × List Int)} {s : Int} {d : Nat} {r : List Int} (R : Ring t s d r) : ∃ z, Wk t d s z ∧ s ∈ adj t z := by
  obtain ⟨z, hz, he⟩ := R.cl
  refine ⟨z, ?_, he⟩
  have hl := R.len
  have hb := R.bk
  have hh := R.hd
  rw [List.getLast?_eq_head?_reverse] at hz
  rw [show r.head? = r.reverse.getLast? by simp] at hh
  have hn : r.reverse.length = d + 1 := by simpa using hl
  generalize r.reverse = q at *
  cases q with
  | nil => simp at hn
  | cons x q =>
    simp at hz hn
    subst hz
    rw [← hn]
    exact bk_wk q x hb hh
theorem Ring.at {t : List (Int × List Int)} {s : Int} {d : Nat} {r : List Int} (R : Ring t s d r) (k : Nat) (h : k < r.length) : ∃ z, atI (iL r) ((k : Int) - 1) = some (.int z) ∧ r[k] ∈ adj t z := by
  cases k with
  | zero =>
    obtain ⟨z, hz, he⟩ := R.cl
    have hh := R.hd
    have h0 : r[0] = s := by
      rw [List.head?_eq_getElem?, List.getElem?_eq_getElem h] at hh
      exact Option.some.inj hh
    refine ⟨z, ?_, by rw [h0]; exact he⟩
    obtain ⟨q, hq⟩ := List.getLast?_eq_some_iff.mp hz
    subst hq
    simp only [iL, List.map_append, List.map_cons, List.map_nil]
    exact atI_neg1 _ _
  | succ k =>
    refine ⟨r[k], ?_, ?_⟩
    · rw [show ((k + 1 : Nat) : Int) - 1 = (k : Nat) by omega]
      exact atI_ints r k (by omega)
    · have hb := R.bk
      have := bk_at r.reverse hb (r.length - 1 - (k + 1)) (by simp; omega)
      rw [List.getElem_reverse, List.getElem_reverse] at this
      have e1 : r.length - 1 - (r.length - 1 - (k + 1)) = k + 1 := by omega
      have e2 : r.length - 1 - (r.length - 1 - (k + 1) + 1) = k := by omega
      simp only [e1, e2] at this
      exact this
theorem wk_wp {ps : List (Int × Int)} : ∀ (n : Nat) (a b : Int), Wk (foll [] ps) n a b ↔ Wp ps n a b
  | 0, a, b => Iff.rfl
  | n + 1, a, b => by
    have ih := wk_wp (ps := ps) n a
    have ha : ∀ c, b ∈ adj (foll [] ps) c ↔ (c, b) ∈ ps := fun c => by
      rw [foll_adj]; simp [adj, lk]
    simp only [Wk, Wp, ih, ha]
theorem leastI_le : ∀ (l : List Int), ∀ x ∈ l, leastI l ≤ x
  | [], x, h => by simp at h
  | [y], x, h => by simp at h; subst h; exact Int.le_refl _
  | y :: z :: l, x, h => by
    have ih := leastI_le (z :: l)
    simp only [leastI] at ih ⊢
    rcases List.mem_cons.mp h with rfl | h
    · split <;> omega
    · have := ih x h
      split <;> omega
theorem leastI_mem : ∀ (l : List Int), l ≠ [] → leastI l ∈ l
  | [], h => absurd rfl h
  | [y], _ => by simp [leastI]
  | y :: z :: l, _ => by
    have ih := leastI_mem (z :: l) (by simp)
    simp only [leastI] at ih ⊢
    split
    · exact List.mem_cons_of_mem _ ih
    · exact List.mem_cons_self
/-- what is told of a number of steps -/
def Fok (ps : List (Int × Int)) (a b v : Int) : Prop := (∃ n : Nat, v = n ∧ n ≤ 20 ∧ Wp ps n a b ∧ ∀ m, Wp ps m a b → n ≤ m) ∨ (v = 99 ∧ ∀ m, ¬ Wp ps m a b)
theorem least_none {ps : List (Int × Int)} (F : Int × Int → Int) (hF : ∀ p, Fok ps p.2 p.1 (F p)) (h : ∀ s j, 1 ≤ j → ¬ Wk (foll [] ps) j s s) : leastI (99 :: ps.map fun p => F p + 1) = 99 := by
  have h1 := leastI_le (99 :: ps.map fun p => F p + 1) 99 (by simp)
  have h2 := leastI_mem (99 :: ps.map fun p => F p + 1) (by simp)
  rcases List.mem_cons.mp h2 with h2 | h2
  · exact h2
  · obtain ⟨p, hp, e⟩ := List.mem_map.mp h2
    rcases hF p with ⟨n, hn, _, hw, _⟩ | ⟨hn, _⟩
    · exact absurd ((wk_wp (n + 1) p.2 p.2).mpr ⟨p.1, hw, hp⟩) (h _ _ (by omega))
    · omega
theorem least_some {ps : List (Int × Int)} {s : Int} {d : Nat} {r : List Int} (F : Int × Int → Int) (hF : ∀ p, Fok ps p.2 p.1 (F p)) (R : Ring (foll [] ps) s d r) (h : ∀ s' j, 1 ≤ j → j ≤ d → ¬ Wk (foll [] ps) j s' s') :
    leastI (99 :: ps.map fun p => F p + 1) = r.length ∧ r.length ≤ 21 := by
  obtain ⟨z, hz, he⟩ := R.wk
  have hl := R.len
  have hz' := (wk_wp d s z).mp hz
  have he' : (z, s) ∈ ps := by
    rw [foll_adj] at he
    simpa [adj, lk] using he
  have lo : ∀ p ∈ ps, (d : Int) + 1 ≤ F p + 1 ∨ F p = 99 := fun p hp => by
    rcases hF p with ⟨n, hn, _, hw, _⟩ | ⟨hn, _⟩
    · by_cases c : n + 1 ≤ d
      · exact absurd ((wk_wp (n + 1) p.2 p.2).mpr ⟨p.1, hw, hp⟩) (h _ _ (by omega) c)
      · omega
    · exact .inr hn
  have up : F (z, s) ≤ d ∧ F (z, s) ≤ 20 := by
    rcases hF (z, s) with ⟨n, hn, h20, hw, hm⟩ | ⟨hn, hm⟩
    · have := hm d hz'; omega
    · exact absurd hz' (hm d)
  have d20 : d ≤ 20 := by
    rcases lo _ he' with q | q <;> omega
  have h1 := leastI_le (99 :: ps.map fun p => F p + 1) (F (z, s) + 1) (List.mem_cons_of_mem _ (List.mem_map.mpr ⟨_, he', rfl⟩))
  have h2 := leastI_mem (99 :: ps.map fun p => F p + 1) (by simp)
  refine ⟨?_, by omega⟩
  rcases List.mem_cons.mp h2 with h2 | h2
  · omega
  · obtain ⟨p, hp, e⟩ := List.mem_map.mp h2
    rcases lo p hp with q | q <;> omega
end K87

namespace K87
open PySem L2 PL
theorem loopC_inv {tg : D → PL.Env → Option PL.Env} {cond : PL.Env → R Bool} {elt : PL.Env → R D} {own : List Nat} (g : D → D) (P : PL.Env → Prop) : ∀ (xs : List D) (e : PL.Env), P e →
    (∀ x ∈ xs, ∀ e, P e → ∃ e1 e2, tg x e = some e1 ∧ cond e1 = some (.val true e1) ∧ elt e1 = some (.val (g x) e2) ∧ P (wipeE e2 own)) → ∃ e', P e' ∧ loopC tg cond elt own xs e = some (xs.map g, e')
  | [], e, h, _ => ⟨e, h, rfl⟩
  | x :: xs, e, h, H => by
    obtain ⟨e1, e2, h1, h2, h3, h4⟩ := H x (by simp) e h
    obtain ⟨e', h5, ih⟩ := loopC_inv g P xs _ h4 fun y hy => H y (by simp [hy])
    exact ⟨e', h5, by simp only [loopC, h1, h2, h3, ih, Option.map_some, List.map_cons]⟩
theorem exSs_app {tb : Tab} {o : Orc} {pr : List Nat} (b : List S) : ∀ (a : List S) (e : PL.Env), exSs tb o pr (a ++ b) e = bnd (exSs tb o pr a e) fun f e1 => match f with
      | .nx => exSs tb o pr b e1
      | f => some (.val f e1)
  | [], e => by simp
  | s :: a, e => by
    simp only [List.cons_append, exSs, bnd_assoc]
    congr 1
    funext f e1
    cases f with
    | nx => exact exSs_app b a e1
    | _ => rfl
theorem exSs_nx {tb : Tab} {o : Orc} {pr : List Nat} {a b : List S} {e e1 : PL.Env} {r : SR} (h1 : exSs tb o pr a e = some (.val .nx e1)) (h2 : exSs tb o pr b e1 = r) : exSs tb o pr (a ++ b) e = r := by
  rw [exSs_app, h1]; exact h2
theorem atI_getD (l : List Int) (i : Int) (h0 : 0 ≤ i) (h : i < l.length) : atI (iL l) i = some (.int (l.getD i.toNat 0)) := by
  obtain ⟨n, rfl⟩ := Int.eq_ofNat_of_zero_le h0
  have hn : n < l.length := by omega
  rw [atI_ints l n hn]
  simp [List.getD, hn]
abbrev lB (o : Bool) (l : List Int) : D := .nd .lst o (iL l)
def eA (S : D) (pk ws cs : List Int) (many : Int) (v5 v8 : Option D) (o2 o4 : Bool) : PL.Env :=
  [some S, some (lB false pk), some (lB o2 ws), some (.int many), some (lB o4 cs), v5, none, none, v8, none, none]
theorem elt5 {o : Orc} {S : D} {pk ws cs : List Int} {many : Int} {v5 : Option D} (o2 o4 : Bool) (j : Nat) {c1 c2 x y : Int} (hm : 0 < many)
    (h1 : atI (iL cs) (2 * (j : Int)) = some (.int c1)) (h2 : atI (iL cs) (2 * (j : Int) + 1) = some (.int c2)) (h3 : atI (iL ws) (c1 % many) = some (.int x)) (h4 : atI (iL ws) (c2 % many) = some (.int y)) :
    evE tb o b8_5 (eA S pk ws cs many v5 (some (.int (j : Nat))) o2 o4) = some (.val (pD (x, y)) (eA S pk ws cs many v5 (some (.int (j : Nat))) false false)) := by
  simp -implicitDefEqProofs [lB, iL, eA] at h1 h2 h3 h4 ⊢
  cases o2 <;> cases o4 <;> simp -implicitDefEqProofs [b8_5, hm, h1, h2, h3, h4]
theorem elt4 {o : Orc} {S : D} {pk ws cs : List Int} {many : Int} {v5 : Option D} (o2 o4 : Bool) (j : Nat) {x y : Int} (hm : 0 < many)
    (h3 : atI (iL ws) ((j : Int) % many) = some (.int x)) (h4 : atI (iL ws) (((j : Int) + 1) % many) = some (.int y)) :
    evE tb o b8_4 (eA S pk ws cs many v5 (some (.int (j : Nat))) o2 o4) = some (.val (pD (x, y)) (eA S pk ws cs many v5 (some (.int (j : Nat))) false o4)) := by
  simp -implicitDefEqProofs [lB, iL, eA] at h3 h4 ⊢
  cases o2 <;> cases o4 <;> simp -implicitDefEqProofs [b8_4, hm, h3, h4]
theorem lc5 {o : Orc} {S : D} {pk ws cs : List Int} {many : Int} (o2 o4 : Bool) (n : Nat) (hm : 2 ≤ many) (hm9 : many ≤ ws.length) (hn : 2 * n ≤ cs.length) (v5 : Option D) :
    ∃ ps : List (Int × Int), ps.length = n ∧ ∃ o2' o4', loopC (fun x e => some (e.set 8 (some x))) (fun e => evT tb o .tt e) (fun e => evE tb o b8_5 e) [8] (rangeD 0 (n : Nat)) (eA S pk ws cs many v5 none o2 o4) = some (ps.map pD, eA S pk ws cs many v5 none o2' o4') := by
  obtain ⟨e', ⟨a, b, he⟩, h⟩ := loopC_inv (tg := fun x e => some (e.set 8 (some x))) (cond := fun e => evT tb o .tt e) (elt := fun e => evE tb o b8_5 e) (own := [8])
    (fun x => match x with | .int j => pD (ws.getD ((cs.getD (2 * j).toNat 0) % many).toNat 0, ws.getD ((cs.getD (2 * j + 1).toNat 0) % many).toNat 0) | x => x)
    (fun e => ∃ a b, e = eA S pk ws cs many v5 none a b) (rangeD 0 (n : Nat)) (eA S pk ws cs many v5 none o2 o4) ⟨o2, o4, rfl⟩ (fun x hx e ⟨a, b, he⟩ => by
      subst he
      rw [rangeD_0] at hx
      obtain ⟨j, hj, rfl⟩ := List.mem_map.mp hx
      have hj := List.mem_range.mp hj
      refine ⟨_, _, rfl, rfl, elt5 a b j (by omega) (atI_getD cs _ (by omega) (by omega)) (atI_getD cs _ (by omega) (by omega)) (atI_getD ws _ (Int.emod_nonneg _ (by omega)) ?_) (atI_getD ws _ (Int.emod_nonneg _ (by omega)) ?_), false, false, rfl⟩
      · exact Int.lt_of_lt_of_le (Int.emod_lt_of_pos _ (by omega)) hm9
      · exact Int.lt_of_lt_of_le (Int.emod_lt_of_pos _ (by omega)) hm9)
  subst he
  refine ⟨(List.range n).map fun j : Nat => (ws.getD ((cs.getD (2 * (j : Int)).toNat 0) % many).toNat 0, ws.getD ((cs.getD (2 * (j : Int) + 1).toNat 0) % many).toNat 0), by simp, a, b, ?_⟩
  rw [h, rangeD_0, List.map_map, List.map_map]
  rfl
theorem lc4 {o : Orc} {S : D} {pk ws cs : List Int} {many : Int} (o2 o4 : Bool) (n : Nat) (hm : 2 ≤ many) (hm9 : many ≤ ws.length) (v5 : Option D) :
    ∃ ps : List (Int × Int), ps.length = n ∧ ∃ o2' o4', loopC (fun x e => some (e.set 8 (some x))) (fun e => evT tb o .tt e) (fun e => evE tb o b8_4 e) [8] (rangeD 0 (n : Nat)) (eA S pk ws cs many v5 none o2 o4) = some (ps.map pD, eA S pk ws cs many v5 none o2' o4') := by
  obtain ⟨e', ⟨a, b, he⟩, h⟩ := loopC_inv (tg := fun x e => some (e.set 8 (some x))) (cond := fun e => evT tb o .tt e) (elt := fun e => evE tb o b8_4 e) (own := [8])
    (fun x => match x with | .int j => pD (ws.getD (j % many).toNat 0, ws.getD ((j + 1) % many).toNat 0) | x => x)
    (fun e => ∃ a b, e = eA S pk ws cs many v5 none a b) (rangeD 0 (n : Nat)) (eA S pk ws cs many v5 none o2 o4) ⟨o2, o4, rfl⟩ (fun x hx e ⟨a, b, he⟩ => by
      subst he
      rw [rangeD_0] at hx
      obtain ⟨j, hj, rfl⟩ := List.mem_map.mp hx
      refine ⟨_, _, rfl, rfl, elt4 a b j (by omega) (atI_getD ws _ (Int.emod_nonneg _ (by omega)) ?_) (atI_getD ws _ (Int.emod_nonneg _ (by omega)) ?_), false, b, rfl⟩
      · exact Int.lt_of_lt_of_le (Int.emod_lt_of_pos _ (by omega)) hm9
      · exact Int.lt_of_lt_of_le (Int.emod_lt_of_pos _ (by omega)) hm9)
  subst he
  refine ⟨(List.range n).map fun j : Nat => (ws.getD ((j : Int) % many).toNat 0, ws.getD (((j : Int) + 1) % many).toNat 0), by simp, a, b, ?_⟩
  rw [h, rangeD_0, List.map_map, List.map_map]
  rfl
def b8a : List S := b8.take 7
def b8b : List S := b8.drop 7
theorem b8_ab : b8 = b8a ++ b8b := (List.take_append_drop 7 b8).symm
def wsOf (w : Int) : List Int := [0, 1, 2, 100000000000000000001, 7, 100000000000000000000, 3, 12, w]
theorem cut1 (xs : List D) : cutD xs none (some 1) = xs.take 1 := by
  simp [cutD, HT.sIx]
theorem okM_all : ∀ m ∈ [(15 : Int), 8, 3, 1000], okM m := by
  intro m hm
  simp at hm
  rcases hm with rfl | rfl | rfl | rfl <;> exact ⟨by decide, by decide⟩
theorem okM_rep : ∀ m ∈ List.replicate 28 (5040 : Int), okM m := by
  intro m hm
  rw [(List.mem_replicate.mp hm).2]
  exact ⟨by decide, by decide⟩
theorem ph1 (k : Nat) (ns : List Int) : ∃ (ps : List (Int × Int)) (pk ws cs : List Int) (many : Int) (o2 o4 : Bool), ps.length ≤ 15 ∧
    exSs tb (callF tb (k + 1)) [] b8a [some (scriptD ns), none, none, none, none, none, none, none, none, none, none] = some (.val .nx (eA (scriptD ns) pk ws cs many (some (psL true ps)) none o2 o4)) := by
  obtain ⟨st, lf, h1⟩ := run5 k ns 0 [15, 8, 3, 1000] okM_all (by simp)
  obtain ⟨st2, lf2, h2⟩ := run5 k ns 1 (List.replicate 28 5040) okM_rep (by simp)
  have hl1 := dr_len [15, 8, 3, 1000] st lf
  have hr1 := dr_rng [15, 8, 3, 1000] st lf okM_all
  have hl2 := dr_len (List.replicate 28 5040) st2 lf2
  generalize dr [15, 8, 3, 1000] st lf = pk at *
  generalize dr (List.replicate 28 5040) st2 lf2 = cs at *
  obtain ⟨p0, p1, p2, p3, rfl⟩ : ∃ p0 p1 p2 p3, pk = [p0, p1, p2, p3] := by
    match pk, hl1 with
    | [a, b, c, d], _ => exact ⟨a, b, c, d, rfl⟩
  have r0 := hr1 0 p0 15 rfl rfl
  have r1 := hr1 1 p1 8 rfl rfl
  obtain ⟨n, rfl⟩ := Int.eq_ofNat_of_zero_le r0.1
  obtain ⟨ps1, l1, a1, a2, e1⟩ := lc5 (o := callF tb (k + 1)) (S := scriptD ns) (pk := [(n : Int), p1, p2, p3]) (ws := wsOf p3) (cs := cs) (many := 2 + p1) true true n (by omega) (by simp [wsOf]; omega) (by simp at hl2; omega) none
  obtain ⟨ps2, l2, c1, c2, e2⟩ := lc4 (o := callF tb (k + 1)) (S := scriptD ns) (pk := [(n : Int), p1, p2, p3]) (ws := wsOf p3) (cs := cs) (many := 2 + p1) a1 a2 n (by omega) (by simp [wsOf]; omega) (some (psL true ps1))
  have sF : (scriptD ns).frz = scriptD ns := by simp [scriptD]
  have C1 : ∀ e, runCall tb (callF tb (k + 1)) 5 [.d (scriptD ns), .d (.int 0), .d (.nd .lst true [.int 15, .int 8, .int 3, .int 1000])] e = some (.val (lB true [(n : Int), p1, p2, p3]) e) := fun e => call3 e5 rfl (by rw [sF]; exact h1)
  have C2 : ∀ e, runCall tb (callF tb (k + 1)) 5 [.d (scriptD ns), .d (.int 1), .d (.nd .lst true (List.replicate 14 [D.int 5040, D.int 5040]).flatten)] e = some (.val (lB true cs) e) := fun e => call3 e5 rfl (by rw [sF]; exact h2)
  have hz : okR 0 (n : Nat) = true := okR_0 n (by omega)
  have i0 : ∀ a b c d : D, atI [a, b, c, d] 0 = some a := fun _ _ _ _ => rfl
  have i1 : ∀ a b c d : D, atI [a, b, c, d] 1 = some b := fun _ _ _ _ => rfl
  have i2 : ∀ a b c d : D, atI [a, b, c, d] 2 = some c := fun _ _ _ _ => rfl
  have i3 : ∀ a b c d : D, atI [a, b, c, d] 3 = some d := fun _ _ _ _ => rfl
  have nn : n ≤ 1000 := by omega
  have p1n : ps1.length ≤ 1000 := by omega
  have p2n : ps2.length ≤ 1000 := by omega
  by_cases q1 : p2 = 1
  · refine ⟨ps2, [(n : Int), p1, p2, p3], wsOf p3, cs, 2 + p1, c1, c2, by omega, ?_⟩
    subst q1
    simp -implicitDefEqProofs [lB, iL, eA, psL, scriptD, wsOf] at C1 C2 e1 e2 hz ⊢
    simp -implicitDefEqProofs [b8a, b8, C1, C2, e1, e2, hz, eqD_int, i0, i1, i2, i3, p1n, p2n, l1, l2, nn]
  · by_cases q2 : p2 = 2 ∧ 1 < n
    · refine ⟨ps1 ++ ps1.take 1, [(n : Int), p1, p2, p3], wsOf p3, cs, 2 + p1, a1, a2, by simp; omega, ?_⟩
      obtain ⟨q2, q3⟩ := q2
      subst q2
      have q4 : (1 : Int) < n := by omega
      have q5 : min 1 n + n ≤ sizeLine := sz_le (by omega)
      have q6 : n + min 1 n ≤ sizeLine := sz_le (by omega)
      simp -implicitDefEqProofs [lB, iL, eA, psL, scriptD, wsOf] at C1 C2 e1 e2 hz ⊢
      simp -implicitDefEqProofs [b8a, b8, C1, C2, e1, e2, hz, eqD_int, i0, i1, i2, i3, p1n, p2n, l1, l2, nn, q4, q5, q6, cut1, show partE (.int 1) (.int 1) = some (some 1) from rfl, cutOf]
    · refine ⟨ps1, [(n : Int), p1, p2, p3], wsOf p3, cs, 2 + p1, a1, a2, by omega, ?_⟩
      by_cases q3 : p2 = 2
      · subst q3
        have q4 : ¬ (1 : Int) < n := by omega
        simp -implicitDefEqProofs [lB, iL, eA, psL, scriptD, wsOf] at C1 C2 e1 e2 hz ⊢
        simp -implicitDefEqProofs [b8a, b8, C1, C2, e1, e2, hz, eqD_int, i0, i1, i2, i3, p1n, p2n, l1, l2, nn, q4]
      · simp -implicitDefEqProofs [lB, iL, eA, psL, scriptD, wsOf] at C1 C2 e1 e2 hz ⊢
        simp -implicitDefEqProofs [b8a, b8, C1, C2, e1, e2, hz, eqD_int, i0, i1, i2, i3, p1n, p2n, l1, l2, nn, q1, q3]
end K87

namespace K87
open PySem L2 PL
theorem e8 : tb.fns[8]? = some f8 := rfl
theorem canLay_ps : ∀ (ps : List (Int × Int)), PyData.canLayAll0 (ps.map fun p => .tuple [.int p.1, .int p.2]) = true
  | [] => rfl
  | p :: ps => by simp [PyData.canLayAll0, PyData.canLay0, canLay_ps ps]
theorem depth_ps : ∀ (ps : List (Int × Int)), PyData.depthAll (ps.map fun p => .tuple [.int p.1, .int p.2]) ≤ 1
  | [] => by simp [PyData.depthAll]
  | p :: ps => by
    have := depth_ps ps
    simp [PyData.depthAll, PyData.depth]
    omega
theorem pyL_ps : ∀ (ps : List (Int × Int)), pyL (ps.map pD) = some (ps.map fun p => .tuple [.int p.1, .int p.2])
  | [] => rfl
  | p :: ps => by simp [pyL, D.py, pyL_ps ps]
theorem inD_ps (ps : List (Int × Int)) (x y : Int) (o : Bool) (h : (x, y) ∈ ps) : inD (pD (x, y)) (psL o ps) = some true := by
  have h1 : (pD (x, y)).py = some (.tuple [.int x, .int y]) := rfl
  have h2 := pyL_ps ps
  show inPy (pD (x, y)).py (pyL (ps.map pD)) = some true
  rw [h1, h2]
  simp only [inPy]
  have s1 : SeqAt.shaped (.tuple [.int x, .int y]) = true := rfl
  have s2 : SeqAt.shaped (.list (ps.map fun p => .tuple [.int p.1, .int p.2])) = true := by
    have a := canLay_ps ps
    have b := depth_ps ps
    show (PyData.canLayAll0 _ && decide (PyData.depthAll _ + 1 ≤ 64)) = true
    rw [a, Bool.true_and]
    exact decide_eq_true (by omega)
  rw [if_pos ⟨s1, s2⟩]
  congr 1
  rw [List.any_eq_true]
  refine ⟨.tuple [.int x, .int y], List.mem_map.mpr ⟨(x, y), h, rfl⟩, ?_⟩
  simp [PyData.eqv, PyData.eqvAll]
abbrev tD (r : List Int) : D := .nd .tup false (iL r)
def eB (a0 a1 a2 a3 a4 : Option D) (v5 v6 v7 v8 v9 v10 : Option D) : PL.Env := [a0, a1, a2, a3, a4, v5, v6, v7, v8, v9, v10]
section
variable {a0 a1 a2 a3 a4 v5 v6 v7 v8 v9 v10 : Option D}
theorem elt3 {k : Nat} {ps : List (Int × Int)} (p : Int × Int) {v : Int} (h : callF tb (k + 1) 7 [psL false ps, .int p.2, .int p.1] = some (.val (.int v) [])) :
    evE tb (callF tb (k + 1)) b8_3 (eB a0 a1 a2 a3 a4 (some (psL false ps)) v6 v7 v8 (some (pD p)) v10) = some (.val (.int (v + 1)) (eB a0 a1 a2 a3 a4 (some (psL false ps)) v6 v7 v8 (some (pD p)) v10)) := by
  have C : ∀ e, runCall tb (callF tb (k + 1)) 7 [.d (psL false ps), .d (.int p.2), .d (.int p.1)] e = some (.val (.int v) e) := fun e => call3 e7 rfl (by simpa using h)
  simp -implicitDefEqProofs [eB, psL, pD] at C ⊢
  simp -implicitDefEqProofs [b8_3, C]
theorem lc3 {k : Nat} {ps : List (Int × Int)} (F : Int × Int → Int) (h : ∀ p, callF tb (k + 1) 7 [psL false ps, .int p.2, .int p.1] = some (.val (.int (F p)) [])) (qs : List (Int × Int)) :
    loopC (fun x e => some (e.set 9 (some x))) (fun e => evT tb (callF tb (k + 1)) .tt e) (fun e => evE tb (callF tb (k + 1)) b8_3 e) [9] (qs.map pD) (eB a0 a1 a2 a3 a4 (some (psL false ps)) v6 v7 v8 none v10) = some (iL (qs.map fun p => F p + 1), eB a0 a1 a2 a3 a4 (some (psL false ps)) v6 v7 v8 none v10) := by
  induction qs with
  | nil => rfl
  | cons q qs ih =>
    have e3 := elt3 (a0 := a0) (a1 := a1) (a2 := a2) (a3 := a3) (a4 := a4) (v6 := v6) (v7 := v7) (v8 := v8) (v10 := v10) q (h q)
    simp -implicitDefEqProofs [eB, wipeE, iL] at e3 ih ⊢
    simp -implicitDefEqProofs [loopC, e3, ih, wipeE]
theorem elt2 {o : Orc} (i : Int) : evE tb o b8_2 (eB a0 a1 a2 a3 a4 v5 v6 v7 v8 v9 (some (.int i))) = some (.val (.bl true) (eB a0 a1 a2 a3 a4 v5 v6 v7 v8 v9 (some (.int i)))) := by
  simp -implicitDefEqProofs [eB, b8_2, isD, tyD, isTs, isT]
theorem lc2 {o : Orc} (r : List Int) :
    loopC (fun x e => some (e.set 10 (some x))) (fun e => evT tb o .tt e) (fun e => evE tb o b8_2 e) [10] (iL r) (eB a0 a1 a2 a3 a4 v5 v6 v7 v8 v9 none) = some (List.replicate r.length (.bl true), eB a0 a1 a2 a3 a4 v5 v6 v7 v8 v9 none) := by
  induction r with
  | nil => rfl
  | cons q qs ih =>
    have e3 := elt2 (a0 := a0) (a1 := a1) (a2 := a2) (a3 := a3) (a4 := a4) (v5 := v5) (v6 := v6) (v7 := v7) (v8 := v8) (v9 := v9) (o := o) q
    simp -implicitDefEqProofs [eB, wipeE, iL] at e3 ih ⊢
    simp -implicitDefEqProofs [loopC, e3, ih, wipeE, List.replicate_succ]
theorem lc1 {o : Orc} {ps : List (Int × Int)} (r : List Int) (h : ∀ k : Nat, (h : k < r.length) → ∃ z, atI (iL r) ((k : Int) - 1) = some (.int z) ∧ (z, r[k]) ∈ ps) :
    loopC (fun x e => some (e.set 8 (some x))) (fun e => evT tb o .tt e) (fun e => evE tb o b8_1 e) [8] (rangeD 0 (r.length : Nat)) (eB a0 a1 a2 a3 a4 (some (psL false ps)) v6 (some (tD r)) none v9 v10) = some (List.replicate r.length (.bl true), eB a0 a1 a2 a3 a4 (some (psL false ps)) v6 (some (tD r)) none v9 v10) := by
  have L := loopC_map (tg := fun x e => some (e.set 8 (some x))) (cond := fun e => evT tb o .tt e) (elt := fun e => evE tb o b8_1 e) (own := [8]) (fun _ => .bl true) (eB a0 a1 a2 a3 a4 (some (psL false ps)) v6 (some (tD r)) none v9 v10) (rangeD 0 (r.length : Nat)) fun x hx => by
    rw [rangeD_0] at hx
    obtain ⟨j, hj, rfl⟩ := List.mem_map.mp hx
    have hj := List.mem_range.mp hj
    obtain ⟨z, hz, hm⟩ := h j hj
    have hr := atI_ints r j hj
    have hi := inD_ps ps z r[j] false hm
    refine ⟨_, eB a0 a1 a2 a3 a4 (some (psL false ps)) v6 (some (tD r)) (some (.int (j : Nat))) v9 v10, rfl, rfl, ?_, rfl⟩
    simp -implicitDefEqProofs [eB, iL, psL, tD, pD] at hz hr hi ⊢
    simp -implicitDefEqProofs [b8_1, hz, hr, hi]
  rw [L, rangeD_0, List.map_map, show ((fun _ => D.bl true) ∘ fun (j : Nat) => D.int (j : Nat)) = fun _ => D.bl true from rfl, List.map_const', List.length_range]
end
end K87

namespace K87
open PySem L2 PL
def depth : Nat := 8
theorem room : Room (2 * depth) callerA := ⟨rfl, by decide, by decide⟩
theorem blsD_rep' (n : Nat) : (blsD (List.replicate n (.bl true))).map (fun l => D.bl (l.all id)) = some (.bl true) := by
  rw [blsD_rep]; simp
theorem ph2 (S : D) (pk ws cs : List Int) (many : Int) (o2 o4 : Bool) (ps : List (Int × Int)) (hp : ps.length ≤ 15) (o : Orc) (ho : o = callF tb 7) :
    ∃ e, exSs tb o [] b8b (eA S pk ws cs many (some (psL true ps)) none o2 o4) = some (.val (.rt (.bl true)) e) := by
  have hF : ∀ p : Int × Int, ∃ v, callF tb (6 + 1) 7 [psL false ps, .int p.2, .int p.1] = some (.val (.int v) []) ∧ Fok ps p.2 p.1 v := fun p => by
    rcases run7 6 ps hp p.2 p.1 with ⟨n, h1, h2⟩ | ⟨h1, h2⟩
    · exact ⟨n, h1, .inl ⟨n, rfl, h2⟩⟩
    · exact ⟨99, h1, .inr ⟨rfl, h2⟩⟩
  obtain ⟨F, hF'⟩ : ∃ F : Int × Int → Int, ∀ p, callF tb (6 + 1) 7 [psL false ps, .int p.2, .int p.1] = some (.val (.int (F p)) []) ∧ Fok ps p.2 p.1 (F p) := ⟨fun p => Classical.choose (hF p), fun p => Classical.choose_spec (hF p)⟩
  have hF1 := fun p => (hF' p).1
  have hF2 := fun p => (hF' p).2
  subst ho
  have L3 := lc3 (a0 := some S) (a1 := some (lB false pk)) (a2 := some (lB o2 ws)) (a3 := some (.int many)) (a4 := some (lB o4 cs)) (v6 := none) (v7 := none) (v8 := none) (v10 := none) F hF1 ps
  have hin : intsD (iL (ps.map fun p => F p + 1)) = some (ps.map fun p => F p + 1) := intsD_map _
  have ic : ∀ (i : Int) (xs : List D), intsD (.int i :: xs) = (intsD xs).map (i :: ·) := fun _ _ => rfl
  have n1 : D.isN .non = true := rfl
  have hlen : (1 + ps.length) ≤ sizeLine := sz_le (by omega)
  have hlen2 : (ps.length + 1) ≤ sizeLine := sz_le (by omega)
  have hpn : ps.length ≤ sizeLine := sz_le (by omega)
  have sP : (psD ps).frz = psD ps := by simp [psD]
  rcases run4 3 ps (by omega) with ⟨h1, h2⟩ | ⟨s, d, r, h1, R, h2⟩
  · have hm := least_none F hF2 h2
    have C : ∀ e, runCall tb (callF tb 7) 4 [.d (psD ps)] e = some (.val .non e) := fun e => call1 e4 rfl (by rw [sP]; exact h1)
    refine ⟨eB (some S) (some (lB false pk)) (some (lB o2 ws)) (some (.int many)) (some (lB o4 cs)) (some (psL false ps)) (some (.int 99)) (some .non) none none none, ?_⟩
    simp -implicitDefEqProofs [eB, eA, lB, psL, psD, iL] at C L3 hin ⊢
    simp -implicitDefEqProofs [b8b, b8, C, L3, hin, hm, hlen, hlen2, hpn, eqD_int, ic, n1]
  · obtain ⟨hm, h21⟩ := least_some F hF2 R h2
    have C : ∀ e, runCall tb (callF tb 7) 4 [.d (psD ps)] e = some (.val (tD r) e) := fun e => call1 e4 rfl (by rw [sP]; exact h1)
    have C6 : ∀ e, runCall tb (callF tb 7) 6 [.d (tD r), .d (tD r)] e = some (.val (.bl true) e) := fun e => call2 e6 rfl (by
      have : (tD r).frz = tD r := by simp [tD, iL]
      rw [this]; exact run6 5 r (by omega))
    refine ⟨eB (some S) (some (lB false pk)) (some (lB o2 ws)) (some (.int many)) (some (lB o4 cs)) (some (psL false ps)) (some (.int r.length)) (some (tD r)) none none none, ?_⟩
    have L2 := lc2 (a0 := some S) (a1 := some (lB false pk)) (a2 := some (lB o2 ws)) (a3 := some (.int many)) (a4 := some (lB o4 cs)) (v5 := some (psL false ps)) (v6 := some (.int r.length)) (v7 := some (tD r)) (v8 := none) (v9 := none) (o := callF tb 7) r
    have L1 := lc1 (a0 := some S) (a1 := some (lB false pk)) (a2 := some (lB o2 ws)) (a3 := some (.int many)) (a4 := some (lB o4 cs)) (v6 := some (.int r.length)) (v9 := none) (v10 := none) (o := callF tb 7) (ps := ps) r fun k hk => by
      obtain ⟨z, hz, he⟩ := R.at k hk
      rw [foll_adj] at he
      exact ⟨z, hz, by simpa [adj, lk] using he⟩
    have hr := okR_0 r.length (by omega)
    have h99 : ¬ (r.length : Int) = 99 := by omega
    have hB := blsD_rep r.length
    have hrl : r.length ≤ 1000 := by omega
    simp -implicitDefEqProofs [eB, eA, lB, psL, psD, iL, tD] at C C6 L3 L2 L1 hin ⊢
    simp -implicitDefEqProofs [b8b, b8, C, C6, L3, L2, L1, hin, hm, hlen, hlen2, hpn, eqD_int, ic, n1, hr, h99, hB, hrl, isD, tyD, isTs, isT]
/-- the law at every script -/
theorem law_runs : ∀ ns : List Int, ns.length ≤ 63 → callF tb depth 8 [scriptD ns] = some (.val (.bl true) []) := fun ns _ => by
  obtain ⟨ps, pk, ws, cs, many, o2, o4, hp, h1⟩ := ph1 6 ns
  obtain ⟨e, h2⟩ := ph2 (scriptD ns) pk ws cs many o2 o4 ps hp (callF tb 7) rfl
  exact run_rt (o := callF tb 7) e8 rfl rfl rfl (by rw [show f8.body = b8a ++ b8b from b8_ab]; exact exSs_nx h1 h2)
end K87

open PySem PySem.W PyProof.Rows
set_option maxRecDepth 100000 in
set_option maxHeartbeats 0 in
theorem PySem.Challenge.cw_keptinstep_k87_shortest_rings_holds : PySem.Challenge.rw_keptinstep_k87_shortest_rings.Holds := by
  w_on; o_law; k_head; (case hw => w_witness2)
  k_fill
  refine K87.walk (l := PySem.Challenge.rw_keptinstep_k87_shortest_rings) (k := K87.depth) K87.room rfl rfl (fun w h Y => PySem.W.kIn_of Y) ?F
  case F =>
    intro w mg fa h KX G hmg
    refine' K87.all_mk (d := K87.depth) KX G hmg ?n0 ?l0 ?c0 ?k0 ?n1 ?l1 ?c1 ?k1 ?n2 ?l2 ?c2 ?k2 ?n3 ?l3 ?c3 ?k3 ?n4 ?l4 ?c4 ?k4 ?n5 ?l5 ?c5 ?k5 ?n6 ?l6 ?c6 ?k6 ?n7 ?l7 ?c7 ?k7 ?n8 ?l8 ?c8 ?k8 ?z0 ?z1 ?z2 ?z3 ?z4 ?z5 ?z6 ?z7 ?z8 ?z9 ?z10 ?z11 ?z12 ?z13 ?z14 ?z15 ?z16 ?z17 ?z18 ?z19 ?z20 ?z21 ?z22 K87.law_runs
    (case n0 => k_is)
    (case l0 => k_is)
    (case c0 => k_is)
    (case k0 => k_is)
    (case n1 => k_is)
    (case l1 => k_is)
    (case c1 => k_is)
    (case k1 => k_is)
    (case n2 => k_is)
    (case l2 => k_is)
    (case c2 => k_is)
    (case k2 => k_is)
    (case n3 => k_is)
    (case l3 => k_is)
    (case c3 => k_is)
    (case k3 => k_is)
    (case n4 => k_is)
    (case l4 => k_is)
    (case c4 => k_is)
    (case k4 => k_is)
    (case n5 => k_is)
    (case l5 => k_is)
    (case c5 => k_is)
    (case k5 => k_is)
    (case n6 => k_is)
    (case l6 => k_is)
    (case c6 => k_is)
    (case k6 => k_is)
    (case n7 => k_is)
    (case l7 => k_is)
    (case c7 => k_is)
    (case k7 => k_is)
    (case n8 => k_is)
    (case l8 => k_is)
    (case c8 => k_is)
    (case k8 => k_is)
    (case z0 => k_is)
    (case z1 => k_is)
    (case z2 => k_is)
    (case z3 => k_is)
    (case z4 => k_is)
    (case z5 => k_is)
    (case z6 => k_is)
    (case z7 => k_is)
    (case z8 => k_is)
    (case z9 => k_is)
    (case z10 => k_is)
    (case z11 => k_is)
    (case z12 => k_is)
    (case z13 => k_is)
    (case z14 => k_is)
    (case z15 => k_is)
    (case z16 => k_is)
    (case z17 => k_is)
    (case z18 => k_is)
    (case z19 => k_is)
    (case z20 => k_is)
    (case z21 => k_is)
    (case z22 => k_is)

