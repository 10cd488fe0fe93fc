import PyProof.Rows.All
import PySem.Challenge.RW_keptinstep_k71_all_orders_of_one_memory
import HandS.ForMost
import KE.KDictKeyed
import HandS.TupMul
import HandS.TupAny
import HandS.Exc
import HandS.TupLen
import HandS.Conv
import HandS.SortOrd
import HandS.TupLe
import HandS.More
import HandS.Style
import HandS.ExcOwn
import HandS.CallSlots
import HandS.SortInts
import HandS.Flow
import HandS.WordsDict
import HandS.SetKeys
import HandS.IsInst
import HandS.Deep
import KE.KSortedM
import HandS.SetFor
import HandS.Walk
import HandS.Zip
import KE.GoesNew
import HandS.WordsExc
import HandS.Small
import HandS.DictComp
import HandS.HeadHook3
import HandS.Head2
import HandS.HeadEnd
set_option Elab.async false
set_option linter.all false
set_option maxRecDepth 100000
/-! PL.Core: a small language of values (tuples, lists, dicts, instances by value, with an owner's flag), its run as a total function. -/
namespace PL
open PySem L2

/-- a key of any depth -/
abbrev NK := PySem.NestedKey
/-- what a node is: dk a dict by ints and texts, dt a dict by tuples -/
inductive Kd where
  | tup | pr | cl | lst
  | dk (ks : List Key)
  | dt (ks : List NK)
  | ins (c : Nat) (ns : List Str)
  deriving DecidableEq
/-- a value; o: this place alone holds the object -/
inductive D where
  | non | bl (b : Bool) | int (i : Int) | str (x : Str)
  | nd (k : Kd) (o : Bool) (xs : List D)
abbrev D.tup (xs : List D) : D := .nd .tup false xs
abbrev D.lst (o : Bool) (xs : List D) : D := .nd .lst o xs
abbrev D.dk (o : Bool) (ks : List Key) (xs : List D) : D := .nd (.dk ks) o xs
abbrev D.ins (o : Bool) (c : Nat) (ns : List Str) (xs : List D) : D := .nd (.ins c ns) o xs

mutual
/-- no owned node -/
def D.fz : D → Bool
  | .nd _ o xs => !o && fzL xs
  | _ => true
def fzL : List D → Bool
  | [] => true
  | x :: xs => x.fz && fzL xs
end
mutual
/-- no shared node that may change -/
def D.nf : D → Bool
  | .nd .tup _ xs => nfL xs
  | .nd .cl _ xs => nfL xs
  | .nd _ o xs => o && nfL xs
  | _ => true
def nfL : List D → Bool
  | [] => true
  | x :: xs => x.nf && nfL xs
end
mutual
def D.frz : D → D
  | .nd k _ xs => .nd k false (frzL xs)
  | d => d
def frzL : List D → List D
  | [] => []
  | x :: xs => x.frz :: frzL xs
end
abbrev Env := List (Option D)
def Env.at (e : Env) (i : Nat) : Option D := (e[i]?).getD none

/-- what comes of an expression -/
inductive Out (α : Type) where
  | val (a : α) (e : Env)
  | exc (x : D) (e : Env)
abbrev R (α : Type) := Option (Out α)
def bnd {α β : Type} (r : R α) (f : α → Env → R β) : R β :=
  match r with
  | none => none
  | some (.exc x e) => some (.exc x e)
  | some (.val a e) => f a e
@[simp] theorem bnd_none {α β : Type} (f : α → Env → R β) : bnd none f = none := rfl
@[simp] theorem bnd_exc {α β : Type} (x e) (f : α → Env → R β) : bnd (some (.exc x e)) f = some (.exc x e) := rfl
@[simp] theorem bnd_val {α β : Type} (a e) (f : α → Env → R β) : bnd (some (.val a e)) f = f a e := rfl

theorem bnd_assoc {α β γ : Type} (r : R α) (f : α → Env → R β) (g : β → Env → R γ) : bnd (bnd r f) g = bnd r fun x e => bnd (f x e) g := by
  cases r with
  | none => rfl
  | some r => cases r <;> rfl

inductive UOp | neg | not deriving DecidableEq
inductive BOp | add | sub | mul | fdiv | mod | pow | xor deriving DecidableEq
inductive COp | eq | ne | lt | le | gt | ge | isin | notin | isN | notN | isB | notB deriving DecidableEq
/-- built-in functions of one argument -/
inductive Bi | len | int | abs | list | tuple | sorted | sum | all | any | min | max | str | bool deriving DecidableEq
/-- built-in methods that change nothing -/
inductive Bm | get | get2 | count | index deriving DecidableEq
/-- built-in methods that change their object -/
inductive Mu | append | pop | popAt | reverse | extend | clear deriving DecidableEq
/-- what isinstance asks -/
inductive Ty | int | bool | str | tuple | list | dict | none | cls (c : Nat) deriving DecidableEq

/-- targets -/
inductive T where
  | v (i : Nat)
  | t (ts : List T)

mutual
inductive E where
  | nop
  | var (i : Nat)
  | mv (i : Nat)
  | non | bl (b : Bool) | int (i : Int) | str (x : Str)
  | view (is : List Nat) (e : E)
  | tup (es : Es) | lst (es : Es)
  | dnew
  | ddisp (k v : E)
  | un (op : UOp) (a : E)
  | bin (op : BOp) (a b : E)
  | cmp (op : COp) (a b : E)
  | chain (op op' : COp) (a b c : E)
  | and (a b : E) | or (a b : E)
  | ife (t : C) (a b : E)
  | sub (a i : E)
  | slc (a lo hi : E)
  | fld (a : E) (f : Str)
  | call (f : Nat) (es : Es)
  | meth (m : Str) (a : E) (es : Es)
  | methR (m : Str) (i : Nat) (es : Es)
  | mk (c : Nat) (es : Es)
  | bi (b : Bi) (e : E)
  | bi2 (mx : Bool) (a b : E)
  | bm (b : Bm) (a : E) (es : Es)
  | mu (b : Mu) (root : Nat) (p : Ps) (es : Ms)
  | isi (a : E) (ts : List Ty)
  | lc (elt : E) (tg : T) (it : I) (cond : C) (own : List Nat)
  | dc (k v : E) (tg : T) (it : I) (cond : C) (own : List Nat)
  | cst (a : E)
  | gl (d : D)
  | gsub (ks : List Key) (xs : List D) (e : E)
/-- tests -/
inductive C where
  | tt | e (a : E) | and (a b : C) | or (a b : C) | not (a : C) | view (is : List Nat) (a : C)
inductive Es where
  | n | c (e : E) (es : Es) | io (i : Nat) (es : Es)
/-- beside a changed name: hidden from it, or a view of it too -/
inductive M where
  | h (e : E) | v (is : List Nat) (e : E)
inductive Ms where
  | n | c (m : M) (ms : Ms)
/-- a path from a name -/
inductive Ps where
  | n | fld (p : Ps) (f : Str) | ix (p : Ps) (m : M)
inductive I where
  | seqL (e : E) | seqT (e : E) | rng (a : E) | rng2 (a b : E) | rng3 (a b : E) (c : Int)
  | enm (e : E) | zip (a b : E)
end

inductive S where
  | asg (t : T) (e : E)
  | par (i j : Nat) (a b : E)
  | sub (root : Nat) (p : Ps) (i : M) (e : E)
  | fld (root : Nat) (p : Ps) (f : Str) (e : E)
  | sdf (root : Nat) (p : Ps) (k : M) (e : M)
  | sda (root : Nat) (p : Ps) (k : M) (e : E)
  | aug (i : Nat) (op : BOp) (e : E)
  | subA (root : Nat) (p : Ps) (i : M) (op : BOp) (e : M)
  | ex (e : E)
  | ret (e : E)
  | retN
  | ite (t : C) (a b : List S)
  | for (t : T) (it : I) (body : List S)
  | whl (t : C) (body : List S)
  | brk | cnt | pas
  | rse (c : Nat) (es : Es)
  | bad

/-! ### operations on values -/
def truth : D → Option Bool
  | .non => some false
  | .bl b => some b
  | .int i => some (i != 0)
  | .str x => if x.length ≤ sizeLine then some (x.length != 0) else none
  | .nd .tup _ xs => some (!xs.isEmpty)
  | .nd .lst _ xs => some (!xs.isEmpty)
  | .nd .cl _ xs => some (!xs.isEmpty)
  | .nd (.dk ks) _ _ => some (!ks.isEmpty)
  | _ => none
def D.key : D → Option Key
  | .int i => some (.inl i)
  | .str x => some (.inr x)
  | _ => none
def keyD : Key → D
  | .inl i => .int i
  | .inr x => .str x
mutual
def D.nkey : D → Option NK
  | .non => some .none
  | .int i => some (.num i)
  | .str x => some (.text x)
  | .nd .tup _ xs => (nkeyL xs).map .tup
  | _ => none
def nkeyL : List D → Option (List NK)
  | [] => some []
  | x :: xs => match x.nkey, nkeyL xs with
    | some a, some b => some (a :: b)
    | _, _ => none
end
/-- a tuple as a key -/
def D.tkey : D → Option NK
  | .nd .tup o xs => (D.nd .tup o xs).nkey.bind fun k => if k.depth ≤ 8 then some k else none
  | _ => none
mutual
def keyN : NK → D
  | .none => .non
  | .num i => .int i
  | .text x => .str x
  | .tup ks => .nd .tup false (keyNL ks)
def keyNL : List NK → List D
  | [] => []
  | k :: ks => keyN k :: keyNL ks
end
section
variable {κ : Type} [DecidableEq κ]
def hasK (ks : List κ) (k : κ) : Bool := ks.any fun k' => decide (k' = k)
def lookD : List κ → List D → κ → Option D
  | k' :: ks, x :: xs, k => if k' = k then some x else lookD ks xs k
  | _, _, _ => none
def putD : List κ → List D → κ → D → List κ × List D
  | k' :: ks, x :: xs, k, v => if k' = k then (k' :: ks, v :: xs) else ((k' :: (putD ks xs k v).1), (x :: (putD ks xs k v).2))
  | _, _, k, v => ([k], [v])
def keyIx : List κ → κ → Option Nat
  | k' :: ks, k => if k' = k then some 0 else (keyIx ks k).map (· + 1)
  | [], _ => none
end
/-- the dict's keys, where they are tuples -/
def Kd.tks : Kd → Option (List NK)
  | .dt ks => some ks
  | .dk [] => some []
  | _ => none
mutual
def D.py : D → Option PyData
  | .non => some .none
  | .bl b => some (.bool b)
  | .int i => some (.int i)
  | .str x => some (.str x)
  | .nd .tup _ xs => (pyL xs).map .tuple
  | .nd .lst _ xs => (pyL xs).map .list
  | .nd .cl _ xs => (pyL xs).map .list
  | _ => none
def pyL : List D → Option (List PyData)
  | [] => some []
  | x :: xs => match x.py, pyL xs with
    | some a, some b => some (a :: b)
    | _, _ => none
end
def eqD (a b : D) : Option Bool :=
  match a.py, b.py with
  | some x, some y => if SeqAt.shaped x = true ∧ SeqAt.shaped y = true then some (PyData.eqv x y) else none
  | _, _ => none
def unD : UOp → D → Option D
  | .neg, .int i => some (.int (-i))
  | .not, .bl b => some (.bl (!b))
  | _, _ => none
def mulOk (i j : Int) : Bool := (decide (-(2 ^ 64) < i) && decide (i < 2 ^ 64)) || (decide (-(2 ^ 64) < j) && decide (j < 2 ^ 64))
def binD : BOp → D → D → Option D
  | .add, .int i, .int j => some (.int (i + j))
  | .sub, .int i, .int j => some (.int (i - j))
  | .mul, .int i, .int j => if mulOk i j then some (.int (i * j)) else none
  | .fdiv, .int i, .int j => if 0 < j ∧ j < 1073741824 then some (.int (i / j)) else none
  | .mod, .int i, .int j => if 0 < j then some (.int (i % j)) else none
  | .pow, .int i, .int j => if 0 ≤ j ∧ j ≤ 1000000 ∧ i.natAbs < 2 ^ 64 then some (.int (i ^ j.toNat)) else none
  | .add, .str x, .str y => if x.length + y.length ≤ sizeLine then some (.str (x ++ y)) else none
  | .add, .nd .lst _ xs, .nd .lst _ ys => if xs.length + ys.length ≤ sizeLine then some (.nd .lst true (xs ++ ys)) else none
  | .add, .nd .tup _ xs, .nd .tup _ ys => if xs.length + ys.length ≤ sizeLine then some (.nd .tup false (xs ++ ys)) else none
  | .mul, .nd .tup _ xs, .int k => if fzL xs = true ∧ xs.isEmpty = false ∧ -(2 ^ 63) ≤ k ∧ k ≤ 1000 ∧ xs.length ≤ 1000 then some (.nd .tup false (List.replicate k.toNat xs).flatten) else none
  | .mul, .nd .lst _ xs, .int k => if fzL xs = true ∧ -(2 ^ 63) ≤ k ∧ k < 2 ^ 63 ∧ xs.length * k.toNat ≤ sizeLine then some (.nd .lst true (List.replicate k.toNat xs).flatten) else none
  | _, _, _ => none
def intsD : List D → Option (List Int)
  | [] => some []
  | .int i :: xs => (intsD xs).map (i :: ·)
  | _ => none
def strsD : List D → Option (List Str)
  | [] => some []
  | .str i :: xs => (strsD xs).map (i :: ·)
  | _ => none
/-- x in a list, in a tuple of ints -/
def inPy : Option PyData → Option (List PyData) → Option Bool
  | some x, some ys => if SeqAt.shaped x = true ∧ SeqAt.shaped (.list ys) = true then some (ys.any fun z => PyData.eqv z x) else none
  | _, _ => none
def inDk (a : D) (ks : List Key) : Option Bool :=
  match a.key with
  | some k => some (hasK ks k)
  | none => if ks = [] then a.tkey.map fun _ => false else none
def inD : D → D → Option Bool
  | a, .nd .lst _ xs => inPy a.py (pyL xs)
  | a, .nd .cl _ xs => inPy a.py (pyL xs)
  | .int i, .nd .tup _ xs => (intsD xs).map fun l => l.any fun z => decide (z = i)
  | a, .nd (.dk ks) _ _ => inDk a ks
  | a, .nd (.dt ks) _ _ => a.tkey.map fun k => hasK ks k
  | .str x, .nd .tup _ xs => (strsD xs).map fun l => l.any fun z => decide (z = x)
  | _, _ => none
def D.isN : D → Bool
  | .non => true
  | _ => false
def cmpD : COp → D → D → Option Bool
  | .lt, .int i, .int j => some (decide (i < j))
  | .le, .int i, .int j => some (decide (i ≤ j))
  | .gt, .int i, .int j => some (decide (j < i))
  | .ge, .int i, .int j => some (decide (j ≤ i))
  | .eq, a, b => eqD a b
  | .ne, a, b => (eqD a b).map (!·)
  | .isN, a, .non => some a.isN
  | .notN, a, .non => some (!a.isN)
  | .isB, .bl b, .bl c => some (decide (b = c))
  | .notB, .bl b, .bl c => some (!decide (b = c))
  | .isin, a, b => inD a b
  | .notin, a, b => (inD a b).map (!·)
  | _, _, _ => none
def subD : D → D → Option D
  | .nd .tup _ xs, .int i => atI xs i
  | .nd .lst _ xs, .int i => atI xs i
  | .nd .cl _ xs, .int i => atI xs i
  | .nd (.dk ks) _ xs, d => d.key.bind (lookD ks xs)
  | .nd (.dt ks) _ xs, d => d.tkey.bind (lookD ks xs)
  | _, _ => none
def partE : E → D → Option (Option Int)
  | .nop, _ => some none
  | _, .int i => some (some i)
  | _, _ => none
def cutD (xs : List D) (lo hi : Option Int) : List D := (xs.drop (HT.sIx xs.length 0 lo)).take (HT.sIx xs.length xs.length hi - HT.sIx xs.length 0 lo)
def cutOf : D → Option Int → Option Int → Option D
  | .nd .lst _ xs, l, h => some (.nd .lst true (cutD xs l h))
  | .nd .cl _ xs, l, h => some (.nd .lst true (cutD xs l h))
  | .nd .tup _ xs, l, h => some (.nd .tup false (cutD xs l h))
  | _, _, _ => none
def lookS : List Str → List D → Str → Option D
  | n :: ns, x :: xs, f => if n = f then some x else lookS ns xs f
  | _, _, _ => none
def fldD (at' : Nat → Str → Bool) : D → Str → Option D
  | .nd (.ins c ns) _ xs, f => if at' c f = true then lookS ns xs f else none
  | _, _ => none
def blsD : List D → Option (List Bool)
  | [] => some []
  | .bl i :: xs => (blsD xs).map (i :: ·)
  | _ => none
def seqD : D → Option (List D)
  | .nd .tup _ xs => some xs
  | .nd .lst _ xs => some xs
  | .nd .cl _ xs => some xs
  | _ => none
def isLst : D → Bool
  | .nd .lst _ _ => true
  | .nd .cl _ _ => true
  | _ => false
def leastI : List Int → Int
  | [] => 0
  | [x] => x
  | x :: xs => if leastI xs < x then leastI xs else x
def mostI : List Int → Int
  | [] => 0
  | [x] => x
  | x :: xs => if x < mostI xs then mostI xs else x
def sortI (l : List Int) : List Int := l.mergeSort (fun a b => decide (a ≤ b))
/-! order of keys: whole numbers, tuples of them, nested -/
mutual
def cmpN : NK → NK → Ordering
  | .none, .none => .eq
  | .none, _ => .lt
  | .num _, .none => .gt
  | .num a, .num b => if a < b then .lt else if b < a then .gt else .eq
  | .num _, _ => .lt
  | .text _, .none => .gt
  | .text _, .num _ => .gt
  | .text _, .text _ => .eq
  | .text _, .tup _ => .lt
  | .tup a, .tup b => cmpNL a b
  | .tup _, _ => .gt
def cmpNL : List NK → List NK → Ordering
  | [], [] => .eq
  | [], _ :: _ => .lt
  | _ :: _, [] => .gt
  | a :: as, b :: bs => match cmpN a b with
    | .eq => cmpNL as bs
    | .lt => .lt
    | .gt => .gt
end
def ltN (a b : NK) : Bool := cmpN a b == .lt
mutual
/-- a < b can be asked -/
def cmpOk : NK → NK → Bool
  | .num _, .num _ => true
  | .tup a, .tup b => cmpOkL a b
  | _, _ => false
def cmpOkL : List NK → List NK → Bool
  | [], _ => true
  | _ :: _, [] => true
  | a :: as, b :: bs => cmpOk a b && cmpOkL as bs
end
def fstInt : NK → Bool
  | .tup (.num _ :: _) => true
  | _ => false
def fstTup : NK → Bool
  | .tup (.tup _ :: _) => true
  | _ => false
def tupK : NK → Bool
  | .tup _ => true
  | _ => false
def sortOk (ks : List NK) : Bool := ks.all tupK && decide (ks.length ≤ sizeLine) && (decide (ks.length < 2) || ks.all fstInt || ks.all fstTup) && (ks.all fun k => decide (k.depth ≤ 8)) && ks.all fun a => ks.all fun b => cmpOk a b
def sortN (ks : List NK) : List NK := ks.mergeSort (fun a b => !ltN b a)
def biD : Bi → D → Option D
  | .len, .nd .tup _ xs => some (.int xs.length)
  | .len, .nd .lst _ xs => some (.int xs.length)
  | .len, .nd .cl _ xs => some (.int xs.length)
  | .len, .nd (.dk ks) _ _ => some (.int ks.length)
  | .len, .nd (.dt ks) _ _ => some (.int ks.length)
  | .len, .str x => if x.length ≤ sizeLine then some (.int x.length) else none
  | .int, .int i => some (.int i)
  | .int, .bl b => some (.int (if b then 1 else 0))
  | .abs, .int i => some (.int (if i < 0 then -i else i))
  | .list, .nd .tup _ xs => some (.nd .lst true xs)
  | .list, .nd .lst _ xs => some (.nd .lst true xs)
  | .list, .nd .cl _ xs => some (.nd .lst true xs)
  | .tuple, .nd .lst _ xs => some (.nd .tup false xs)
  | .tuple, .nd .cl _ xs => some (.nd .tup false xs)
  | .tuple, .nd .tup _ xs => some (.nd .tup false xs)
  | .sorted, .nd .lst _ xs => match intsD xs with
    | some l => if l.length ≤ sizeLine then some (.nd .lst true ((sortI l).map .int)) else none
    | none => (nkeyL xs).bind fun ks => if sortOk ks then some (.nd .lst true (keyNL (sortN ks))) else none
  | .sorted, .nd (.dt ks) _ _ => if sortOk ks then some (.nd .lst true (keyNL (sortN ks))) else none
  | .sorted, .nd (.dk ks) _ _ => (intsD (ks.map keyD)).bind fun l => if l.length < 64 then some (.nd .lst true ((sortI l).map .int)) else none
  | .list, .nd (.dk ks) _ _ => some (.nd .lst true (ks.map keyD))
  | .list, .nd (.dt ks) _ _ => some (.nd .lst true (keyNL ks))
  | .sum, .nd .lst _ xs => (intsD xs).map fun l => .int l.sum
  | .sum, .nd .tup _ xs => (intsD xs).map fun l => .int l.sum
  | .min, .nd .lst _ xs => (intsD xs).bind fun l => if l.isEmpty then none else some (.int (leastI l))
  | .max, .nd .lst _ xs => (intsD xs).bind fun l => if l.isEmpty then none else some (.int (mostI l))
  | .all, .nd .lst _ xs => (blsD xs).map fun l => .bl (l.all id)
  | .any, .nd .lst _ xs => (blsD xs).map fun l => .bl (l.any id)
  | _, _ => none
def bi2D (mx : Bool) : D → D → Option D
  | .int i, .int j => some (.int (if mx then (if j > i then j else i) else (if j < i then j else i)))
  | _, _ => none
/-- a list that nobody may change from here on -/
def cstD : D → Option D
  | .nd .lst true xs => if fzL xs then some (.nd .cl false xs) else none
  | _ => none
/-- the built-in class of a value -/
def tyD : D → Option Ty
  | .non => some .none
  | .bl _ => some .bool
  | .int _ => some .int
  | .str _ => some .str
  | .nd .tup _ _ => some .tuple
  | .nd .lst _ _ => some .list
  | .nd .cl _ _ => some .list
  | .nd (.dk _) _ _ => some .dict
  | _ => none
def isT : Ty → Ty → Option Bool
  | _, .cls _ => none
  | .bool, .int => some true
  | a, b => some (decide (a = b))
def isTs (t : Ty) : List Ty → Option Bool
  | [] => some false
  | u :: us => match isT t u, isTs t us with
    | some a, some b => some (a || b)
    | _, _ => none
def isD (d : D) (ts : List Ty) : Option Bool := (tyD d).bind fun t => isTs t ts
def okB : Bm → D → Bool
  | .get, .nd (.dk _) _ _ => true
  | .get2, .nd (.dk _) _ _ => true
  | .get, .nd (.dt _) _ _ => true
  | .get2, .nd (.dt _) _ _ => true
  | .count, .nd .tup _ _ => true
  | _, _ => false
def bmD : Bm → D → List D → Option D
  | .get, .nd (.dk ks) _ xs, [k] => k.key.map fun k => (lookD ks xs k).getD .non
  | .get2, .nd (.dk ks) _ xs, [k, d] => k.key.map fun k => (lookD ks xs k).getD d
  | .get, .nd (.dt ks) _ xs, [k] => k.tkey.map fun k => (lookD ks xs k).getD .non
  | .get2, .nd (.dt ks) _ xs, [k, d] => k.tkey.map fun k => (lookD ks xs k).getD d
  | .count, .nd .tup _ xs, [.int i] => (intsD xs).map fun l => .int (l.count i : Nat)
  | _, _, _ => none
/-- what a changing method answers, and the object behind it -/
def muD : Mu → D → List D → Option (D × D)
  | .append, .nd .lst true xs, [y] => if xs.length < sizeLine then some (.non, .nd .lst true (xs ++ [y])) else none
  | .pop, .nd .lst true xs, [] => (xs[xs.length - 1]?).map fun y => (y, .nd .lst true xs.dropLast)
  | .reverse, .nd .lst true xs, [] => some (.non, .nd .lst true xs.reverse)
  | .clear, .nd .lst true _, [] => some (.non, .nd .lst true [])
  | .extend, .nd .lst true xs, [.nd .lst _ ys] => if xs.length + ys.length ≤ sizeLine then some (.non, .nd .lst true (xs ++ ys)) else none
  | _, _, _ => none
/-- a[i] = v -/
def setD : D → D → D → Option D
  | .nd .lst true xs, .int i, v => (ixN xs.length i).map fun j => .nd .lst true (xs.set j v)
  | .nd (.dk ks) true xs, k, v => match k.key with
    | some k => if ks.length < sizeLine then some (.nd (.dk (putD ks xs k v).1) true (putD ks xs k v).2) else none
    | none => if ks = [] ∧ xs = [] then k.tkey.map fun k => .nd (.dt [k]) true [v] else none
  | .nd (.dt ks) true xs, k, v => k.tkey.bind fun k => if ks.length < sizeLine then some (.nd (.dt (putD ks xs k v).1) true (putD ks xs k v).2) else none
  | _, _, _ => none
def putN : List Str → List D → Str → D → List Str × List D
  | n :: ns, x :: xs, f, v => if n = f then (n :: ns, v :: xs) else (n :: (putN ns xs f v).1, x :: (putN ns xs f v).2)
  | _, _, f, v => ([f], [v])
/-- a.f = v -/
def fsetD (at' : Nat → Str → Bool) : D → Str → D → Option D
  | .nd (.ins c ns) true xs, f, v => if ns.length < 1000 ∧ at' c f = true then some (.nd (.ins c (putN ns xs f v).1) true (putN ns xs f v).2) else none
  | _, _, _ => none
/-- a.setdefault(k, v) -/
def sdfD : D → D → D → Option D
  | .nd (.dk ks) true xs, k, v => k.key.bind fun k => if ks.length < sizeLine then some (match lookD ks xs k with
    | some _ => .nd (.dk ks) true xs
    | none => .nd (.dk (putD ks xs k v).1) true (putD ks xs k v).2) else none
  | _, _, _ => none

def sdaOk (ks : List Key) (xs : List D) (k : D) : Bool :=
  match k.key with
  | none => false
  | some k => decide (ks.length < sizeLine) && (match lookD ks xs k with
    | none => true
    | some (.nd .lst true _) => true
    | _ => false)
/-- a.setdefault(k, []).append(v) -/
def sdaD : D → D → D → Option D
  | .nd (.dk ks) true xs, k, v => k.key.bind fun k => match lookD ks xs k with
    | some (.nd .lst true ys) => if ys.length < sizeLine then some (.nd (.dk ks) true (putD ks xs k (.nd .lst true (ys ++ [v]))).2) else none
    | some _ => none
    | none => if ks.length < sizeLine then some (.nd (.dk (ks ++ [k])) true (xs ++ [.nd .lst true [v]])) else none
  | _, _, _ => none

/-! ### paths -/
inductive Acc where
  | fld (f : Str) | ix (d : D)
def strIx : List Str → Str → Option Nat
  | k' :: ks, k => if k' = k then some 0 else (strIx ks k).map (· + 1)
  | [], _ => none
/-- which child -/
def stepD (at' : Nat → Str → Bool) : D → Acc → Option Nat
  | .nd (.ins c ns) _ _, .fld f => if at' c f = true then strIx ns f else none
  | .nd .lst _ xs, .ix (.int i) => ixN xs.length i
  | .nd .tup _ xs, .ix (.int i) => ixN xs.length i
  | .nd (.dk ks) _ _, .ix d => d.key.bind (keyIx ks)
  | .nd (.dt ks) _ _, .ix d => d.tkey.bind (keyIx ks)
  | _, _ => none
def D.kids : D → List D
  | .nd _ _ xs => xs
  | _ => []
def D.withKid : D → Nat → D → D
  | .nd k o xs, j, d => .nd k o (xs.set j d)
  | d, _, _ => d
def walkD (at' : Nat → Str → Bool) : List Acc → D → Option D
  | [], d => some d
  | a :: as, d => (stepD at' d a).bind fun j => (d.kids[j]?).bind (walkD at' as)
/-- change what stands at the path's end -/
def modD {α : Type} (at' : Nat → Str → Bool) (f : D → Option (α × D)) : List Acc → D → Option (α × D)
  | [], d => f d
  | a :: as, d => (stepD at' d a).bind fun j => (d.kids[j]?).bind fun x => (modD at' f as x).map fun (r, x') => (r, d.withKid j x')

/-- what stands in an own list, a whole number -/
def augOld : Option D → D → Option Int
  | some (.nd .lst true xs), .int j => if 0 ≤ j then match atI xs j with
    | some (.int x) => some x
    | _ => none
    else none
  | _, _ => none
/-! ### the program -/
/-- a def's run: its answer, and what its changed parameters are behind it -/
inductive CR where
  | val (d : D) (fs : List D)
  | exc (x : D) (fs : List D)
abbrev Orc := Nat → List D → Option CR
structure Fn where
  np : Nat
  nl : Nat
  io : List Nat
  body : List S
structure Tab where
  fns : List Fn
  meth : Nat → Str → Option Nat
  init : Nat → Option Nat
  excN : Nat → List Str
  attr : Nat → Str → Bool
inductive Arg where
  | d (x : D) | r (i : Nat)

/-- the arguments are taken: what is passed by its name is away while the def runs -/
def takeArgs : List Arg → Env → Option (List D × Env)
  | [], e => some ([], e)
  | .d x :: as, e => (takeArgs as e).map fun (ds, e') => (x.frz :: ds, e')
  | .r i :: as, e => match e.at i with
    | none => none
    | some x => (takeArgs as (e.set i none)).map fun (ds, e') => (x :: ds, e')
def putBack : List Arg → List D → Env → Option Env
  | [], [], e => some e
  | .d _ :: as, fs, e => putBack as fs e
  | .r i :: as, f :: fs, e => putBack as fs (e.set i (some f))
  | _, _, _ => none
/-- which parameters are passed by name -/
def ioOf : List Arg → Nat → List Nat
  | [], _ => []
  | .d _ :: as, k => ioOf as (k + 1)
  | .r _ :: as, k => k :: ioOf as (k + 1)
def runCall (tb : Tab) (o : Orc) (f : Nat) (as : List Arg) (e : Env) : R D :=
  match takeArgs as e with
  | none => none
  | some (ds, e1) => if (tb.fns[f]?).map (·.io) = some (ioOf as 0) then
      match o f ds with
      | none => none
      | some (.val d fs) => (putBack as fs e1).map (.val d)
      | some (.exc x fs) => (putBack as fs e1).map (.exc x)
    else none
def viewEnv (is : List Nat) : Nat → Env → Env
  | _, [] => []
  | k, x :: xs => (if is.contains k then x.map D.frz else none) :: viewEnv is (k + 1) xs
def wipeE : Env → List Nat → Env
  | e, [] => e
  | e, v :: vs => (wipeE e vs).set v none

mutual
def storeT (pr : List Nat) : T → D → Env → Option Env
  | .v i, d, e => if pr.contains i then none else some (e.set i (some d))
  | .t ts, d, e => match d with
    | .nd .tup _ xs => storeTs pr ts xs e
    | .nd .pr _ xs => storeTs pr ts xs e
    | _ => none
def storeTs (pr : List Nat) : List T → List D → Env → Option Env
  | [], [], e => some e
  | t :: ts, d :: ds, e => (storeT pr t d e).bind (storeTs pr ts ds)
  | _, _, _ => none
end
/-- from an answer of a view: nothing of it is kept -/
def viewOut (r : R D) (e : Env) : R D :=
  match r with
  | some (.val d _) => if d.nf then some (.val d e) else none
  | _ => none
def opt {α : Type} (x : Option α) (e : Env) : R α := x.map (.val · e)
def outB (r : R D) : R Bool := bnd r fun d e => match d with | .bl b => some (.val b e) | _ => none
/-- a loop of a comprehension -/
def loopC (tg : D → Env → Option Env) (cond : Env → R Bool) (elt : Env → R D) (own : List Nat) : List D → Env → Option (List D × Env)
  | [], e => some ([], e)
  | x :: xs, e => match tg x e with
    | none => none
    | some e1 => match cond e1 with
      | some (.val true e2) => match elt e2 with
        | some (.val d e3) => (loopC tg cond elt own xs (wipeE e3 own)).map fun (ds, e4) => (d :: ds, e4)
        | _ => none
      | some (.val false e2) => loopC tg cond elt own xs (wipeE e2 own)
      | _ => none
/-- a loop of a dict comprehension -/
def loopD (tg : D → Env → Option Env) (cond : Env → R Bool) (ek ev : Env → R D) (own : List Nat) : List D → D → Env → Option (D × Env)
  | [], acc, e => some (acc, e)
  | x :: xs, acc, e => match tg x e with
    | none => none
    | some e1 => match cond e1 with
      | some (.val true e2) => match ek e2 with
        | some (.val k e3) => match ev e3 with
          | some (.val v e4) => match setD acc k v with
            | some acc' => loopD tg cond ek ev own xs acc' (wipeE e4 own)
            | none => none
          | _ => none
        | _ => none
      | some (.val false e2) => loopD tg cond ek ev own xs acc (wipeE e2 own)
      | _ => none
def rangeD (lo hi : Int) : List D := (List.range (hi - lo).toNat).map fun (k : Nat) => .int (lo + (k : Int))
def okR (lo hi : Int) : Bool := decide (-(2 ^ 62) ≤ lo) && decide (lo < 2 ^ 62) && decide (-(2 ^ 62) ≤ hi) && decide (hi < 2 ^ 62)

section
variable (tb : Tab) (o : Orc)
mutual
def evE : E → Env → R D
  | .nop, e => some (.val .non e)
  | .var i, e => match e.at i with
    | none => none
    | some d => if d.fz then some (.val d e) else some (.val d.frz (e.set i (some d.frz)))
  | .mv i, e => match e.at i with
    | none => none
    | some d => some (.val d (e.set i none))
  | .non, e => some (.val .non e)
  | .bl b, e => some (.val (.bl b) e)
  | .int i, e => some (.val (.int i) e)
  | .str x, e => some (.val (.str x) e)
  | .view is a, e => viewOut (evE a (viewEnv is 0 e)) e
  | .tup es, e => bnd (evEs es e) fun ds e => if ds.length ≤ sizeLine then some (.val (.nd .tup false ds) e) else none
  | .lst es, e => bnd (evEs es e) fun ds e => if ds.length ≤ sizeLine then some (.val (.nd .lst true ds) e) else none
  | .dnew, e => some (.val (.nd (.dk []) true []) e)
  | .ddisp a b, e => bnd (evE a e) fun x e => bnd (evE b e) fun y e => match x.key with
    | none => none
    | some kk => some (.val (.nd (.dk [kk]) true [y]) e)
  | .un op a, e => bnd (evE a e) fun d e => opt (unD op d) e
  | .bin op a b, e => bnd (evE a e) fun x e => bnd (evE b e) fun y e => opt (binD op x y) e
  | .cmp op a b, e => bnd (evE a e) fun x e => bnd (evE b e) fun y e => opt ((cmpD op x y).map .bl) e
  | .chain op op' a b c, e => bnd (evE a e) fun x e => bnd (evE b e) fun y e => match cmpD op x y with
    | none => none
    | some false => some (.val (.bl false) e)
    | some true => bnd (evE c e) fun z e => opt ((cmpD op' y z).map .bl) e
  | .and a b, e => bnd (evE a e) fun x e => match x with
    | .bl true => evE b e
    | .bl false => some (.val (.bl false) e)
    | _ => none
  | .or a b, e => bnd (evE a e) fun x e => match x with
    | .bl false => evE b e
    | .bl true => some (.val (.bl true) e)
    | _ => none
  | .ife t a b, e => bnd (evT t e) fun c e => if c then evE a e else evE b e
  | .sub a i, e => bnd (evE a e) fun x e => bnd (evE i e) fun y e => opt (subD x y) e
  | .slc a lo hi, e => bnd (evE a e) fun x e => bnd (evE lo e) fun l e => match partE lo l with
    | none => none
    | some l' => bnd (evE hi e) fun h e => opt ((partE hi h).bind (cutOf x l')) e
  | .fld a f, e => bnd (evE a e) fun x e => opt (fldD tb.attr x f) e
  | .call f es, e => bnd (evAs es e) fun as e => runCall tb o f as e
  | .meth m a es, e => bnd (evE a e) fun x e => match x with
    | .nd (.ins c ns) _ _ => match tb.meth c m with
      | none => none
      | some f => if ns.contains m then none else bnd (evAs es e) fun as e => runCall tb o f (.d x :: as) e
    | _ => none
  | .methR m i es, e => match e.at i with
    | some (.nd (.ins c ns) _ _) => match tb.meth c m with
      | none => none
      | some f => if ns.contains m then none else bnd (evAs es e) fun as e => runCall tb o f (.r i :: as) e
    | _ => none
  | .mk c es, e => bnd (evEs es e) fun ds e => match tb.init c with
    | none => none
    | some f => if (tb.fns[f]?).map (·.io) = some [0] then
        match o f (.nd (.ins c []) true [] :: ds.map D.frz) with
        | some (.val .non [x]) => some (.val x e)
        | some (.exc x [_]) => some (.exc x e)
        | _ => none
      else none
  | .bi b a, e => bnd (evE a e) fun x e => opt (biD b x) e
  | .bi2 mx a b, e => bnd (evE a e) fun x e => bnd (evE b e) fun y e => opt (bi2D mx x y) e
  | .bm b a es, e => bnd (evE a e) fun x e => if okB b x then bnd (evEs es e) fun ds e => opt (bmD b x ds) e else none
  | .mu b root p es, e => match e.at root with
    | none => none
    | some d => bnd (evPs p d root (e.set root none)) fun acs e => match walkD tb.attr acs d with
      | some (.nd .lst true _) => bnd (evMs es d root e) fun ds e =>
        match modD tb.attr (fun x => muD b x ds) acs d with
        | none => none
        | some (r, d') => some (.val r (e.set root (some d')))
      | _ => none
  | .isi a ts, e => bnd (evE a e) fun x e => opt ((isD x ts).map .bl) e
  | .lc elt tg it cond own, e => bnd (evI it e) fun xs e =>
      match loopC (fun x e => storeT [] tg x e) (fun e => evT cond e) (fun e => evE elt e) own xs (wipeE e own) with
      | none => none
      | some (ds, e) => if ds.length ≤ sizeLine then some (.val (.nd .lst true ds) e) else none
  | .dc ek ev tg it cond own, e => bnd (evI it e) fun xs e =>
      match loopD (fun x e => storeT [] tg x e) (fun e => evT cond e) (fun e => evE ek e) (fun e => evE ev e) own xs (.nd (.dk []) true []) (wipeE e own) with
      | none => none
      | some (d, e) => some (.val d e)
  | .cst a, e => bnd (evE a e) fun x e => opt (cstD x) e
  | .gl d, e => some (.val d e)
  | .gsub ks xs a, e => bnd (evE a e) fun x e => match x with
    | .str z => opt (lookD ks xs (.inr z)) e
    | _ => none
/-- as a test -/
def evT : C → Env → R Bool
  | .tt, e => some (.val true e)
  | .and a b, e => bnd (evT a e) fun c e => if c then evT b e else some (.val false e)
  | .or a b, e => bnd (evT a e) fun c e => if c then some (.val true e) else evT b e
  | .not a, e => bnd (evT a e) fun c e => some (.val (!c) e)
  | .view is a, e => match evT a (viewEnv is 0 e) with
    | some (.val c _) => some (.val c e)
    | _ => none
  | .e a, e => bnd (evE a e) fun x e => opt (truth x) e
def evEs : Es → Env → R (List D)
  | .n, e => some (.val [] e)
  | .c a es, e => bnd (evE a e) fun x e => bnd (evEs es e) fun xs e => some (.val (x :: xs) e)
  | .io _ _, _ => none
def evAs : Es → Env → R (List Arg)
  | .n, e => some (.val [] e)
  | .c a es, e => bnd (evE a e) fun x e => bnd (evAs es e) fun xs e => some (.val (.d x :: xs) e)
  | .io i es, e => match e.at i with
    | none => none
    | some _ => bnd (evAs es e) fun xs e => some (.val (.r i :: xs) e)
/-- an argument beside a changed name: a view sees the name, all else does not -/
def evM : M → D → Nat → Env → R D
  | .v is a, d, root, e => viewOut (evE a (viewEnv is 0 (e.set root (some d)))) e
  | .h a, _, _, e => evE a e
def evMs : Ms → D → Nat → Env → R (List D)
  | .n, _, _, e => some (.val [] e)
  | .c a es, d, root, e => bnd (evM a d root e) fun x e => bnd (evMs es d root e) fun xs e => some (.val (x :: xs) e)
def evPs : Ps → D → Nat → Env → R (List Acc)
  | .n, _, _, e => some (.val [] e)
  | .fld p f, d, root, e => bnd (evPs p d root e) fun as e => if (walkD tb.attr (as ++ [.fld f]) d).isSome then some (.val (as ++ [.fld f]) e) else none
  | .ix p a, d, root, e => bnd (evPs p d root e) fun as e => bnd (evM a d root e) fun x e => if (walkD tb.attr (as ++ [.ix x]) d).isSome then some (.val (as ++ [.ix x]) e) else none
def evI : I → Env → R (List D)
  | .seqL a, e => bnd (evE a e) fun x e => match seqD x.frz with
    | some xs => if isLst x then some (.val xs e) else none
    | none => none
  | .seqT a, e => bnd (evE a e) fun x e => match seqD x.frz with
    | some xs => if isLst x then none else some (.val xs e)
    | none => none
  | .rng a, e => bnd (evE a e) fun x e => match x with
    | .int j => if okR 0 j then some (.val (rangeD 0 j) e) else none
    | _ => none
  | .rng2 a b, e => bnd (evE a e) fun x e => bnd (evE b e) fun y e => match x, y with
    | .int i, .int j => if okR i j then some (.val (rangeD i j) e) else none
    | _, _ => none
  | .rng3 _ _ _, _ => none
  | .enm a, e => bnd (evE a e) fun x e => match seqD x.frz with
    | some xs => some (.val (xs.mapIdx fun i d => .nd .pr false [.int i, d]) e)
    | none => none
  | .zip a b, e => bnd (evE a e) fun x e => bnd (evE b e) fun y e => match seqD x.frz, seqD y.frz with
    | some xs, some ys => if isLst x || isLst y then none else some (.val ((xs.zip ys).map fun p => .nd .pr false [p.1, p.2]) e)
    | _, _ => none
end
end

/-! ### statements -/
inductive Fl where
  | nx | rt (d : D) | bk | ct
abbrev SR := R Fl
def nxt (x : Option Env) : SR := x.map fun e => .val .nx e
def loopF (tg : D → Env → Option Env) (body : Env → SR) : List D → Env → SR
  | [], e => some (.val .nx e)
  | x :: xs, e => match tg x e with
    | none => none
    | some e1 => bnd (body e1) fun f e2 => match f with
      | .nx => loopF tg body xs e2
      | .ct => loopF tg body xs e2
      | .bk => some (.val .nx e2)
      | .rt d => some (.val (.rt d) e2)
def loopW (test : Env → R Bool) (body : Env → SR) : Nat → Env → SR
  | 0, _ => none
  | n + 1, e => bnd (test e) fun c e => if c then bnd (body e) fun f e2 => match f with
      | .nx => loopW test body n e2
      | .ct => loopW test body n e2
      | .bk => some (.val .nx e2)
      | .rt d => some (.val (.rt d) e2)
    else some (.val .nx e)
def whileMost : Nat := 1000000000000
section
variable (tb : Tab) (o : Orc)
mutual
def exS (pr : List Nat) : S → Env → SR
  | .asg t a, e => bnd (evE tb o a e) fun x e => nxt (storeT pr t x e)
  | .par i j a b, e => bnd (evE tb o a e) fun x e => bnd (evE tb o b e) fun y e => nxt ((storeT pr (.v i) x e).bind (storeT pr (.v j) y))
  | .sub root p i a, e => bnd (evE tb o a e) fun v e => match e.at root with
    | none => none
    | some d => bnd (evPs tb o p d root (e.set root none)) fun acs e => bnd (evM tb o i d root e) fun k e =>
      match modD tb.attr (fun x => (setD x k v).map fun y => ((), y)) acs d with
      | none => none
      | some (_, d') => some (.val .nx (e.set root (some d')))
  | .subA root p i op a, e => match e.at root with
    | none => none
    | some d => bnd (evPs tb o p d root (e.set root none)) fun acs e => bnd (evM tb o i d root e) fun k e =>
      match augOld (walkD tb.attr acs d) k with
      | some x => bnd (evM tb o a d root e) fun y e => match binD op (.int x) y with
        | none => none
        | some z => match modD tb.attr (fun x => (setD x k z).map fun y => ((), y)) acs d with
          | none => none
          | some (_, d') => some (.val .nx (e.set root (some d')))
      | none => none
  | .fld root p f a, e => bnd (evE tb o a e) fun v e => match e.at root with
    | none => none
    | some d => bnd (evPs tb o p d root (e.set root none)) fun acs e =>
      match modD tb.attr (fun x => (fsetD tb.attr x f v).map fun y => ((), y)) acs d with
      | none => none
      | some (_, d') => some (.val .nx (e.set root (some d')))
  | .sdf root p k a, e => match e.at root with
    | none => none
    | some d => bnd (evPs tb o p d root (e.set root none)) fun acs e => match walkD tb.attr acs d with
      | some (.nd (.dk _) true _) => bnd (evM tb o k d root e) fun k e => bnd (evM tb o a d root e) fun v e =>
        match modD tb.attr (fun x => (sdfD x k v).map fun y => ((), y)) acs d with
        | none => none
        | some (_, d') => some (.val .nx (e.set root (some d')))
      | _ => none
  | .sda root p k a, e => match e.at root with
    | none => none
    | some d => bnd (evPs tb o p d root (e.set root none)) fun acs e => match walkD tb.attr acs d with
      | some (.nd (.dk ks) true xs) => bnd (evM tb o k d root e) fun k e => if sdaOk ks xs k then bnd (evE tb o a e) fun v e =>
        match modD tb.attr (fun x => (sdaD x k v).map fun y => ((), y)) acs d with
        | none => none
        | some (_, d') => some (.val .nx (e.set root (some d')))
        else none
      | _ => none
  | .aug i op a, e => match e.at i with
    | some (.int x) => bnd (evE tb o a e) fun y e => match binD op (.int x) y with
      | some z => nxt (storeT pr (.v i) z e)
      | none => none
    | _ => none
  | .ex a, e => bnd (evE tb o a e) fun _ e => some (.val .nx e)
  | .ret a, e => bnd (evE tb o a e) fun x e => some (.val (.rt x) e)
  | .retN, e => some (.val (.rt .non) e)
  | .ite t a b, e => bnd (evT tb o t e) fun c e => if c then exSs pr a e else exSs pr b e
  | .for t it body, e => bnd (evI tb o it e) fun xs e => loopF (fun x e => storeT pr t x e) (fun e => exSs pr body e) xs e
  | .whl t body, e => loopW (fun e => evT tb o t e) (fun e => exSs pr body e) whileMost e
  | .brk, e => some (.val .bk e)
  | .cnt, e => some (.val .ct e)
  | .pas, e => some (.val .nx e)
  | .rse _ _, _ => none
  | .bad, _ => none
def exSs (pr : List Nat) : List S → Env → SR
  | [], e => some (.val .nx e)
  | s :: ss, e => bnd (exS pr s e) fun f e1 => match f with
    | .nx => exSs pr ss e1
    | f => some (.val f e1)
end
end
def finals : List Nat → Env → Option (List D)
  | [], _ => some []
  | i :: is, e => match e.at i, finals is e with
    | some d, some ds => some (d :: ds)
    | _, _ => none
def runFn (tb : Tab) (o : Orc) (f : Nat) (ds : List D) : Option CR :=
  match tb.fns[f]? with
  | none => none
  | some fn => if ds.length = fn.np then
      match exSs tb o fn.io fn.body (ds.map some ++ List.replicate (fn.nl - fn.np) none) with
      | some (.val .nx e) => (finals fn.io e).map (.val .non)
      | some (.val (.rt d) e) => (finals fn.io e).map (.val d)
      | some (.exc x e) => (finals fn.io e).map (.exc x)
      | _ => none
    else none
/-- the run of the def f, at most k calls deep -/
def callF (tb : Tab) : Nat → Orc
  | 0 => fun _ _ => none
  | k + 1 => runFn tb (callF tb k)
end PL

/-! PL.Tm: a tuple times any int. -/
namespace PL
open PySem L2 PySem.Spec PyProof.Rows
theorem tuple_mul1 (l : Addr) (items : Array Value) (n : Nat) (dd : Option Addr) (sl : Array (Option Value)) (u : Tok) :
    Meets (Builtin.«tuple.__mul__» ⟨[.ref l, .int 1 u], []⟩) (fun _ R s => s.heap.get? l = some { cls := .type "tuple", dict := dd, data := .seq items n, slots := sl } ∧
      R (.ok (.ret (Value.ref l))) s) :=
  .of_wp fun prog w A R s h => by
    obtain ⟨hp, g, d, tk, os⟩ := s
    obtain ⟨hl, h⟩ := h
    have f1 := AutoSeq1.idx_int
    wp_walk using wpAny_loadPart' hl
    exact ⟨_, rfl, h⟩
theorem tuple_mul0 (l : Addr) (items : Array Value) (n : Nat) (dd : Option Addr) (sl : Array (Option Value)) (x : Int) (u : Tok) (c0 : (decide (x < -(2 ^ 63)) || decide (x ≥ 2 ^ 63)) = false) (c1 : (items.isEmpty || x == 1) = false) (c2 : (decide (x ≤ 0) || items.isEmpty) = true) :
    Meets (Builtin.«tuple.__mul__» ⟨[.ref l, .int x u], []⟩) (fun _ R s => s.heap.get? l = some { cls := .type "tuple", dict := dd, data := .seq items n, slots := sl } ∧
      R (.ok (.ret (Value.ref s.heap.objs.size))) { s with heap := s.heap.push { cls := Value.type "tuple", data := Data.seq #[] }, toks := s.toks }) :=
  .of_wp fun prog w A R s h => by
    obtain ⟨hp, g, d, tk, os⟩ := s
    obtain ⟨hl, h⟩ := h
    have f1 := AutoSeq1.idx_int
    wp_walk using wpAny_loadPart' hl
    repeat (first
      | (refine wpAny_ite_false (decide_eq_false (by rw [c0]; exact Bool.false_ne_true)) ?_; wp_walk using wpAny_loadPart' hl)
      | (refine wpAny_ite_false (decide_eq_false (by rw [c1]; exact Bool.false_ne_true)) ?_; wp_walk using wpAny_loadPart' hl)
      | (refine wpAny_ite_true (decide_eq_true (by rw [c2])) ?_; wp_walk using wpAny_loadPart' hl))
    exact ⟨_, rfl, h⟩
/-! ### new tuples: the object stays known, so that it has no dict of its own -/
/-- a tuple's object -/
abbrev tupO (us : List Value) : Obj := { cls := .type "tuple", data := .seq us.toArray }
/-- the wish behind a new tuple of these -/
def NewT (H : Hp) (Q : VK) (xs : List V) : Prop := ∀ (p : Addr) (ob : Obj), H p = none → ob.dict = none → Q (.ref p) (upd H p (.frz ob (.tup xs)))
theorem lays {X : Cx} {pins : List (Addr × Obj)} {σ : L2.St} {H : Hp} {s : Shared} {xs : List V} {us : List Value} {tk : Tok} {Q : VK} (I : Inv X pins σ H s) (r : Vals xs us) (hz : xs.length ≤ sizeLine) (h : NewT H Q xs) :
    EP X pins σ Q (.ref s.heap.objs.size) { s with heap := s.heap.push (tupO us), toks := tk } :=
  ⟨.ref s.heap.objs.size, upd H s.heap.objs.size (.frz (tupO us) (.tup xs)),
    I.laid (t' := tk) (o := .frz (tupO us) (.tup xs)) (fun _ _ q => Heap.get?_push_of_some _ q) (Nat.le_refl _) ⟨Heap.get?_push_size _ rfl, hz, us, r, IsTup.new _ _⟩, rfl, h _ _ (I.hok.fresh (Nat.le_refl _)) rfl⟩
def tTupF (t : TA) : TE := fun σ H Q => t σ H fun xs H1 => xs.length ≤ sizeLine ∧ NewT H1 Q xs
def rCatF (K : PySem.W.Frag) : R2 := fun x y H Q => ∃ a b xs ys, x = .ref a ∧ y = .ref b ∧ SqT K H a xs ∧ SqT K H b ys ∧ xs.length + ys.length ≤ sizeLine ∧
  (xs = [] → Q (.ref b) H) ∧ (xs ≠ [] → ys = [] → Q (.ref a) H) ∧ (xs ≠ [] → ys ≠ [] → NewT H Q (xs ++ ys))
def rSlF (K : PySem.W.Frag) : V → Option Int → Option Int → Hp → VK → Prop := fun x lo hi H Q => ∃ a xs, x = .ref a ∧ SqT K H a xs ∧
  ((HT.sIx xs.length 0 lo = 0 ∧ HT.sIx xs.length xs.length hi = xs.length) → Q (.ref a) H) ∧ (¬ (HT.sIx xs.length 0 lo = 0 ∧ HT.sIx xs.length xs.length hi = xs.length) → NewT H Q (cutV xs lo hi))
section
variable {X : Cx} {es : List Expr} {t : TA} {pos : Pos}
theorem pe_tupF {x1} (h : PA X es t) : PE X (.Tuple es x1 pos) (tTupF t) :=
  ⟨fun pins s σ H Q I hq => wpAny_Tuple_spliced (thn (h.run pos pins s σ H _ I hq) fun us s1 ⟨_, _, I1, r, z, q⟩ => ⟨by rw [← r.length]; exact z, lays (tk := s1.toks) I1 r z q⟩)⟩
theorem call_tupleF : CallR X (.type "tuple") (fun xs H Q => ∃ p ys, xs = [.ref p] ∧ ((SqL X.K H p ys ∧ NewT H Q ys) ∨ (SqT X.K H p ys ∧ Q (.ref p) H))) := by
  intro pins s σ H xs us Q I r ⟨p, ys, e, h⟩
  subst e
  obtain ⟨u, rfl, ru⟩ := vals1 r
  cases ru
  rcases h with ⟨sq, q⟩ | ⟨sq, q⟩
  · obtain ⟨its, vl, pl, z⟩ := I.list sq
    refine call_tuple_list pl.isList (fun h' kp => ?_) (by simp only [List.size_toArray, ← vl.length]; exact z)
    have I1 : Inv X pins σ H { s with heap := h' } := I.kept (t' := s.toks) kp
    exact lays (tk := s.toks) I1 vl z q
  · obtain ⟨_, _, tp, _⟩ := I.tuple sq
    exact call_tuple_same tp ⟨.ref p, H, I, rfl, q⟩
theorem op_catF : OpR X (binaryOp .Add) (rCatF X.K) := by
  intro pins s σ H x y v u Q I rx ry ⟨a, b, xs, ys, e1, e2, ha, hb, hz, q0, q1, q2⟩
  subst e1 e2
  cases rx
  cases ry
  obtain ⟨us, vl, tp, _⟩ := I.tuple ha
  obtain ⟨us', vl', tp', _⟩ := I.tuple hb
  cases xs with
  | nil =>
    cases vl
    exact cat_tup0 tp tp' ⟨.ref b, H, I, rfl, q0 rfl⟩
  | cons x1 xr =>
    have ne : x1 :: xr ≠ [] := List.cons_ne_nil _ _
    refine HT.cat_tup tp tp' (fun z => ne (vl.nil_iff.mp z)) (fun z => ⟨.ref a, H, I, rfl, q1 ne (vl'.nil_iff.mp z)⟩) (fun z => ?_) (by rw [← vl.length, ← vl'.length]; exact hz)
    exact lays (tk := s.toks) I (vl.append vl') (by rw [List.length_append]; exact hz) (q2 ne fun c => z (vl'.nil_iff.mpr c))
theorem sl_tupF : SlR X (rSlF X.K) := by
  intro pins s σ H x v vl vu lo hi sl Q I rx hs pl pu ⟨a, xs, e, sq, q1, q2⟩
  subst e
  cases rx
  obtain ⟨us, r, tp, hz⟩ := I.tuple sq
  have n : us.toArray.size = xs.length := by rw [List.size_toArray, r.length]
  refine ⟨"tuple", _, PyProof.Rows.slot_tuple_getitem.lookup, tp.typeIs, ?_⟩
  by_cases c : HT.sIx xs.length 0 lo = 0 ∧ HT.sIx xs.length xs.length hi = xs.length
  · exact getItem_tuple_whole tp hs pl pu (by rw [n]; exact c) ⟨.ref a, H, I, rfl, q1 c⟩
  · refine HT.getItem_tuple_cut tp hs pl pu (by rw [n]; exact c) ?_ (by rw [n]; exact hz)
    rw [n]
    exact lays (tk := s.toks) I ((r.drop (HT.sIx xs.length 0 lo)).take (HT.sIx xs.length xs.length hi - HT.sIx xs.length 0 lo)) (Nat.le_trans (cutV_length xs lo hi) hz) (q2 c)
end
def rRepA (K : PySem.W.Frag) : R2 := fun x y H Q => ∃ l k xs, x = .ref l ∧ y = .int k ∧ SqT K H l xs ∧ xs ≠ [] ∧ -(2 ^ 63) ≤ k ∧ k ≤ 1000 ∧ xs.length ≤ 1000 ∧ (k = 1 → Q (.ref l) H) ∧ (k ≠ 1 → NewT H Q (List.replicate k.toNat xs).flatten)
theorem op_repA {X : Cx} : OpR X (binaryOp .Mult) (rRepA X.K) := by
  intro pins s σ H x y v u Q I rx ry h
  obtain ⟨l, k, xs, rfl, rfl, hT, hne, h1, h2, hz, q1, q⟩ := h
  cases rx
  obtain ⟨t, rfl⟩ := ry
  obtain ⟨its, r, ⟨⟨cls, dd, data, sl⟩, ho, hc, n, hd⟩, hs⟩ := I.tuple hT
  simp only at hc hd
  subst hc hd
  by_cases c1' : k = 1
  · subst c1'
    refine wpAny_binaryOp_repeat_ref (T := "tuple") (U := "int") (by decide) ⟨_, ho, rfl⟩ (fun s' => typeIs_int s' 1 t) noFill_tuple_mul F.fills_int_mul F.slot_int_rmul repeat_tuple F.slot_int_index.lookup
      (call_meets F.slot_int_rmul (typeIs_int s 1 t) F.entry_int_rmul (F.args_int_rmul_2 _ _) (int_rmul_tuple 1 t l its.toArray n dd sl)
        ⟨ho, rfl, ⟨_, ho, rfl⟩, call_meets F.slot_tuple_mul ⟨_, ho, rfl⟩ F.entry_tuple_mul (F.args_tuple_mul_2 _ _) (tuple_mul1 l its.toArray n dd sl t) ⟨ho, ?_⟩⟩)
    exact ⟨.ref l, H, I, rfl, q1 rfl⟩
  have hle : its.length = xs.length := r.length.symm
  have hn : its ≠ [] := fun e => hne (by
    rw [e] at hle
    exact List.eq_nil_of_length_eq_zero hle.symm)
  have hi : its.toArray.isEmpty = false := by
    cases its with
    | nil => exact absurd rfl hn
    | cons a b => rfl
  have c0 : (decide (k < -(2 ^ 63)) || decide (k ≥ 2 ^ 63)) = false := by
    rw [decide_eq_false (by omega), decide_eq_false (by omega)] <;> rfl
  have c1 : (its.toArray.isEmpty || k == 1) = false := by
    rw [hi, Bool.false_or]
    exact beq_eq_false_iff_ne.mpr c1'
  by_cases c2' : 2 ≤ k
  · have big : xs.length * k.toNat ≤ 1000 * 1000 := Nat.mul_le_mul hz (by omega)
    have fl : (List.replicate k.toNat its).flatten.length = xs.length * k.toNat := by rw [PyProof.Rows.lm_len_rep_flat, hle, Nat.mul_comm]
    have ki : ((its.toArray.size : Nat) : Int) * k = ((xs.length * k.toNat : Nat) : Int) := by
      rw [List.size_toArray, hle, Int.natCast_mul, Int.toNat_of_nonneg (by omega)]
    have c3 : (decide (k ≤ 0) || its.toArray.isEmpty) = false := by rw [hi, Bool.or_false]; exact decide_eq_false (by omega)
    have c4 : Builtin.Tuple.tupleTooMany (((its.toArray.size : Nat) : Int) * k) = false := by
      unfold Builtin.Tuple.tupleTooMany
      rw [ki, sizeLine_eq]
      exact decide_eq_false (by omega)
    refine wpAny_binaryOp_repeat_ref (T := "tuple") (U := "int") (by decide) ⟨_, ho, rfl⟩ (fun s' => typeIs_int s' k t) noFill_tuple_mul F.fills_int_mul F.slot_int_rmul repeat_tuple F.slot_int_index.lookup
      (call_meets F.slot_int_rmul (typeIs_int s k t) F.entry_int_rmul (F.args_int_rmul_2 _ _) (int_rmul_tuple k t l its.toArray n dd sl)
        ⟨ho, rfl, ⟨_, ho, rfl⟩, call_meets F.slot_tuple_mul ⟨_, ho, rfl⟩ F.entry_tuple_mul (F.args_tuple_mul_2 _ _) (tuple_mulW l its.toArray n dd sl k t c0 c1 c3 (by rw [ki]; omega) c4 (by rw [size_rep, List.size_toArray, fl, sizeLine_eq]; omega)) ⟨ho, ?_⟩⟩)
    rw [size_rep]
    exact lays (tk := s.toks) I (r.rep k.toNat) (by rw [PyProof.Rows.lm_len_rep_flat, sizeLine_eq, Nat.mul_comm]; omega) (q c1')
  have c2 : (decide (k ≤ 0) || its.toArray.isEmpty) = true := by
    rw [decide_eq_true (by omega)] <;> rfl
  refine wpAny_binaryOp_repeat_ref (T := "tuple") (U := "int") (by decide) ⟨_, ho, rfl⟩ (fun s' => typeIs_int s' k t) noFill_tuple_mul F.fills_int_mul F.slot_int_rmul repeat_tuple F.slot_int_index.lookup
    (call_meets F.slot_int_rmul (typeIs_int s k t) F.entry_int_rmul (F.args_int_rmul_2 _ _) (int_rmul_tuple k t l its.toArray n dd sl)
      ⟨ho, rfl, ⟨_, ho, rfl⟩, call_meets F.slot_tuple_mul ⟨_, ho, rfl⟩ F.entry_tuple_mul (F.args_tuple_mul_2 _ _) (tuple_mul0 l its.toArray n dd sl k t c0 c1 c2) ⟨ho, ?_⟩⟩)
  have q := q c1'
  rw [show k.toNat = 0 by omega] at q
  exact lays (tk := s.toks) (us := []) I .nil (Nat.zero_le _) (by simpa using q)
/-- sum of a list, of a tuple -/
def rSumA (K : PySem.W.Frag) : List V → Hp → VK → Prop := fun vs H Q => ∃ (a : Addr) (ns : List Int), vs = [V.ref a] ∧ (SqL K H a (ns.map V.int) ∨ SqT K H a (ns.map V.int)) ∧ Q (.int ns.sum) H
theorem cr_sumA {X : Cx} (cm : X.calm = true) : CallR X (.builtin "sum") (rSumA X.K) := by
  intro pins s σ H vs us Q I r ⟨a, ns, e, sq, q⟩
  rcases sq with sq | sq
  · exact cr_sum cm pins s σ H vs us Q I r ⟨a, ns, e, sq, q⟩
  · subst e
    obtain ⟨its, vl, tp, _⟩ := I.tuple sq
    rw [Vals.ref1 r]
    obtain ⟨xs, ex⟩ := vl.ints.allInts.items
    have nums : xs.toList.map (·.1) = ns := by
      rw [← nums_intItems, ← ex]
      exact vl.ints.numsOf
    rw [ex] at tp
    have lt : a < s.heap.objs.size := by obtain ⟨_, z, _⟩ := id tp; exact Heap.lt_size z
    refine call_sum_walkG (wpAny_pyIter_tuple tp ?_)
    refine ⟨_, _, _, _, _, _, numAt xs, rfl, Walks.tuple (A := X.A.in1) (I.ok.hd cm) s.heap.objs.size a (Nat.ne_of_lt lt) (intItems xs), ⟨⟨_, Heap.get?_push_size _ rfl, rfl, rfl⟩, tp.push _⟩, fun b hb => ?_, fun _ _ => intItems_at, fun h' tk t' kp => ?_⟩
    · show b < (s.heap.push _).objs.size
      rw [Heap.size_push]
      simp only [List.mem_cons, List.not_mem_nil, or_false] at hb
      rcases hb with rfl | rfl
      · exact Nat.lt_succ_self _
      · exact Nat.lt_succ_of_lt lt
    · refine ⟨.int ns.sum, H, I.kept fun b ob z => kp b ob (fun y => ?_) (Heap.get?_push_of_some _ z), ⟨t', ?_⟩, q⟩
      · simp only [List.mem_cons, List.not_mem_nil, or_false] at y
        subst y
        exact absurd (Heap.lt_size z) (Nat.lt_irrefl _)
      · rw [show (intItems xs).size = xs.size by simp [intItems], preSum_eq, List.take_of_length_le (by simp), nums]
end PL

/-! PL.Rep: what a value of the small language is in the heap, and which objects it owns. -/
namespace PL
open PySem L2

abbrev AS := Addr → Prop
/-- where the classes stand -/
structure Lo where
  K : PySem.W.Frag
  wd : World
  cls : Nat → Addr
  cname : Nat → Str
  fname : Nat → Str
  fadr : Nat → Addr
  ffd : Nat → FuncData
  fps : Nat → List Str
  ftop : Nat → Bool
  ctop : Nat → Bool
  glb : Str → Option D := fun _ => none
  gdc : Str → Option (List Key × List D) := fun _ => none

def KForm (K : PySem.W.Frag) (ty : String) (a : Addr) (vs : List V) : Prop :=
  ∃ (o : Obj) (its : Array Value) (n : Nat), K.lookup a = some o ∧ o.cls = .type ty ∧ o.dict = none ∧ o.data = .seq its n ∧ its.size ≤ sizeLine ∧ Vals vs its.toList
/-- a list that nobody may change: the script, a constant of the module -/
def FzL (L : Lo) (H : Hp) (a : Addr) (vs : List V) : Prop := (∃ o, H a = some (.frz o (.lst vs))) ∨ KForm L.K "list" a vs
theorem FzL.sq {L : Lo} {H : Hp} {a : Addr} {vs : List V} (h : FzL L H a vs) : SqL L.K H a vs := by
  rcases h with h | h
  · exact .inl (.inr h)
  · exact .inr h
/-- a dict by tuples: its keys, where they stand, its values -/
def dNF (w : World) (a : Addr) (l : List (NK × Addr × V)) (h : Heap) : Prop := (a == sysModules) = false ∧ l.length ≤ sizeLine ∧ ∃ xs : List (NK × Addr × Value),
  Paired (fun (p : NK × Addr × V) (q : NK × Addr × Value) => p.1 = q.1 ∧ p.2.1 = q.2.1 ∧ RelV p.2.2 q.2.2) l xs ∧
  ∃ o es ep, h.get? a = some o ∧ o.ExactDict ∧ o.data = .dict es ep ∧ es.toList = xs.map (fun x => (⟨x.1.hash w, .ref x.2.1, x.2.2⟩ : DictEntry))
def dN (w : World) (a : Addr) (l : List (NK × Addr × V)) : HO := .ext (dNF w a l)
/-- a tuple whose object has no dict of its own -/
def NoD (K : PySem.W.Frag) (H : Hp) (a : Addr) : Prop := (∃ ob u, H a = some (.frz ob u) ∧ ob.dict = none) ∨ ∃ ob, K.lookup a = some ob ∧ ob.dict = none
def SqU (K : PySem.W.Frag) (H : Hp) (a : Addr) (vs : List V) : Prop := SqT K H a vs ∧ NoD K H a
theorem squ_new {K : PySem.W.Frag} {H : Hp} {p : Addr} {ob : Obj} {vs : List V} (h : ob.dict = none) : SqU K (upd H p (.frz ob (.tup vs))) p vs := ⟨.inl (.inr ⟨ob, upd_same⟩), .inl ⟨ob, _, upd_same, h⟩⟩
mutual
/-- the value is the key -/
def KRep (L : Lo) (H : Hp) : NK → V → Prop
  | .none, v => v = .non
  | .num i, v => v = .int i
  | .text x, v => v = .str x
  | .tup ks, v => ∃ a vs, v = .ref a ∧ SqU L.K H a vs ∧ KReps L H ks vs
def KReps (L : Lo) (H : Hp) : List NK → List V → Prop
  | [], vs => vs = []
  | k :: ks, vs => ∃ v ws, vs = v :: ws ∧ KRep L H k v ∧ KReps L H ks ws
end
def shapeOk (L : Lo) (Z : AS) (H : Hp) (a : Addr) (o : Bool) : Kd → List V → Prop
  | .tup, vs => o = false ∧ SqU L.K H a vs
  | .pr, vs => o = false ∧ SqT L.K H a vs
  | .cl, vs => o = false ∧ FzL L H a vs
  | .lst, vs => H a = some (.lst vs) ∧ (o = false → Z a)
  | .dk ks, vs => ks.Nodup ∧ ks.length = vs.length ∧ H a = some (.dK (ks.zip vs)) ∧ (o = false → Z a)
  | .dt ks, vs => ks.Nodup ∧ ks.length = vs.length ∧ (∃ as : List Addr, KReps L H ks (as.map V.ref) ∧ (∀ k ∈ ks, k.depth ≤ 8) ∧ H a = some (dN L.wd a (ks.zip (as.zip vs)))) ∧ (o = false → Z a)
  | .ins c ns, vs => ns.length = vs.length ∧ (∃ dx, H a = some (.ins (L.cls c) dx (ns.zip vs))) ∧ (o = false → Z a)
mutual
def Rep (L : Lo) (Z : AS) (H : Hp) : V → D → AS → Prop
  | v, .non, _ => v = .non
  | v, .bl b, _ => v = .bl b
  | v, .int i, _ => v = .int i
  | v, .str x, _ => v = .str x
  | v, .nd k o xs, S => ∃ a vs, v = .ref a ∧ shapeOk L Z H a o k vs ∧ (o = true → S a) ∧ Reps L Z H vs xs (fun b => S b ∧ (o = true → b ≠ a))
def Reps (L : Lo) (Z : AS) (H : Hp) : List V → List D → AS → Prop
  | vs, [], _ => vs = []
  | vs, x :: xs, S => ∃ v ws S1 S2, vs = v :: ws ∧ (∀ b, S1 b → S b) ∧ (∀ b, S2 b → S b) ∧ (∀ b, S1 b → ¬ S2 b) ∧ Rep L Z H v x S1 ∧ Reps L Z H ws xs S2
end
/-- what is changed: only what is within U -/
def Fr (U : AS) (H H' : Hp) : Prop := ∀ b o, H b = some o → ¬ U b → H' b = some o
def Own (S : AS) (H : Hp) : Prop := ∀ b, S b → Mut (H b)
def NoAS : AS := fun _ => False
def OrS' (A B : AS) : AS := fun b => A b ∨ B b

section
variable {L : Lo} {Z Z' : AS} {H H' : Hp}
mutual
theorem rep_mono : ∀ {d : D} {v : V} {S S' : AS}, (∀ b, S b → S' b) → Rep L Z H v d S → Rep L Z H v d S'
  | .non, _, _, _, _, h => h
  | .bl _, _, _, _, _, h => h
  | .int _, _, _, _, _, h => h
  | .str _, _, _, _, _, h => h
  | .nd k o xs, v, S, S', hs, h => by
    simp only [Rep] at h ⊢
    obtain ⟨a, vs, e, sh, ho, r⟩ := h
    exact ⟨a, vs, e, sh, fun z => hs _ (ho z), reps_mono (fun b hb => ⟨hs b hb.1, hb.2⟩) r⟩
theorem reps_mono : ∀ {ds : List D} {vs : List V} {S S' : AS}, (∀ b, S b → S' b) → Reps L Z H vs ds S → Reps L Z H vs ds S'
  | [], _, _, _, _, h => h
  | x :: xs, vs, S, S', hs, h => by
    simp only [Reps] at h ⊢
    obtain ⟨v, ws, S1, S2, e, h1, h2, dj, r1, r2⟩ := h
    exact ⟨v, ws, S1, S2, e, fun b hb => hs b (h1 b hb), fun b hb => hs b (h2 b hb), dj, r1, r2⟩
end
/-- what U may hold -/
def OwnW (U : AS) (H : Hp) : Prop := ∀ b o, H b = some o → U b → Mut (some o)
theorem Own.w {U : AS} {H : Hp} (h : Own U H) : OwnW U H := fun b o e u => by
  have := h b u
  rw [e] at this
  exact this
theorem SqT.fr {K : PySem.W.Frag} {U : AS} {a : Addr} {vs : List V} (f : Fr U H H') (o : OwnW U H) (h : SqT K H a vs) : SqT K H' a vs := by
  have nm : ∀ u, H a = some u → ¬ Mut (some u) → H' a = some u := fun u e n => f a u e fun z => n (o a u e z)
  rcases h with (h | ⟨ob, h⟩) | h
  · exact .inl (.inl (nm _ h fun z => z))
  · exact .inl (.inr ⟨ob, nm _ h fun z => z⟩)
  · exact .inr h
theorem SqU.fr {K : PySem.W.Frag} {U : AS} {a : Addr} {vs : List V} (f : Fr U H H') (o : OwnW U H) (h : SqU K H a vs) : SqU K H' a vs := by
  refine ⟨SqT.fr f o h.1, ?_⟩
  rcases h.2 with ⟨ob, u, q, n⟩ | q
  · exact .inl ⟨ob, u, f a _ q fun z => o a _ q z, n⟩
  · exact .inr q
theorem FzL.fr {U : AS} {a : Addr} {vs : List V} (f : Fr U H H') (o : OwnW U H) (h : FzL L H a vs) : FzL L H' a vs := by
  rcases h with ⟨ob, h⟩ | h
  · exact .inl ⟨ob, f a _ h fun z => o a _ h z⟩
  · exact .inr h
mutual
theorem KRep.fr {U : AS} (f : Fr U H H') (o : OwnW U H) : ∀ {k : NK} {v : V}, KRep L H k v → KRep L H' k v
  | .none, _, h => h
  | .num _, _, h => h
  | .text _, _, h => h
  | .tup ks, v, h => by
    simp only [KRep] at h ⊢
    obtain ⟨a, vs, e, sq, r⟩ := h
    exact ⟨a, vs, e, SqU.fr f o sq, KReps.fr f o r⟩
theorem KReps.fr {U : AS} (f : Fr U H H') (o : OwnW U H) : ∀ {ks : List NK} {vs : List V}, KReps L H ks vs → KReps L H' ks vs
  | [], _, h => h
  | k :: ks, vs, h => by
    simp only [KReps] at h ⊢
    obtain ⟨v, ws, e, r1, r2⟩ := h
    exact ⟨v, ws, e, KRep.fr f o r1, KReps.fr f o r2⟩
end
mutual
theorem rep_frW {U : AS} (f : Fr U H H') (o : OwnW U H) (hz : ∀ b, Z b → ¬ U b) (zz : ∀ b, Z b → Z' b) : ∀ {d : D} {v : V} {S : AS}, (∀ b, S b → ¬ U b) → Rep L Z H v d S → Rep L Z' H' v d S
  | .non, _, _, _, h => h
  | .bl _, _, _, _, h => h
  | .int _, _, _, _, h => h
  | .str _, _, _, _, h => h
  | .nd k ow xs, v, S, hs, h => by
    simp only [Rep] at h ⊢
    obtain ⟨a, vs, e, sh, ho, r⟩ := h
    refine ⟨a, vs, e, ?_, ho, reps_frW f o hz zz (fun b hb => hs b hb.1) r⟩
    cases k with
    | tup => exact ⟨sh.1, SqU.fr f o sh.2⟩
    | pr => exact ⟨sh.1, SqT.fr f o sh.2⟩
    | cl => exact ⟨sh.1, FzL.fr f o sh.2⟩
    | lst =>
      obtain ⟨h2, h3⟩ := sh
      refine ⟨f a _ h2 ?_, fun z => zz a (h3 z)⟩
      cases ow with
      | true => exact hs a (ho rfl)
      | false => exact hz a (h3 rfl)
    | dk ks =>
      obtain ⟨h0, h1, h2, h3⟩ := sh
      refine ⟨h0, h1, f a _ h2 ?_, fun z => zz a (h3 z)⟩
      cases ow with
      | true => exact hs a (ho rfl)
      | false => exact hz a (h3 rfl)
    | dt ks =>
      obtain ⟨h0, h1, ⟨as, g1, g2, h2⟩, h3⟩ := sh
      refine ⟨h0, h1, ⟨as, KReps.fr f o g1, g2, f a _ h2 ?_⟩, fun z => zz a (h3 z)⟩
      cases ow with
      | true => exact hs a (ho rfl)
      | false => exact hz a (h3 rfl)
    | ins c ns =>
      obtain ⟨h1, ⟨dx, h2⟩, h3⟩ := sh
      refine ⟨h1, ⟨dx, f a _ h2 ?_⟩, fun z => zz a (h3 z)⟩
      cases ow with
      | true => exact hs a (ho rfl)
      | false => exact hz a (h3 rfl)
theorem reps_frW {U : AS} (f : Fr U H H') (o : OwnW U H) (hz : ∀ b, Z b → ¬ U b) (zz : ∀ b, Z b → Z' b) : ∀ {ds : List D} {vs : List V} {S : AS}, (∀ b, S b → ¬ U b) → Reps L Z H vs ds S → Reps L Z' H' vs ds S
  | [], _, _, _, h => h
  | x :: xs, vs, S, hs, h => by
    simp only [Reps] at h ⊢
    obtain ⟨v, ws, S1, S2, e, h1, h2, dj, r1, r2⟩ := h
    exact ⟨v, ws, S1, S2, e, h1, h2, dj, rep_frW f o hz zz (fun b hb => hs b (h1 b hb)) r1, reps_frW f o hz zz (fun b hb => hs b (h2 b hb)) r2⟩
end
theorem rep_fr {U : AS} (f : Fr U H H') (o : Own U H) (hz : ∀ b, Z b → ¬ U b) (zz : ∀ b, Z b → Z' b) {d : D} {v : V} {S : AS} (hs : ∀ b, S b → ¬ U b) (h : Rep L Z H v d S) : Rep L Z' H' v d S := rep_frW f o.w hz zz hs h
theorem reps_fr {U : AS} (f : Fr U H H') (o : Own U H) (hz : ∀ b, Z b → ¬ U b) (zz : ∀ b, Z b → Z' b) {d : List D} {v : List V} {S : AS} (hs : ∀ b, S b → ¬ U b) (h : Reps L Z H v d S) : Reps L Z' H' v d S := reps_frW f o.w hz zz hs h
theorem fr_refl {U : AS} : Fr U H H := fun _ _ h _ => h
theorem rep_z {d : D} {v : V} {S : AS} (zz : ∀ b, Z b → Z' b) (h : Rep L Z H v d S) : Rep L Z' H v d S :=
  rep_fr (U := NoAS) fr_refl (fun _ z => z.elim) (fun _ _ z => z) zz (fun _ _ z => z) h
theorem reps_z {d : List D} {v : List V} {S : AS} (zz : ∀ b, Z b → Z' b) (h : Reps L Z H v d S) : Reps L Z' H v d S :=
  reps_fr (U := NoAS) fr_refl (fun _ z => z.elim) (fun _ _ z => z) zz (fun _ _ z => z) h
mutual
/-- shared from here on -/
theorem rep_frz : ∀ {d : D} {v : V} {S : AS}, (∀ b, S b → Z' b) → (∀ b, Z b → Z' b) → Rep L Z H v d S → Rep L Z' H v d.frz NoAS
  | .non, _, _, _, _, h => h
  | .bl _, _, _, _, _, h => h
  | .int _, _, _, _, _, h => h
  | .str _, _, _, _, _, h => h
  | .nd k ow xs, v, S, hs, zz, h => by
    simp only [Rep, D.frz] at h ⊢
    obtain ⟨a, vs, e, sh, ho, r⟩ := h
    refine ⟨a, vs, e, ?_, (fun z => by cases z), reps_mono (fun _ hb => ⟨hb, (fun z => by cases z)⟩) (reps_frz (fun b hb => hs b hb.1) zz r)⟩
    cases k with
    | tup => exact ⟨rfl, sh.2⟩
    | pr => exact ⟨rfl, sh.2⟩
    | cl => exact ⟨rfl, sh.2⟩
    | lst =>
      obtain ⟨h2, h3⟩ := sh
      refine ⟨h2, fun _ => ?_⟩
      cases ow with
      | true => exact hs a (ho rfl)
      | false => exact zz a (h3 rfl)
    | dk ks =>
      obtain ⟨h0, h1, h2, h3⟩ := sh
      refine ⟨h0, h1, h2, fun _ => ?_⟩
      cases ow with
      | true => exact hs a (ho rfl)
      | false => exact zz a (h3 rfl)
    | dt ks =>
      obtain ⟨h0, h1, h2, h3⟩ := sh
      refine ⟨h0, h1, h2, fun _ => ?_⟩
      cases ow with
      | true => exact hs a (ho rfl)
      | false => exact zz a (h3 rfl)
    | ins c ns =>
      obtain ⟨h1, h2, h3⟩ := sh
      refine ⟨h1, h2, fun _ => ?_⟩
      cases ow with
      | true => exact hs a (ho rfl)
      | false => exact zz a (h3 rfl)
theorem reps_frz : ∀ {ds : List D} {vs : List V} {S : AS}, (∀ b, S b → Z' b) → (∀ b, Z b → Z' b) → Reps L Z H vs ds S → Reps L Z' H vs (frzL ds) NoAS
  | [], _, _, _, _, h => h
  | x :: xs, vs, S, hs, zz, h => by
    simp only [Reps, frzL] at h ⊢
    obtain ⟨v, ws, S1, S2, e, h1, h2, dj, r1, r2⟩ := h
    exact ⟨v, ws, NoAS, NoAS, e, fun _ z => z, fun _ z => z, fun _ z => z.elim, rep_frz (fun b hb => hs b (h1 b hb)) zz r1, reps_frz (fun b hb => hs b (h2 b hb)) zz r2⟩
end
mutual
/-- without a shared node nothing hangs on what is shared -/
theorem rep_nf : ∀ {d : D} {v : V} {S : AS}, d.nf = true → Rep L Z H v d S → Rep L Z' H v d S
  | .non, _, _, _, h => h
  | .bl _, _, _, _, h => h
  | .int _, _, _, _, h => h
  | .str _, _, _, _, h => h
  | .nd .tup ow xs, v, S, n, h => by
    simp only [Rep, D.nf] at n h ⊢
    obtain ⟨a, vs, e, sh, ho, r⟩ := h
    exact ⟨a, vs, e, sh, ho, reps_nf n r⟩
  | .nd .cl ow xs, v, S, n, h => by
    simp only [Rep, D.nf] at n h ⊢
    obtain ⟨a, vs, e, sh, ho, r⟩ := h
    exact ⟨a, vs, e, sh, ho, reps_nf n r⟩
  | .nd .lst ow xs, v, S, n, h => by
    simp only [Rep, D.nf, Bool.and_eq_true] at n h ⊢
    obtain ⟨a, vs, e, ⟨h2, h3⟩, ho, r⟩ := h
    obtain ⟨rfl, n⟩ := n
    exact ⟨a, vs, e, ⟨h2, fun z => by cases z⟩, ho, reps_nf n r⟩
  | .nd (.dk ks) ow xs, v, S, n, h => by
    simp only [Rep, D.nf, Bool.and_eq_true] at n h ⊢
    obtain ⟨a, vs, e, ⟨h0, h1, h2, h3⟩, ho, r⟩ := h
    obtain ⟨rfl, n⟩ := n
    exact ⟨a, vs, e, ⟨h0, h1, h2, fun z => by cases z⟩, ho, reps_nf n r⟩
  | .nd (.dt ks) ow xs, v, S, n, h => by
    simp only [Rep, D.nf, Bool.and_eq_true] at n h ⊢
    obtain ⟨a, vs, e, ⟨h0, h1, h2, h3⟩, ho, r⟩ := h
    obtain ⟨rfl, n⟩ := n
    exact ⟨a, vs, e, ⟨h0, h1, h2, fun z => by cases z⟩, ho, reps_nf n r⟩
  | .nd (.ins c ns) ow xs, v, S, n, h => by
    simp only [Rep, D.nf, Bool.and_eq_true] at n h ⊢
    obtain ⟨a, vs, e, ⟨h1, h2, h3⟩, ho, r⟩ := h
    obtain ⟨rfl, n⟩ := n
    exact ⟨a, vs, e, ⟨h1, h2, fun z => by cases z⟩, ho, reps_nf n r⟩
theorem reps_nf : ∀ {ds : List D} {vs : List V} {S : AS}, nfL ds = true → Reps L Z H vs ds S → Reps L Z' H vs ds S
  | [], _, _, _, h => h
  | x :: xs, vs, S, n, h => by
    simp only [Reps, nfL, Bool.and_eq_true] at n h ⊢
    obtain ⟨v, ws, S1, S2, e, h1, h2, dj, r1, r2⟩ := h
    exact ⟨v, ws, S1, S2, e, h1, h2, dj, rep_nf n.1 r1, reps_nf n.2 r2⟩
end
mutual
/-- nothing owned -/
theorem rep_fz : ∀ {d : D} {v : V} {S S' : AS}, d.fz = true → Rep L Z H v d S → Rep L Z H v d S'
  | .non, _, _, _, _, h => h
  | .bl _, _, _, _, _, h => h
  | .int _, _, _, _, _, h => h
  | .str _, _, _, _, _, h => h
  | .nd k ow xs, v, S, S', n, h => by
    simp only [Rep, D.fz, Bool.and_eq_true, Bool.not_eq_true'] at n h ⊢
    obtain ⟨a, vs, e, sh, ho, r⟩ := h
    obtain ⟨rfl, n⟩ := n
    exact ⟨a, vs, e, sh, fun z => (by cases z), reps_fz n r⟩
theorem reps_fz : ∀ {ds : List D} {vs : List V} {S S' : AS}, fzL ds = true → Reps L Z H vs ds S → Reps L Z H vs ds S'
  | [], _, _, _, _, h => h
  | x :: xs, vs, S, S', n, h => by
    simp only [Reps, fzL, Bool.and_eq_true] at n h ⊢
    obtain ⟨v, ws, S1, S2, e, h1, h2, dj, r1, r2⟩ := h
    exact ⟨v, ws, NoAS, NoAS, e, fun _ z => z.elim, fun _ z => z.elim, fun _ z => z.elim, rep_fz n.1 r1, reps_fz n.2 r2⟩
end
mutual
theorem frz_fz : ∀ d : D, d.frz.fz = true
  | .non => rfl
  | .bl _ => rfl
  | .int _ => rfl
  | .str _ => rfl
  | .nd k o xs => by simp only [D.frz, D.fz]; rw [frzL_fz xs]; rfl
theorem frzL_fz : ∀ ds : List D, fzL (frzL ds) = true
  | [] => rfl
  | x :: xs => by simp only [frzL, fzL]; rw [frz_fz x, frzL_fz xs]; rfl
end
mutual
theorem frz_of_fz : ∀ d : D, d.fz = true → d.frz = d
  | .non, _ => rfl
  | .bl _, _ => rfl
  | .int _, _ => rfl
  | .str _, _ => rfl
  | .nd k o xs, h => by
    simp only [D.fz, Bool.and_eq_true, Bool.not_eq_true'] at h
    simp only [D.frz]
    rw [frzL_of_fz xs h.2, h.1]
theorem frzL_of_fz : ∀ ds : List D, fzL ds = true → frzL ds = ds
  | [], _ => rfl
  | x :: xs, h => by
    simp only [fzL, Bool.and_eq_true] at h
    simp only [frzL]
    rw [frz_of_fz x h.1, frzL_of_fz xs h.2]
end

theorem fzL_append (a b : List D) : fzL (a ++ b) = (fzL a && fzL b) := by
  induction a with
  | nil => rfl
  | cons x xs ih => simp only [List.cons_append, fzL, ih, Bool.and_assoc]
theorem frzL_append (a b : List D) : frzL (a ++ b) = frzL a ++ frzL b := by
  induction a with
  | nil => rfl
  | cons x xs ih => simp only [List.cons_append, frzL, ih]
theorem nfL_append (a b : List D) : nfL (a ++ b) = (nfL a && nfL b) := by
  induction a with
  | nil => rfl
  | cons x xs ih => simp only [List.cons_append, nfL, ih, Bool.and_assoc]
/-! ### lists of values -/
theorem Reps.length : ∀ {ds : List D} {vs : List V} {S : AS}, Reps L Z H vs ds S → vs.length = ds.length
  | [], _, _, h => by simp only [Reps] at h; rw [h]; rfl
  | x :: xs, vs, S, h => by
    simp only [Reps] at h
    obtain ⟨v, ws, S1, S2, e, h1, h2, dj, r1, r2⟩ := h
    rw [e, List.length_cons, List.length_cons, Reps.length r2]
theorem reps_nil {S : AS} : Reps L Z H [] [] S := by simp only [Reps]
theorem reps_cons {v : V} {vs : List V} {d : D} {ds : List D} {S S1 S2 : AS} (h1 : ∀ b, S1 b → S b) (h2 : ∀ b, S2 b → S b) (dj : ∀ b, S1 b → ¬ S2 b) (r1 : Rep L Z H v d S1) (r2 : Reps L Z H vs ds S2) : Reps L Z H (v :: vs) (d :: ds) S := by
  simp only [Reps]
  exact ⟨v, vs, S1, S2, rfl, h1, h2, dj, r1, r2⟩
theorem reps_append : ∀ {ds : List D} {vs ws : List V} {es : List D} {S S1 S2 : AS}, (∀ b, S1 b → S b) → (∀ b, S2 b → S b) → (∀ b, S1 b → ¬ S2 b) → Reps L Z H vs ds S1 → Reps L Z H ws es S2 → Reps L Z H (vs ++ ws) (ds ++ es) S
  | [], _, _, _, _, _, _, h1, h2, dj, r1, r2 => by
    simp only [Reps] at r1
    rw [r1]
    exact reps_mono h2 r2
  | x :: xs, vs, ws, es, S, S1, S2, h1, h2, dj, r1, r2 => by
    simp only [Reps] at r1
    obtain ⟨v, us, T1, T2, e, t1, t2, tj, q1, q2⟩ := r1
    rw [e]
    exact reps_cons (S1 := T1) (S2 := fun b => T2 b ∨ S2 b) (fun b hb => h1 b (t1 b hb)) (fun b hb => hb.elim (fun z => h1 b (t2 b z)) (h2 b)) (fun b hb z => z.elim (tj b hb) (dj b (t1 b hb))) q1 (reps_append (fun b hb => .inl hb) (fun b hb => .inr hb) (fun b hb => dj b (t2 b hb)) q2 r2)
/-- the member at a place, and the rest beside it -/
theorem reps_at : ∀ {ds : List D} {vs : List V} {S : AS} {j : Nat} {d : D}, Reps L Z H vs ds S → ds[j]? = some d → ∃ (v : V) (S1 S2 : AS), vs[j]? = some v ∧ (∀ b, S1 b → S b) ∧ (∀ b, S2 b → S b) ∧ (∀ b, S1 b → ¬ S2 b) ∧ Rep L Z H v d S1 ∧
    ∀ {Z' : AS} {H' : Hp} {U S' S1' : AS} {v' : V} {d' : D}, Fr U H H' → OwnW U H → (∀ b, Z b → ¬ U b) → (∀ b, Z b → Z' b) → (∀ b, S2 b → ¬ U b) → (∀ b, S1' b → S' b) → (∀ b, S2 b → S' b) → (∀ b, S1' b → ¬ S2 b) → Rep L Z' H' v' d' S1' → Reps L Z' H' (vs.set j v') (ds.set j d') S'
  | [], _, _, _, _, _, e => by simp at e
  | x :: xs, vs, S, 0, d, h, e => by
    simp only [Reps] at h
    obtain ⟨v, ws, S1, S2, ev, h1, h2, dj, r1, r2⟩ := h
    simp only [List.getElem?_cons_zero, Option.some.injEq] at e
    subst e ev
    refine ⟨v, S1, S2, rfl, h1, h2, dj, r1, fun f o hz zz nu h1' h2' dj' r' => ?_⟩
    exact reps_cons h1' h2' dj' r' (reps_frW f o hz zz nu r2)
  | x :: xs, vs, S, j + 1, d, h, e => by
    simp only [Reps] at h
    obtain ⟨v, ws, S1, S2, ev, h1, h2, dj, r1, r2⟩ := h
    simp only [List.getElem?_cons_succ] at e
    subst ev
    obtain ⟨u, T1, T2, eu, t1, t2, tj, q, k⟩ := reps_at r2 e
    refine ⟨u, T1, fun b => S1 b ∨ T2 b, by simpa using eu, fun b hb => h2 b (t1 b hb), fun b hb => hb.elim (h1 b) (fun z => h2 b (t2 b z)), fun b hb z => z.elim (fun y => dj b y (t1 b hb)) (tj b hb), q, ?_⟩
    intro Z' H' U S' S1' v' d' f o hz zz nu h1' h2' dj' r'
    exact reps_cons (S1 := S1) (S2 := fun b => T2 b ∨ S1' b) (fun b hb => h2' b (.inl hb)) (fun b hb => hb.elim (fun z => h2' b (.inr z)) (h1' b)) (fun b hb z => z.elim (fun y => dj b hb (t2 b y)) (fun y => dj' b y (.inl hb)))
      (rep_frW f o hz zz (fun b hb => nu b (.inl hb)) r1) (k f o hz zz (fun b hb => nu b (.inr hb)) (fun b hb => .inr hb) (fun b hb => .inl hb) (fun b hb z => dj' b hb (.inr z)) r')
theorem Reps.get {ds : List D} {vs : List V} {S : AS} {j : Nat} {d : D} (h : Reps L Z H vs ds S) (e : ds[j]? = some d) : ∃ v, vs[j]? = some v ∧ Rep L Z H v d S := by
  obtain ⟨v, S1, S2, ev, h1, _, _, r, _⟩ := reps_at h e
  exact ⟨v, ev, rep_mono h1 r⟩
theorem reps_drop : ∀ (n : Nat) {ds : List D} {vs : List V} {S : AS}, Reps L Z H vs ds S → Reps L Z H (vs.drop n) (ds.drop n) S
  | 0, _, _, _, h => h
  | n + 1, [], vs, S, h => by
    simp only [Reps] at h
    rw [h]
    simp only [List.drop_nil, Reps]
  | n + 1, x :: xs, vs, S, h => by
    simp only [Reps] at h
    obtain ⟨v, ws, S1, S2, ev, h1, h2, dj, r1, r2⟩ := h
    subst ev
    exact reps_mono h2 (reps_drop n r2)
theorem reps_take : ∀ (n : Nat) {ds : List D} {vs : List V} {S : AS}, Reps L Z H vs ds S → Reps L Z H (vs.take n) (ds.take n) S
  | 0, ds, vs, S, h => by simp only [List.take_zero, Reps]
  | n + 1, [], vs, S, h => by
    simp only [Reps] at h
    rw [h]
    simp only [List.take_nil, Reps]
  | n + 1, x :: xs, vs, S, h => by
    simp only [Reps] at h
    obtain ⟨v, ws, S1, S2, ev, h1, h2, dj, r1, r2⟩ := h
    subst ev
    exact reps_cons h1 h2 dj r1 (reps_take n r2)
theorem reps_split : ∀ {ds es : List D} {vs : List V} {S : AS}, Reps L Z H vs (ds ++ es) S → ∃ (us ws : List V) (S1 S2 : AS), vs = us ++ ws ∧ (∀ b, S1 b → S b) ∧ (∀ b, S2 b → S b) ∧ (∀ b, S1 b → ¬ S2 b) ∧ Reps L Z H us ds S1 ∧ Reps L Z H ws es S2
  | [], es, vs, S, h => ⟨[], vs, NoAS, S, rfl, fun _ z => z.elim, fun _ z => z, fun _ z => z.elim, reps_nil, h⟩
  | x :: xs, es, vs, S, h => by
    simp only [List.cons_append, Reps] at h
    obtain ⟨v, ws, S1, S2, e, h1, h2, dj, r1, r2⟩ := h
    obtain ⟨us', ws', T1, T2, e', t1, t2, tj, q1, q2⟩ := reps_split r2
    subst e e'
    exact ⟨v :: us', ws', OrS' S1 T1, T2, rfl, fun b z => z.elim (h1 b) fun z => h2 b (t1 b z), fun b z => h2 b (t2 b z), fun b z y => z.elim (fun z => dj b z (t2 b y)) fun z => tj b z y,
      reps_cons (S1 := S1) (S2 := T1) (fun _ z => .inl z) (fun _ z => .inr z) (fun b z y => dj b z (t1 b y)) r1 q1, q2⟩
theorem reps_reverse : ∀ {ds : List D} {vs : List V} {S : AS}, Reps L Z H vs ds S → Reps L Z H vs.reverse ds.reverse S
  | [], vs, S, h => by
    simp only [Reps] at h
    subst h
    exact reps_nil
  | x :: xs, vs, S, h => by
    simp only [Reps] at h
    obtain ⟨v, ws, S1, S2, e, h1, h2, dj, r1, r2⟩ := h
    subst e
    rw [List.reverse_cons, List.reverse_cons]
    exact reps_append (S1 := S2) (S2 := S1) h2 h1 (fun b z y => dj b y z) (reps_reverse r2) (reps_cons (S1 := S1) (S2 := NoAS) (fun _ z => z) (fun _ z => z.elim) (fun _ _ z => z) r1 reps_nil)
theorem reps_rep {ds : List D} {vs : List V} {S : AS} (f : fzL ds = true) (h : Reps L Z H vs ds S) : ∀ (k : Nat), Reps L Z H (List.replicate k vs).flatten (List.replicate k ds).flatten S
  | 0 => by simp only [List.replicate_zero, List.flatten_nil, Reps]
  | k + 1 => by
    simp only [List.replicate_succ, List.flatten_cons]
    exact reps_append (S1 := NoAS) (S2 := S) (fun _ z => z.elim) (fun _ z => z) (fun _ z => z.elim) (reps_fz f h) (reps_rep f h k)
theorem reps_ints : ∀ {l : List Int} {ds : List D} {vs : List V} {S : AS}, intsD ds = some l → Reps L Z H vs ds S → vs = l.map V.int
  | l, [], vs, S, e, h => by
    simp only [Reps] at h
    simp only [intsD, Option.some.injEq] at e
    rw [h, ← e]; rfl
  | l, x :: xs, vs, S, e, h => by
    simp only [Reps] at h
    obtain ⟨v, ws, S1, S2, ev, h1, h2, dj, r1, r2⟩ := h
    subst ev
    cases x <;> simp only [intsD, reduceCtorEq] at e
    rename_i i
    cases q : intsD xs with
    | none => rw [q] at e; simp at e
    | some m =>
      rw [q] at e
      simp only [Option.map_some, Option.some.injEq] at e
      subst e
      simp only [Rep] at r1
      rw [r1, reps_ints q r2]; rfl
theorem reps_of_ints : ∀ (l : List Int) {S : AS}, Reps L Z H (l.map V.int) (l.map D.int) S
  | [], _ => by simp only [List.map_nil, Reps]
  | i :: l, S => reps_cons (S1 := NoAS) (S2 := NoAS) (fun _ z => z.elim) (fun _ z => z.elim) (fun _ z => z.elim) (by simp only [Rep]) (reps_of_ints l)
theorem reps_bls : ∀ {l : List Bool} {ds : List D} {vs : List V} {S : AS}, blsD ds = some l → Reps L Z H vs ds S → vs = l.map V.bl
  | l, [], vs, S, e, h => by
    simp only [Reps] at h
    simp only [blsD, Option.some.injEq] at e
    rw [h, ← e]; rfl
  | l, x :: xs, vs, S, e, h => by
    simp only [Reps] at h
    obtain ⟨v, ws, S1, S2, ev, h1, h2, dj, r1, r2⟩ := h
    subst ev
    cases x <;> simp only [blsD, reduceCtorEq] at e
    rename_i i
    cases q : blsD xs with
    | none => rw [q] at e; simp at e
    | some m =>
      rw [q] at e
      simp only [Option.map_some, Option.some.injEq] at e
      subst e
      simp only [Rep] at r1
      rw [r1, reps_bls q r2]; rfl
end

/-! ### the frame's values -/
structure RepE (L : Lo) (Z : AS) (H : Hp) (σ : St) (e : Env) (S : AS) : Prop where
  len : σ.length = e.length
  ex : ∃ F : Nat → AS, (∀ i b, F i b → S b) ∧ (∀ i j b, i ≠ j → F i b → ¬ F j b) ∧ ∀ (i : Nat) d, e[i]? = some (some d) → ∃ v, σ[i]? = some (some v) ∧ Rep L Z H v d (F i)
section
variable {L : Lo} {Z Z' : AS} {H H' : Hp} {σ : St} {e : Env} {S S' : AS}
theorem RepE.mono (h : RepE L Z H σ e S) (hs : ∀ b, S b → S' b) : RepE L Z H σ e S' := by
  obtain ⟨F, f1, f2, f3⟩ := h.ex
  exact ⟨h.len, F, fun i b hb => hs b (f1 i b hb), f2, f3⟩
theorem RepE.fr {U : AS} (h : RepE L Z H σ e S) (f : Fr U H H') (o : Own U H) (hz : ∀ b, Z b → ¬ U b) (zz : ∀ b, Z b → Z' b) (nu : ∀ b, S b → ¬ U b) : RepE L Z' H' σ e S := by
  obtain ⟨F, f1, f2, f3⟩ := h.ex
  refine ⟨h.len, F, f1, f2, fun i d hd => ?_⟩
  obtain ⟨v, ev, r⟩ := f3 i d hd
  exact ⟨v, ev, rep_fr f o hz zz (fun b hb => nu b (f1 i b hb)) r⟩
theorem RepE.z (h : RepE L Z H σ e S) (zz : ∀ b, Z b → Z' b) : RepE L Z' H σ e S := h.fr (U := NoAS) fr_refl (fun _ z => z.elim) (fun _ _ z => z) zz (fun _ _ z => z)
theorem at_some {i : Nat} {d : D} (h : e.at i = some d) : e[i]? = some (some d) := by
  unfold Env.at at h
  cases q : e[i]? with
  | none => rw [q] at h; cases h
  | some x => rw [q] at h; simpa using h
/-- one name's value, and the others beside it -/
theorem RepE.at (h : RepE L Z H σ e S) {i : Nat} {d : D} (hd : e.at i = some d) : ∃ (v : V) (S1 S2 : AS), σ[i]? = some (some v) ∧ (∀ b, S1 b → S b) ∧ (∀ b, S2 b → S b) ∧ (∀ b, S1 b → ¬ S2 b) ∧ Rep L Z H v d S1 ∧ RepE L Z H σ (e.set i none) S2 := by
  obtain ⟨F, f1, f2, f3⟩ := h.ex
  obtain ⟨v, ev, r⟩ := f3 i d (at_some hd)
  refine ⟨v, F i, fun b => ∃ j, j ≠ i ∧ F j b, ev, f1 i, fun b ⟨j, _, hb⟩ => f1 j b hb, fun b hb ⟨j, nj, hb'⟩ => f2 j i b nj hb' hb, r, ?_⟩
  refine ⟨by simpa using h.len, fun j b => j ≠ i ∧ F j b, fun j b hb => ⟨j, hb⟩, fun j k b n hb hc => f2 j k b n hb.2 hc.2, fun j d' hj => ?_⟩
  by_cases c : i = j
  · subst c
    have hlt : i < e.length := by
      have := at_some hd
      exact (List.getElem?_eq_some_iff.mp this).1
    rw [List.getElem?_set_self hlt] at hj; cases hj
  · rw [List.getElem?_set_ne c] at hj
    obtain ⟨v', ev', r'⟩ := f3 j d' hj
    exact ⟨v', ev', rep_mono (fun b hb => ⟨fun z => c z.symm, hb⟩) r'⟩
/-- a name's value is put in -/
theorem RepE.put {S1 : AS} (h : RepE L Z H σ (e.set i none) S) {d : D} {v : V} (hv : σ[i]? = some (some v)) (r : Rep L Z H v d S1) (h1 : ∀ b, S1 b → S' b) (h2 : ∀ b, S b → S' b) (dj : ∀ b, S1 b → ¬ S b) : RepE L Z H σ (e.set i (some d)) S' := by
  obtain ⟨F, f1, f2, f3⟩ := h.ex
  have hl : i < e.length := by
    have := h.len
    rw [List.length_set] at this
    rw [← this]
    exact (List.getElem?_eq_some_iff.mp hv).1
  refine ⟨by simpa using h.len, fun j => if j = i then S1 else F j, fun j b hb => ?_, fun j k b n hb hc => ?_, fun j d' hj => ?_⟩
  all_goals try dsimp only at hb
  all_goals try dsimp only at hc
  · by_cases c : j = i
    · rw [if_pos c] at hb; exact h1 b hb
    · rw [if_neg c] at hb; exact h2 b (f1 j b hb)
  · by_cases c : j = i
    · rw [if_pos c] at hb
      by_cases c' : k = i
      · exact n (c.trans c'.symm)
      · rw [if_neg c'] at hc; exact dj b hb (f1 k b hc)
    · rw [if_neg c] at hb
      by_cases c' : k = i
      · rw [if_pos c'] at hc; exact dj b hc (f1 j b hb)
      · rw [if_neg c'] at hc; exact f2 j k b n hb hc
  · by_cases c : i = j
    · subst c
      rw [List.getElem?_set_self hl] at hj
      cases hj
      refine ⟨v, hv, ?_⟩
      simp only [if_pos]
      exact r
    · rw [List.getElem?_set_ne c] at hj
      obtain ⟨v', ev', r'⟩ := f3 j d' (by rw [List.getElem?_set_ne c]; exact hj)
      refine ⟨v', ev', ?_⟩
      simp only [if_neg (fun z : j = i => c z.symm)]
      exact r'
/-- names are forgotten -/
theorem RepE.forget (h : RepE L Z H σ e S) (i : Nat) : RepE L Z H σ (e.set i none) S := by
  obtain ⟨F, f1, f2, f3⟩ := h.ex
  refine ⟨by simpa using h.len, F, f1, f2, fun j d hj => ?_⟩
  by_cases c : i = j
  · subst c
    by_cases hl : i < e.length
    · rw [List.getElem?_set_self hl] at hj; cases hj
    · rw [List.getElem?_eq_none (by simpa using hl)] at hj; cases hj
  · rw [List.getElem?_set_ne c] at hj
    exact f3 j d hj
/-- a name is stored -/
theorem RepE.store {S1 : AS} (h : RepE L Z H σ e S) {i : Nat} {d : D} {v : V} (r : Rep L Z H v d S1) (h1 : ∀ b, S1 b → S' b) (h2 : ∀ b, S b → S' b) (dj : ∀ b, S1 b → ¬ S b) : RepE L Z H (σ.set i (some v)) (e.set i (some d)) S' := by
  have h' : RepE L Z H (σ.set i (some v)) (e.set i none) S := by
    obtain ⟨F, f1, f2, f3⟩ := h.ex
    refine ⟨by simpa using h.len, F, f1, f2, fun j d hj => ?_⟩
    by_cases c : i = j
    · subst c
      by_cases hl : i < e.length
      · rw [List.getElem?_set_self hl] at hj; cases hj
      · rw [List.getElem?_eq_none (by simpa using hl)] at hj; cases hj
    · rw [List.getElem?_set_ne c] at hj ⊢
      exact f3 j d hj
  by_cases hl : i < σ.length
  · exact h'.put (List.getElem?_set_self hl) r h1 h2 dj
  · have e1 : σ.set i (some v) = σ := List.set_eq_of_length_le (Nat.le_of_not_lt hl)
    have e2 : e.set i (some d) = e := List.set_eq_of_length_le (by rw [← h.len]; exact Nat.le_of_not_lt hl)
    rw [e1, e2]
    exact h.mono h2
end
end PL

/-! PL.Mid: a run of the small language, told as a wish of the hand layer; what is in hand between two of its steps. -/
namespace PL
open PySem L2

def OrS (A B : AS) : AS := fun b => A b ∨ B b
/-- from a heap to one behind it -/
structure Step (Z S : AS) (H : Hp) (Z' S' : AS) (H' : Hp) : Prop where
  zz : ∀ b, Z b → Z' b
  zs : ∀ b, Z' b → Z b ∨ S b ∨ H b = none
  ss : ∀ b, S' b → S b ∨ H b = none
  fr : Fr S H H'
  nn : ∀ b, H' b = none → H b = none
structure Ok (Z S : AS) (H : Hp) : Prop where
  dj : ∀ b, S b → ¬ Z b
  own : Own S H
  zd : ∀ b, Z b → H b ≠ none
theorem Ok.sd {Z S : AS} {H : Hp} (k : Ok Z S H) {b : Addr} (h : S b) : H b ≠ none := fun e => by
  have := k.own b h
  rw [e] at this
  exact this
theorem Ok.mono {Z S S' : AS} {H : Hp} (k : Ok Z S H) (h : ∀ b, S' b → S b) : Ok Z S' H := ⟨fun b hb => k.dj b (h b hb), fun b hb => k.own b (h b hb), k.zd⟩
theorem Step.refl {Z S S' : AS} {H : Hp} (h : ∀ b, S' b → S b) : Step Z S H Z S' H := ⟨fun _ z => z, fun _ z => .inl z, fun b z => .inl (h b z), fr_refl, fun _ z => z⟩
theorem Step.trans {Z S Z1 S1 Z2 S2 : AS} {H H1 H2 : Hp} (a : Step Z S H Z1 S1 H1) (b : Step Z1 S1 H1 Z2 S2 H2) : Step Z S H Z2 S2 H2 where
  zz := fun c z => b.zz c (a.zz c z)
  zs := fun c z => by
    rcases b.zs c z with z | z | z
    · exact a.zs c z
    · rcases a.ss c z with z | z
      · exact .inr (.inl z)
      · exact .inr (.inr z)
    · exact .inr (.inr (a.nn c z))
  ss := fun c z => by
    rcases b.ss c z with z | z
    · exact a.ss c z
    · exact .inr (a.nn c z)
  fr := fun c o e n => b.fr c o (a.fr c o e n) fun z => by
    rcases a.ss c z with z | z
    · exact n z
    · rw [e] at z; cases z
  nn := fun c z => a.nn c (b.nn c z)
/-- what is held beside stays -/
theorem Step.hold {Z S1 S2 Z' T : AS} {H H' : Hp} (k : Ok Z (OrS S1 S2) H) (dj : ∀ b, S1 b → ¬ S2 b) (a : Step Z S1 H Z' T H') (k' : Ok Z' T H') :
    Step Z (OrS S1 S2) H Z' (OrS T S2) H' ∧ Ok Z' (OrS T S2) H' ∧ (∀ b, T b → ¬ S2 b) := by
  have t2 : ∀ b, T b → ¬ S2 b := fun b hb h2 => by
    rcases a.ss b hb with z | z
    · exact dj b z h2
    · exact k.sd (.inr h2) z
  refine ⟨⟨a.zz, fun b z => ?_, fun b z => ?_, fun b o e n => a.fr b o e fun z => n (.inl z), a.nn⟩, ⟨fun b hb z => ?_, fun b hb => ?_, k'.zd⟩, t2⟩
  · rcases a.zs b z with z | z | z
    · exact .inl z
    · exact .inr (.inl (.inl z))
    · exact .inr (.inr z)
  · rcases z with z | z
    · rcases a.ss b z with z | z
      · exact .inl (.inl z)
      · exact .inr z
    · exact .inl (.inr z)
  · rcases hb with hb | hb
    · exact k'.dj b hb z
    · rcases a.zs b z with z | z | z
      · exact k.dj b (.inr hb) z
      · exact dj b z hb
      · exact k.sd (.inr hb) z
  · rcases hb with hb | hb
    · exact k'.own b hb
    · have q := k.own b (.inr hb)
      cases e : H b with
      | none => exact absurd e (k.sd (.inr hb))
      | some o =>
        rw [a.fr b o e fun z => dj b z hb, ← e]
        exact q
theorem Step.frm {Z S Z' T : AS} {H H' : Hp} (a : Step Z S H Z' T H') : Fr S H H' := a.fr

/-- an exception of an own class -/
def RepX (L : Lo) (Z : AS) (H : Hp) (cls : Value) (dd : Option Addr) (x : D) : Prop :=
  ∃ (c : Nat) (ns : List Str) (xs : List D) (vs : List V) (a : Addr), x = .nd (.ins c ns) false xs ∧ cls = .ref (L.cls c) ∧ dd = some a ∧ ns.length = vs.length ∧ H a = some (.xd (ns.zip vs)) ∧ Reps L Z H vs xs NoAS

section
variable (L : Lo) (W : WX) (σ : St)
/-- what is wanted of a result -/
def Good {α β : Type} (rep : AS → Hp → β → α → AS → Prop) (Z S : AS) (H : Hp) (r : Out α) (Q : β → Hp → Prop) : Prop :=
  match r with
  | .val d e => ∀ v H' Z' S1 S2, Step Z S H Z' (OrS S1 S2) H' → Ok Z' (OrS S1 S2) H' → (∀ b, S1 b → ¬ S2 b) → RepE L Z' H' σ e S1 → rep Z' H' v d S2 → Q v H'
  | .exc x e => ∀ cls dd H' Z' S1, Step Z S H Z' S1 H' → Ok Z' S1 H' → RepE L Z' H' σ e S1 → RepX L Z' H' cls dd x → W cls dd σ H'
theorem Good.step {L : Lo} {W : WX} {σ : St} {α β : Type} {rep : AS → Hp → β → α → AS → Prop} {Z S Z1 S1 : AS} {H H1 : Hp} {r : Out α} {Q : β → Hp → Prop} (g : Good L W σ rep Z S H r Q) (a : Step Z S H Z1 S1 H1) : Good L W σ rep Z1 S1 H1 r Q := by
  cases r with
  | val d e => exact fun v H' Z' T1 T2 b k dj re rv => g v H' Z' T1 T2 (a.trans b) k dj re rv
  | exc x e => exact fun cls dd H' Z' T1 b k re rx => g cls dd H' Z' T1 (a.trans b) k re rx
def tG {α β : Type} (rep : AS → Hp → β → α → AS → Prop) (ev : Env → R α) : St → Hp → (β → Hp → Prop) → Prop := fun σ H Q =>
  ∃ Z S e r, Ok Z S H ∧ RepE L Z H σ e S ∧ ev e = some r ∧ Good L W σ rep Z S H r Q
/-- between two steps: the frame's values e, what is in hand, what is still to run -/
def Mid (H : Hp) (e : Env) (vs : List V) (ds : List D) {γ β' : Type} (rep' : AS → Hp → β' → γ → AS → Prop) (Q : β' → Hp → Prop) (r : R γ) : Prop :=
  ∃ Z S1 S2, Ok Z (OrS S1 S2) H ∧ (∀ b, S1 b → ¬ S2 b) ∧ RepE L Z H σ e S1 ∧ Reps L Z H vs ds S2 ∧ ∃ r', r = some r' ∧ Good L W σ rep' Z (OrS S1 S2) H r' Q
end
section
variable {L : Lo} {W : WX} {σ : St} {α β γ β' : Type} {rep : AS → Hp → β → α → AS → Prop} {rep' : AS → Hp → β' → γ → AS → Prop} {H : Hp} {e : Env} {Q : β' → Hp → Prop} {vs : List V} {ds : List D}
theorem Ok.noOr {Z S : AS} {H : Hp} (k : Ok Z S H) : Ok Z (OrS S NoAS) H := k.mono fun b z => z.elim id (fun z => z.elim)
theorem tG.mid {ev : Env → R γ} (h : tG L W rep' ev σ H Q) : ∃ e, Mid L W σ H e [] [] rep' Q (ev e) := by
  obtain ⟨Z, S, e, r, k, re, h, g⟩ := h
  exact ⟨e, Z, S, NoAS, k.noOr, fun _ _ z => z, re, reps_nil, r, h, g.step (Step.refl fun b z => z.elim id (fun z => z.elim))⟩
/-- the next step runs -/
theorem Mid.bind {nv : β → List V} {nd : α → List D} {ev : Env → R α} {f : α → Env → R γ} (m : Mid L W σ H e vs ds rep' Q (bnd (ev e) f))
    (add : ∀ {Z : AS} {H : Hp} {v : β} {d : α} {S S2 S' : AS}, (∀ b, S b → S' b) → (∀ b, S2 b → S' b) → (∀ b, S b → ¬ S2 b) → rep Z H v d S → Reps L Z H vs ds S2 → Reps L Z H (nv v) (nd d) S') :
    tG L W rep ev σ H (fun v H1 => ∃ d e1, (∃ Z S, rep Z H1 v d S) ∧ Mid L W σ H1 e1 (nv v) (nd d) rep' Q (f d e1)) := by
  obtain ⟨Z, S1, S2, k, dj, re, rs, r', h, g⟩ := m
  have k1 : Ok Z S1 H := k.mono fun b z => .inl z
  cases q : ev e with
  | none => rw [q] at h; cases h
  | some r =>
    rw [q] at h
    refine ⟨Z, S1, e, r, k1, re, q, ?_⟩
    cases r with
    | exc x e1 =>
      simp only [bnd_exc, Option.some.injEq] at h
      subst h
      intro cls dd H' Z' T a k' re' rx
      obtain ⟨a', k2, _⟩ := a.hold k dj k'
      exact g cls dd H' Z' (OrS T S2) a' k2 (re'.mono fun b z => .inl z) rx
    | val d e1 =>
      simp only [bnd_val] at h
      intro v H' Z' T1 T2 a k' dj' re' rv
      obtain ⟨a', k2, d2⟩ := a.hold k dj k'
      refine ⟨d, e1, ⟨Z', T2, rv⟩, Z', T1, OrS T2 S2, k2.mono fun b z => ?_, fun b hb z => ?_, re', add (S := T2) (S2 := S2) (fun b z => Or.inl z) (fun b z => Or.inr z) (fun b z => d2 b (.inr z)) rv
        (reps_fr a.fr k1.own (fun b z y => k1.dj b y z) a.zz (fun b z y => dj b y z) rs), r', h, g.step (a'.trans (Step.refl fun b z => ?_))⟩
      · rcases z with z | z | z
        · exact .inl (.inl z)
        · exact .inl (.inr z)
        · exact .inr z
      · rcases z with z | z
        · exact dj' b hb z
        · exact d2 b (.inl hb) z
      · rcases z with z | z | z
        · exact .inl (.inl z)
        · exact .inl (.inr z)
        · exact .inr z
/-- .. a value, held -/
theorem tG.imp {ev : Env → R α} {Q Q' : β → Hp → Prop} (h : tG L W rep ev σ H Q) (q : ∀ v H1, Q v H1 → Q' v H1) : tG L W rep ev σ H Q' := by
  obtain ⟨Z, S, e1, r, k, re, h, g⟩ := h
  refine ⟨Z, S, e1, r, k, re, h, ?_⟩
  cases r with
  | exc x e1 => exact g
  | val d e1 => exact fun v H' Z' S1 S2 a k' dj re' rv => q _ _ (g v H' Z' S1 S2 a k' dj re' rv)
theorem Mid.one {ev : Env → R D} {f : D → Env → R γ} (m : Mid L W σ H e vs ds rep' Q (bnd (ev e) f)) :
    tG L W (Rep L) ev σ H (fun v H1 => ∃ d e1, Mid L W σ H1 e1 (vs ++ [v]) (ds ++ [d]) rep' Q (f d e1)) :=
  (m.bind (rep := Rep L) (nv := fun v => vs ++ [v]) (nd := fun d => ds ++ [d]) fun h1 h2 dj r1 r2 => reps_append h2 h1 (fun b z y => dj b y z) r2 (reps_cons (S2 := NoAS) (fun _ z => z) (fun _ z => z.elim) (fun _ _ z => z) r1 reps_nil)).imp fun _ _ ⟨d, e1, _, m⟩ => ⟨d, e1, m⟩
/-- .. a truth -/
abbrev repB : AS → Hp → Bool → Bool → AS → Prop := fun _ _ b c _ => b = c
theorem Mid.tst {ev : Env → R Bool} {f : Bool → Env → R γ} (m : Mid L W σ H e vs ds rep' Q (bnd (ev e) f)) :
    tG L W repB ev σ H (fun v H1 => ∃ e1, Mid L W σ H1 e1 vs ds rep' Q (f v e1)) :=
  (m.bind (rep := repB) (nv := fun _ => vs) (nd := fun _ => ds) fun h1 h2 dj r1 r2 => reps_mono h2 r2).imp fun _ _ ⟨d, e1, ⟨_, _, z⟩, m⟩ => ⟨e1, by rw [z]; exact m⟩
/-- .. values, held -/
theorem Mid.many {ev : Env → R (List D)} {f : List D → Env → R γ} (m : Mid L W σ H e vs ds rep' Q (bnd (ev e) f)) :
    tG L W (Reps L) ev σ H (fun ws H1 => ∃ es e1, ws.length = es.length ∧ Mid L W σ H1 e1 (vs ++ ws) (ds ++ es) rep' Q (f es e1)) :=
  (m.bind (rep := Reps L) (nv := fun v => vs ++ v) (nd := fun d => ds ++ d) fun h1 h2 dj r1 r2 => reps_append h2 h1 (fun b z y => dj b y z) r2 r1).imp fun _ _ ⟨d, e1, ⟨_, _, z⟩, m⟩ => ⟨d, e1, z.length, m⟩
/-- nothing in hand is wanted any more -/
theorem Mid.tG_of {ev : Env → R γ} (m : Mid L W σ H e vs ds rep' Q (ev e)) : tG L W rep' ev σ H Q := by
  obtain ⟨Z, S1, S2, k, dj, re, rs, r', h, g⟩ := m
  exact ⟨Z, S1, e, r', k.mono fun b z => .inl z, re, h, g.step (Step.refl fun b z => .inl z)⟩
theorem Mid.opt {x : Option γ} (m : Mid L W σ H e vs ds rep' Q (opt x e)) : ∃ d, x = some d ∧ Mid L W σ H e vs ds rep' Q (some (.val d e)) := by
  obtain ⟨Z, S1, S2, k, dj, re, rs, r', h, g⟩ := m
  unfold PL.opt at h
  cases x with
  | none => cases h
  | some d => exact ⟨d, rfl, Z, S1, S2, k, dj, re, rs, r', h, g⟩
theorem Mid.none (m : Mid L W σ H e vs ds rep' Q none) : False := by
  obtain ⟨Z, S1, S2, k, dj, re, rs, r', h, g⟩ := m
  cases h
/-- the end: the heap is as it is -/
theorem Mid.fin {d : γ} {v : β'} (m : Mid L W σ H e vs ds rep' Q (some (.val d e))) (h : ∀ Z S, Ok Z S H → Reps L Z H vs ds S → rep' Z H v d S) : Q v H := by
  obtain ⟨Z, S1, S2, k, dj, re, rs, r', e', g⟩ := m
  cases e'
  exact g v H Z S1 S2 (Step.refl fun _ z => z) k dj re (h Z S2 (k.mono fun b z => .inr z) rs)
theorem upd_fr {p : Addr} {ob : HO} (hp : H p = Option.none) (U : AS) : Fr U H (upd H p ob) := fun b o e _ => by
  rw [upd_ne (ne_of_none e hp)]; exact e
theorem upd_nn {p : Addr} {ob : HO} {b : Addr} (h : upd H p ob b = Option.none) : H b = Option.none := by
  unfold upd at h
  split at h
  · cases h
  · exact h
/-- a new object that may change: the result owns it -/
theorem Mid.new {d : D} {p : Addr} {ob : HO} {Q : V → Hp → Prop} (m : Mid L W σ H e vs ds (Rep L) Q (some (.val d e))) (hp : H p = Option.none) (mu : Mut (some ob))
    (h : ∀ Z S, Ok Z S H → Reps L Z (upd H p ob) vs ds S → (∀ b, S b → b ≠ p) → Rep L Z (upd H p ob) (.ref p) d (fun b => S b ∨ b = p)) : Q (.ref p) (upd H p ob) := by
  obtain ⟨Z, S1, S2, k, dj, re, rs, r', e', g⟩ := m
  cases e'
  have np : ∀ b, OrS S1 S2 b → b ≠ p := fun b z y => by subst y; exact k.sd z hp
  have nz : ∀ b, Z b → b ≠ p := fun b z y => by subst y; exact k.zd b z hp
  have f0 : Fr NoAS H (upd H p ob) := upd_fr hp NoAS
  have k2 : Ok Z (OrS S1 fun b => S2 b ∨ b = p) (upd H p ob) := by
    refine ⟨fun b hb z => ?_, fun b hb => ?_, fun b z y => k.zd b z (upd_nn y)⟩
    · rcases hb with hb | hb | hb
      · exact k.dj b (.inl hb) z
      · exact k.dj b (.inr hb) z
      · exact nz b z hb
    · by_cases c : b = p
      · subst c; rw [upd_same]; exact mu
      · rw [upd_ne c]
        rcases hb with hb | hb | hb
        · exact k.own b (.inl hb)
        · exact k.own b (.inr hb)
        · exact absurd hb c
  refine g (.ref p) _ Z S1 (fun b => S2 b ∨ b = p) ⟨fun _ z => z, fun _ z => .inl z, fun b z => ?_, upd_fr hp _, fun b => upd_nn⟩ k2 (fun b hb z => ?_) (re.fr f0 (fun _ z => z.elim) (fun _ _ z => z) (fun _ z => z) fun _ _ z => z)
    (h Z S2 (k.mono fun b z => .inr z) (reps_fr f0 (fun _ z => z.elim) (fun _ _ z => z) (fun _ z => z) (fun _ _ z => z) rs) fun b z => np b (.inr z))
  · rcases z with z | z | z
    · exact .inl (.inl z)
    · exact .inl (.inr z)
    · exact .inr (by rw [z]; exact hp)
  · rcases z with z | z
    · exact dj b hb z
    · exact np b (.inl hb) z
/-- a new object that never changes -/
theorem Mid.newT {d : D} {p : Addr} {ob : HO} {Q : V → Hp → Prop} (m : Mid L W σ H e vs ds (Rep L) Q (some (.val d e))) (hp : H p = Option.none)
    (h : ∀ Z S, Ok Z S H → Reps L Z (upd H p ob) vs ds S → Rep L Z (upd H p ob) (.ref p) d S) : Q (.ref p) (upd H p ob) := by
  obtain ⟨Z, S1, S2, k, dj, re, rs, r', e', g⟩ := m
  cases e'
  have f0 : Fr NoAS H (upd H p ob) := upd_fr hp NoAS
  have k2 : Ok Z (OrS S1 S2) (upd H p ob) := by
    refine ⟨k.dj, fun b hb => ?_, fun b z y => k.zd b z (upd_nn y)⟩
    rw [upd_ne (fun c => by subst c; exact k.sd hb hp)]
    exact k.own b hb
  exact g (.ref p) _ Z S1 S2 ⟨fun _ z => z, fun _ z => .inl z, fun b z => .inl z, upd_fr hp _, fun b => upd_nn⟩ k2 dj (re.fr f0 (fun _ z => z.elim) (fun _ _ z => z) (fun _ z => z) fun _ _ z => z)
    (h Z S2 (k.mono fun b z => .inr z) (reps_fr f0 (fun _ z => z.elim) (fun _ _ z => z) (fun _ z => z) (fun _ _ z => z) rs))
/-- a new list, a new tuple of what is in hand -/
theorem Mid.newL {xs : List D} {p : Addr} {ws : List V} {Q : V → Hp → Prop} (m : Mid L W σ H e vs ds (Rep L) Q (some (.val (.nd .lst true xs) e))) (hp : H p = Option.none)
    (h : ∀ Z S, Ok Z S H → Reps L Z H vs ds S → Reps L Z H ws xs S) : Q (.ref p) (upd H p (.lst ws)) := by
  have q : ∀ Z S, Ok Z S H → Reps L Z H vs ds S → Reps L Z (upd H p (.lst ws)) ws xs S := fun Z S k r =>
    reps_fr (upd_fr hp NoAS) (fun _ z => z.elim) (fun _ _ z => z) (fun _ z => z) (fun _ _ z => z) (h Z S k r)
  obtain ⟨Z, S1, S2, k, dj, re, rs, r', e', g⟩ := m
  refine Mid.new (W := W) (σ := σ) (e := e) (vs := ws) (ds := xs) (d := .nd .lst true xs) ⟨Z, S1, S2, k, dj, re, h Z S2 (k.mono fun b z => .inr z) rs, r', e', g⟩ hp trivial fun Z S k r np => ?_
  simp only [Rep]
  exact ⟨p, ws, rfl, ⟨upd_same, fun z => (by cases z)⟩, fun _ => .inr rfl, reps_mono (fun b z => ⟨.inl z, fun _ => np b z⟩) r⟩
theorem Mid.newU {xs : List D} {p : Addr} {ob : Obj} {ws : List V} {Q : V → Hp → Prop} (m : Mid L W σ H e vs ds (Rep L) Q (some (.val (.nd .tup false xs) e))) (hp : H p = Option.none) (ho : ob.dict = Option.none)
    (h : ∀ Z S, Ok Z S H → Reps L Z H vs ds S → Reps L Z H ws xs S) : Q (.ref p) (upd H p (.frz ob (.tup ws))) := by
  obtain ⟨Z, S1, S2, k, dj, re, rs, r', e', g⟩ := m
  refine Mid.newT (W := W) (σ := σ) (e := e) (vs := ws) (ds := xs) (d := .nd .tup false xs) ⟨Z, S1, S2, k, dj, re, h Z S2 (k.mono fun b z => .inr z) rs, r', e', g⟩ hp fun Z S k r => ?_
  simp only [Rep]
  exact ⟨p, ws, rfl, ⟨rfl, squ_new ho⟩, fun z => (by cases z), reps_mono (fun b z => ⟨z, fun y => (by cases y)⟩) r⟩
/-- a tuple beside, that nobody of ours holds -/
theorem Mid.growT {p : Addr} {ob : HO} {r : R γ} (m : Mid L W σ H e vs ds rep' Q r) (hp : H p = Option.none) : Mid L W σ (upd H p ob) e vs ds rep' Q r := by
  obtain ⟨Z, S1, S2, k, dj, re, rs, r', e', g⟩ := m
  have f0 : Fr NoAS H (upd H p ob) := upd_fr hp NoAS
  have k2 : Ok Z (OrS S1 S2) (upd H p ob) := by
    refine ⟨k.dj, fun b hb => ?_, fun b z y => k.zd b z (upd_nn y)⟩
    rw [upd_ne (fun c => by subst c; exact k.sd hb hp)]
    exact k.own b hb
  exact ⟨Z, S1, S2, k2, dj, re.fr f0 (fun _ z => z.elim) (fun _ _ z => z) (fun _ z => z) fun _ _ z => z, reps_fr f0 (fun _ z => z.elim) (fun _ _ z => z) (fun _ z => z) (fun _ _ z => z) rs, r', e', g.step ⟨fun _ z => z, fun _ z => .inl z, fun b z => .inl z, upd_fr hp _, fun b => upd_nn⟩⟩
/-- the ends, over what is in hand -/
structure Use (L : Lo) (Z S : AS) (H : Hp) (d : D) (Q : V → Hp → Prop) : Prop where
  fin : ∀ v, Rep L Z H v d S → Q v H
  newL : ∀ xs ws p, d = .nd .lst true xs → H p = Option.none → Reps L Z H ws xs S → Q (.ref p) (upd H p (.lst ws))
  newU : ∀ xs ws p (ob : Obj), d = .nd .tup false xs → H p = Option.none → ob.dict = Option.none → Reps L Z H ws xs S → Q (.ref p) (upd H p (.frz ob (.tup ws)))
theorem Mid.use {d : D} {Q : V → Hp → Prop} (m : Mid L W σ H e vs ds (Rep L) Q (some (.val d e))) : ∃ Z S, Ok Z S H ∧ Reps L Z H vs ds S ∧ Use L Z S H d Q := by
  obtain ⟨Z, S1, S2, k, dj, re, rs, r', e', g⟩ := id m
  cases e'
  refine ⟨Z, S2, k.mono fun b z => .inr z, rs, fun v r => g v H Z S1 S2 (Step.refl fun _ z => z) k dj re r, fun xs ws p ed hp r => ?_, fun xs ws p ob ed hp ho r => ?_⟩
  · subst ed
    refine Mid.new (W := W) (σ := σ) (e := e) (vs := ws) (ds := xs) (d := .nd .lst true xs) ⟨Z, S1, S2, k, dj, re, r, _, rfl, g⟩ hp trivial fun Z S k r np => ?_
    simp only [Rep]
    exact ⟨p, ws, rfl, ⟨upd_same, fun z => (by cases z)⟩, fun _ => .inr rfl, reps_mono (fun b z => ⟨.inl z, fun _ => np b z⟩) r⟩
  · subst ed
    refine Mid.newT (W := W) (σ := σ) (e := e) (vs := ws) (ds := xs) (d := .nd .tup false xs) ⟨Z, S1, S2, k, dj, re, r, _, rfl, g⟩ hp fun Z S k r => ?_
    simp only [Rep]
    exact ⟨p, ws, rfl, ⟨rfl, squ_new ho⟩, fun z => (by cases z), reps_mono (fun b z => ⟨z, fun y => (by cases y)⟩) r⟩
end
end PL

/-! PL.Nk: dicts by tuples, over the hand layer. -/
namespace PL
open PySem L2
section
variable {X : Cx} {L : Lo} {pins : List (Addr × Obj)} {σ : St} {H H' : Hp} {s : Shared}
mutual
theorem nested_of (I : Inv X pins σ H s) (hK : X.K = L.K) : ∀ {k : NK} {v : V} {u : Value}, KRep L H k v → RelV v u → NestedIs s.heap k u
  | .none, v, u, h, r => by
    simp only [KRep] at h
    subst h
    cases (show u = Value.none from r)
    exact .none
  | .num i, v, u, h, r => by
    simp only [KRep] at h
    subst h
    obtain ⟨t, rfl⟩ := (show ∃ t, u = Value.int i t from r)
    exact .int i t
  | .text x, v, u, h, r => by
    simp only [KRep] at h
    subst h
    obtain ⟨t, rfl⟩ := (show ∃ t, u = Value.str x t from r)
    exact .text x t
  | .tup ks, v, u, h, r => by
    simp only [KRep] at h
    obtain ⟨a, vs, rfl, sq, rs⟩ := h
    cases (show u = Value.ref a from r)
    obtain ⟨its, rv, ⟨o, ho, hc, n, hd⟩, _⟩ := I.tuple (by rw [hK]; exact sq.1)
    exact .tup ho hc hd (by simpa using nesteds_of I hK rs rv)
theorem nesteds_of (I : Inv X pins σ H s) (hK : X.K = L.K) : ∀ {ks : List NK} {vs : List V} {us : List Value}, KReps L H ks vs → Vals vs us → NestedAll s.heap ks us
  | [], vs, us, h, r => by
    simp only [KReps] at h
    subst h
    cases r
    exact .nil
  | k :: ks, vs, us, h, r => by
    simp only [KReps] at h
    obtain ⟨v, ws, rfl, h1, h2⟩ := h
    cases r with
    | cons r1 r2 => exact .cons (nested_of I hK h1 r1) (nesteds_of I hK h2 r2)
end
/-- the dict at a holds the keys ks (tuples) with the values vs; l tells where the keys stand -/
def DL (L : Lo) (H : Hp) (a : Addr) (ks : List NK) (vs : List V) (l : List (NK × Addr × V)) : Prop :=
  ks.Nodup ∧ ks.length = vs.length ∧ ((∃ as : List Addr, KReps L H ks (as.map V.ref) ∧ (∀ k ∈ ks, k.depth ≤ 8) ∧ l = ks.zip (as.zip vs) ∧ H a = some (dN L.wd a l)) ∨ (ks = [] ∧ l = [] ∧ H a = some (.dK [])))
abbrev PR : List (NK × Addr × V) → List (NK × Addr × Value) → Prop := Paired fun p q => p.1 = q.1 ∧ p.2.1 = q.2.1 ∧ RelV p.2.2 q.2.2
theorem pr_facts (I : Inv X pins σ H s) (hK : X.K = L.K) : ∀ {ks : List NK} {as : List Addr} {vs : List V} {xs : List (NK × Addr × Value)}, KReps L H ks (as.map V.ref) → (∀ k ∈ ks, k.depth ≤ 8) → ks.length = vs.length → PR (ks.zip (as.zip vs)) xs →
    KV (ks.zip vs) (pairsH xs) ∧ xs.map (·.1) = ks ∧ (∀ x ∈ xs, (nestedKind X.prog X.w).is s.heap x.1 x.2.1) ∧ as.length = ks.length
  | [], as, vs, xs, h1, _, hl, r => by
    simp only [KReps] at h1
    have ea : as = [] := by simpa using h1
    subst ea
    cases r
    exact ⟨.nil, rfl, fun x hx => (by cases hx), rfl⟩
  | k :: ks, as, vs, xs, h1, h2, hl, r => by
    simp only [KReps] at h1
    obtain ⟨v, ws, e, g1, g2⟩ := h1
    cases as with
    | nil => simp at e
    | cons b as =>
      simp only [List.map_cons, List.cons.injEq] at e
      obtain ⟨rfl, rfl⟩ := e
      cases vs with
      | nil => simp at hl
      | cons w vs =>
        simp only [List.zip_cons_cons] at r
        cases r with
        | cons q t =>
          obtain ⟨i1, i2, i3, i4⟩ := pr_facts I hK g2 (fun k' hk' => h2 k' (List.mem_cons_of_mem _ hk')) (by simpa using hl) t
          obtain ⟨q1, q2, q3⟩ := q
          refine ⟨.cons ⟨q1, q3⟩ i1, by rw [List.map_cons, i2, ← q1], fun x hx => ?_, by simp [i4]⟩
          rcases List.mem_cons.mp hx with rfl | hx
          · refine ⟨?_, ?_⟩
            · rw [← q1, ← q2]
              exact nested_of I hK g1 rfl
            · rw [← q1]
              exact h2 k (by simp)
          · exact i3 x hx
theorem pairs_nil {K : Type} [DecidableEq K] {P : Program} {w : World} {knd : KeyKind P w K} {es : List DictEntry} (h : Pairs knd es []) : es = [] := by
  cases h
  rfl
theorem dl_rd (I : Inv X pins σ H s) (hK : X.K = L.K) (hw : X.w = L.wd) {a : Addr} {ks : List NK} {vs : List V} {l : List (NK × Addr × V)} (g : DL L H a ks vs l) :
    ∃ xs, PR l xs ∧ KV (ks.zip vs) (pairsH xs) ∧ s.heap.DictOfH (nestedKind X.prog X.w) a xs ∧ (a == sysModules) = false ∧ l.length ≤ sizeLine ∧ l.length = ks.length := by
  obtain ⟨nd, hl, ⟨as, g1, g2, rfl, e⟩ | ⟨rfl, rfl, e⟩⟩ := g
  · obtain ⟨⟨hs, hz, xs, pr, o, es, ep, h1, h2, h3, h4⟩, _⟩ := (show ObjOk X.prog X.w H s.heap a (.ext (dNF L.wd a (ks.zip (as.zip vs)))) from I.hok a _ e)
    obtain ⟨i1, i2, i3, i4⟩ := pr_facts I hK g1 g2 hl pr
    refine ⟨xs, pr, i1, ⟨o, es, ep, h1, h2, h3, ?_, i3, by rw [i2]; exact nd⟩, hs, hz, ?_⟩
    · rw [h4, hw]; rfl
    · simp only [List.length_zip]; omega
  · obtain ⟨hz, hs, vs0, kv, o, es, ep, h1, h2, h3, _, h4, _⟩ := (show ObjOk X.prog X.w H s.heap a (.dK []) from I.hok a _ e)
    cases kv
    have := pairs_nil h4
    exact ⟨[], .nil, .nil, ⟨o, es, ep, h1, h2, h3, by rw [this]; rfl, fun x hx => (by cases hx), List.nodup_nil⟩, hs, Nat.zero_le _, rfl⟩
theorem dl_keyed (I : Inv X pins σ H s) (hK : X.K = L.K) (hw : X.w = L.wd) {a : Addr} {ks : List NK} {vs : List V} {l : List (NK × Addr × V)} (g : DL L H a ks vs l) :
    ∃ kvs, KV (ks.zip vs) kvs ∧ s.heap.DictKeyed (nestedKind X.prog X.w) a kvs ∧ (a == sysModules) = false := by
  obtain ⟨xs, _, kv, dd, hs, _, _⟩ := dl_rd I hK hw g
  exact ⟨_, kv, ⟨xs, dd, rfl⟩, hs⟩
/-- what the dict at a holds at the tuple y -/
def DGetN (L : Lo) (H : Hp) (a : Addr) (y : V) (r : Option V) : Prop := ∃ ks vs l k b, DL L H a ks vs l ∧ y = .ref b ∧ KRep L H k y ∧ k.depth ≤ 8 ∧ r = valV (ks.zip vs) k
def putA (l : List (NK × Addr × V)) (k : NK) (b : Addr) (v : V) : List (NK × Addr × V) := if (l.any fun x => decide (x.1 = k)) = true then l.map fun x => if x.1 = k then (x.1, x.2.1, v) else x else l ++ [(k, b, v)]
def DPutN (L : Lo) (H : Hp) (a : Addr) (y v : V) (H' : Hp) : Prop := ∃ ks vs l k b, DL L H a ks vs l ∧ y = .ref b ∧ KRep L H k y ∧ k.depth ≤ 8 ∧ l.length < sizeLine ∧ H' = upd H a (dN L.wd a (putA l k b v))
theorem pr_any {l : List (NK × Addr × V)} {xs : List (NK × Addr × Value)} (r : PR l xs) (k : NK) : (l.any fun x => decide (x.1 = k)) = (atKey xs k).isSome := by
  induction r with
  | nil => rfl
  | @cons p q ps qs h t ih =>
    obtain ⟨h1, _, h2⟩ := h
    simp only [List.any_cons]
    rw [ih]
    by_cases e : p.1 = k
    · have e' : q.1 = k := h1.symm.trans e
      simp [atKey, e, e']
    · have e' : ¬ q.1 = k := fun z => e (h1.trans z)
      simp [atKey, e, e']
theorem pr_put {l : List (NK × Addr × V)} {xs : List (NK × Addr × Value)} (r : PR l xs) (k : NK) (b : Addr) {y : V} {u : Value} (ry : RelV y u) : PR (putA l k b y) (storedH xs k b u) := by
  unfold putA storedH
  rw [pr_any r k]
  by_cases q : (atKey xs k).isSome = true
  · rw [if_pos q, if_pos q]
    clear q
    induction r with
    | nil => exact .nil
    | @cons p q ps qs h t ih =>
      rw [List.map_cons, List.map_cons]
      refine .cons ?_ ih
      obtain ⟨h1, h2, h3⟩ := h
      unfold putAt
      by_cases e : p.1 = k
      · rw [if_pos e, if_pos (h1.symm.trans e)]; exact ⟨h1, h2, ry⟩
      · rw [if_neg e, if_neg (fun z => e (h1.trans z))]; exact ⟨h1, h2, h3⟩
  · rw [if_neg q, if_neg q]; exact Paired.snoc r ⟨rfl, rfl, ry⟩
theorem putA_len (l : List (NK × Addr × V)) (k : NK) (b : Addr) (v : V) : (putA l k b v).length ≤ l.length + 1 := by
  unfold putA
  split
  · simp
  · simp
variable {A : Around} {E : Value → Shared → Prop} {a : Addr} {y v : V} {u r : Value} {o : Option V}
theorem dn_getItem {Q : Value → Shared → Prop} (hu : A.units + 9 < cLine) (I : Inv X pins σ H s) (hK : X.K = L.K) (hw : X.w = L.wd) (g : DGetN L H a y (some v)) (ry : RelV y u) (h : ∀ w' s', Inv X pins σ H s' → RelV v w' → Q w' s') :
    wpAny (model X.prog X.w) A (getItem (.ref a) u) Q E s := by
  obtain ⟨ks, vs, l, k, b, g, rfl, kr, kd, e⟩ := g
  cases (show u = Value.ref b from ry)
  obtain ⟨kvs, kv, dd, hs⟩ := dl_keyed I hK hw g
  obtain ⟨w', hw', rw'⟩ := RelO.some_of (v := v) (o := valueAt kvs k) (by rw [e]; exact kv.val k)
  exact getItem_keyed (by show A.units + 1 + 8 < cLine; omega) (show (nestedKind X.prog X.w).is s.heap k b from ⟨nested_of I hK kr rfl, kd⟩) dd hw' (h w' _ (I.tok _) rw')
theorem dn_in {Q : Value → Shared → Prop} (hu : A.units + 9 < cLine) (I : Inv X pins σ H s) (hK : X.K = L.K) (hw : X.w = L.wd) (g : DGetN L H a y o) (ry : RelV y u) (h : ∀ s', Inv X pins σ H s' → Q (.bool o.isSome) s') :
    wpAny (model X.prog X.w) A (compareOp .In u (.ref a)) Q E s := by
  obtain ⟨ks, vs, l, k, b, g, rfl, kr, kd, e⟩ := g
  cases (show u = Value.ref b from ry)
  obtain ⟨kvs, kv, dd, hs⟩ := dl_keyed I hK hw g
  refine in_keyed (by show A.units + 1 + 8 < cLine; omega) (show (nestedKind X.prog X.w).is s.heap k b from ⟨nested_of I hK kr rfl, kd⟩) hs dd ?_
  rw [← (kv.val k).isSome_eq, ← e]
  exact h _ (I.tok _)
theorem dn_notIn {Q : Value → Shared → Prop} (hu : A.units + 9 < cLine) (I : Inv X pins σ H s) (hK : X.K = L.K) (hw : X.w = L.wd) (g : DGetN L H a y o) (ry : RelV y u) (h : ∀ s', Inv X pins σ H s' → Q (.bool (!o.isSome)) s') :
    wpAny (model X.prog X.w) A (compareOp .NotIn u (.ref a)) Q E s := by
  obtain ⟨ks, vs, l, k, b, g, rfl, kr, kd, e⟩ := g
  cases (show u = Value.ref b from ry)
  obtain ⟨kvs, kv, dd, hs⟩ := dl_keyed I hK hw g
  refine notIn_keyed (by show A.units + 1 + 8 < cLine; omega) (show (nestedKind X.prog X.w).is s.heap k b from ⟨nested_of I hK kr rfl, kd⟩) hs dd ?_
  rw [← (kv.val k).isSome_eq, ← e]
  exact h _ (I.tok _)
theorem dn_get1 {Q : Value → Shared → Prop} (hu : A.units + 9 < cLine) (I : Inv X pins σ H s) (hK : X.K = L.K) (hw : X.w = L.wd) (g : DGetN L H a y o) (ry : RelV y u) (h : ∀ w' s', Inv X pins σ H s' → RelV (o.getD .non) w' → Q w' s') :
    wpAny (model X.prog X.w) A (call (.builtin "dict.get") [.ref a, u]) Q E s := by
  obtain ⟨ks, vs, l, k, b, g, rfl, kr, kd, e⟩ := g
  cases (show u = Value.ref b from ry)
  obtain ⟨kvs, kv, dd, hs⟩ := dl_keyed I hK hw g
  refine get_keyed (by show A.units + 1 + 8 < cLine; omega) (show (nestedKind X.prog X.w).is s.heap k b from ⟨nested_of I hK kr rfl, kd⟩) hs dd (h _ _ (I.tok _) ?_)
  rw [e]
  exact (kv.val k).getD rfl
theorem dn_get2 {d : V} {Q : Value → Shared → Prop} (hu : A.units + 9 < cLine) (I : Inv X pins σ H s) (hK : X.K = L.K) (hw : X.w = L.wd) (g : DGetN L H a y o) (ry : RelV y u) (rd : RelV d r) (h : ∀ w' s', Inv X pins σ H s' → RelV (o.getD d) w' → Q w' s') :
    wpAny (model X.prog X.w) A (call (.builtin "dict.get") [.ref a, u, r]) Q E s := by
  obtain ⟨ks, vs, l, k, b, g, rfl, kr, kd, e⟩ := g
  cases (show u = Value.ref b from ry)
  obtain ⟨kvs, kv, dd, hs⟩ := dl_keyed I hK hw g
  refine getOr_keyed (by show A.units + 1 + 8 < cLine; omega) (show (nestedKind X.prog X.w).is s.heap k b from ⟨nested_of I hK kr rfl, kd⟩) hs dd (h _ _ (I.tok _) ?_)
  rw [e]
  exact (kv.val k).getD rd
theorem dn_setItem {Q : Unit → Shared → Prop} (hu : A.units + 9 < cLine) (I : Inv X pins σ H s) (hK : X.K = L.K) (hw : X.w = L.wd) (g : DPutN L H a y v H') (ry : RelV y u) (rv : RelV v r) (h : ∀ s', Inv X pins σ H' s' → Q () s') :
    wpAny (model X.prog X.w) A (setItem (.ref a) u r) Q E s := by
  obtain ⟨ks, vs, l, k, b, g, rfl, kr, kd, hz, rfl⟩ := g
  cases (show u = Value.ref b from ry)
  obtain ⟨xs, pr, kv, dd, hs, _, hlen⟩ := dl_rd I hK hw g
  have hx : xs.length ≤ sizeLine := by rw [← Paired.length pr]; omega
  refine wpAny_setItem_heap (hsz := hx) (by show A.units + 1 + 8 < cLine; omega) (show (nestedKind X.prog X.w).is s.heap k b from ⟨nested_of I hK kr rfl, kd⟩) dd fun h' dd' hsb => h _ ?_
  obtain ⟨q, es, ep, hq, h2, h3, h4, _, h5⟩ := dd'
  have mu : Mut (H a) := by
    obtain ⟨_, _, ⟨as, _, _, _, e⟩ | ⟨_, _, e⟩⟩ := g
    · rw [e]; exact True.intro
    · rw [e]; exact True.intro
  refine d_write I mu hsb ⟨q, hq⟩ ⟨⟨hs, ?_, _, pr_put pr k b rv, q, es, ep, hq, h2, h3, ?_⟩, ⟨q, hq⟩, ?_⟩
  · have := putA_len l k b v; omega
  · rw [h4, hw]; rfl
  · rintro h1 h2 ⟨p1, p2, xs', p3, o', es', ep', e1, e2, e3, e4⟩ kk
    exact ⟨p1, p2, xs', p3, o', es', ep', kk _ e1, e2, e3, e4⟩
theorem dn_len {ks : List NK} {vs : List V} {l : List (NK × Addr × V)} {Q : Value → Shared → Prop} (I : Inv X pins σ H s) (hK : X.K = L.K) (hw : X.w = L.wd) (g : DL L H a ks vs l) (h : ∀ t s', Inv X pins σ H s' → Q (.int ks.length t) s') : wpAny (model X.prog X.w) A (call (.builtin "len") [.ref a]) Q E s := by
  obtain ⟨xs, pr, kv, dd, hs, hz, hlen⟩ := dl_rd I hK hw g
  have hx : xs.length = ks.length := by rw [← Paired.length pr, hlen]
  refine call_len_dictH hs dd (by rw [hx, ← hlen]; rw [sizeLine_eq] at hz; omega) ?_
  rw [hx]
  exact h _ _ (I.tok _)
theorem call_lenN (hK : X.K = L.K) (hw : X.w = L.wd) : CallR X (.builtin "len") (fun xs H Q => ∃ a ks vs l, xs = [V.ref a] ∧ DL L H a ks vs l ∧ Q (.int ks.length) H) := by
  intro pins s σ H xs us Q I r h
  obtain ⟨a, ks, vs, l, rfl, ha, q⟩ := h
  obtain ⟨u, rfl, ru⟩ := vals1 r
  cases ru
  exact dn_len I hK hw ha fun t s' I' => ⟨.int ks.length, H, I', ⟨t, rfl⟩, q⟩
end
def tDGet1N (L : Lo) (td ty : TE) : TE := fun σ H Q => td σ H fun x H1 => ∃ a, x = .ref a ∧ (IsD H1 a ∨ ∃ ks vs l, DL L H1 a ks vs l) ∧ ty σ H1 fun y H2 => ∃ o, (DGet H2 a y o ∨ DGetN L H2 a y o) ∧ Q (o.getD .non) H2
def tDGet2N (L : Lo) (td ty tx : TE) : TE := fun σ H Q => td σ H fun x H1 => ∃ a, x = .ref a ∧ (IsD H1 a ∨ ∃ ks vs l, DL L H1 a ks vs l) ∧ ty σ H1 fun y H2 => tx σ H2 fun z H3 => ∃ o, (DGet H3 a y o ∨ DGetN L H3 a y o) ∧ Q (o.getD z) H3
section
variable {X : Cx} {L : Lo} {o e f : Expr} {apos cpos : Pos} {td ty tx : TE}
theorem isDN_at {pins : List (Addr × Obj)} {σ : St} {H : Hp} {s : Shared} {a : Addr} (I : Inv X pins σ H s) (hK : X.K = L.K) (hw : X.w = L.wd) (d : IsD H a ∨ ∃ ks vs l, DL L H a ks vs l) :
    s.TypeIs (.ref a) "dict" ∧ (∀ b, Value.ref a = .ref b → ∃ ob, s.heap.get? b = some ob ∧ ob.dict = none) := by
  rcases d with d | ⟨ks, vs, l, d⟩
  · exact ⟨(isD_at I d).1, (isD_at I d).2.1⟩
  · obtain ⟨xs, _, _, dd, _⟩ := dl_rd I hK hw d
    refine ⟨dd.typeIs, fun b q => ?_⟩
    cases q
    obtain ⟨ob, _, _, h1, h2, _⟩ := dd
    exact ⟨ob, h1, h2.2.1⟩
theorem pe_dget1N (hu : X.A.units + 65 < cLine) (hK : X.K = L.K) (hw : X.w = L.wd) (ho : PE X o td) (he : PE X e ty) (m : M1 X o "get" apos e cpos) : PE X (.Call (.Attribute o "get" apos) [e] [] cpos) (tDGet1N L td ty) := by
  refine ⟨fun pins s σ H Q I h => ?_⟩
  refine wpAny_Call_method m.base m.few m.line PySem.F.plainAttrs_dict PySem.F.slot_dict_get PySem.F.type_dict_get (thn (ho.run pins s σ H _ I h) fun u s1 ⟨x, H1, I1, rx, a, ex, d, q1⟩ => ?_)
  subst ex
  obtain rfl : u = Value.ref a := rx
  obtain ⟨t1, t2⟩ := isDN_at I1 hK hw d
  refine ⟨t1, t2, ?_⟩
  rw [m.trees]
  refine Calls.callWith_builtin rfl (Calls.evalArgs_plain (Calls.spliced_cons (thn (he.run pins s1 σ H1 _ I1 q1) fun iv s2 ⟨y, H2, I2, ry, ov, g, q2⟩ => Calls.spliced_nil ?_)))
  rcases g with g | g
  · exact d_get1 (by omega) I2 g ry fun w' s3 I3 rw' => ⟨_, H2, I3, rw', q2⟩
  · exact dn_get1 (by omega) I2 hK hw g ry fun w' s3 I3 rw' => ⟨_, H2, I3, rw', q2⟩
theorem pe_dget2N (hu : X.A.units + 65 < cLine) (hK : X.K = L.K) (hw : X.w = L.wd) (ho : PE X o td) (he : PE X e ty) (hf : PE X f tx) (m : M2 X o "get" apos e f cpos) : PE X (.Call (.Attribute o "get" apos) [e, f] [] cpos) (tDGet2N L td ty tx) := by
  refine ⟨fun pins s σ H Q I h => ?_⟩
  refine wpAny_Call_method m.base m.few m.line PySem.F.plainAttrs_dict PySem.F.slot_dict_get PySem.F.type_dict_get (thn (ho.run pins s σ H _ I h) fun u s1 ⟨x, H1, I1, rx, a, ex, d, q1⟩ => ?_)
  subst ex
  obtain rfl : u = Value.ref a := rx
  obtain ⟨t1, t2⟩ := isDN_at I1 hK hw d
  refine ⟨t1, t2, ?_⟩
  rw [m.trees]
  refine Calls.callWith_builtin rfl (Calls.evalArgs_plain (Calls.spliced_cons (thn (he.run pins s1 σ H1 _ I1 q1) fun iv s2 ⟨y, H2, I2, ry, q2⟩ =>
    Calls.spliced_cons (thn (hf.run pins s2 σ H2 _ I2 q2) fun fv s3 ⟨z, H3, I3, rz, ov, g, q3⟩ => Calls.spliced_nil ?_))))
  rcases g with g | g
  · exact d_get2 (by omega) I3 g ry rz fun w' s4 I4 rw' => ⟨_, H3, I4, rw', q3⟩
  · exact dn_get2 (by omega) I3 hK hw g ry rz fun w' s4 I4 rw' => ⟨_, H3, I4, rw', q3⟩
end
end PL

/-! PL.Ord: the order of keys. -/
namespace PL
open PySem L2
mutual
theorem cmp_swap : ∀ a b : NK, cmpN b a = (cmpN a b).swap
  | .none, b => by cases b <;> rfl
  | .num i, b => by
    cases b <;> try rfl
    rename_i j
    simp only [cmpN]
    by_cases h1 : i < j
    · rw [if_pos h1, if_neg (by omega), if_pos h1]; rfl
    · by_cases h2 : j < i
      · rw [if_pos h2, if_neg h1, if_pos h2]; rfl
      · rw [if_neg h1, if_neg h2, if_neg h2, if_neg h1]; rfl
  | .text x, b => by cases b <;> rfl
  | .tup as, b => by
    cases b <;> try rfl
    rename_i bs
    simp only [cmpN]
    exact cmpL_swap as bs
theorem cmpL_swap : ∀ a b : List NK, cmpNL b a = (cmpNL a b).swap
  | [], b => by cases b <;> rfl
  | a :: as, [] => rfl
  | a :: as, b :: bs => by
    simp only [cmpNL]
    rw [cmp_swap a b]
    cases cmpN a b with
    | lt => rfl
    | gt => rfl
    | eq => exact cmpL_swap as bs
end
mutual
theorem cmp_tr : ∀ a b c : NK, cmpN a b ≠ .gt → cmpN b c ≠ .gt → cmpN a c = (cmpN a b).then (cmpN b c)
  | .none, b, c, h1, h2 => by cases b <;> cases c <;> first | rfl | (exact absurd rfl h2)
  | .num i, b, c, h1, h2 => by
    cases b with
    | none => exact absurd rfl h1
    | num j =>
      cases c with
      | none => exact absurd rfl h2
      | num k =>
        simp only [cmpN] at h1 h2 ⊢
        by_cases a1 : i < j
        · by_cases a2 : j < k
          · rw [if_pos a1, if_pos (by omega : i < k)]; rfl
          · rw [if_neg a2] at h2
            by_cases a3 : k < j
            · rw [if_pos a3] at h2; exact absurd rfl h2
            · rw [if_pos a1, if_pos (by omega : i < k)]; rfl
        · rw [if_neg a1] at h1
          by_cases a3 : j < i
          · rw [if_pos a3] at h1; exact absurd rfl h1
          · have e : i = j := by omega
            subst e
            rw [if_neg a1, if_neg a1]; rfl
      | text z => simp only [cmpN] at h1 ⊢; by_cases a1 : i < j <;> simp [a1] <;> by_cases a3 : j < i <;> simp [a1, a3] at h1 ⊢
      | tup cs => simp only [cmpN] at h1 ⊢; by_cases a1 : i < j <;> simp [a1] <;> by_cases a3 : j < i <;> simp [a1, a3] at h1 ⊢
    | text y => cases c <;> first | rfl | exact absurd rfl h2
    | tup bs => cases c <;> first | exact absurd rfl h2 | (simp only [cmpN]; rfl)
  | .text x, b, c, h1, h2 => by
    cases b with
    | none => exact absurd rfl h1
    | num j => exact absurd rfl h1
    | text y => cases c <;> first | rfl | exact absurd rfl h2
    | tup bs => cases c <;> first | exact absurd rfl h2 | (simp only [cmpN]; rfl)
  | .tup as, b, c, h1, h2 => by
    cases b with
    | none => exact absurd rfl h1
    | num j => exact absurd rfl h1
    | text y => exact absurd rfl h1
    | tup bs =>
      cases c with
      | none => exact absurd rfl h2
      | num j => exact absurd rfl h2
      | text y => exact absurd rfl h2
      | tup cs =>
        simp only [cmpN] at h1 h2 ⊢
        exact cmpL_tr as bs cs h1 h2
theorem cmpL_tr : ∀ a b c : List NK, cmpNL a b ≠ .gt → cmpNL b c ≠ .gt → cmpNL a c = (cmpNL a b).then (cmpNL b c)
  | [], b, c, h1, h2 => by
    cases b <;> cases c <;> first | rfl | exact absurd rfl h2 | skip
  | a :: as, [], c, h1, h2 => absurd rfl h1
  | a :: as, b :: bs, [], h1, h2 => absurd rfl h2
  | a :: as, b :: bs, c :: cs, h1, h2 => by
    simp only [cmpNL] at h1 h2 ⊢
    have t := cmp_tr a b c
    have tl := cmpL_tr as bs cs
    cases q1 : cmpN a b with
    | gt => rw [q1] at h1; exact absurd rfl h1
    | lt =>
      cases q2 : cmpN b c with
      | gt => rw [q2] at h2; exact absurd rfl h2
      | lt => rw [q1, q2] at t; rw [t (by decide) (by decide)]; rfl
      | eq => rw [q1, q2] at t; rw [t (by decide) (by decide)]; rfl
    | eq =>
      rw [q1] at h1
      cases q2 : cmpN b c with
      | gt => rw [q2] at h2; exact absurd rfl h2
      | lt =>
        rw [q1, q2] at t
        rw [t (by decide) (by decide)]
        dsimp only [Ordering.then]
        cases q3 : cmpNL as bs with
        | gt => exact absurd q3 h1
        | lt => rfl
        | eq => rfl
      | eq =>
        rw [q1, q2] at t
        rw [q2] at h2
        rw [t (by decide) (by decide)]
        dsimp only [Ordering.then]
        exact tl h1 h2
end
theorem ltN_asym {a b : NK} (h : ltN a b = true) : ltN b a = false := by
  unfold ltN at h ⊢
  rw [cmp_swap a b]
  cases q : cmpN a b <;> rw [q] at h <;> first | rfl | cases h
theorem ltN_tr {a b c : NK} (h1 : ltN b a = false) (h2 : ltN c b = false) : ltN c a = false := by
  unfold ltN at *
  rw [cmp_swap a b] at h1
  rw [cmp_swap b c] at h2
  rw [cmp_swap a c]
  have t := cmp_tr a b c (fun z => by rw [z] at h1; cases h1) (fun z => by rw [z] at h2; cases h2)
  rw [t]
  cases q1 : cmpN a b with
  | gt => rw [q1] at h1; cases h1
  | lt => rfl
  | eq =>
    cases q2 : cmpN b c with
    | gt => rw [q2] at h2; cases h2
    | lt => rfl
    | eq => rfl
mutual
theorem cmp_eq' : ∀ a b : NK, cmpOk a b = true → cmpN a b = .eq → a = b
  | .num i, b, h, e => by
    cases b <;> simp only [cmpOk, Bool.false_eq_true] at h
    rename_i j
    simp only [cmpN] at e
    by_cases a1 : i < j
    · rw [if_pos a1] at e; cases e
    · rw [if_neg a1] at e
      by_cases a3 : j < i
      · rw [if_pos a3] at e; cases e
      · rw [show i = j by omega]
  | .none, b, h, e => by cases b <;> simp only [cmpOk, Bool.false_eq_true] at h
  | .text x, b, h, e => by cases b <;> simp only [cmpOk, Bool.false_eq_true] at h
  | .tup as, b, h, e => by
    cases b <;> simp only [cmpOk, Bool.false_eq_true] at h
    rename_i bs
    simp only [cmpN] at e
    rw [cmpL_eq' as bs h e]
theorem cmpL_eq' : ∀ a b : List NK, cmpOkL a b = true → cmpNL a b = .eq → a = b
  | [], [], _, _ => rfl
  | [], _ :: _, _, e => by simp only [cmpNL, reduceCtorEq] at e
  | _ :: _, [], _, e => by simp only [cmpNL, reduceCtorEq] at e
  | a :: as, b :: bs, h, e => by
    simp only [cmpOkL, Bool.and_eq_true] at h
    simp only [cmpNL] at e
    cases q : cmpN a b with
    | lt => rw [q] at e; cases e
    | gt => rw [q] at e; cases e
    | eq =>
      rw [q] at e
      rw [cmp_eq' a b h.1 q, cmpL_eq' as bs h.2 e]
end
mutual
theorem cmp_self : ∀ a : NK, cmpN a a = .eq
  | .none => rfl
  | .num i => by simp only [cmpN]; rw [if_neg (by omega), if_neg (by omega)]
  | .text _ => rfl
  | .tup as => by simp only [cmpN]; exact cmpL_self as
theorem cmpL_self : ∀ a : List NK, cmpNL a a = .eq
  | [] => rfl
  | a :: as => by simp only [cmpNL]; rw [cmp_self a]; exact cmpL_self as
end
theorem sortN_perm (l : List NK) : (sortN l).Perm l := List.mergeSort_perm l _
theorem sortN_pair (l : List NK) : (sortN l).Pairwise (fun a b => ltN b a = false) := by
  have h := List.pairwise_mergeSort (le := fun (a b : NK) => !ltN b a) (fun a b c h1 h2 => by
    simp only [Bool.not_eq_true'] at h1 h2 ⊢
    exact ltN_tr h1 h2) (fun a b => by
    cases q : ltN b a with
    | false => rfl
    | true => rw [ltN_asym q]; rfl) l
  exact h.imp fun h => by simpa using h
theorem sortN_unique {l ns : List NK} (ok : ∀ a ∈ l, ∀ b ∈ l, cmpOk a b = true) (hp : ns.Perm l) (hs : ns.Pairwise (fun a b => ltN b a = false)) : ns = sortN l := by
  refine List.Perm.eq_of_pairwise (fun x y hx hy h1 h2 => ?_) hs (sortN_pair l) (hp.trans (sortN_perm l).symm)
  have hx' := hp.mem_iff.mp hx
  have hy' := (sortN_perm l).mem_iff.mp hy
  refine cmp_eq' x y (ok x hx' y hy') ?_
  unfold ltN at h1 h2
  rw [cmp_swap x y] at h1
  cases q : cmpN x y with
  | eq => rfl
  | lt => rw [q] at h2; cases h2
  | gt => rw [q] at h1; cases h1
end PL

/-! PL.Srt: sorted lists of tuples; lists of a dict's tuples. -/
namespace PL
open PySem L2 PySem.SeqAt
mutual
/-- the value v in the heap is the key: whole numbers, no truths -/
def PIs' (h : Heap) : NK → Value → Prop
  | .none, v => v = .none
  | .num i, v => ∃ t, v = .int i t
  | .text x, v => ∃ t, v = .str x t
  | .tup ks, v => ∃ a items, v = .ref a ∧ h.IsTuple a items ∧ PAll h ks items.toList
def PAll (h : Heap) : List NK → List Value → Prop
  | [], vs => vs = []
  | k :: ks, vs => ∃ v ws, vs = v :: ws ∧ PIs' h k v ∧ PAll h ks ws
end
mutual
theorem pis_nested {h : Heap} : ∀ {k : NK} {v : Value}, PIs' h k v → NestedIs h k v
  | .none, v, q => by simp only [PIs'] at q; subst q; exact .none
  | .num i, v, q => by simp only [PIs'] at q; obtain ⟨t, rfl⟩ := q; exact .int i t
  | .text x, v, q => by simp only [PIs'] at q; obtain ⟨t, rfl⟩ := q; exact .text x t
  | .tup ks, v, q => by
    simp only [PIs'] at q
    obtain ⟨a, items, rfl, ⟨o, ho, hc, n, hd⟩, r⟩ := q
    exact .tup ho hc hd (pall_nested r)
theorem pall_nested {h : Heap} : ∀ {ks : List NK} {vs : List Value}, PAll h ks vs → NestedAll h ks vs
  | [], vs, q => by simp only [PAll] at q; subst q; exact .nil
  | k :: ks, vs, q => by
    simp only [PAll] at q
    obtain ⟨v, ws, rfl, r1, r2⟩ := q
    exact .cons (pis_nested r1) (pall_nested r2)
end
mutual
theorem pis_keep {h h' : Heap} (kp : ∀ a o, h.get? a = some o → o.cls = .type "tuple" → h'.get? a = some o) : ∀ {k : NK} {v : Value}, PIs' h k v → PIs' h' k v
  | .none, v, q => q
  | .num i, v, q => q
  | .text x, v, q => q
  | .tup ks, v, q => by
    simp only [PIs'] at q ⊢
    obtain ⟨a, items, rfl, ⟨o, ho, hc, n, hd⟩, r⟩ := q
    exact ⟨a, items, rfl, ⟨o, kp a o ho hc, hc, n, hd⟩, pall_keep kp r⟩
theorem pall_keep {h h' : Heap} (kp : ∀ a o, h.get? a = some o → o.cls = .type "tuple" → h'.get? a = some o) : ∀ {ks : List NK} {vs : List Value}, PAll h ks vs → PAll h' ks vs
  | [], vs, q => q
  | k :: ks, vs, q => by
    simp only [PAll] at q ⊢
    obtain ⟨v, ws, rfl, r1, r2⟩ := q
    exact ⟨v, ws, rfl, pis_keep kp r1, pall_keep kp r2⟩
end
theorem PAll.length {h : Heap} : ∀ {ks : List NK} {vs : List Value}, PAll h ks vs → vs.length = ks.length
  | [], vs, q => by simp only [PAll] at q; subst q; rfl
  | k :: ks, vs, q => by
    simp only [PAll] at q
    obtain ⟨v, ws, rfl, r1, r2⟩ := q
    simp [PAll.length r2]
theorem PAll.get {h : Heap} : ∀ {ks : List NK} {vs : List Value} {j : Nat} (h1 : j < vs.length), PAll h ks vs → ∃ k, ks[j]? = some k ∧ PIs' h k vs[j]
  | [], vs, j, h1, q => by simp only [PAll] at q; subst q; simp at h1
  | k :: ks, vs, 0, h1, q => by
    simp only [PAll] at q
    obtain ⟨v, ws, rfl, r1, r2⟩ := q
    exact ⟨k, rfl, r1⟩
  | k :: ks, vs, j + 1, h1, q => by
    simp only [PAll] at q
    obtain ⟨v, ws, rfl, r1, r2⟩ := q
    obtain ⟨k', e, r⟩ := PAll.get (j := j) (by simpa using h1) r2
    exact ⟨k', by simpa using e, by simpa using r⟩
section
variable {X : Cx} {L : Lo} {pins : List (Addr × Obj)} {σ : St} {H : Hp} {s : Shared}
mutual
theorem pis_of (I : Inv X pins σ H s) (hK : X.K = L.K) : ∀ {k : NK} {v : V} {u : Value}, KRep L H k v → RelV v u → PIs' s.heap k u
  | .none, v, u, h, r => by
    simp only [KRep] at h
    subst h
    simp only [PIs']
    exact r
  | .num i, v, u, h, r => by
    simp only [KRep] at h
    subst h
    simp only [PIs']
    exact r
  | .text x, v, u, h, r => by
    simp only [KRep] at h
    subst h
    simp only [PIs']
    exact r
  | .tup ks, v, u, h, r => by
    simp only [KRep] at h
    obtain ⟨a, vs, rfl, sq, rs⟩ := h
    cases (show u = Value.ref a from r)
    obtain ⟨its, rv, p, _⟩ := I.tuple (by rw [hK]; exact sq.1)
    simp only [PIs']
    exact ⟨a, its.toArray, rfl, p, by simpa using pall_of I hK rs rv⟩
theorem pall_of (I : Inv X pins σ H s) (hK : X.K = L.K) : ∀ {ks : List NK} {vs : List V} {us : List Value}, KReps L H ks vs → Vals vs us → PAll s.heap ks us
  | [], vs, us, h, r => by
    simp only [KReps] at h
    subst h
    cases r
    simp only [PAll]
  | k :: ks, vs, us, h, r => by
    simp only [KReps] at h
    obtain ⟨v, ws, rfl, h1, h2⟩ := h
    cases r with
    | cons r1 r2 =>
      simp only [PAll]
      exact ⟨_, _, rfl, pis_of I hK h1 r1, pall_of I hK h2 r2⟩
end
end
/-! ### a < b -/
theorem cmp_beq {a b : NK} (h : cmpOk a b = true) : NestedKey.beq a b = true ↔ cmpN a b = .eq := by
  constructor
  · intro q
    rw [NestedKey.eq_of_beq a b q]
    exact cmp_self b
  · intro q
    rw [cmp_eq' a b h q]
    exact NestedKey.beq_self b
theorem ltNL_nil (bs : List NK) : (cmpNL [] bs == .lt) = decide (0 < bs.length) := by cases bs <;> rfl
theorem lexAt_ltN {ks1 ks2 : List NK} (ok : cmpOkL ks1 ks2 = true) : ∀ (d : Nat) (i : Nat) (as bs : List NK), as = ks1.drop i → bs = ks2.drop i → i + d = min ks1.length ks2.length → cmpOkL as bs = true →
    Ob.lexAt (fun j => NestedKey.beq (ks1.getD j .none) (ks2.getD j .none)) (fun j => ltN (ks1.getD j .none) (ks2.getD j .none)) (decide (ks1.length < ks2.length)) i d = (cmpNL as bs == .lt)
  | 0, i, as, bs, ha, hb, hd, h => by
    rw [Ob.lexAt_zero]
    have l1 : as.length = ks1.length - i := by rw [ha, List.length_drop]
    have l2 : bs.length = ks2.length - i := by rw [hb, List.length_drop]
    cases as with
    | nil =>
      rw [ltNL_nil]
      simp at l1
      congr 1
      simp; omega
    | cons a as =>
      cases bs with
      | nil =>
        simp at l1 l2
        simp only [cmpNL]
        rw [decide_eq_false (by omega)]; rfl
      | cons b bs => simp at l1 l2; omega
  | d + 1, i, as, bs, ha, hb, hd, h => by
    rw [Ob.lexAt_succ]
    have i1 : i < ks1.length := by omega
    have i2 : i < ks2.length := by omega
    rw [List.drop_eq_getElem_cons i1] at ha
    rw [List.drop_eq_getElem_cons i2] at hb
    subst ha hb
    simp only [cmpOkL, Bool.and_eq_true] at h
    have ih := lexAt_ltN ok d (i + 1) _ _ rfl rfl (by omega) h.2
    have g1 : ks1.getD i .none = ks1[i] := by simp [List.getD, i1]
    have g2 : ks2.getD i .none = ks2[i] := by simp [List.getD, i2]
    rw [g1, g2]
    simp only [cmpNL]
    by_cases q : NestedKey.beq ks1[i] ks2[i] = true
    · rw [if_pos q, (cmp_beq h.1).mp q]
      exact ih
    · rw [if_neg q]
      unfold ltN
      cases q2 : cmpN ks1[i] ks2[i] with
      | eq => exact absurd ((cmp_beq h.1).mpr q2) q
      | lt => rfl
      | gt => rfl
theorem okL_at : ∀ {as bs : List NK} {j : Nat} {a b : NK}, cmpOkL as bs = true → as[j]? = some a → bs[j]? = some b → cmpOk a b = true
  | [], _, j, a, b, _, e, _ => by simp at e
  | _ :: _, [], j, a, b, _, _, e => by simp at e
  | x :: as, y :: bs, 0, a, b, h, e1, e2 => by
    simp at e1 e2
    subst e1 e2
    simp only [cmpOkL, Bool.and_eq_true] at h
    exact h.1
  | x :: as, y :: bs, j + 1, a, b, h, e1, e2 => by
    simp only [cmpOkL, Bool.and_eq_true] at h
    exact okL_at h.2 (by simpa using e1) (by simpa using e2)
theorem depth_at : ∀ {as : List NK} {j : Nat} {a : NK}, as[j]? = some a → a.depth ≤ NestedKey.depthAll as
  | [], j, a, e => by simp at e
  | x :: as, 0, a, e => by
    simp at e
    subst e
    simp only [NestedKey.depthAll]
    omega
  | x :: as, j + 1, a, e => by
    have := depth_at (as := as) (j := j) (a := a) (by simpa using e)
    simp only [NestedKey.depthAll]
    omega
theorem key_lt : ∀ (n : Nat) {k1 k2 : NK} {v u : Value} {A : Around} {s : Shared}, k1.depth ≤ n → PIs' s.heap k1 v → PIs' s.heap k2 u → cmpOk k1 k2 = true → A.units + n + 1 < cLine → Ob.RcOp .Lt A s v u (ltN k1 k2) := by
  intro n
  induction n with
  | zero =>
    intro k1 k2 v u A s hd h1 h2 ok hu
    cases k1 <;> cases k2 <;> simp only [cmpOk, Bool.false_eq_true] at ok
    · rename_i i j
      simp only [PIs'] at h1 h2
      obtain ⟨t, rfl⟩ := h1
      obtain ⟨t', rfl⟩ := h2
      have := Ob.RcOp.lt_int (A := A) (s := s) i j t t'
      rw [show ltN (.num i) (.num j) = decide (i < j) by
        unfold ltN
        simp only [cmpN]
        by_cases a1 : i < j
        · rw [if_pos a1]; simp [a1]
        · rw [if_neg a1]
          by_cases a2 : j < i <;> simp [a1, a2]]
      exact this
    · simp [NestedKey.depth] at hd
  | succ n ih =>
    intro k1 k2 v u A s hd h1 h2 ok hu
    cases k1 <;> cases k2 <;> simp only [cmpOk, Bool.false_eq_true] at ok
    · rename_i i j
      simp only [PIs'] at h1 h2
      obtain ⟨t, rfl⟩ := h1
      obtain ⟨t', rfl⟩ := h2
      have := Ob.RcOp.lt_int (A := A) (s := s) i j t t'
      rw [show ltN (.num i) (.num j) = decide (i < j) by
        unfold ltN
        simp only [cmpN]
        by_cases a1 : i < j
        · rw [if_pos a1]; simp [a1]
        · rw [if_neg a1]
          by_cases a2 : j < i <;> simp [a1, a2]]
      exact this
    · rename_i as bs
      simp only [PIs'] at h1 h2
      obtain ⟨a, items, rfl, p1, r1⟩ := h1
      obtain ⟨b, items2, rfl, p2, r2⟩ := h2
      have l1 : items.size = as.length := by rw [← Array.length_toList]; exact r1.length
      have l2 : items2.size = bs.length := by rw [← Array.length_toList]; exact r2.length
      have hd' : NestedKey.depthAll as ≤ n := by simp only [NestedKey.depth] at hd; omega
      have at1 : ∀ j (h1 : j < items.size), ∃ k, as[j]? = some k ∧ PIs' s.heap k items[j] := fun j h1 => by
        have := PAll.get (j := j) (by simpa using h1) r1
        simpa using this
      have at2 : ∀ j (h1 : j < items2.size), ∃ k, bs[j]? = some k ∧ PIs' s.heap k items2[j] := fun j h1 => by
        have := PAll.get (j := j) (by simpa using h1) r2
        simpa using this
      have := Ob.RcOp.tuples_lt (A := A) (s := s) (e := fun j => NestedKey.beq (as.getD j .none) (bs.getD j .none)) (r := fun j => ltN (as.getD j .none) (bs.getD j .none)) p1 p2 (by omega) (fun j h1 h2 => by
        obtain ⟨k1, e1, q1⟩ := at1 j h1
        obtain ⟨k2, e2, q2⟩ := at2 j h2
        have d1 := depth_at e1
        rw [show as.getD j .none = k1 by simp [List.getD, e1], show bs.getD j .none = k2 by simp [List.getD, e2]]
        exact eqAt_key k1 k2 A.in1 s _ _ (pis_nested q1) (pis_nested q2) (by show A.units + 1 + min k1.depth k2.depth < cLine; omega)) (fun j h1 h2 _ => by
        obtain ⟨k1, e1, q1⟩ := at1 j h1
        obtain ⟨k2, e2, q2⟩ := at2 j h2
        have d1 := depth_at e1
        rw [show as.getD j .none = k1 by simp [List.getD, e1], show bs.getD j .none = k2 by simp [List.getD, e2]]
        exact ih (by omega) q1 q2 (okL_at ok e1 e2) (by show A.units + 1 + n + 1 < cLine; omega))
      rw [l1, l2, lexAt_ltN ok (min as.length bs.length) 0 as bs rfl rfl (by omega) ok] at this
      exact this
end PL

/-! PL.Srd: sorted(l), sorted(d), list(d) of tuples. -/
namespace PL
open PySem L2 PySem.SeqAt PyProof.Rows PySem.W SrtO
section
variable {prog : Program} {w : World} {A : Around} {s : Shared} {b fin : Bool} {Q : Bool → Shared → Prop}
theorem katlex : ∀ {as bs : List NK} {xs ys : List Value} {i : Nat}, NestedKey.depthAll as ≤ 7 → A.units + 10 < cLine → PAll s.heap as xs → PAll s.heap bs ys → cmpOkL as bs = true →
    (b = true → i = 0 → ∀ x r y r', as = x :: r → bs = y :: r' → ∃ m n, x = .num m ∧ y = .num n) → fin = decide (as.length < bs.length) → Q (cmpNL as bs == .lt) s → KatLex prog w A b fin Q (xs.zip ys) i s
  | [], bs, xs, ys, i, hd, hu, h1, h2, ok, hb, hf, q => by
    simp only [PAll] at h1
    subst h1
    rw [List.zip_nil_left]
    refine kat_nil ?_
    rw [hf]
    rw [ltNL_nil] at q
    exact q
  | a :: as, [], xs, ys, i, hd, hu, h1, h2, ok, hb, hf, q => by
    simp only [PAll] at h2
    subst h2
    rw [List.zip_nil_right]
    refine kat_nil ?_
    rw [hf]
    exact q
  | a :: as, b' :: bs, xs, ys, i, hd, hu, h1, h2, ok, hb, hf, q => by
    simp only [PAll] at h1 h2
    obtain ⟨v, vs, rfl, r1, r2⟩ := h1
    obtain ⟨u, us, rfl, t1, t2⟩ := h2
    simp only [cmpOkL, Bool.and_eq_true] at ok
    simp only [NestedKey.depthAll] at hd
    rw [List.zip_cons_cons]
    refine kat_cons (eqAt_key a b' A s _ _ (pis_nested r1) (pis_nested t1) (by omega) prog w _ _ ?_)
    refine kat_go (fun e1 => ?_) (fun e1 => ?_)
    · have ec := (cmp_beq ok.1).mp e1
      refine kat_yes (katlex (by omega) hu r2 t2 ok.2 (fun _ z => by omega) (by rw [hf]; simp) ?_)
      simp only [cmpNL, ec] at q
      exact q
    · have ne : cmpN a b' ≠ .eq := fun z => by rw [(cmp_beq ok.1).mpr z] at e1; cases e1
      have ql : Q (ltN a b') s := by
        simp only [cmpNL] at q
        unfold ltN
        cases qc : cmpN a b' with
        | eq => exact absurd qc ne
        | lt => rw [qc] at q; exact q
        | gt => rw [qc] at q; exact q
      refine kat_no ?_
      by_cases c : (b && i == 0) = true
      · rw [c]
        simp only [Bool.and_eq_true, beq_iff_eq] at c
        obtain ⟨m, n, rfl, rfl⟩ := hb c.1 c.2 a as b' bs rfl rfl
        simp only [PIs'] at r1 t1
        obtain ⟨t, rfl⟩ := r1
        obtain ⟨t', rfl⟩ := t1
        refine oneLt_int ?_
        rw [show ltN (.num m) (.num n) = decide (m < n) by
          unfold ltN
          simp only [cmpN]
          by_cases a1 : m < n
          · rw [if_pos a1]; simp [a1]
          · rw [if_neg a1]
            by_cases a2 : n < m <;> simp [a1, a2]] at ql
        exact ql
      · rw [show (b && i == 0) = false by simpa using c]
        exact kat_one _ _ (key_lt 7 (by omega) r1 t1 ok.1 (by omega) prog w _ _ ql)
end
open Classical in
noncomputable def kk (h : Heap) (v : Value) : NK := if q : ∃ k, PIs' h k v then Classical.choose q else .none
theorem kk_eq {h : Heap} {v : Value} {k : NK} (q : PIs' h k v) : kk h v = k := by
  have e : ∃ k, PIs' h k v := ⟨k, q⟩
  unfold kk
  rw [dif_pos e]
  exact NestedIs.inj _ _ _ (pis_nested (Classical.choose_spec e)) (pis_nested q)
theorem PAll.mem {h : Heap} : ∀ {ks : List NK} {vs : List Value}, PAll h ks vs → ∀ v ∈ vs, ∃ k ∈ ks, PIs' h k v
  | [], vs, q, v, hv => by simp only [PAll] at q; subst q; cases hv
  | k :: ks, vs, q, v, hv => by
    simp only [PAll] at q
    obtain ⟨u, ws, rfl, r1, r2⟩ := q
    rcases List.mem_cons.mp hv with rfl | hv
    · exact ⟨k, by simp, r1⟩
    · obtain ⟨k', h1, h2⟩ := r2.mem v hv
      exact ⟨k', List.mem_cons_of_mem _ h1, h2⟩
theorem PAll.keys {h : Heap} : ∀ {ks : List NK} {vs : List Value}, PAll h ks vs → vs.map (kk h) = ks
  | [], vs, q => by simp only [PAll] at q; subst q; rfl
  | k :: ks, vs, q => by
    simp only [PAll] at q
    obtain ⟨u, ws, rfl, r1, r2⟩ := q
    rw [List.map_cons, kk_eq r1, r2.keys]
theorem pall_map {h : Heap} : ∀ {vs : List Value}, (∀ v ∈ vs, ∃ k, PIs' h k v) → PAll h (vs.map (kk h)) vs
  | [], _ => by simp only [List.map_nil, PAll]
  | v :: vs, q => by
    simp only [List.map_cons, PAll]
    obtain ⟨k, r⟩ := q v (by simp)
    exact ⟨v, vs, rfl, by rw [kk_eq r]; exact r, pall_map fun u hu => q u (List.mem_cons_of_mem _ hu)⟩
theorem swo_key (h : Heap) : Swo fun v u => ltN (kk h v) (kk h u) := ⟨fun _ _ q => ltN_asym q, fun _ _ _ q1 q2 => ltN_tr q1 q2⟩
theorem firstsI {h : Heap} : ∀ {ks : List NK} {vs : List Value}, PAll h ks vs → ks.all fstInt = true → ∃ fs, KatTups h vs fs ∧ fs.length = ks.length ∧ ∀ f ∈ fs, ∃ i t, f = Value.int i t
  | [], vs, q, _ => by simp only [PAll] at q; subst q; exact ⟨[], KatTups.nil, rfl, fun f hf => by cases hf⟩
  | k :: ks, vs, q, ha => by
    simp only [PAll] at q
    obtain ⟨u, ws, rfl, r1, r2⟩ := q
    simp only [List.all_cons, Bool.and_eq_true] at ha
    obtain ⟨fs, t, hl, hf⟩ := firstsI r2 ha.2
    cases k with
    | tup as =>
      cases as with
      | nil => simp [fstInt] at ha
      | cons x as =>
        cases x <;> simp only [fstInt, Bool.false_eq_true, false_and] at ha
        rename_i m
        simp only [PIs', PAll] at r1
        obtain ⟨a, items, rfl, ⟨o, ho, hc, n, hd⟩, v, ws', e, ⟨t', rfl⟩, _⟩ := r1
        refine ⟨_ :: fs, KatTups.cons ho hc hd (f := Value.int m t') ?_ t, by simp [hl], fun f hf' => ?_⟩
        · rw [← Array.getElem?_toList, e]; rfl
        · rcases List.mem_cons.mp hf' with rfl | hf'
          · exact ⟨_, _, rfl⟩
          · exact hf f hf'
    | _ => simp [fstInt] at ha
theorem firstsT {h : Heap} : ∀ {ks : List NK} {vs : List Value}, PAll h ks vs → ks.all fstTup = true → ∃ fs, KatTups h vs fs ∧ fs.length = ks.length ∧ ∀ f ∈ fs, ∃ a o, f = Value.ref a ∧ h.get? a = some o ∧ o.cls = .type "tuple"
  | [], vs, q, _ => by simp only [PAll] at q; subst q; exact ⟨[], KatTups.nil, rfl, fun f hf => by cases hf⟩
  | k :: ks, vs, q, ha => by
    simp only [PAll] at q
    obtain ⟨u, ws, rfl, r1, r2⟩ := q
    simp only [List.all_cons, Bool.and_eq_true] at ha
    obtain ⟨fs, t, hl, hf⟩ := firstsT r2 ha.2
    cases k with
    | tup as =>
      cases as with
      | nil => simp [fstTup] at ha
      | cons x as =>
        cases x <;> simp only [fstTup, Bool.false_eq_true, false_and] at ha
        simp only [PIs', PAll] at r1
        obtain ⟨a, items, rfl, ⟨o, ho, hc, n, hd⟩, v, ws', e, ⟨a', items', rfl, ⟨o', ho', hc', n', hd'⟩, _⟩, _⟩ := r1
        refine ⟨_ :: fs, KatTups.cons ho hc hd (f := Value.ref a') ?_ t, by simp [hl], fun f hf' => ?_⟩
        · rw [← Array.getElem?_toList, e]; rfl
        · rcases List.mem_cons.mp hf' with rfl | hf'
          · exact ⟨_, _, rfl, ho', hc'⟩
          · exact hf f hf'
    | _ => simp [fstTup] at ha
section
variable {prog : Program} {w : World} {A : Around} {E : Value → Shared → Prop} {s : Shared}
theorem tup_cmp {h : Heap} {b : Bool} {ks : List NK} {vs : List Value} (hu : A.units + 10 < cLine) (r : PAll s.heap ks vs) (rk : PAll h ks vs) (ok : ∀ a ∈ ks, ∀ b ∈ ks, cmpOk a b = true) (hd : ∀ k ∈ ks, k.depth ≤ 8) (hb : b = true → ks.all fstInt = true) (hT : ∀ k ∈ ks, ∃ as, k = .tup as) :
    SrtO.Cmp prog w A s (tuples' b) (fun p => p.1 ∈ vs) (lt2 fun v u => ltN (kk h v) (kk h u)) := by
  intro p q hm hm'
  have one : ∀ v ∈ vs, ∃ k ∈ ks, PIs' s.heap k v ∧ kk h v = k := by
    have e : vs.map (kk h) = vs.map (kk s.heap) := by rw [rk.keys, r.keys]
    intro v hv
    obtain ⟨k, k1, k2⟩ := r.mem v hv
    refine ⟨k, k1, k2, ?_⟩
    have := List.map_inj_left.mp e v hv
    rw [this]; exact kk_eq k2
  obtain ⟨k1, m1, p1, e1⟩ := one _ hm
  obtain ⟨k2, m2, p2, e2⟩ := one _ hm'
  have okk := ok k1 m1 k2 m2
  have d1 := hd k1 m1
  show wpAny (model prog w) A (keyLt' (tuples' b) p.1 q.1) (fun r s' => s' = s ∧ r = ltN (kk h p.1) (kk h q.1)) (fun _ _ => False) s
  rw [e1, e2]
  have istup : ∀ k ∈ ks, b = true → ∃ m r, k = .tup (.num m :: r) := fun k hk z => by
    have := List.all_eq_true.mp (hb z) k hk
    cases k with
    | tup as =>
      cases as with
      | nil => simp [fstInt] at this
      | cons x as => cases x <;> simp [fstInt] at this; exact ⟨_, _, rfl⟩
    | _ => simp [fstInt] at this
  cases k1 with
  | tup as =>
    cases k2 with
    | tup bs =>
      simp only [PIs'] at p1 p2
      obtain ⟨a, items, ea, ⟨o, ho, hc, n, hdt⟩, r1⟩ := p1
      obtain ⟨a', items', ea', ⟨o', ho', hc', n', hdt'⟩, r2⟩ := p2
      rw [ea, ea']
      refine kat_lt ho hdt ho' hdt' ?_
      refine katlex (as := as) (bs := bs) (by simp only [NestedKey.depth] at d1; omega) hu r1 r2 (by simpa only [cmpOk] using okk) (fun z _ x r y r' ex ey => ?_) ?_ ⟨rfl, ?_⟩
      · obtain ⟨m, _, em⟩ := istup _ m1 z
        obtain ⟨m', _, em'⟩ := istup _ m2 z
        cases em
        cases em'
        cases ex
        cases ey
        exact ⟨_, _, rfl, rfl⟩
      · have l1 := r1.length
        have l2 := r2.length
        rw [Array.length_toList] at l1 l2
        rw [l1, l2]
      · unfold ltN; simp only [cmpN]
    | _ => simp [cmpOk] at okk
  | num i =>
    cases k2 with
    | num j =>
      obtain ⟨_, e⟩ := hT _ m1
      cases e
    | _ => simp [cmpOk] at okk
  | _ => simp [cmpOk] at okk
theorem tup_sortable {h : Heap} {a : Addr} {ks : List NK} {vs : List Value} (hu : A.units + 10 < cLine) (h0 : 0 < vs.length) (r : PAll s.heap ks vs) (rk : PAll h ks vs) (ok : ∀ a ∈ ks, ∀ b ∈ ks, cmpOk a b = true) (hd : ∀ k ∈ ks, k.depth ≤ 8)
    (hf : ks.all fstInt = true ∨ ks.all fstTup = true) (ha : ∀ o, s.heap.get? a = some o → o.cls ≠ .type "tuple") : SortableO prog w A s a vs fun v u => ltN (kk h v) (kk h u) := by
  intro h' keep
  have kp : ∀ b o, s.heap.get? b = some o → o.cls = .type "tuple" → h'.get? b = some o := fun b o e c => keep b o (fun z => by subst z; exact ha o e c) e
  have r' : PAll h' ks vs := pall_keep kp r
  have hT : ∀ k ∈ ks, ∃ as, k = NestedKey.tup as := fun k hk => by
    rcases hf with q | q
    · have := List.all_eq_true.mp q k hk
      cases k <;> simp [fstInt] at this ⊢
    · have := List.all_eq_true.mp q k hk
      cases k <;> simp [fstTup] at this ⊢
  have hl := r.length
  rcases hf with q | q
  · obtain ⟨fs, t, h1, h2⟩ := firstsI r' q
    refine ⟨tuples' true, fun Q E hq => ?_, tup_cmp (s := { s with heap := h' }) hu r' rk ok hd (fun _ => q) hT⟩
    refine kat_kind (T := .type "int") t (by omega) (fun f hm => ?_) (by rfl) ?_
    · obtain ⟨x, t, rfl⟩ := h2 f hm
      exact PySem.W.Looks.now
    · have e : (Value.type "int" != Value.type "tuple") = true := by first | decide +kernel | rfl | decide
      rw [e]
      exact hq
  · obtain ⟨fs, t, h1, h2⟩ := firstsT r' q
    refine ⟨tuples' false, fun Q E hq => ?_, tup_cmp (s := { s with heap := h' }) hu r' rk ok hd (fun z => by cases z) hT⟩
    refine kat_kind (T := .type "tuple") t (by omega) (fun f hm => ?_) (by rfl) ?_
    · obtain ⟨x, o, rfl, e1, e2⟩ := h2 f hm
      have z : Looks (model prog w) h' (typeOf (.ref x)) o.cls := (Looks.ld e1).andThen .now
      rw [e2] at z
      exact z
    · have e : (Value.type "tuple" != Value.type "tuple") = false := by first | decide +kernel | rfl | decide
      rw [e]
      exact hq
theorem tup_out {h : Heap} {ks : List NK} {vs out : List Value} (rk : PAll h ks vs) (ok : ∀ a ∈ ks, ∀ b ∈ ks, cmpOk a b = true) (hs : Srtd (fun v u => ltN (kk h v) (kk h u)) out) (hb : Stb (fun v u => ltN (kk h v) (kk h u)) out vs) : PAll h (sortN ks) out := by
  have e : out.map (kk h) = sortN ks := by
    refine sortN_unique ok ?_ ?_
    · have := hb.perm.map (kk h)
      rw [rk.keys] at this
      exact this
    · exact List.pairwise_map.mpr hs
  rw [← e]
  exact pall_map fun v hv => by
    obtain ⟨k, _, q⟩ := rk.mem v (hb.perm.mem_iff.mp hv)
    exact ⟨k, q⟩
end
section
variable {X : Cx} {L : Lo} {H : Hp}
theorem krep_mem {pins : List (Addr × Obj)} {σ : L2.St} {s : Shared} : ∀ {ks : List NK} {vs : List V} {us : List Value}, KReps L H ks vs → Vals vs us → ∀ u ∈ us, ∃ k ∈ ks, ∃ v, KRep L H k v ∧ RelV v u
  | [], vs, us, h, r, u, hu => by
    simp only [KReps] at h
    subst h
    cases r
    cases hu
  | k :: ks, vs, us, h, r, u, hu => by
    simp only [KReps] at h
    obtain ⟨v, ws, rfl, h1, h2⟩ := h
    cases r with
    | cons r1 r2 =>
      rcases List.mem_cons.mp hu with rfl | hu
      · exact ⟨k, by simp, v, h1, r1⟩
      · obtain ⟨k', m, q⟩ := krep_mem (pins := pins) (σ := σ) (s := s) h2 r2 u hu
        exact ⟨k', List.mem_cons_of_mem _ m, q⟩
/-- the sorted values, told by their places -/
theorem sort_back {pins : List (Addr × Obj)} {σ : L2.St} {s : Shared} (I : Inv X pins σ H s) (hK : X.K = L.K) {ks : List NK} {vs : List V} {us : List Value} (kr : KReps L H ks vs) (rv : Vals vs us) (hT : ∀ k ∈ ks, ∃ as, k = NestedKey.tup as) :
    ∀ {ks' : List NK} {out : List Value}, PAll s.heap ks' out → (∀ u ∈ out, u ∈ us) → ∃ bs : List Addr, out = bs.map Value.ref ∧ KReps L H ks' (bs.map V.ref)
  | [], out, p, _ => by
    simp only [PAll] at p
    subst p
    exact ⟨[], rfl, by simp only [List.map_nil, KReps]⟩
  | k :: ks', out, p, hm => by
    simp only [PAll] at p
    obtain ⟨u, ws, rfl, p1, p2⟩ := p
    obtain ⟨bs, e, q⟩ := sort_back I hK kr rv hT p2 fun u hu => hm u (List.mem_cons_of_mem _ hu)
    obtain ⟨k', m', v, h1, h2⟩ := krep_mem (pins := pins) (σ := σ) (s := s) kr rv u (hm u (by simp))
    have ek : k' = k := NestedIs.inj _ _ _ (pis_nested (pis_of I hK h1 h2)) (pis_nested p1)
    subst ek
    obtain ⟨as, rfl⟩ := hT k' m'
    have h1' := h1
    simp only [KRep] at h1
    obtain ⟨b, vs', rfl, _⟩ := h1
    cases (show u = Value.ref b from h2)
    refine ⟨b :: bs, by rw [e]; rfl, ?_⟩
    simp only [List.map_cons, KReps]
    exact ⟨_, _, rfl, h1', q⟩
theorem sortOk_parts {ks : List NK} (h : sortOk ks = true) : (∀ k ∈ ks, ∃ as, k = NestedKey.tup as) ∧ ks.length ≤ sizeLine ∧ (ks.length < 2 ∨ ks.all fstInt = true ∨ ks.all fstTup = true) ∧ (∀ k ∈ ks, k.depth ≤ 8) ∧ (∀ a ∈ ks, ∀ b ∈ ks, cmpOk a b = true) := by
  simp only [sortOk, Bool.and_eq_true, Bool.or_eq_true, decide_eq_true_eq] at h
  obtain ⟨⟨⟨⟨h0, h1⟩, h2⟩, h3⟩, h4⟩ := h
  refine ⟨fun k hk => ?_, h1, ?_, fun k hk => by simpa using List.all_eq_true.mp h3 k hk, fun a ha b hb => List.all_eq_true.mp (List.all_eq_true.mp h4 a ha) b hb⟩
  · have := List.all_eq_true.mp h0 k hk
    cases k <;> simp [tupK] at this ⊢
  rcases h2 with (h2 | h2) | h2
  · exact .inl h2
  · exact .inr (.inl h2)
  · exact .inr (.inr h2)
theorem cr_sortedN (hu : X.A.units + 65 < cLine) (hK : X.K = L.K) : CallR X (.builtin "sorted") (fun xs H Q => ∃ (a : Addr) (vs : List V) (ks : List NK), xs = [.ref a] ∧ H a = some (.lst vs) ∧ KReps L H ks vs ∧ sortOk ks = true ∧
    ∀ (ws : List V) (p : Addr), KReps L H (sortN ks) ws → H p = none → Q (.ref p) (upd H p (.lst ws))) := by
  intro pins s σ H vs us Q I r h
  obtain ⟨a, xs, ks, rfl, hs, kr, so, q⟩ := h
  obtain ⟨hT, s1, s2, s3, s4⟩ := sortOk_parts so
  obtain ⟨its, rv, hl, hz⟩ := I.list (.of hs)
  rw [Vals.ref1 r]
  have pa := pall_of I hK kr rv
  have hl2 := pa.length
  refine SrtO.sorted_ord (swo_key s.heap) hl.isList (by rw [← rv.length]; exact hz) (fun h2 h₁ a' ha kp => ?_) fun out h1 h2 => ?_
  · refine tup_sortable (s := { s with heap := h₁ }) (by show X.A.units + 1 + 1 + 10 < cLine; omega) (by omega) (pall_keep (fun b o e _ => (kp b o e).2) pa) pa s4 s3 (s2.resolve_left (by omega)) fun o e => ?_
    have e' : some o = some (seqObj "list" its.toArray 0) := e.symm.trans ha
    cases e'
    intro c
    exact absurd (Value.type.inj c) (by decide)
  · have po := tup_out pa s4 h1 h2
    obtain ⟨bs, eb, kb⟩ := sort_back I hK kr rv hT po fun u hu => h2.perm.mem_iff.mp hu
    obtain ⟨ep, he'⟩ := PyProof.Rows.sortedAll_at s.heap its out.toArray
    have hlen : (bs.map V.ref).length ≤ sizeLine := by
      rw [List.length_map]
      have e1 : out.length = its.length := h2.perm.length_eq
      rw [eb, List.length_map] at e1
      omega
    exact ⟨.ref _, upd H (s.heap.objs.size + 1) (.lst (bs.map V.ref)), I.laid (t' := s.toks) (fun _ _ => PyProof.Rows.sortedAll_old) (Nat.le_succ _) ⟨hlen, out, ep, by rw [eb]; exact vals_refs _, he'⟩, rfl, q _ _ kb (I.hok.fresh (Nat.le_succ _))⟩
/-- the tuples of a dict are collected -/
theorem dn_all {pins : List (Addr × Obj)} {σ : L2.St} {s : Shared} (I : Inv X pins σ H s) (hK : X.K = L.K) (hw : X.w = L.wd) {a : Addr} {ks : List NK} {vs : List V} {l : List (NK × Addr × V)} (g : DL L H a ks vs l) :
    ∃ (o : Obj) (es : Array DictEntry) (ep : Nat) (bs : List Addr), s.heap.get? a = some o ∧ o.ExactDict ∧ o.data = .dict es ep ∧ (a == sysModules) = false ∧ es.size = bs.length ∧ bs.length = ks.length ∧ bs.length ≤ sizeLine ∧ KReps L H ks (bs.map V.ref) ∧ (∀ j : Nat, (es[j]?).map (·.key) = (bs[j]?).map Value.ref) := by
  obtain ⟨nd, hl, ⟨as, g1, g2, rfl, e⟩ | ⟨rfl, rfl, e⟩⟩ := g
  · obtain ⟨⟨hs, hz, xs, pr, o, es, ep, h1, h2, h3, h4⟩, _⟩ := (show ObjOk X.prog X.w H s.heap a (.ext (dNF L.wd a (ks.zip (as.zip vs)))) from I.hok a _ e)
    obtain ⟨_, i2, _, i4⟩ := pr_facts I hK g1 g2 hl pr
    have ea : xs.map (fun x => x.2.1) = as := by
      have gen : ∀ {l : List (NK × Addr × V)} {xs : List (NK × Addr × Value)}, PR l xs → xs.map (fun x => x.2.1) = l.map fun x => x.2.1 := by
        intro l xs r
        induction r with
        | nil => rfl
        | cons h t ih => rw [List.map_cons, List.map_cons, ih, h.2.1]
      rw [gen pr]
      have e1 : (ks.zip (as.zip vs)).map (fun x => x.2.1) = ((ks.zip (as.zip vs)).map Prod.snd).map Prod.fst := by rw [List.map_map]; rfl
      rw [e1, List.map_snd_zip (by rw [List.length_zip]; omega), List.map_fst_zip (by omega)]
    have lx : xs.length = as.length := by rw [← ea, List.length_map]
    refine ⟨o, es, ep, as, h1, h2, h3, hs, ?_, i4, ?_, g1, fun j => ?_⟩
    · rw [← Array.length_toList, h4, List.length_map, lx]
    · simp only [List.length_zip] at hz; omega
    · rw [← Array.getElem?_toList, h4, List.getElem?_map, ← ea, List.getElem?_map]
      cases xs[j]? <;> rfl
  · obtain ⟨hz, hs, vs0, kv, o, es, ep, h1, h2, h3, _, h4, _⟩ := (show ObjOk X.prog X.w H s.heap a (.dK []) from I.hok a _ e)
    cases kv
    have e0 := pairs_nil h4
    refine ⟨o, es, ep, [], h1, h2, h3, hs, by rw [← Array.length_toList, e0]; rfl, rfl, Nat.zero_le _, by simp only [List.map_nil, KReps], fun j => ?_⟩
    rw [← Array.getElem?_toList, e0]
    simp
theorem acc_of {es : Array DictEntry} {bs : List Addr} {acc : Array Value} (hz : es.size = bs.length) (he : ∀ j : Nat, (es[j]?).map (·.key) = (bs[j]?).map Value.ref) (h1 : acc.size = es.size) (h2 : ∀ (j : Nat) (v : Value), acc[j]? = some v → ∃ en : DictEntry, es[j]? = some en ∧ v = en.key) : acc.toList = bs.map Value.ref := by
  apply List.ext_getElem?
  intro j
  rw [List.getElem?_map, ← he j]
  cases hj : acc.toList[j]? with
  | none =>
    have q := List.getElem?_eq_none_iff.mp hj
    rw [Array.length_toList, h1] at q
    rw [Array.getElem?_eq_none q]; rfl
  | some v =>
    obtain ⟨en, hen, hv⟩ := h2 j v (by rw [← Array.getElem?_toList]; exact hj)
    rw [hen, hv]; rfl
/-- list(d) -/
theorem call_listN (hc : X.calm = true) (hK : X.K = L.K) (hw : X.w = L.wd) : CallR X (.type "list") (fun xs H Q => ∃ d ks vs l, xs = [V.ref d] ∧ DL L H d ks vs l ∧ ∀ (bs : List V) (p : Addr), KReps L H ks bs → H p = none → Q (.ref p) (upd H p (.lst bs))) := by
  intro pins s σ H xs us Q I r h
  obtain ⟨d, ks, vs, l, rfl, hd, q⟩ := h
  obtain ⟨u, rfl, rx⟩ := r.one
  cases rx
  obtain ⟨o, es, ep, bs, ho, hx, hdt, hs, l1, l2, l3, kb, he⟩ := dn_all I hK hw hd
  refine PySem.W.kdl_call (kdl_raw hs hx hdt) (I.ok.hd hc) ho (by omega) fun h' tk acc' c' kp e it => ?_
  have eb := acc_of l1 he it.1 it.2
  have rv : Vals (bs.map V.ref) acc'.toList := by rw [eb]; exact vals_refs _
  have hz : (bs.map V.ref).length ≤ sizeLine := by rw [List.length_map]; exact l3
  refine ⟨.ref s.heap.objs.size, _, I.laid (t' := tk) (o := .lst (bs.map V.ref)) kp (Nat.le_refl _) ?_, rfl, q _ _ kb (I.hok.fresh (Nat.le_refl _))⟩
  exact ⟨hz, acc'.toList, c', rv, by rw [Array.toArray_toList]; exact e⟩
/-- sorted(d) -/
theorem call_sortedDN (hc : X.calm = true) (hu : X.A.units + 65 < cLine) (hK : X.K = L.K) (hw : X.w = L.wd) : CallR X (.builtin "sorted") (fun xs H Q => ∃ d ks vs l, xs = [V.ref d] ∧ DL L H d ks vs l ∧ sortOk ks = true ∧
    ∀ (ws : List V) (p : Addr), KReps L H (sortN ks) ws → H p = none → Q (.ref p) (upd H p (.lst ws))) := by
  intro pins s σ H xs us Q I r h
  obtain ⟨d, ks, vs, l, rfl, hd, so, q⟩ := h
  obtain ⟨hT, s1, s2, s3, s4⟩ := sortOk_parts so
  obtain ⟨u, rfl, rx⟩ := r.one
  cases rx
  obtain ⟨o, es, ep, bs, ho, hx, hdt, hs, l1, l2, l3, kb, he⟩ := dn_all I hK hw hd
  refine Calls.call_function_entry PyProof.Rows.kind_sorted PyProof.Rows.plain_sorted PyProof.Rows.entry_sorted (PyProof.Rows.args_sorted1 _) ?_
  unfold Builtin.«sorted»
  refine wpAny_bind (m := checkCount "sorted" 1 1 _) (wpAny_pure ?_)
  refine wpAny_bind (PySem.W.kdu_collect (A := X.A.in1) (kdl_raw hs hx hdt) (I.ok.hd hc) ho (by omega) fun h' tk acc hk hacc => ?_)
  have eb := acc_of l1 he hacc.1 hacc.2
  have I1 : Inv X pins σ H { s with heap := h', toks := tk } := I.kept hk
  have rv : Vals (bs.map V.ref) acc.toList := by rw [eb]; exact vals_refs _
  have pa := pall_of I1 hK kb rv
  have hal : acc.toList.length = bs.length := by rw [eb, List.length_map]
  refine wpAny_bind (wpAny_newList ?_ (by rw [hal]; exact l3))
  have hoL : (h'.push (seqObj "list" acc.toList.toArray 0)).get? h'.objs.size = some (seqObj "list" acc.toList.toArray 0) := Heap.get?_push_size _ rfl
  show wpAny _ _ _ _ _ { s with heap := h'.push (seqObj "list" acc.toList.toArray 0), toks := tk }
  refine wpAny_bind (wpAny_holding (wpAny_call_entry PyProof.Rows.slot_list_sort ⟨_, hoL, rfl⟩ PyProof.Rows.entry_list_sort
    (SrtO.list_sort_ord (s := { s with heap := h'.push (seqObj "list" acc.toList.toArray 0), toks := tk }) (swo_key h') hoL (by rw [hal]; exact l3) (fun h2 => ?_) fun out g1 g2 => ⟨_, rfl, ?_⟩) (PyProof.Rows.args_list_sort _)))
  · refine tup_sortable (s := { s with heap := h'.push (seqObj "list" acc.toList.toArray 0), toks := tk }) (by show X.A.units + 1 + 1 + 10 < cLine; omega) (by omega) (pall_keep (fun b o e _ => Heap.get?_push_of_some _ e) pa) pa s4 s3 (s2.resolve_left (by have := pa.length; omega)) fun o e => ?_
    have e' : some o = some (seqObj "list" acc.toList.toArray 0) := e.symm.trans hoL
    cases e'
    intro c
    exact absurd (Value.type.inj c) (by decide)
  · have po := tup_out pa s4 g1 g2
    obtain ⟨bs', eb', kb'⟩ := sort_back I1 hK kb rv hT po fun u hu => g2.perm.mem_iff.mp hu
    obtain ⟨e', he'⟩ := PyProof.Rows.sortedHeap_at (vs := acc.toList) (out := out.toArray) hoL
    have hlen : (bs'.map V.ref).length ≤ sizeLine := by
      rw [List.length_map]
      have e1 : out.length = acc.toList.length := g2.perm.length_eq
      rw [eb', List.length_map] at e1
      omega
    refine wpAny_pure ⟨_, rfl, .ref h'.objs.size, upd H h'.objs.size (.lst (bs'.map V.ref)), I1.laid (t' := tk) (fun b u e => ?_) (Nat.le_refl _)
      (show ObjOk X.prog X.w _ _ _ (.lst (bs'.map V.ref)) from ⟨hlen, out, e', by rw [eb']; exact vals_refs _, he'⟩), rfl, q _ _ kb' (I1.hok.fresh (Nat.le_refl _))⟩
    have hb : b < h'.objs.size := Heap.lt_size e
    rw [PyProof.Rows.sortedHeap_old (Nat.ne_of_lt hb) (by rw [size_push']; exact Nat.lt_succ_of_lt hb)]
    exact Heap.get?_push_of_some _ e
end
end PL

/-! PL.Exp: expressions. -/
namespace PL
open PySem L2

/-- what a def promises: what the oracle says of it -/
def ioV (io : List Nat) (vs : List V) : List V := io.map fun i => vs.getD i .non
def spF (L : Lo) (tb : Tab) (o : Orc) (f : Nat) : Sp := fun vs H Q E => ∃ fn Z S ds r, tb.fns[f]? = some fn ∧ ds.length = fn.np ∧ Ok Z S H ∧ Reps L Z H vs ds S ∧ o f ds = some r ∧
  match r with
  | .val d fs => ∀ v H' Z' S1 S2, Step Z S H Z' (OrS S1 S2) H' → Ok Z' (OrS S1 S2) H' → (∀ b, S1 b → ¬ S2 b) → Reps L Z' H' (ioV fn.io vs) fs S1 → Rep L Z' H' v d S2 → Q v H'
  | .exc x fs => ∀ cls dd H' Z' S1, Step Z S H Z' S1 H' → Ok Z' S1 H' → Reps L Z' H' (ioV fn.io vs) fs S1 → RepX L Z' H' cls dd x → E cls dd H'

/-- a constant of the module -/
def GlbOk (L : Lo) (mg : Str → Option Value) (x : Str) (d : D) : Prop := ∃ (u : Value) (v : V), mg x = some u ∧ RelV v u ∧ ∀ Z H, Rep L Z H v d NoAS
/-- a written dict of the module, keys texts -/
def GdcOk (L : Lo) (K : PySem.W.Frag) (w : World) (mg : Str → Option Value) (x : Str) (ks : List Key) (xs : List D) : Prop :=
  ∃ (a : Addr) (es : Array DictEntry) (n : Nat), mg x = some (.ref a) ∧ KDict K w a es n ∧ ∀ z d, lookD ks xs (.inr z) = some d → ∃ (u : Value) (v : V), PySem.W.nsIn K a z = some (some u) ∧ RelV v u ∧ ∀ Z H, Rep L Z H v d NoAS
/-- the context of a def of the program -/
def biNames : List Str := ["len", "range", "int", "abs", "list", "tuple", "sorted", "sum", "all", "any", "min", "max", "str", "bool", "isinstance", "enumerate", "zip", "reversed", "dict", "repr", "set", "super", "type"]
class Lay (X : Cx) (L : outParam Lo) (tb : outParam Tab) (o : outParam Orc) (k : outParam Nat) : Prop where
  K : X.K = L.K
  wd : X.w = L.wd
  calm : X.calm = true
  room' : Room (k + 1) X.A
  bi : ∀ x, x ∈ biNames → X.mg x = none
  top : ∀ f, L.ftop f = true → X.mg (L.fname f) = some (.ref (L.fadr f))
  ctp : ∀ c, L.ctop c = true → X.mg (L.cname c) = some (.ref (L.cls c))
  met : ∀ c m f, tb.meth c m = some f → Cls X.K (L.cls c) ∧ Meth X.K (L.cls c) m (L.fadr f)
  mak : ∀ c f, tb.init c = some f → Mk X.K (L.cls c) (L.fadr f)
  att : ∀ c f, tb.attr c f = true → Cls X.K (L.cls c) ∧ NoAttr X.K (L.cls c) f
  glb : ∀ x d, L.glb x = some d → GlbOk L X.mg x d
  gdc : ∀ x ks xs, L.gdc x = some (ks, xs) → GdcOk L X.K X.w X.mg x ks xs
  fn : ∀ f fn, tb.fns[f]? = some fn → FnOk X.prog X.w X.K X.mg X.base (L2.CX X.prog X.w) k (L.fadr f) (L.ffd f) (L.fps f) (spF L tb o f) ∧ PySem.W.keepIn X.K (.ref (L.fadr f)) = true ∧ Binds X.K (L.ffd f) (L.fps f) [] ∧ (L.fps f).length = fn.np
theorem Lay.room {X : Cx} {L : Lo} {tb : Tab} {o : Orc} {k : Nat} [h : Lay X L tb o k] : Room k X.A := h.room'.mono (Nat.le_succ _)
instance {X : Cx} {L : Lo} {tb : Tab} {o : Orc} {k : Nat} [h : Lay X L tb o k] (s : Shared) (H : Hp) (scope : Scope) (cenv : PySem.Env) (fp : List Addr) : Lay (X.blk s H scope cenv fp) L tb o k := ⟨h.K, h.wd, h.calm, h.room', h.bi, h.top, h.ctp, h.met, h.mak, h.att, h.glb, h.gdc, h.fn⟩

structure PEs (X : Cx) (L : Lo) (tb : Tab) (o : Orc) (e : Expr) (c : E) : Prop where
  run : ∀ W, Takes X W → PE X e (tG L W (Rep L) (evE tb o c))
structure PTs' (X : Cx) (L : Lo) (tb : Tab) (o : Orc) (e : Expr) (c : C) : Prop where
  run : ∀ W, Takes X W → PT X e (tG L W repB (evT tb o c))
structure PWs (X : Cx) (L : Lo) (tb : Tab) (o : Orc) (e : Expr) (c : C) : Prop where
  run : ∀ W, Takes X W → PW X e (tG L W repB (evT tb o c))
structure PAs (X : Cx) (L : Lo) (tb : Tab) (o : Orc) (es : List Expr) (c : Es) : Prop where
  run : ∀ W, Takes X W → PA X es (tG L W (Reps L) (evEs tb o c))

theorem PEimp {X : Cx} {e : Expr} {t t' : TE} (p : PE X e t) (h : ∀ σ H Q, t' σ H Q → t σ H Q) : PE X e t' := ⟨fun pins s σ H Q I hq => p.run pins s σ H Q I (h σ H Q hq)⟩
theorem PTimp {X : Cx} {e : Expr} {t t' : TT} (p : PT X e t) (h : ∀ σ H Q, t' σ H Q → t σ H Q) : PT X e t' := ⟨fun pins s σ H Q I hq => p.run pins s σ H Q I (h σ H Q hq)⟩
theorem PWimp {X : Cx} {e : Expr} {t t' : TT} (p : PW X e t) (h : ∀ σ H Q, t' σ H Q → t σ H Q) : PW X e t' := ⟨fun whole pins s σ H Q I hq => p.run whole pins s σ H Q I (h σ H Q hq)⟩
theorem PAimp {X : Cx} {e : List Expr} {t t' : TA} (p : PA X e t) (h : ∀ σ H Q, t' σ H Q → t σ H Q) : PA X e t' := ⟨fun pos pins s σ H Q I hq => p.run pos pins s σ H Q I (h σ H Q hq)⟩
theorem PSimp {X : Cx} {e : Stmt} {t t' : TS} (p : PS X e t) (h : ∀ D σ H, t' D σ H → t D σ H) : PS X e t' := ⟨fun pins s σ H D I hq => p.run pins s σ H D I (h D σ H hq)⟩
theorem PSsimp {X : Cx} {e : List Stmt} {t t' : TS} (p : PSs X e t) (h : ∀ D σ H, t' D σ H → t D σ H) : PSs X e t' := ⟨fun pins s σ H D I hq => p.run pins s σ H D I (h D σ H hq)⟩

section
variable {X : Cx} {L : Lo} {tb : Tab} {o : Orc} {k : Nat} {pos : Pos} {a b c : Expr} {ca cb cc : E} {W : WX}

/-! ### names -/
theorem var_run {i : Nat} {σ : St} {H : Hp} {Q : V → Hp → Prop} (h : tG L W (Rep L) (evE tb o (.var i)) σ H Q) : tVar i σ H Q := by
  obtain ⟨Z, S, e, r, k, re, h, g⟩ := h
  simp only [evE] at h
  cases q : e.at i with
  | none => rw [q] at h; cases h
  | some d =>
    rw [q] at h
    obtain ⟨v, S1, S2, ev, h1, h2, dj, rv, re'⟩ := re.at q
    refine ⟨v, ev, ?_⟩
    by_cases c : d.fz = true
    · simp only [c, if_true, Option.some.injEq] at h
      subst h
      exact g v H Z S NoAS (Step.refl fun b z => z.elim id (fun z => z.elim)) k.noOr (fun _ _ z => z) re (rep_fz c rv)
    · simp only [c, if_false] at h
      cases h
      have k2 : Ok (OrS Z S1) (OrS S2 NoAS) H := by
        refine ⟨fun b hb z => ?_, fun b hb => k.own b (h2 b (hb.elim id fun z => z.elim)), fun b z => z.elim (k.zd b) fun z => k.sd (h1 b z)⟩
        have hb2 : S2 b := hb.elim id fun z => z.elim
        exact z.elim (k.dj b (h2 b hb2)) fun z => dj b z hb2
      refine g v H (OrS Z S1) S2 NoAS ⟨fun b z => .inl z, fun b z => z.elim .inl fun z => .inr (.inl (h1 b z)), fun b z => .inl (h2 b (z.elim id fun z => z.elim)), fr_refl, fun _ z => z⟩ k2 (fun _ _ z => z) ?_ (rep_frz (fun b z => .inr z) (fun b z => .inl z) rv)
      exact (re'.z fun b z => .inl z).put ev (rep_frz (fun b z => .inr z) (fun b z => .inl z) rv) (fun _ z => z.elim) (fun _ z => z) fun _ z => z.elim
theorem ce_var (i : Nat) {x : Str} (hN : X.N[i]? = some x := by rfl) (hv : Vis X.env.scope x := by first | exact Or.inl rfl | exact Or.inr (Or.inl rfl) | exact Or.inr (Or.inr rfl)) (hd : (x == ("__debug__" : Str)) = false := by decide)
    (hcd : (x == ("__classdict__" : Str)) = false := by decide) : PEs X L tb o (.Name x pos) (.var i) :=
  ⟨fun W tk => PEimp (pv i hN hv hd hcd) fun σ H Q h => var_run h⟩
theorem ce_mv (i : Nat) {x : Str} (hN : X.N[i]? = some x := by rfl) (hv : Vis X.env.scope x := by first | exact Or.inl rfl | exact Or.inr (Or.inl rfl) | exact Or.inr (Or.inr rfl)) (hd : (x == ("__debug__" : Str)) = false := by decide)
    (hcd : (x == ("__classdict__" : Str)) = false := by decide) : PEs X L tb o (.Name x pos) (.mv i) :=
  ⟨fun W tk => PEimp (pv i hN hv hd hcd) fun σ H Q h => by
    obtain ⟨Z, S, e, r, k, re, h, g⟩ := h
    simp only [evE] at h
    cases q : e.at i with
    | none => rw [q] at h; cases h
    | some d =>
      rw [q] at h
      obtain ⟨v, S1, S2, ev, h1, h2, dj, rv, re'⟩ := re.at q
      refine ⟨v, ev, ?_⟩
      cases h
      have hs : ∀ b, OrS S2 S1 b → S b := fun b z => z.elim (h2 b) (h1 b)
      exact g v H Z S2 S1 (Step.refl hs) (k.mono hs) (fun b z y => dj b y z) re' rv⟩

/-! ### constants -/
theorem const_run {c : E} {d : D} {v : V} (hc : ∀ e, evE tb o c e = some (.val d e)) (hr : ∀ Z H, Rep L Z H v d NoAS) {σ : St} {H : Hp} {Q : V → Hp → Prop} (h : tG L W (Rep L) (evE tb o c) σ H Q) : Q v H := by
  obtain ⟨e, m⟩ := h.mid
  rw [hc] at m
  exact m.fin fun Z S _ _ => rep_mono (fun _ z => z.elim) (hr Z H)
theorem ce_int {i : Int} {j pos} : PEs X L tb o (.Constant (.int i) j pos) (.int i) := ⟨fun W tk => PEimp pe_int fun σ H Q h => const_run (fun e => by rw [evE]) (fun Z H => by rw [Rep]) h⟩
theorem ce_bl {i : Bool} {j pos} : PEs X L tb o (.Constant (.bool i) j pos) (.bl i) := ⟨fun W tk => PEimp pe_bl fun σ H Q h => const_run (fun e => by rw [evE]) (fun Z H => by rw [Rep]) h⟩
theorem ce_non {j pos} : PEs X L tb o (.Constant .none j pos) .non := ⟨fun W tk => PEimp pe_non fun σ H Q h => const_run (fun e => by rw [evE]) (fun Z H => by rw [Rep]) h⟩
theorem ce_str {x : Str} {j pos} : PEs X L tb o (.Constant (.str x) j pos) (.str x) := ⟨fun W tk => PEimp pe_str fun σ H Q h => const_run (fun e => by rw [evE]) (fun Z H => by rw [Rep]) h⟩

/-! ### a view -/
theorem viewEnv_rep {Z Z' : AS} {H : Hp} {σ : St} {e : Env} {S : AS} {is : List Nat} (re : RepE L Z H σ e S) (hs : ∀ b, S b → Z' b) (zz : ∀ b, Z b → Z' b) : RepE L Z' H σ (viewEnv is 0 e) NoAS := by
  have len : ∀ (e : Env) k, (viewEnv is k e).length = e.length := by
    intro e
    induction e with
    | nil => intro k; rfl
    | cons x xs ih => intro k; simp only [viewEnv, List.length_cons, ih]
  have get : ∀ (e : Env) k (i : Nat) d, (viewEnv is k e)[i]? = some (some d) → ∃ d', e[i]? = some (some d') ∧ d = d'.frz := by
    intro e
    induction e with
    | nil => intro k i d h; simp [viewEnv] at h
    | cons x xs ih =>
      intro k i d h
      cases i with
      | zero =>
        simp only [viewEnv, List.getElem?_cons_zero, Option.some.injEq] at h
        split at h
        · cases x with
          | none => cases h
          | some d' =>
            simp only [Option.map_some, Option.some.injEq] at h
            exact ⟨d', rfl, h.symm⟩
        · cases h
      | succ i =>
        simp only [viewEnv, List.getElem?_cons_succ] at h ⊢
        exact ih (k + 1) i d h
  obtain ⟨F, f1, f2, f3⟩ := re.ex
  refine ⟨by rw [len]; exact re.len, fun _ => NoAS, fun _ _ z => z, fun _ _ _ _ z => z.elim, fun i d hd => ?_⟩
  obtain ⟨d', hd', rfl⟩ := get e 0 i d hd
  obtain ⟨v, ev, r⟩ := f3 i d' hd'
  exact ⟨v, ev, rep_frz (fun b z => hs b (f1 i b z)) zz r⟩
theorem view_run {is : List Nat} {ev : Env → R D} {σ : St} {H : Hp} {Q : V → Hp → Prop} (h : tG L W (Rep L) (fun e => viewOut (ev (viewEnv is 0 e)) e) σ H Q) : tG L W (Rep L) ev σ H Q := by
  obtain ⟨Z, S, e, r, k, re, h, g⟩ := h
  dsimp only at h
  have re' : RepE L (OrS Z S) H σ (viewEnv is 0 e) NoAS := viewEnv_rep re (fun b z => .inr z) fun b z => .inl z
  have k0 : Ok (OrS Z S) NoAS H := ⟨fun _ z => z.elim, fun _ z => z.elim, fun b z => z.elim (k.zd b) fun z => k.sd z⟩
  cases q : ev (viewEnv is 0 e) with
  | none => rw [q] at h; cases h
  | some r1 =>
    rw [q] at h
    cases r1 with
    | exc x e1 => cases h
    | val d e1 =>
      simp only [viewOut] at h
      by_cases n : d.nf = true
      · rw [if_pos n] at h
        cases h
        refine ⟨OrS Z S, NoAS, viewEnv is 0 e, _, k0, re', q, ?_⟩
        intro v H' Z' S1 S2 a k' dj re1 rv
        have s2n : ∀ b, S2 b → H b = none := fun b z => (a.ss b (.inr z)).elim (fun z => z.elim) id
        have sz : ∀ b, S b → ¬ S2 b := fun b z y => k.sd z (s2n b y)
        have fr0 : Fr NoAS H H' := fun b o e n => a.fr b o e n
        have own' : Own S H' := fun b hb => by
          have := k.own b hb
          cases e : H b with
          | none => exact absurd e (k.sd hb)
          | some o => rw [fr0 b o e fun z => z]; rw [← e]; exact this
        refine g v H' Z S S2 ⟨fun _ z => z, fun b z => .inl z, fun b z => z.elim .inl fun z => .inr (s2n b z), fun b o e _ => fr0 b o e fun z => z, a.nn⟩ ⟨fun b hb z => ?_, fun b hb => hb.elim (own' b) fun z => k'.own b (.inr z), fun b z y => k.zd b z (a.nn b y)⟩ sz
          (re.fr fr0 (fun _ z => z.elim) (fun _ _ z => z) (fun _ z => z) fun _ _ z => z) (rep_nf n rv)
        rcases hb with hb | hb
        · exact k.dj b hb z
        · exact k.zd b z (s2n b hb)
      · rw [if_neg n] at h; cases h
theorem ce_view {is : List Nat} (ha : PEs X L tb o a ca) : PEs X L tb o a (.view is ca) :=
  ⟨fun W tk => PEimp (ha.run W tk) fun σ H Q h => view_run (is := is) (ev := evE tb o ca) (by
    rw [show evE tb o (.view is ca) = (fun e => viewOut (evE tb o ca (viewEnv is 0 e)) e) from by funext e; rw [evE]] at h
    exact h)⟩
theorem ct_view {is : List Nat} {ca : C} (ha : PTs' X L tb o a ca) : PTs' X L tb o a (.view is ca) :=
  ⟨fun W tk => PTimp (ha.run W tk) fun σ H Q h => by
    obtain ⟨Z, S, e, r, k, re, h, g⟩ := h
    simp only [evT] at h
    have re' : RepE L (OrS Z S) H σ (viewEnv is 0 e) NoAS := viewEnv_rep re (fun b z => .inr z) fun b z => .inl z
    have k0 : Ok (OrS Z S) NoAS H := ⟨fun _ z => z.elim, fun _ z => z.elim, fun b z => z.elim (k.zd b) fun z => k.sd z⟩
    cases q : evT tb o ca (viewEnv is 0 e) with
    | none => rw [q] at h; cases h
    | some r1 =>
      rw [q] at h
      cases r1 with
      | exc x e1 => cases h
      | val d e1 =>
        cases h
        refine ⟨OrS Z S, NoAS, viewEnv is 0 e, _, k0, re', q, ?_⟩
        intro v H' Z' S1 S2 a k' dj re1 rv
        have fr0 : Fr NoAS H H' := fun b o e n => a.fr b o e n
        have own' : Own S H' := fun b hb => by
          have := k.own b hb
          cases e : H b with
          | none => exact absurd e (k.sd hb)
          | some o => rw [fr0 b o e fun z => z]; rw [← e]; exact this
        refine g v H' Z S NoAS ⟨fun _ z => z, fun b z => .inl z, fun b z => .inl (z.elim id fun z => z.elim), fun b o e _ => fr0 b o e fun z => z, a.nn⟩ ⟨fun b hb z => k.dj b (hb.elim id fun z => z.elim) z, fun b hb => own' b (hb.elim id fun z => z.elim), fun b z y => k.zd b z (a.nn b y)⟩ (fun _ _ z => z)
          (re.fr fr0 (fun _ z => z.elim) (fun _ _ z => z) (fun _ z => z) fun _ _ z => z) rv⟩

/-! ### lists of expressions, displays -/
theorem ca_nil : PAs X L tb o [] .n := ⟨fun W tk => PAimp pa_nil fun σ H Q h => by
  obtain ⟨e, m⟩ := h.mid
  simp only [evEs] at m
  exact m.fin fun Z S _ _ => reps_nil⟩
theorem ca_cons {es : List Expr} {cs : Es} (ha : PEs X L tb o a ca) (hr : PAs X L tb o es cs) (hs : starEach (a :: es) X.env = (false, eval a X.env) :: starEach es X.env := by rfl) : PAs X L tb o (a :: es) (.c ca cs) :=
  ⟨fun W tk => PAimp (pa_cons (ha.run W tk) (hr.run W tk) hs) fun σ H Q h => by
    obtain ⟨e, m⟩ := h.mid
    simp only [evEs] at m
    refine m.one.imp fun v H1 ⟨d, e1, m1⟩ => ?_
    refine m1.many.imp fun vs H2 ⟨ds, e2, hl, m2⟩ => ?_
    exact m2.fin fun Z S _ r => r⟩

theorem ce_tup {es : List Expr} {cs : Es} {x1} (h : PAs X L tb o es cs) : PEs X L tb o (.Tuple es x1 pos) (.tup cs) :=
  ⟨fun W tk => PEimp (pe_tupF (h.run W tk)) fun σ H Q h => by
    obtain ⟨e, m⟩ := h.mid
    simp only [evE] at m
    refine m.many.imp fun vs H1 ⟨ds, e1, hl, m1⟩ => ?_
    by_cases c : ds.length ≤ sizeLine
    · rw [if_pos c] at m1
      refine ⟨by rw [hl]; exact c, fun p ob hp ho => m1.newT hp fun Z S k r => ?_⟩
      simp only [Rep]
      exact ⟨p, vs, rfl, ⟨rfl, squ_new ho⟩, fun z => (by cases z), reps_mono (fun b z => ⟨z, fun y => (by cases y)⟩) r⟩
    · rw [if_neg c] at m1
      exact m1.none.elim⟩
theorem ce_lst {es : List Expr} {cs : Es} (h : PAs X L tb o es cs) : PEs X L tb o (.List es pos) (.lst cs) :=
  ⟨fun W tk => PEimp (pe_lst (h.run W tk)) fun σ H Q h => by
    obtain ⟨e, m⟩ := h.mid
    simp only [evE] at m
    refine m.many.imp fun vs H1 ⟨ds, e1, hl, m1⟩ => ?_
    by_cases c : ds.length ≤ sizeLine
    · rw [if_pos c] at m1
      refine ⟨by rw [hl]; exact c, fun p hp => m1.new hp trivial fun Z S k r np => ?_⟩
      simp only [Rep]
      exact ⟨p, vs, rfl, ⟨upd_same, fun z => (by cases z)⟩, fun _ => .inr rfl, reps_mono (fun b z => ⟨.inl z, fun _ => np b z⟩) r⟩
    · rw [if_neg c] at m1
      exact m1.none.elim⟩

/-! ### operators -/
theorem rep_int {Z S : AS} {H : Hp} {v : V} {i : Int} (h : Rep L Z H v (.int i) S) : v = .int i := by simpa only [Rep] using h
theorem rep_str {Z S : AS} {H : Hp} {v : V} {i : Str} (h : Rep L Z H v (.str i) S) : v = .str i := by simpa only [Rep] using h
theorem rep_bl {Z S : AS} {H : Hp} {v : V} {i : Bool} (h : Rep L Z H v (.bl i) S) : v = .bl i := by simpa only [Rep] using h
theorem rep_non {Z S : AS} {H : Hp} {v : V} (h : Rep L Z H v .non S) : v = .non := by simpa only [Rep] using h
theorem Mid.reps {σ : St} {γ β' : Type} {rep' : AS → Hp → β' → γ → AS → Prop} {H : Hp} {e : Env} {Q : β' → Hp → Prop} {vs : List V} {ds : List D} {r : R γ} (m : Mid L W σ H e vs ds rep' Q r) : ∃ Z S, Ok Z S H ∧ Reps L Z H vs ds S := by
  obtain ⟨Z, S1, S2, k, dj, re, rs, r', h, g⟩ := m
  exact ⟨Z, S2, k.mono fun b z => .inr z, rs⟩
theorem reps1 {Z S : AS} {H : Hp} {vs : List V} {d : D} (h : Reps L Z H vs [d] S) : ∃ v, vs = [v] ∧ Rep L Z H v d S := by
  simp only [Reps] at h
  obtain ⟨v, ws, S1, S2, e, h1, h2, dj, r, e2⟩ := h
  subst e2
  exact ⟨v, e, rep_mono h1 r⟩
theorem reps2 {Z S : AS} {H : Hp} {v1 v2 : V} {d1 d2 : D} (h : Reps L Z H [v1, v2] [d1, d2] S) : ∃ S1 S2 : AS, (∀ b, S1 b → S b) ∧ (∀ b, S2 b → S b) ∧ (∀ b, S1 b → ¬ S2 b) ∧ Rep L Z H v1 d1 S1 ∧ Rep L Z H v2 d2 S2 := by
  simp only [Reps] at h
  obtain ⟨v, ws, S1, S2, e, h1, h2, dj, r, v', ws', T1, T2, e', t1, t2, tj, r', e2⟩ := h
  cases e
  cases e'
  exact ⟨S1, T1, h1, fun b z => h2 b (t1 b z), fun b z y => dj b z (t1 b y), r, r'⟩
theorem shape_tupN {Z S : AS} {H : Hp} {v : V} {ow : Bool} {xs : List D} (h : Rep L Z H v (.nd .tup ow xs) S) : ∃ a vs, v = .ref a ∧ SqU L.K H a vs ∧ Reps L Z H vs xs S := by
  simp only [Rep, shapeOk] at h
  obtain ⟨a, vs, e, ⟨h1, h2⟩, ho, r⟩ := h
  exact ⟨a, vs, e, h2, reps_mono (fun b z => z.1) r⟩
theorem shape_pr {Z S : AS} {H : Hp} {v : V} {ow : Bool} {xs : List D} (h : Rep L Z H v (.nd .pr ow xs) S) : ∃ a vs, v = .ref a ∧ ow = false ∧ SqT L.K H a vs ∧ Reps L Z H vs xs S := by
  simp only [Rep, shapeOk] at h
  obtain ⟨a, vs, e, ⟨h1, h2⟩, ho, r⟩ := h
  exact ⟨a, vs, e, h1, h2, reps_mono (fun b z => z.1) r⟩
theorem shape_tup {Z S : AS} {H : Hp} {v : V} {ow : Bool} {xs : List D} (h : Rep L Z H v (.nd .tup ow xs) S) : ∃ a vs, v = .ref a ∧ ow = false ∧ SqT L.K H a vs ∧ Reps L Z H vs xs S := by
  simp only [Rep, shapeOk] at h
  obtain ⟨a, vs, e, ⟨h1, h2⟩, ho, r⟩ := h
  exact ⟨a, vs, e, h1, h2.1, reps_mono (fun b z => z.1) r⟩
theorem shape_lst {Z S : AS} {H : Hp} {v : V} {ow : Bool} {xs : List D} (h : Rep L Z H v (.nd .lst ow xs) S) : ∃ a vs, v = .ref a ∧ H a = some (.lst vs) ∧ (ow = true → S a) ∧ Reps L Z H vs xs (fun b => S b ∧ (ow = true → b ≠ a)) := by
  simp only [Rep, shapeOk] at h
  obtain ⟨a, vs, e, ⟨h1, h2⟩, ho, r⟩ := h
  exact ⟨a, vs, e, h1, ho, r⟩
theorem shape_cl {Z S : AS} {H : Hp} {v : V} {ow : Bool} {xs : List D} (h : Rep L Z H v (.nd .cl ow xs) S) : ∃ a vs, v = .ref a ∧ FzL L H a vs ∧ Reps L Z H vs xs S := by
  simp only [Rep, shapeOk] at h
  obtain ⟨a, vs, e, ⟨h1, h2⟩, ho, r⟩ := h
  exact ⟨a, vs, e, h2, reps_mono (fun b z => z.1) r⟩
theorem shape_dk {Z S : AS} {H : Hp} {v : V} {ow : Bool} {ks : List Key} {xs : List D} (h : Rep L Z H v (.nd (.dk ks) ow xs) S) : ∃ a vs, v = .ref a ∧ ks.Nodup ∧ ks.length = vs.length ∧ H a = some (.dK (ks.zip vs)) ∧ (ow = true → S a) ∧ Reps L Z H vs xs (fun b => S b ∧ (ow = true → b ≠ a)) := by
  simp only [Rep, shapeOk] at h
  obtain ⟨a, vs, e, ⟨h0, h1, h2, h3⟩, ho, r⟩ := h
  exact ⟨a, vs, e, h0, h1, h2, ho, r⟩
theorem shape_dt {Z S : AS} {H : Hp} {v : V} {ow : Bool} {ks : List NK} {xs : List D} (h : Rep L Z H v (.nd (.dt ks) ow xs) S) : ∃ (a : Addr) (vs : List V) (as : List Addr), v = .ref a ∧ ks.Nodup ∧ ks.length = vs.length ∧ KReps L H ks (as.map V.ref) ∧ (∀ k ∈ ks, k.depth ≤ 8) ∧ H a = some (dN L.wd a (ks.zip (as.zip vs))) ∧ (ow = true → S a) ∧ Reps L Z H vs xs (fun b => S b ∧ (ow = true → b ≠ a)) := by
  simp only [Rep, shapeOk] at h
  obtain ⟨a, vs, e, ⟨h0, h1, ⟨as, g1, g2, h2⟩, h3⟩, ho, r⟩ := h
  exact ⟨a, vs, as, e, h0, h1, g1, g2, h2, ho, r⟩
theorem dl_dt {Z S : AS} {H : Hp} {v : V} {ow : Bool} {ks : List NK} {xs : List D} (h : Rep L Z H v (.nd (.dt ks) ow xs) S) : ∃ a vs l, v = .ref a ∧ DL L H a ks vs l ∧ (ow = true → S a) ∧ Reps L Z H vs xs (fun b => S b ∧ (ow = true → b ≠ a)) := by
  obtain ⟨a, vs, as, e, h0, h1, g1, g2, h2, ho, r⟩ := shape_dt h
  exact ⟨a, vs, _, e, ⟨h0, h1, .inl ⟨as, g1, g2, rfl, h2⟩⟩, ho, r⟩
theorem dl_dk0 {Z S : AS} {H : Hp} {v : V} {ow : Bool} {xs : List D} (h : Rep L Z H v (.nd (.dk []) ow xs) S) : ∃ a, v = .ref a ∧ DL L H a [] [] [] ∧ (ow = true → S a) ∧ xs = [] := by
  obtain ⟨a, vs, e, h0, h1, h2, ho, r⟩ := shape_dk h
  cases vs with
  | nil =>
    refine ⟨a, e, ⟨List.nodup_nil, rfl, .inr ⟨rfl, rfl, h2⟩⟩, ho, ?_⟩
    have := r.length
    cases xs with
    | nil => rfl
    | cons _ _ => simp at this
  | cons _ _ => simp at h1
mutual
theorem krep_of {Z : AS} {H : Hp} : ∀ {d : D} {v : V} {k : NK} {S : AS}, d.nkey = some k → Rep L Z H v d S → KRep L H k v
  | .non, v, k, S, e, h => by
    simp only [D.nkey, Option.some.injEq] at e
    subst e
    simp only [KRep]
    exact rep_non h
  | .bl _, v, k, S, e, h => by simp only [D.nkey, reduceCtorEq] at e
  | .int i, v, k, S, e, h => by
    simp only [D.nkey, Option.some.injEq] at e
    subst e
    simp only [KRep]
    exact rep_int h
  | .str i, v, k, S, e, h => by
    simp only [D.nkey, Option.some.injEq] at e
    subst e
    simp only [KRep]
    exact rep_str h
  | .nd .tup ow xs, v, k, S, e, h => by
    simp only [D.nkey, Option.map_eq_some_iff] at e
    obtain ⟨ks, e, rfl⟩ := e
    obtain ⟨a, vs, rfl, h2, r⟩ := shape_tupN h
    simp only [KRep]
    exact ⟨a, vs, rfl, h2, kreps_of e r⟩
  | .nd .cl ow xs, v, k, S, e, h => by simp only [D.nkey, reduceCtorEq] at e
  | .nd .lst ow xs, v, k, S, e, h => by simp only [D.nkey, reduceCtorEq] at e
  | .nd (.dk _) ow xs, v, k, S, e, h => by simp only [D.nkey, reduceCtorEq] at e
  | .nd (.dt _) ow xs, v, k, S, e, h => by simp only [D.nkey, reduceCtorEq] at e
  | .nd (.ins _ _) ow xs, v, k, S, e, h => by simp only [D.nkey, reduceCtorEq] at e
theorem kreps_of {Z : AS} {H : Hp} : ∀ {ds : List D} {vs : List V} {ks : List NK} {S : AS}, nkeyL ds = some ks → Reps L Z H vs ds S → KReps L H ks vs
  | [], vs, ks, S, e, h => by
    simp only [nkeyL, Option.some.injEq] at e
    subst e
    simp only [Reps] at h
    simp only [KReps]
    exact h
  | x :: xs, vs, ks, S, e, h => by
    simp only [nkeyL] at e
    simp only [Reps] at h
    obtain ⟨v, ws, S1, S2, ev, h1, h2, dj, r1, r2⟩ := h
    cases q : x.nkey with
    | none => rw [q] at e; cases e
    | some p =>
      cases q2 : nkeyL xs with
      | none => rw [q, q2] at e; cases e
      | some ps' =>
        rw [q, q2] at e
        cases e
        simp only [KReps]
        exact ⟨v, ws, ev, krep_of q r1, kreps_of q2 r2⟩
end
mutual
theorem rep_keyN {Z S : AS} {H : Hp} : ∀ {k : NK} {v : V}, KRep L H k v → Rep L Z H v (keyN k) S
  | .none, v, h => by simpa only [KRep, keyN, Rep] using h
  | .num i, v, h => by simpa only [KRep, keyN, Rep] using h
  | .text i, v, h => by simpa only [KRep, keyN, Rep] using h
  | .tup ks, v, h => by
    simp only [KRep] at h
    obtain ⟨a, vs, rfl, h2, r⟩ := h
    simp only [keyN, Rep]
    exact ⟨a, vs, rfl, ⟨rfl, h2⟩, fun z => (by cases z), reps_keyN r⟩
theorem reps_keyN {Z S : AS} {H : Hp} : ∀ {ks : List NK} {vs : List V}, KReps L H ks vs → Reps L Z H vs (keyNL ks) S
  | [], vs, h => by
    simp only [KReps] at h
    subst h
    simp only [keyNL]
    exact reps_nil
  | k :: ks, vs, h => by
    simp only [KReps] at h
    obtain ⟨v, ws, rfl, h1, h2⟩ := h
    simp only [keyNL]
    exact reps_cons (S1 := NoAS) (S2 := NoAS) (fun _ z => z.elim) (fun _ z => z.elim) (fun _ _ z => z) (rep_keyN h1) (reps_keyN h2)
end
theorem tkey_some {d : D} {k : NK} (h : d.tkey = some k) : d.nkey = some k ∧ k.depth ≤ 8 ∧ ∃ o xs, d = .nd .tup o xs := by
  cases d with
  | nd kd ow xs =>
    cases kd <;> simp only [D.tkey, reduceCtorEq] at h
    rw [Option.bind_eq_some_iff] at h
    obtain ⟨k', h1, h2⟩ := h
    split at h2
    · cases h2
      exact ⟨h1, by assumption, _, _, rfl⟩
    · cases h2
  | _ => simp only [D.tkey, reduceCtorEq] at h
theorem tkey_rep {Z S : AS} {H : Hp} {v : V} {d : D} {k : NK} (h : d.tkey = some k) (r : Rep L Z H v d S) : (∃ b, v = .ref b) ∧ KRep L H k v ∧ k.depth ≤ 8 := by
  obtain ⟨h1, h2, o, xs, rfl⟩ := tkey_some h
  refine ⟨?_, krep_of (S := S) h1 r, h2⟩
  obtain ⟨a, vs, rfl, _⟩ := shape_tup r
  exact ⟨a, rfl⟩
mutual
theorem rep_py {K : PySem.W.Frag} (hK : K = L.K) {Z : AS} {H : Hp} : ∀ (d : D) {v : V} {S : AS} {p : PyData}, d.py = some p → Rep L Z H v d S → Dp K H v p
  | .non, v, S, p, e, h => by
    simp only [D.py, Option.some.injEq] at e
    rw [rep_non h, ← e]; exact .non
  | .bl b, v, S, p, e, h => by
    simp only [D.py, Option.some.injEq] at e
    rw [rep_bl h, ← e]; exact .bl b
  | .int i, v, S, p, e, h => by
    simp only [D.py, Option.some.injEq] at e
    rw [rep_int h, ← e]; exact .int i
  | .str x, v, S, p, e, h => by
    simp only [D.py, Option.some.injEq] at e
    rw [rep_str h, ← e]; exact .str x
  | .nd .tup ow xs, v, S, p, e, h => by
    simp only [D.py] at e
    cases q : pyL xs with
    | none => rw [q] at e; cases e
    | some ps =>
      rw [q] at e
      simp only [Option.map_some, Option.some.injEq] at e
      obtain ⟨a, vs, rfl, _, h2, r⟩ := shape_tup h
      rw [← e, hK]; exact .tup h2 (by rw [← hK]; exact reps_py hK xs q r)
  | .nd .lst ow xs, v, S, p, e, h => by
    simp only [D.py] at e
    cases q : pyL xs with
    | none => rw [q] at e; cases e
    | some ps =>
      rw [q] at e
      simp only [Option.map_some, Option.some.injEq] at e
      obtain ⟨a, vs, rfl, h2, _, r⟩ := shape_lst h
      rw [← e]; exact .lst (.of h2) (reps_py hK xs q r)
  | .nd .cl ow xs, v, S, p, e, h => by
    simp only [D.py] at e
    cases q : pyL xs with
    | none => rw [q] at e; cases e
    | some ps =>
      rw [q] at e
      simp only [Option.map_some, Option.some.injEq] at e
      obtain ⟨a, vs, rfl, h2, r⟩ := shape_cl h
      rw [← e]; exact .lst (by rw [hK]; exact h2.sq) (reps_py hK xs q r)
  | .nd (.dk _) ow xs, v, S, p, e, h => by simp only [D.py] at e; cases e
  | .nd (.dt _) ow xs, v, S, p, e, h => by simp only [D.py] at e; cases e
  | .nd (.ins _ _) ow xs, v, S, p, e, h => by simp only [D.py] at e; cases e
theorem reps_py {K : PySem.W.Frag} (hK : K = L.K) {Z : AS} {H : Hp} : ∀ (ds : List D) {vs : List V} {S : AS} {ps : List PyData}, pyL ds = some ps → Reps L Z H vs ds S → DpAll K H vs ps
  | [], vs, S, ps, e, h => by
    simp only [pyL, Option.some.injEq] at e
    simp only [Reps] at h
    rw [← e, h]; exact .nil
  | x :: xs, vs, S, ps, e, h => by
    simp only [pyL] at e
    simp only [Reps] at h
    obtain ⟨v, ws, S1, S2, ev, h1, h2, dj, r1, r2⟩ := h
    cases q : x.py with
    | none => rw [q] at e; cases e
    | some p =>
      cases q2 : pyL xs with
      | none => rw [q, q2] at e; cases e
      | some ps' =>
        rw [q, q2] at e
        cases e
        rw [ev]; exact .cons (rep_py hK x q r1) (reps_py hK xs q2 r2)
end
/-- an operator by its rule: two values come, then r is shown -/
theorem bin_run {σ : St} {H : Hp} {Q : V → Hp → Prop} {f : D → D → Option D} {r : R2} (hr : ∀ x y H e d1 d2 d, f d1 d2 = some d → Mid L W σ H e [x, y] [d1, d2] (Rep L) Q (some (.val d e)) → r x y H Q)
    (h : tG L W (Rep L) (fun e => bnd (evE tb o ca e) fun x e => bnd (evE tb o cb e) fun y e => opt (f x y) e) σ H Q) : tOp r (tG L W (Rep L) (evE tb o ca)) (tG L W (Rep L) (evE tb o cb)) σ H Q := by
  obtain ⟨e, m⟩ := h.mid
  refine m.one.imp fun v H1 ⟨d, e1, m1⟩ => ?_
  refine m1.one.imp fun w H2 ⟨d2, e2, m2⟩ => ?_
  obtain ⟨dd, hd, m3⟩ := m2.opt
  exact hr v w H2 e2 d d2 dd hd m3
theorem evE_bin (op : BOp) : evE tb o (.bin op ca cb) = fun e => bnd (evE tb o ca e) fun x e => bnd (evE tb o cb e) fun y e => opt (binD op x y) e := by funext e; rw [evE]
theorem evE_cmp (op : COp) : evE tb o (.cmp op ca cb) = fun e => bnd (evE tb o ca e) fun x e => bnd (evE tb o cb e) fun y e => opt ((cmpD op x y).map .bl) e := by funext e; rw [evE]
theorem ce_sub2 (ha : PEs X L tb o a ca) (hb : PEs X L tb o b cb) : PEs X L tb o (.BinOp a .Sub b pos) (.bin .sub ca cb) :=
  ⟨fun W tk => PEimp (pe_op op_sub (ha.run W tk) (hb.run W tk)) fun σ H Q h => by
    rw [evE_bin] at h
    refine bin_run (fun x y H e d1 d2 d hd m => ?_) h
    obtain ⟨Z, S, k, rs, u⟩ := m.use
    obtain ⟨S1, S2, h1, h2, dj, r1, r2⟩ := reps2 rs
    cases d1 <;> cases d2 <;> simp only [binD, reduceCtorEq, Option.some.injEq] at hd
    subst hd
    exact ⟨_, _, rep_int r1, rep_int r2, u.fin _ (by simp only [Rep])⟩⟩
theorem ce_mod (ha : PEs X L tb o a ca) (hb : PEs X L tb o b cb) : PEs X L tb o (.BinOp a .Mod b pos) (.bin .mod ca cb) :=
  ⟨fun W tk => PEimp (pe_op op_mod (ha.run W tk) (hb.run W tk)) fun σ H Q h => by
    rw [evE_bin] at h
    refine bin_run (fun x y H e d1 d2 d hd m => ?_) h
    obtain ⟨Z, S, k, rs, u⟩ := m.use
    obtain ⟨S1, S2, h1, h2, dj, r1, r2⟩ := reps2 rs
    cases d1 <;> cases d2 <;> simp only [binD, reduceCtorEq] at hd
    split at hd
    · cases hd
      exact ⟨_, _, rep_int r1, rep_int r2, by assumption, u.fin _ (by simp only [Rep])⟩
    · cases hd⟩
theorem ce_fdiv (ha : PEs X L tb o a ca) (hb : PEs X L tb o b cb) : PEs X L tb o (.BinOp a .FloorDiv b pos) (.bin .fdiv ca cb) :=
  ⟨fun W tk => PEimp (pe_op op_fdiv (ha.run W tk) (hb.run W tk)) fun σ H Q h => by
    rw [evE_bin] at h
    refine bin_run (fun x y H e d1 d2 d hd m => ?_) h
    obtain ⟨Z, S, k, rs, u⟩ := m.use
    obtain ⟨S1, S2, h1, h2, dj, r1, r2⟩ := reps2 rs
    cases d1 <;> cases d2 <;> simp only [binD, reduceCtorEq] at hd
    split at hd
    · cases hd
      exact ⟨_, _, rep_int r1, rep_int r2, by assumption, u.fin _ (by simp only [Rep])⟩
    · cases hd⟩
theorem ce_pow (ha : PEs X L tb o a ca) (hb : PEs X L tb o b cb) : PEs X L tb o (.BinOp a .Pow b pos) (.bin .pow ca cb) :=
  ⟨fun W tk => PEimp (pe_op op_pow (ha.run W tk) (hb.run W tk)) fun σ H Q h => by
    rw [evE_bin] at h
    refine bin_run (fun x y H e d1 d2 d hd m => ?_) h
    obtain ⟨Z, S, k, rs, u⟩ := m.use
    obtain ⟨S1, S2, h1, h2, dj, r1, r2⟩ := reps2 rs
    cases d1 <;> cases d2 <;> simp only [binD, reduceCtorEq] at hd
    split at hd
    · cases hd
      exact ⟨_, _, rep_int r1, rep_int r2, by assumption, u.fin _ (by simp only [Rep])⟩
    · cases hd⟩
theorem mulOk_C {i j : Int} (h : mulOk i j = true) : CMul i j := by
  simp only [mulOk, Bool.or_eq_true, Bool.and_eq_true, decide_eq_true_eq] at h
  exact h
theorem ce_mul [Lay X L tb o k] (ha : PEs X L tb o a ca) (hb : PEs X L tb o b cb) : PEs X L tb o (.BinOp a .Mult b pos) (.bin .mul ca cb) :=
  ⟨fun W tk => PEimp (pe_op (OpR.or op_mul (OpR.or op_rep op_repA)) (ha.run W tk) (hb.run W tk)) fun σ H Q h => by
    rw [evE_bin] at h
    refine bin_run (fun x y H e d1 d2 d hd m => ?_) h
    obtain ⟨Z, S, k', rs, u⟩ := m.use
    obtain ⟨S1, S2, h1, h2, dj, r1, r2⟩ := reps2 rs
    have hK := Lay.K (X := X) (L := L) (tb := tb) (o := o) (k := k)
    cases d1 with
    | int i =>
      cases d2 <;> simp only [binD, reduceCtorEq] at hd
      split at hd
      · cases hd
        exact .inl ⟨_, _, rep_int r1, rep_int r2, mulOk_C (by assumption), u.fin _ (by simp only [Rep])⟩
      · cases hd
    | nd kd ow xs =>
      cases kd with
      | lst =>
        cases d2 <;> simp only [binD, reduceCtorEq] at hd
        rename_i i
        split at hd
        · rename_i c
          cases hd
          obtain ⟨l, vs, rfl, hl, _, rr⟩ := shape_lst r1
          rw [rep_int r2] at m ⊢
          exact .inr (.inl ⟨l, i, vs, rfl, rfl, hl, c.2.1, c.2.2.1, by rw [rr.length]; exact c.2.2.2, fun p hp => u.newL _ _ p rfl hp (reps_mono (fun b z => h1 b z.1) (reps_rep c.1 rr i.toNat))⟩)
        · cases hd
      | tup =>
        cases d2 <;> simp only [binD, reduceCtorEq] at hd
        rename_i i
        split at hd
        · rename_i c
          cases hd
          obtain ⟨l, vs, rfl, e0, hl, rr⟩ := shape_tup r1
          subst e0
          rw [rep_int r2] at m ⊢
          refine .inr (.inr ⟨l, i, vs, rfl, rfl, by rw [hK]; exact hl, fun z => ?_, c.2.2.1, c.2.2.2.1, by rw [rr.length]; exact c.2.2.2.2, fun e1 => u.fin _ ?_, fun _ p ob hp ho => u.newU _ _ p ob rfl hp ho (reps_mono h1 (reps_rep c.1 rr i.toNat))⟩)
          · have := rr.length
            rw [z] at this
            cases xs with
            | nil => exact absurd c.2.1 (by decide)
            | cons _ _ => simp at this
          · subst e1
            simp only [show (1 : Int).toNat = 1 from rfl, List.replicate_one, List.flatten_cons, List.flatten_nil, List.append_nil]
            exact rep_mono h1 r1
        · cases hd
      | _ => cases d2 <;> simp only [binD, reduceCtorEq] at hd
    | _ => cases d2 <;> simp only [binD, reduceCtorEq] at hd⟩

theorem rep_tup {Z S : AS} {H : Hp} {v : V} {ow : Bool} {xs : List D} (h : Rep L Z H v (.nd .tup ow xs) S) : Rep L Z H v (.nd .tup false xs) S := by
  obtain ⟨a, vs, e, h1, h2, r⟩ := shape_tup h
  subst h1
  exact h
theorem ce_add [Lay X L tb o k] (ha : PEs X L tb o a ca) (hb : PEs X L tb o b cb) : PEs X L tb o (.BinOp a .Add b pos) (.bin .add ca cb) :=
  ⟨fun W tk => PEimp (pe_op (OpR.or op_add (OpR.or op_add_str (OpR.or op_cat op_catF))) (ha.run W tk) (hb.run W tk)) fun σ H Q h => by
    rw [evE_bin] at h
    refine bin_run (fun x y H e d1 d2 d hd m => ?_) h
    obtain ⟨Z, S, k', rs, u⟩ := m.use
    obtain ⟨S1, S2, h1, h2, dj, r1, r2⟩ := reps2 rs
    cases d1 with
    | int i =>
      cases d2 <;> simp only [binD, reduceCtorEq, Option.some.injEq] at hd
      subst hd
      exact .inl ⟨_, _, rep_int r1, rep_int r2, u.fin _ (by simp only [Rep])⟩
    | str i =>
      cases d2 <;> simp only [binD, reduceCtorEq] at hd
      split at hd
      · cases hd
        exact .inr (.inl ⟨_, _, rep_str r1, rep_str r2, by assumption, u.fin _ (by simp only [Rep])⟩)
      · cases hd
    | nd kd ow xs =>
      cases kd with
      | lst =>
        cases d2 with
        | nd kd2 ow2 ys =>
          cases kd2 <;> simp only [binD, reduceCtorEq] at hd
          split at hd
          · rename_i c
            cases hd
            obtain ⟨l, vs, rfl, hl, _, rr⟩ := shape_lst r1
            obtain ⟨l2, vs2, rfl, hl2, _, rr2⟩ := shape_lst r2
            exact .inr (.inr (.inl ⟨l, l2, vs, vs2, rfl, rfl, hl, hl2, by rw [rr.length, rr2.length]; exact c, fun p hp => u.newL _ _ p rfl hp (reps_append (fun b z => h1 b z.1) (fun b z => h2 b z.1) (fun b z y => dj b z.1 y.1) rr rr2)⟩))
          · cases hd
        | _ => simp only [binD, reduceCtorEq] at hd
      | tup =>
        cases d2 with
        | nd kd2 ow2 ys =>
          cases kd2 <;> simp only [binD, reduceCtorEq] at hd
          split at hd
          · rename_i c
            cases hd
            obtain ⟨l, vs, rfl, _, hl, rr⟩ := shape_tup r1
            obtain ⟨l2, vs2, rfl, _, hl2, rr2⟩ := shape_tup r2
            rw [← Lay.K (X := X) (L := L) (tb := tb) (o := o) (k := k)] at hl hl2
            have both := reps_append h1 h2 dj rr rr2
            refine .inr (.inr (.inr ⟨l, l2, vs, vs2, rfl, rfl, hl, hl2, by rw [rr.length, rr2.length]; exact c, fun e1 => u.fin _ ?_, fun e1 e2 => u.fin _ ?_, fun e1 e2 p ob hp ho => u.newU _ _ p ob rfl hp ho both⟩))
            · have : xs = [] := by
                cases xs with
                | nil => rfl
                | cons _ _ => rw [e1] at rr; have := rr.length; simp at this
              subst this
              exact rep_mono h2 (by simpa using (rep_tup r2))
            · have : ys = [] := by
                cases ys with
                | nil => rfl
                | cons _ _ => rw [e2] at rr2; have := rr2.length; simp at this
              subst this
              exact rep_mono h1 (by simpa using (rep_tup r1))
          · cases hd
        | _ => simp only [binD, reduceCtorEq] at hd
      | _ => cases d2 <;> simp only [binD, reduceCtorEq] at hd
    | _ => cases d2 <;> simp only [binD, reduceCtorEq] at hd⟩

/-! ### dicts: what is found -/
theorem look_zip {κ : Type} [DecidableEq κ] : ∀ {ks : List κ} {xs : List D} {vs : List V} {Z S : AS} {H : Hp} (k : κ), ks.length = vs.length → Reps L Z H vs xs S → (valV (ks.zip vs) k).isSome = hasK ks k ∧ ∀ d, lookD ks xs k = some d → ∃ (j : Nat) (v : V), ks[j]? = some k ∧ xs[j]? = some d ∧ vs[j]? = some v ∧ valV (ks.zip vs) k = some v
  | [], xs, vs, Z, S, H, k, hl, h => by
    refine ⟨by simp [valV, hasK], fun d e => ?_⟩
    simp [lookD] at e
  | k' :: ks, [], vs, Z, S, H, k, hl, h => by
    simp only [Reps] at h
    subst h
    simp at hl
  | k' :: ks, x :: xs, vs, Z, S, H, k, hl, h => by
    simp only [Reps] at h
    obtain ⟨v, ws, S1, S2, e, h1, h2, dj, r1, r2⟩ := h
    subst e
    have hl' : ks.length = ws.length := by simpa using hl
    obtain ⟨i1, i2⟩ := look_zip k hl' r2
    by_cases c : k' = k
    · rw [List.zip_cons_cons, valV_pos c]
      refine ⟨by simp [hasK, c], fun d e => ?_⟩
      simp only [lookD, if_pos c, Option.some.injEq] at e
      subst e
      exact ⟨0, v, by simp [c], rfl, rfl, rfl⟩
    · rw [List.zip_cons_cons, valV_neg c]
      refine ⟨by rw [i1]; simp [hasK, c], fun d e => ?_⟩
      simp only [lookD, if_neg c] at e
      obtain ⟨j, v', e1, e2, e3, e4⟩ := i2 d e
      exact ⟨j + 1, v', by simpa using e1, by simpa using e2, by simpa using e3, e4⟩
theorem look_none {κ : Type} [DecidableEq κ] : ∀ {ks : List κ} {xs : List D} {k : κ}, ks.length = xs.length → lookD ks xs k = none → hasK ks k = false
  | [], xs, k, _, _ => by simp [hasK]
  | k' :: ks, [], k, hl, h => by simp at hl
  | k' :: ks, x :: xs, k, hl, h => by
    simp only [lookD] at h
    by_cases c : k' = k
    · rw [if_pos c] at h; cases h
    · rw [if_neg c] at h
      have := look_none (ks := ks) (by simpa using hl) h
      simp only [hasK, List.any_cons] at this ⊢
      rw [this]
      simp [c]
theorem key_kV {Z S : AS} {H : Hp} {v : V} {d : D} {k : Key} (h : Rep L Z H v d S) (e : d.key = some k) : v = kV k := by
  cases d <;> simp only [D.key, reduceCtorEq, Option.some.injEq] at e
  · subst e; rw [rep_int h]; rfl
  · subst e; rw [rep_str h]; rfl

/-! ### comparisons -/
/-- a comparison's rule, and that it answers as the small language does -/
structure CmpR (X : Cx) (L : Lo) (aop : CmpOp) (op : COp) (r : R2) : Prop where
  rule : OpR X (compareOp aop) r
  ok : ∀ Z H x y d1 d2 c S1 S2, cmpD op d1 d2 = some c → Rep L Z H x d1 S1 → Rep L Z H y d2 S2 → ∀ Q : VK, Q (.bl c) H → r x y H Q
theorem cmp_lt : CmpR X L .Lt .lt (rI0 fun i j => .bl (decide (i < j))) := ⟨op_lt, fun Z H x y d1 d2 c S1 S2 h r1 r2 Q q => by
  cases d1 <;> cases d2 <;> simp only [cmpD, reduceCtorEq, Option.some.injEq] at h
  subst h
  exact ⟨_, _, rep_int r1, rep_int r2, q⟩⟩
theorem cmp_le : CmpR X L .LtE .le (rI0 fun i j => .bl (decide (i ≤ j))) := ⟨op_le, fun Z H x y d1 d2 c S1 S2 h r1 r2 Q q => by
  cases d1 <;> cases d2 <;> simp only [cmpD, reduceCtorEq, Option.some.injEq] at h
  subst h
  exact ⟨_, _, rep_int r1, rep_int r2, q⟩⟩
theorem cmp_gt : CmpR X L .Gt .gt (rI0 fun i j => .bl (decide (j < i))) := ⟨op_gt, fun Z H x y d1 d2 c S1 S2 h r1 r2 Q q => by
  cases d1 <;> cases d2 <;> simp only [cmpD, reduceCtorEq, Option.some.injEq] at h
  subst h
  exact ⟨_, _, rep_int r1, rep_int r2, q⟩⟩
theorem cmp_ge : CmpR X L .GtE .ge (rI0 fun i j => .bl (decide (j ≤ i))) := ⟨op_ge, fun Z H x y d1 d2 c S1 S2 h r1 r2 Q q => by
  cases d1 <;> cases d2 <;> simp only [cmpD, reduceCtorEq, Option.some.injEq] at h
  subst h
  exact ⟨_, _, rep_int r1, rep_int r2, q⟩⟩
theorem eqD_some {a b : D} {c : Bool} (h : eqD a b = some c) : ∃ x y, a.py = some x ∧ b.py = some y ∧ SeqAt.shaped x = true ∧ SeqAt.shaped y = true ∧ c = PyData.eqv x y := by
  unfold eqD at h
  cases q : a.py with
  | none => rw [q] at h; cases h
  | some x =>
    cases q2 : b.py with
    | none => rw [q, q2] at h; cases h
    | some y =>
      rw [q, q2] at h
      dsimp only at h
      split at h
      · rename_i z
        cases h
        exact ⟨x, y, rfl, rfl, z.1, z.2, rfl⟩
      · cases h
theorem cmp_eq [Lay X L tb o k] : CmpR X L .Eq .eq (rEqD X.K) := ⟨op_eqD (Lay.room (X := X) (L := L) (tb := tb) (o := o) (k := k)).units, fun Z H x y d1 d2 c S1 S2 h r1 r2 Q q => by
  have h : eqD d1 d2 = some c := by simpa only [cmpD] using h
  obtain ⟨p1, p2, e1, e2, s1, s2, rfl⟩ := eqD_some h
  have hK := Lay.K (X := X) (L := L) (tb := tb) (o := o) (k := k)
  exact ⟨p1, p2, rep_py hK _ e1 r1, rep_py hK _ e2 r2, s1, s2, q⟩⟩
theorem cmp_ne [Lay X L tb o k] : CmpR X L .NotEq .ne (rNeD X.K) := ⟨op_neD (Lay.room (X := X) (L := L) (tb := tb) (o := o) (k := k)).units, fun Z H x y d1 d2 c S1 S2 h r1 r2 Q q => by
  have h : (eqD d1 d2).map (!·) = some c := by simpa only [cmpD] using h
  cases e : eqD d1 d2 with
  | none => rw [e] at h; cases h
  | some c' =>
    rw [e] at h
    cases h
    obtain ⟨p1, p2, e1, e2, s1, s2, rfl⟩ := eqD_some e
    have hK := Lay.K (X := X) (L := L) (tb := tb) (o := o) (k := k)
    exact ⟨p1, p2, rep_py hK _ e1 r1, rep_py hK _ e2 r2, s1, s2, q⟩⟩
theorem rep_nonB {Z S : AS} {H : Hp} {v : V} {d : D} (h : Rep L Z H v d S) : decide (v = .non) = d.isN := by
  cases d with
  | non => rw [rep_non h]; rfl
  | bl b => rw [rep_bl h]; rfl
  | int i => rw [rep_int h]; rfl
  | str i => rw [rep_str h]; rfl
  | nd kd ow xs =>
    simp only [Rep] at h
    obtain ⟨a, vs, e, _⟩ := h
    subst e
    rfl
theorem cmp_isN : CmpR X L .Is .isN (fun x y H Q => y = .non ∧ Q (.bl (decide (x = .non))) H) := ⟨op_isN, fun Z H x y d1 d2 c S1 S2 h r1 r2 Q q => by
  cases d2 <;> (try simp only [cmpD, reduceCtorEq] at h)
  refine ⟨rep_non r2, ?_⟩
  rw [rep_nonB r1]
  simp only [cmpD, Option.some.injEq] at h
  subst h
  exact q⟩
theorem cmp_notN : CmpR X L .IsNot .notN (fun x y H Q => y = .non ∧ Q (.bl (!decide (x = .non))) H) := ⟨op_notN, fun Z H x y d1 d2 c S1 S2 h r1 r2 Q q => by
  cases d2 <;> (try simp only [cmpD, reduceCtorEq] at h)
  refine ⟨rep_non r2, ?_⟩
  rw [rep_nonB r1]
  simp only [cmpD, Option.some.injEq] at h
  subst h
  exact q⟩
theorem cmp_isB : CmpR X L .Is .isB rIsB := ⟨op_isBl, fun Z H x y d1 d2 c S1 S2 h r1 r2 Q q => by
  cases d1 <;> cases d2 <;> simp only [cmpD, reduceCtorEq, Option.some.injEq] at h
  subst h
  exact ⟨_, _, rep_bl r1, rep_bl r2, q⟩⟩
theorem cmp_notB : CmpR X L .IsNot .notB rNotB := ⟨op_notBl, fun Z H x y d1 d2 c S1 S2 h r1 r2 Q q => by
  cases d1 <;> cases d2 <;> simp only [cmpD, reduceCtorEq, Option.some.injEq] at h
  subst h
  exact ⟨_, _, rep_bl r1, rep_bl r2, q⟩⟩
theorem op_in_dict (hu : X.A.units + 65 < cLine) (hK : X.K = L.K) (hw : X.w = L.wd) : OpR X (compareOp .In) (fun y x H Q => ∃ a r, x = .ref a ∧ (DGet H a y r ∨ DGetN L H a y r) ∧ Q (.bl r.isSome) H) := by
  intro pins s σ H y x v u Q I ry rx h
  obtain ⟨a, r, rfl, g | g, q⟩ := h
  · cases rx
    exact d_in (by omega) I g ry fun s3 I3 => ⟨.bl r.isSome, H, I3, rfl, q⟩
  · cases rx
    exact dn_in (by omega) I hK hw g ry fun s3 I3 => ⟨.bl r.isSome, H, I3, rfl, q⟩
theorem op_notin_dict (hu : X.A.units + 65 < cLine) (hK : X.K = L.K) (hw : X.w = L.wd) : OpR X (compareOp .NotIn) (fun y x H Q => ∃ a r, x = .ref a ∧ (DGet H a y r ∨ DGetN L H a y r) ∧ Q (.bl (!r.isSome)) H) := by
  intro pins s σ H y x v u Q I ry rx h
  obtain ⟨a, r, rfl, g | g, q⟩ := h
  · cases rx
    exact d_notIn (by omega) I g ry fun s3 I3 => ⟨.bl (!r.isSome), H, I3, rfl, q⟩
  · cases rx
    exact dn_notIn (by omega) I hK hw g ry fun s3 I3 => ⟨.bl (!r.isSome), H, I3, rfl, q⟩
theorem inV_ints (i : Int) (l : List Int) : inV (.int i) (l.map V.int) = l.any fun z => decide (z = i) := by
  unfold inV
  rw [List.any_map]
  refine congrArg (fun f => l.any f) (funext fun z => ?_)
  simp only [Function.comp_apply, eqV]
  by_cases c : z = i <;> simp [c]
theorem flat_ints (l : List Int) : (l.map V.int).all flatV = true := by
  rw [List.all_map]
  exact List.all_eq_true.mpr fun _ _ => rfl
theorem inV_strs (i : Str) (l : List Str) : inV (.str i) (l.map V.str) = l.any fun z => decide (z = i) := by
  unfold inV
  rw [List.any_map]
  refine congrArg (fun f => l.any f) (funext fun z => ?_)
  simp only [Function.comp_apply, eqV]
  by_cases c : z = i <;> simp [c]
theorem flat_strs (l : List Str) : (l.map V.str).all flatV = true := by
  rw [List.all_map]
  exact List.all_eq_true.mpr fun _ _ => rfl
theorem reps_strs {Z : AS} {H : Hp} : ∀ {l : List Str} {ds : List D} {vs : List V} {S : AS}, strsD ds = some l → Reps L Z H vs ds S → vs = l.map V.str
  | l, [], vs, S, e, h => by
    simp only [Reps] at h
    simp only [strsD, Option.some.injEq] at e
    rw [h, ← e]; rfl
  | l, x :: xs, vs, S, e, h => by
    simp only [Reps] at h
    obtain ⟨v, ws, S1, S2, ev, h1, h2, dj, r1, r2⟩ := h
    subst ev
    cases x <;> simp only [strsD, reduceCtorEq] at e
    rename_i i
    cases q : strsD xs with
    | none => rw [q] at e; simp at e
    | some m =>
      rw [q] at e
      simp only [Option.map_some, Option.some.injEq] at e
      subst e
      simp only [Rep] at r1
      rw [r1, reps_strs q r2]; rfl
theorem in_cases {K : PySem.W.Frag} (hK : K = L.K) {Z : AS} {H : Hp} {x y : V} {d1 d2 : D} {c : Bool} {S1 S2 : AS} (h : inD d1 d2 = some c) (r1 : Rep L Z H x d1 S1) (r2 : Rep L Z H y d2 S2) :
    (∃ a r, y = .ref a ∧ (DGet H a x r ∨ DGetN L H a x r) ∧ c = r.isSome) ∨ (∃ d ds, Dp K H x d ∧ Dp K H y (.list ds) ∧ SeqAt.shaped d = true ∧ SeqAt.shaped (.list ds) = true ∧ c = ds.any fun z => PyData.eqv z d) ∨ ∃ p xs, y = .ref p ∧ (SqL K H p xs ∨ SqT K H p xs) ∧ flatV x = true ∧ xs.all flatV = true ∧ c = inV x xs := by
  have lists : ∀ {xs : List D} {ow : Bool} {kd : Kd}, (kd = .lst ∨ kd = .cl) → d2 = .nd kd ow xs → inPy d1.py (pyL xs) = some c → ∃ d ds, Dp K H x d ∧ Dp K H y (.list ds) ∧ SeqAt.shaped d = true ∧ SeqAt.shaped (.list ds) = true ∧ c = ds.any fun z => PyData.eqv z d := by
    intro xs ow kd hkd e hh
    subst e
    cases q : d1.py with
    | none => rw [q] at hh; cases hh
    | some p =>
      cases q2 : pyL xs with
      | none => rw [q, q2] at hh; cases hh
      | some ps =>
        rw [q, q2] at hh
        simp only [inPy] at hh
        split at hh
        · rename_i z
          cases hh
          refine ⟨p, ps, rep_py hK _ q r1, ?_, z.1, z.2, rfl⟩
          rcases hkd with rfl | rfl
          · exact rep_py hK (.nd .lst ow xs) (by simp only [D.py, q2, Option.map_some]) r2
          · exact rep_py hK (.nd .cl ow xs) (by simp only [D.py, q2, Option.map_some]) r2
        · cases hh
  cases d2 with
  | nd kd ow xs =>
    cases kd with
    | lst => exact .inr (.inl (lists (.inl rfl) rfl (by simpa only [inD] using h)))
    | pr => simp only [inD, reduceCtorEq] at h
    | cl => exact .inr (.inl (lists (.inr rfl) rfl (by simpa only [inD] using h)))
    | tup =>
      cases d1 <;> simp only [inD, reduceCtorEq] at h
      · rename_i i
        cases q : intsD xs with
        | none => rw [q] at h; cases h
        | some l =>
          rw [q] at h
          cases h
          obtain ⟨a, vs, rfl, _, hq, rr⟩ := shape_tup r2
          have ev := reps_ints q rr
          subst ev
          rw [rep_int r1]
          exact .inr (.inr ⟨a, _, rfl, .inr (by rw [hK]; exact hq), rfl, flat_ints l, (inV_ints i l).symm⟩)
      · rename_i i
        cases q : strsD xs with
        | none => rw [q] at h; cases h
        | some l =>
          rw [q] at h
          cases h
          obtain ⟨a, vs, rfl, _, hq, rr⟩ := shape_tup r2
          have ev := reps_strs q rr
          subst ev
          rw [rep_str r1]
          exact .inr (.inr ⟨a, _, rfl, .inr (by rw [hK]; exact hq), rfl, flat_strs l, (inV_strs i l).symm⟩)
    | dk ks =>
      have hq : inDk d1 ks = some c := by cases d1 <;> simpa only [inD] using h
      unfold inDk at hq
      cases e : d1.key with
      | none =>
        rw [e] at hq
        dsimp only at hq
        split at hq
        · rename_i e0
          subst e0
          cases e2 : d1.tkey with
          | none => rw [e2] at hq; cases hq
          | some kk =>
            rw [e2] at hq
            cases hq
            obtain ⟨a, rfl, dl, _, _⟩ := dl_dk0 r2
            obtain ⟨⟨b, eb⟩, kr, kd⟩ := tkey_rep e2 r1
            exact .inl ⟨a, none, rfl, .inr ⟨_, _, _, kk, b, dl, eb, kr, kd, rfl⟩, rfl⟩
        · cases hq
      | some kk =>
        rw [e] at hq
        cases hq
        obtain ⟨a, vs, rfl, h0, h1, h2, _, rr⟩ := shape_dk r2
        refine .inl ⟨a, valV (ks.zip vs) kk, rfl, .inl ?_, ?_⟩
        · rw [key_kV r1 e]; exact DGet.k h2
        · rw [(look_zip kk h1 rr).1]
    | dt ks =>
      have h : (d1.tkey.map fun k => hasK ks k) = some c := by cases d1 <;> simpa only [inD] using h
      cases e : d1.tkey with
      | none => rw [e] at h; cases h
      | some kk =>
        rw [e] at h
        cases h
        obtain ⟨a, vs, l, rfl, dl, _, rr⟩ := dl_dt r2
        obtain ⟨⟨b, eb⟩, kr, kd⟩ := tkey_rep e r1
        refine .inl ⟨a, valV (ks.zip vs) kk, rfl, .inr ⟨_, _, _, kk, b, dl, eb, kr, kd, rfl⟩, ?_⟩
        rw [(look_zip kk dl.2.1 rr).1]
    | ins => cases d1 <;> simp only [inD, reduceCtorEq] at h
  | _ => cases d1 <;> simp only [inD, reduceCtorEq] at h
theorem units65 {k : Nat} {A : Around} (h : Room k A) : A.units + 65 < cLine := by
  have := h.un
  omega
def rInAll (L : Lo) (K : PySem.W.Frag) : R2 := fun x y H Q => (∃ a r, y = .ref a ∧ (DGet H a x r ∨ DGetN L H a x r) ∧ Q (.bl r.isSome) H) ∨ rInD K x y H Q ∨ rIn K false x y H Q
def rNotInAll (L : Lo) (K : PySem.W.Frag) : R2 := fun x y H Q => (∃ a r, y = .ref a ∧ (DGet H a x r ∨ DGetN L H a x r) ∧ Q (.bl (!r.isSome)) H) ∨ rNotInD K x y H Q ∨ rIn K true x y H Q
theorem cmp_in [Lay X L tb o k] : CmpR X L .In .isin (rInAll L X.K) := ⟨OpR.or (op_in_dict (units65 (Lay.room (X := X) (L := L) (tb := tb) (o := o) (k := k))) (Lay.K (X := X) (L := L) (tb := tb) (o := o) (k := k)) (Lay.wd (X := X) (L := L) (tb := tb) (o := o) (k := k))) (OpR.or (op_inD (units65 (Lay.room (X := X) (L := L) (tb := tb) (o := o) (k := k)))) op_in_seq), fun Z H x y d1 d2 c S1 S2 h r1 r2 Q q => by
  have hK := Lay.K (X := X) (L := L) (tb := tb) (o := o) (k := k)
  rcases in_cases hK (by simpa only [cmpD] using h) r1 r2 with ⟨a, r, e1, e2, e3⟩ | ⟨d, ds, e1, e2, e3, e4, e5⟩ | ⟨p, xs, e1, e2, e3, e4, e5⟩
  · exact .inl ⟨a, r, e1, e2, by rw [← e3]; exact q⟩
  · exact .inr (.inl ⟨d, ds, e1, e2, e3, e4, by rw [← e5]; exact q⟩)
  · exact .inr (.inr ⟨p, xs, e1, e2, e3, e4, by rw [if_neg (by decide), ← e5]; exact q⟩)⟩
theorem cmp_notin [Lay X L tb o k] : CmpR X L .NotIn .notin (rNotInAll L X.K) := ⟨OpR.or (op_notin_dict (units65 (Lay.room (X := X) (L := L) (tb := tb) (o := o) (k := k))) (Lay.K (X := X) (L := L) (tb := tb) (o := o) (k := k)) (Lay.wd (X := X) (L := L) (tb := tb) (o := o) (k := k))) (OpR.or (op_notInD (units65 (Lay.room (X := X) (L := L) (tb := tb) (o := o) (k := k)))) op_notIn_seq), fun Z H x y d1 d2 c S1 S2 h r1 r2 Q q => by
  have hK := Lay.K (X := X) (L := L) (tb := tb) (o := o) (k := k)
  have h : (inD d1 d2).map (!·) = some c := by simpa only [cmpD] using h
  cases qi : inD d1 d2 with
  | none => rw [qi] at h; cases h
  | some c0 =>
    rw [qi] at h
    cases h
    rcases in_cases hK qi r1 r2 with ⟨a, r, e1, e2, e3⟩ | ⟨d, ds, e1, e2, e3, e4, e5⟩ | ⟨p, xs, e1, e2, e3, e4, e5⟩
    · exact .inl ⟨a, r, e1, e2, by rw [← e3]; exact q⟩
    · exact .inr (.inl ⟨d, ds, e1, e2, e3, e4, by rw [← e5]; exact q⟩)
    · exact .inr (.inr ⟨p, xs, e1, e2, e3, e4, by rw [if_pos rfl, ← e5]; exact q⟩)⟩
theorem ce_cmp {aop : CmpOp} {op : COp} {r : R2} (R : CmpR X L aop op r) (ha : PEs X L tb o a ca) (hb : PEs X L tb o b cb) (hm : behindInMarks aop b = false := by first | exact nomark _ | rfl) : PEs X L tb o (.Compare a [aop] [b] pos) (.cmp op ca cb) :=
  ⟨fun W tk => PEimp (pe_cmpR R.rule (ha.run W tk) (hb.run W tk) hm) fun σ H Q h => by
    rw [evE_cmp] at h
    refine bin_run (f := fun x y => (cmpD op x y).map .bl) (fun x y H e d1 d2 d hd m => ?_) h
    obtain ⟨Z, S, k', rs, u⟩ := m.use
    obtain ⟨S1, S2, h1, h2, dj, r1, r2⟩ := reps2 rs
    cases q : cmpD op d1 d2 with
    | none => rw [q] at hd; cases hd
    | some c =>
      rw [q] at hd
      cases hd
      exact R.ok Z H x y d1 d2 c S1 S2 q r1 r2 Q (u.fin _ (by simp only [Rep]))⟩
theorem ct_cmp {aop : CmpOp} {op : COp} {r : R2} (R : CmpR X L aop op r) (ha : PEs X L tb o a ca) (hb : PEs X L tb o b cb) (hm : behindInMarks aop b = false := by first | exact nomark _ | rfl) : PTs' X L tb o (.Compare a [aop] [b] pos) (.e (.cmp op ca cb)) :=
  ⟨fun W tk => PTimp (pt_cmpR R.rule (ha.run W tk) (hb.run W tk) hm) fun σ H Q h => by
    obtain ⟨e, m⟩ := h.mid
    simp only [evT, evE] at m
    have m : Mid L W σ H e [] [] repB Q (bnd (evE tb o ca e) fun x e => bnd (evE tb o cb e) fun y e => bnd (opt ((cmpD op x y).map D.bl) e) fun x e => opt (truth x) e) := by
      rw [bnd_assoc] at m
      simp only [bnd_assoc] at m
      exact m
    refine m.one.imp fun v H1 ⟨d, e1, m1⟩ => ?_
    refine m1.one.imp fun w H2 ⟨d2, e2, m2⟩ => ?_
    obtain ⟨Z, S, k', rs⟩ := m2.reps
    obtain ⟨S1, S2, h1, h2, dj, r1, r2⟩ := reps2 rs
    cases q : cmpD op d d2 with
    | none => rw [q] at m2; exact m2.none.elim
    | some c =>
      rw [q] at m2
      have m2 : Mid L W σ H2 e2 [v, w] [d, d2] repB Q (some (.val c e2)) := m2
      exact R.ok Z H2 v w d d2 c S1 S2 q r1 r2 _ ⟨c, rfl, m2.fin fun _ _ _ _ => rfl⟩⟩

/-! ### and, or, not, if -/
theorem ce_one {op : BoolOp} {pos' : Pos} (ha : PEs X L tb o a ca) : PEs X L tb o (.BoolOp op [a] pos') ca := ⟨fun W tk => pe_one (ha.run W tk)⟩
theorem ce_and {rest : List Expr} (ha : PEs X L tb o a ca) (hb : PEs X L tb o (.BoolOp .And (b :: rest) pos) cb) : PEs X L tb o (.BoolOp .And (a :: b :: rest) pos) (.and ca cb) :=
  ⟨fun W tk => PEimp (pe_and (ha.run W tk) (hb.run W tk)) fun σ H Q h => by
    obtain ⟨e, m⟩ := h.mid
    simp only [evE] at m
    refine m.one.imp fun v H1 ⟨d, e1, m1⟩ => ?_
    obtain ⟨Z, S, k', rs⟩ := m1.reps
    obtain ⟨v', ev, r1⟩ := reps1 rs
    cases ev
    cases d with
    | bl c =>
      refine ⟨c, rep_bl r1, ?_⟩
      cases c with
      | true => rw [if_pos rfl]; exact m1.tG_of
      | false => rw [if_neg Bool.false_ne_true]; exact m1.fin fun _ _ _ _ => by simp only [Rep]
    | _ => exact m1.none.elim⟩
theorem ce_or {rest : List Expr} (ha : PEs X L tb o a ca) (hb : PEs X L tb o (.BoolOp .Or (b :: rest) pos) cb) : PEs X L tb o (.BoolOp .Or (a :: b :: rest) pos) (.or ca cb) :=
  ⟨fun W tk => PEimp (pe_or (ha.run W tk) (hb.run W tk)) fun σ H Q h => by
    obtain ⟨e, m⟩ := h.mid
    simp only [evE] at m
    refine m.one.imp fun v H1 ⟨d, e1, m1⟩ => ?_
    obtain ⟨Z, S, k', rs⟩ := m1.reps
    obtain ⟨v', ev, r1⟩ := reps1 rs
    cases ev
    cases d with
    | bl c =>
      refine ⟨c, rep_bl r1, ?_⟩
      cases c with
      | false => rw [if_neg Bool.false_ne_true]; exact m1.tG_of
      | true => rw [if_pos rfl]; exact m1.fin fun _ _ _ _ => by simp only [Rep]
    | _ => exact m1.none.elim⟩
theorem ce_not (ha : PEs X L tb o a ca) : PEs X L tb o (.UnaryOp .Not a pos) (.un .not ca) :=
  ⟨fun W tk => PEimp (pe_not (ha.run W tk)) fun σ H Q h => by
    obtain ⟨e, m⟩ := h.mid
    simp only [evE] at m
    refine m.one.imp fun v H1 ⟨d, e1, m1⟩ => ?_
    obtain ⟨d2, hd, m2⟩ := m1.opt
    obtain ⟨Z, S, k', rs⟩ := m1.reps
    obtain ⟨v', ev, r1⟩ := reps1 rs
    cases ev
    cases d <;> simp only [unD, reduceCtorEq, Option.some.injEq] at hd
    subst hd
    exact ⟨_, rep_bl r1, m2.fin fun _ _ _ _ => by simp only [Rep]⟩⟩
theorem ce_neg (ha : PEs X L tb o a ca) : PEs X L tb o (.UnaryOp .USub a pos) (.un .neg ca) :=
  ⟨fun W tk => PEimp (pe_un un_neg (ha.run W tk)) fun σ H Q h => by
    obtain ⟨e, m⟩ := h.mid
    simp only [evE] at m
    refine m.one.imp fun v H1 ⟨d, e1, m1⟩ => ?_
    obtain ⟨d2, hd, m2⟩ := m1.opt
    obtain ⟨Z, S, k', rs⟩ := m1.reps
    obtain ⟨v', ev, r1⟩ := reps1 rs
    cases ev
    cases d <;> simp only [unD, reduceCtorEq, Option.some.injEq] at hd
    subst hd
    exact ⟨_, rep_int r1, m2.fin fun _ _ _ _ => by simp only [Rep]⟩⟩
theorem cw_one {ct : C} {pos' : Pos} (ha : PTs' X L tb o a ct) : PWs X L tb o (.BoolOp .And [a] pos') ct := ⟨fun W tk => pw_and1 (ha.run W tk)⟩
theorem cw_oneO {ct : C} {pos' : Pos} (ha : PTs' X L tb o a ct) : PWs X L tb o (.BoolOp .Or [a] pos') ct := ⟨fun W tk => pw_or1 (ha.run W tk)⟩
theorem cw_and {ct cu : C} {rest : List Expr} (ha : PTs' X L tb o a ct) (hb : PWs X L tb o (.BoolOp .And (b :: rest) pos) cu) : PWs X L tb o (.BoolOp .And (a :: b :: rest) pos) (.and ct cu) :=
  ⟨fun W tk => PWimp (pw_and (ha.run W tk) (hb.run W tk)) fun σ H Q h => by
    obtain ⟨e, m⟩ := h.mid
    simp only [evT] at m
    refine m.tst.imp fun v H1 ⟨e1, m1⟩ => ?_
    cases v with
    | true => rw [if_pos rfl] at m1 ⊢; exact m1.tG_of
    | false => rw [if_neg Bool.false_ne_true] at m1 ⊢; exact m1.fin fun _ _ _ _ => rfl⟩
theorem cw_or {ct cu : C} {rest : List Expr} (ha : PTs' X L tb o a ct) (hb : PWs X L tb o (.BoolOp .Or (b :: rest) pos) cu) : PWs X L tb o (.BoolOp .Or (a :: b :: rest) pos) (.or ct cu) :=
  ⟨fun W tk => PWimp (pw_or (ha.run W tk) (hb.run W tk)) fun σ H Q h => by
    obtain ⟨e, m⟩ := h.mid
    simp only [evT] at m
    refine m.tst.imp fun v H1 ⟨e1, m1⟩ => ?_
    cases v with
    | true => rw [if_pos rfl] at m1 ⊢; exact m1.fin fun _ _ _ _ => rfl
    | false => rw [if_neg Bool.false_ne_true] at m1 ⊢; exact m1.tG_of⟩
theorem ct_w {ct : C} (h : PWs X L tb o a ct) : PTs' X L tb o a ct := ⟨fun W tk => (h.run W tk).pt⟩
theorem ct_not {ct : C} (ha : PTs' X L tb o a ct) : PTs' X L tb o (.UnaryOp .Not a pos) (.not ct) :=
  ⟨fun W tk => PTimp (pt_not (ha.run W tk)) fun σ H Q h => by
    obtain ⟨e, m⟩ := h.mid
    simp only [evT] at m
    exact m.tst.imp fun v H1 ⟨e1, m1⟩ => m1.fin fun _ _ _ _ => rfl⟩
theorem truth_ok {K : PySem.W.Frag} (hK : K = L.K) {Z S : AS} {H : Hp} {v : V} {d : D} {c : Bool} (h : truth d = some c) (r : Rep L Z H v d S) : TruV K v H c := by
  cases d with
  | non => simp only [truth, Option.some.injEq] at h; rw [rep_non r]; exact h.symm
  | bl b => simp only [truth, Option.some.injEq] at h; rw [rep_bl r]; exact h.symm
  | int i => simp only [truth, Option.some.injEq] at h; rw [rep_int r]; exact h.symm
  | str x =>
    simp only [truth] at h
    split at h
    · cases h
      rw [rep_str r]
      refine ⟨by assumption, ?_⟩
      cases e : (x.length == 0) with
      | true =>
        have := beq_iff_eq.mp e
        simp [this]
      | false =>
        have := beq_eq_false_iff_ne.mp e
        have h2 : ((x.length : Int) != 0) = true := by simp; omega
        rw [h2]
        simp [this]
    · cases h
  | nd kd ow xs =>
    cases kd with
    | tup =>
      simp only [truth, Option.some.injEq] at h
      obtain ⟨a, vs, rfl, _, h2, rr⟩ := shape_tup r
      refine .inr (.inl ⟨vs, by rw [hK]; exact h2, ?_⟩)
      rw [← h]
      have := rr.length
      cases vs <;> cases xs <;> first | rfl | (simp at this)
    | lst =>
      simp only [truth, Option.some.injEq] at h
      obtain ⟨a, vs, rfl, h2, _, rr⟩ := shape_lst r
      refine .inl ⟨vs, .of h2, ?_⟩
      rw [← h]
      have := rr.length
      cases vs <;> cases xs <;> first | rfl | (simp at this)
    | pr => simp only [truth, reduceCtorEq] at h
    | cl =>
      simp only [truth, Option.some.injEq] at h
      obtain ⟨a, vs, rfl, h2, rr⟩ := shape_cl r
      refine .inl ⟨vs, by rw [hK]; exact h2.sq, ?_⟩
      rw [← h]
      have := rr.length
      cases vs <;> cases xs <;> first | rfl | (simp at this)
    | dt ks => simp only [truth, reduceCtorEq] at h
    | dk ks =>
      simp only [truth, Option.some.injEq] at h
      obtain ⟨a, vs, rfl, h0, h1, h2, _, rr⟩ := shape_dk r
      refine .inr (.inr ⟨_, h2, ?_⟩)
      rw [← h]
      cases vs <;> cases ks <;> first | rfl | (simp at h1)
    | ins c ns => simp only [truth] at h; cases h
/-- any value as a test -/
theorem ct_e [Lay X L tb o k] (ha : PEs X L tb o a ca) (he : ∀ whole, isTrue a X.env whole = (do let v ← whole; standAt a.pos; holding [v] (truthy v)) := by intro _; rfl) : PTs' X L tb o a (.e ca) :=
  ⟨fun W tk => PTimp (pt_truth (ha.run W tk) he) fun σ H Q h => by
    obtain ⟨e, m⟩ := h.mid
    simp only [evT] at m
    refine m.one.imp fun v H1 ⟨d, e1, m1⟩ => ?_
    obtain ⟨c, hc, m2⟩ := m1.opt
    obtain ⟨Z, S, k', rs⟩ := m1.reps
    obtain ⟨v', ev, r1⟩ := reps1 rs
    cases ev
    exact ⟨c, truth_ok (Lay.K (X := X) (L := L) (tb := tb) (o := o) (k := k)) hc r1, m2.fin fun _ _ _ _ => rfl⟩⟩
theorem ce_ife {ct : C} (ht : PTs' X L tb o c ct) (ha : PEs X L tb o a ca) (hb : PEs X L tb o b cb) : PEs X L tb o (.IfExp c a b pos) (.ife ct ca cb) :=
  ⟨fun W tk => PEimp (pe_ifExp (ht.run W tk) (ha.run W tk) (hb.run W tk)) fun σ H Q h => by
    obtain ⟨e, m⟩ := h.mid
    simp only [evE] at m
    refine m.tst.imp fun v H1 ⟨e1, m1⟩ => ?_
    cases v with
    | true => rw [if_pos rfl] at m1 ⊢; exact m1.tG_of
    | false => rw [if_neg Bool.false_ne_true] at m1 ⊢; exact m1.tG_of⟩
theorem ce_chain {aop aop' : CmpOp} {op op' : COp} {r r' : R2} (R : CmpR X L aop op r) (R' : CmpR X L aop' op' r') (ha : PEs X L tb o a ca) (hb : PEs X L tb o b cb) (hc : PEs X L tb o c cc) (hm : lastMarks [aop, aop'] [b, c] = false := by with_unfolding_all rfl) :
    PEs X L tb o (.Compare a [aop, aop'] [b, c] pos) (.chain op op' ca cb cc) :=
  ⟨fun W tk => PEimp (pe_chain R.rule R'.rule (ha.run W tk) (hb.run W tk) (hc.run W tk) hm) fun σ H Q h => by
    obtain ⟨e, m⟩ := h.mid
    simp only [evE] at m
    refine m.one.imp fun v H1 ⟨d, e1, m1⟩ => ?_
    refine m1.one.imp fun w H2 ⟨d2, e2, m2⟩ => ?_
    obtain ⟨Z, S, k', rs⟩ := m2.reps
    obtain ⟨S1, S2, h1, h2, dj, r1, r2⟩ := reps2 rs
    cases q : cmpD op d d2 with
    | none => rw [q] at m2; exact m2.none.elim
    | some c1 =>
      rw [q] at m2
      refine R.ok Z H2 v w d d2 c1 S1 S2 q r1 r2 _ ⟨c1, rfl, ?_⟩
      cases c1 with
      | false => rw [if_neg Bool.false_ne_true]; exact m2.fin fun _ _ _ _ => by simp only [Rep]
      | true =>
        rw [if_pos rfl]
        refine m2.one.imp fun z H3 ⟨d3, e3, m3⟩ => ?_
        obtain ⟨dd, hd, m4⟩ := m3.opt
        obtain ⟨Z, S, k', rs, u⟩ := m4.use
        obtain ⟨v', T1, T2, ev, h1, h2, dj, r1, _⟩ := reps_at (j := 1) rs rfl
        obtain ⟨v2', T12, T22, ev2, h12, h22, dj2, r12, _⟩ := reps_at (j := 2) rs rfl
        cases ev
        cases ev2
        cases q2 : cmpD op' d2 d3 with
        | none => rw [q2] at hd; cases hd
        | some c2 =>
          rw [q2] at hd
          cases hd
          exact R'.ok Z H3 w z d2 d3 c2 T1 T12 q2 r1 r12 Q (u.fin _ (by simp only [Rep]))⟩

/-! ### parts -/
theorem reps_atI {ds : List D} {vs : List V} {Z S : AS} {H : Hp} {i : Int} {d : D} (h : Reps L Z H vs ds S) (e : atI ds i = some d) : ∃ v, atI vs i = some v ∧ Rep L Z H v d S := by
  unfold atI at e ⊢
  rw [h.length]
  cases q : ixN ds.length i with
  | none => rw [q] at e; cases e
  | some j =>
    rw [q] at e
    simp only [Option.bind_some] at e ⊢
    exact h.get e
theorem ix_dict (hu : X.A.units + 1 < cLine) : IxR X (fun x y H Q => ∃ a kvs k v, x = .ref a ∧ H a = some (.dK kvs) ∧ y = kV k ∧ valV kvs k = some v ∧ Q v H) := by
  intro value slice pins s σ H x y v u Q I rx ry h hs
  obtain ⟨a, kvs, kk, z, rfl, e, rfl, hz, q⟩ := h
  cases rx
  obtain ⟨zz, hd, vs, rel, dd⟩ := dk_rd I.hok (Rd.of e)
  obtain ⟨w', hw, rw'⟩ := RelO.some_of (v := z) (o := valueAt vs kk) (by rw [← hz]; exact rel.val kk)
  have fin : EP X pins σ Q w' { s with toks := s.toks } := ⟨z, H, I, rw', q⟩
  exact PyProof.Rows.subscriptTail_builtinR (x := w') dd.typeIs PySem.F.slot_dict_getitem.lookup
    (wpAny_getItem_of (Q := fun r s' => r = w' ∧ EP X pins σ Q r s') (kV_is ry) dd.mapOf hw ⟨rfl, ⟨z, H, I.tok _, rw', q⟩⟩) hs
theorem ix_dictN (hu : X.A.units + 65 < cLine) (hK : X.K = L.K) (hw : X.w = L.wd) : IxR X (fun x y H Q => ∃ a v, x = .ref a ∧ DGetN L H a y (some v) ∧ Q v H) := by
  intro value slice pins s σ H x y v u Q I rx ry h hs
  obtain ⟨a, z, rfl, g, q⟩ := h
  cases rx
  obtain ⟨ks, vs, l, kk, b, g, rfl, kr, kd, e⟩ := g
  cases (show u = Value.ref b from ry)
  obtain ⟨kvs, kv, dd, hs'⟩ := dl_keyed I hK hw g
  obtain ⟨w', hw', rw'⟩ := RelO.some_of (v := z) (o := valueAt kvs kk) (by rw [e]; exact kv.val kk)
  have fin : EP X pins σ Q w' { s with toks := s.toks } := ⟨z, H, I, rw', q⟩
  exact PyProof.Rows.subscriptTail_builtinR (x := w') dd.typeIs PySem.F.slot_dict_getitem.lookup
    (getItem_keyed (Q := fun r s' => r = w' ∧ EP X pins σ Q r s') (by show X.A.units + 1 + 8 < cLine; omega) (show (nestedKind X.prog X.w).is s.heap kk b from ⟨nested_of I hK kr rfl, kd⟩) dd hw' ⟨rfl, ⟨z, H, I.tok _, rw', q⟩⟩) hs
theorem ce_sub [Lay X L tb o k] (ha : PEs X L tb o a ca) (hb : PEs X L tb o b cb) (hs : PlainIx b := by intro _ _; rfl) : PEs X L tb o (.Subscript a b pos) (.sub ca cb) :=
  ⟨fun W tk => PEimp (pe_ix (IxR.or ix_list (IxR.or ix_tup (IxR.or (ix_dict (hu_of (Lay.room (X := X) (L := L) (tb := tb) (o := o) (k := k)))) (ix_dictN (L := L) (units65 (Lay.room (X := X) (L := L) (tb := tb) (o := o) (k := k))) (Lay.K (X := X) (L := L) (tb := tb) (o := o) (k := k)) (Lay.wd (X := X) (L := L) (tb := tb) (o := o) (k := k)))))) (ha.run W tk) (hb.run W tk) hs) fun σ H Q h => by
    have hK := Lay.K (X := X) (L := L) (tb := tb) (o := o) (k := k)
    have h : tG L W (Rep L) (fun e => bnd (evE tb o ca e) fun x e => bnd (evE tb o cb e) fun y e => opt (subD x y) e) σ H Q := by
      rw [show evE tb o (.sub ca cb) = (fun e => bnd (evE tb o ca e) fun x e => bnd (evE tb o cb e) fun y e => opt (subD x y) e) from by funext e; rw [evE]] at h
      exact h
    refine bin_run (fun x y H e d1 d2 d hd m => ?_) h
    obtain ⟨Z, S, k', rs, u⟩ := m.use
    obtain ⟨S1, S2, h1, h2, dj, r1, r2⟩ := reps2 rs
    cases d1 with
    | nd kd ow xs =>
      cases kd with
      | tup =>
        cases d2 <;> simp only [subD, reduceCtorEq] at hd
        obtain ⟨p, vs, rfl, _, hp, rr⟩ := shape_tup r1
        obtain ⟨v, ev, rv⟩ := reps_atI rr hd
        exact .inr (.inl ⟨p, vs, _, v, rfl, rep_int r2, by rw [hK]; exact hp, ev, u.fin _ (rep_mono h1 rv)⟩)
      | pr => simp only [subD, reduceCtorEq] at hd
      | cl =>
        cases d2 <;> simp only [subD, reduceCtorEq] at hd
        obtain ⟨p, vs, rfl, hp, rr⟩ := shape_cl r1
        obtain ⟨v, ev, rv⟩ := reps_atI rr hd
        exact .inl ⟨p, vs, _, v, rfl, rep_int r2, by rw [hK]; exact hp.sq, ev, u.fin _ (rep_mono h1 rv)⟩
      | lst =>
        cases d2 <;> simp only [subD, reduceCtorEq] at hd
        obtain ⟨p, vs, rfl, hp, _, rr⟩ := shape_lst r1
        obtain ⟨v, ev, rv⟩ := reps_atI rr hd
        exact .inl ⟨p, vs, _, v, rfl, rep_int r2, .of hp, ev, u.fin _ (rep_mono (fun b z => h1 b z.1) rv)⟩
      | dk ks =>
        simp only [subD] at hd
        cases q : d2.key with
        | none => rw [q] at hd; cases hd
        | some kk =>
          rw [q] at hd
          simp only [Option.bind_some] at hd
          obtain ⟨p, vs, rfl, h0, hl, hp, _, rr⟩ := shape_dk r1
          obtain ⟨j, v, e1, e2, e3, e4⟩ := (look_zip kk hl rr).2 d hd
          obtain ⟨v', e3', rv⟩ := rr.get e2
          rw [e3] at e3'
          cases e3'
          exact .inr (.inr (.inl ⟨p, _, kk, v, rfl, hp, key_kV r2 q, e4, u.fin _ (rep_mono (fun b z => h1 b z.1) rv)⟩))
      | dt ks =>
        simp only [subD] at hd
        cases q : d2.tkey with
        | none => rw [q] at hd; cases hd
        | some kk =>
          rw [q] at hd
          simp only [Option.bind_some] at hd
          obtain ⟨p, vs, l, rfl, dl, _, rr⟩ := dl_dt r1
          obtain ⟨⟨b, eb⟩, kr, kd⟩ := tkey_rep q r2
          obtain ⟨j, v, e1, e2, e3, e4⟩ := (look_zip kk dl.2.1 rr).2 d hd
          obtain ⟨v', e3', rv⟩ := rr.get e2
          rw [e3] at e3'
          cases e3'
          exact .inr (.inr (.inr ⟨p, v, rfl, ⟨_, _, _, kk, b, dl, eb, kr, kd, e4.symm⟩, u.fin _ (rep_mono (fun b z => h1 b z.1) rv)⟩))
      | ins c ns => simp only [subD, reduceCtorEq] at hd
    | _ => simp only [subD, reduceCtorEq] at hd⟩
theorem lookS_zip : ∀ {ns : List Str} {xs : List D} {vs : List V} {Z S : AS} {H : Hp} {f : Str} {d : D}, Reps L Z H vs xs S → lookS ns xs f = some d → ∃ v, (ns.zip vs).lookup f = some v ∧ Rep L Z H v d S
  | [], xs, vs, Z, S, H, f, d, h, e => by simp [lookS] at e
  | n :: ns, [], vs, Z, S, H, f, d, h, e => by simp [lookS] at e
  | n :: ns, x :: xs, vs, Z, S, H, f, d, h, e => by
    simp only [Reps] at h
    obtain ⟨v, ws, S1, S2, ev, h1, h2, dj, r1, r2⟩ := h
    subst ev
    simp only [lookS] at e
    rw [List.zip_cons_cons, List.lookup_cons]
    by_cases c : n = f
    · rw [if_pos c] at e
      cases e
      rw [show (f == n) = true from by rw [c]; exact beq_self_eq_true f]
      exact ⟨v, rfl, rep_mono h1 r1⟩
    · rw [if_neg c] at e
      rw [show (f == n) = false from beq_eq_false_iff_ne.mpr (fun z => c z.symm)]
      obtain ⟨v', e1, e2⟩ := lookS_zip r2 e
      exact ⟨v', e1, rep_mono h2 e2⟩
theorem shape_ins {Z S : AS} {H : Hp} {v : V} {ow : Bool} {c : Nat} {ns : List Str} {xs : List D} (h : Rep L Z H v (.nd (.ins c ns) ow xs) S) : ∃ a vs dx, v = .ref a ∧ ns.length = vs.length ∧ H a = some (.ins (L.cls c) dx (ns.zip vs)) ∧ (ow = true → S a) ∧ Reps L Z H vs xs (fun b => S b ∧ (ow = true → b ≠ a)) := by
  simp only [Rep, shapeOk] at h
  obtain ⟨a, vs, e, ⟨h1, ⟨dx, h2⟩, h3⟩, ho, r⟩ := h
  exact ⟨a, vs, dx, e, h1, h2, ho, r⟩
theorem ce_fld [Lay X L tb o k] {f : Str} (ha : PEs X L tb o a ca) (hb : attributeBase a f X.env (eval a X.env) = eval a X.env := by rfl) : PEs X L tb o (.Attribute a f pos) (.fld ca f) :=
  ⟨fun W tk => PEimp (pe_fld (ha.run W tk) hb) fun σ H Q h => by
    obtain ⟨e, m⟩ := h.mid
    simp only [evE] at m
    refine m.one.imp fun v H1 ⟨d, e1, m1⟩ => ?_
    obtain ⟨d2, hd, m2⟩ := m1.opt
    obtain ⟨Z, S, k', rs, u⟩ := m2.use
    obtain ⟨v', ev, r1⟩ := reps1 rs
    cases ev
    cases d with
    | nd kd ow xs =>
      cases kd with
      | ins c ns =>
        simp only [fldD] at hd
        split at hd
        · rename_i hat
          obtain ⟨p, vs, dx, rfl, hl, hp, _, rr⟩ := shape_ins r1
          obtain ⟨w, ew, rw'⟩ := lookS_zip rr hd
          obtain ⟨hc, hn⟩ := Lay.att (X := X) (L := L) (tb := tb) (o := o) (k := k) c f hat
          exact ⟨p, _, dx, _, w, rfl, hp, hc, hn, ew, u.fin _ (rep_mono (fun b z => z.1) rw')⟩
        · cases hd
      | _ => simp only [fldD, reduceCtorEq] at hd
    | _ => simp only [fldD, reduceCtorEq] at hd⟩
theorem reps_cut {ds : List D} {vs : List V} {Z S : AS} {H : Hp} (lo hi : Option Int) (h : Reps L Z H vs ds S) : Reps L Z H (cutV vs lo hi) (cutD ds lo hi) S := by
  unfold cutV cutD
  rw [h.length]
  exact reps_take _ (reps_drop _ h)
theorem slc_run {hK : X.K = L.K} {σ : St} {H : Hp} {Q : VK} {e : Env} {x : V} {d1 d : D} {vs : List V} {ds : List D} {lo hi : Option Int}
    (m : Mid L W σ H e (x :: vs) (d1 :: ds) (Rep L) Q (some (.val d e))) (hd : cutOf d1 lo hi = some d) : rSlL X.K x lo hi H Q ∨ rSlF X.K x lo hi H Q := by
  obtain ⟨Z, S, k', rs, u⟩ := m.use
  obtain ⟨v', T1, T2, ev, h1, h2, dj, r1, _⟩ := reps_at (j := 0) rs rfl
  cases ev
  cases d1 with
  | nd kd ow xs =>
    cases kd with
    | lst =>
      simp only [cutOf, Option.some.injEq] at hd
      obtain ⟨p, ws, rfl, hp, _, rr⟩ := shape_lst r1
      exact .inl ⟨p, ws, rfl, .of hp, fun q hq => u.newL _ _ q hd.symm hq (reps_cut lo hi (reps_mono (fun b z => h1 b z.1) rr))⟩
    | cl =>
      simp only [cutOf, Option.some.injEq] at hd
      obtain ⟨p, ws, rfl, hp, rr⟩ := shape_cl r1
      exact .inl ⟨p, ws, rfl, by rw [hK]; exact hp.sq, fun q hq => u.newL _ _ q hd.symm hq (reps_cut lo hi (reps_mono h1 rr))⟩
    | tup =>
      simp only [cutOf, Option.some.injEq] at hd
      obtain ⟨p, ws, rfl, how, hp, rr⟩ := shape_tup r1
      refine .inr ⟨p, ws, rfl, by rw [hK]; exact hp, fun hw => u.fin _ ?_, fun _ q ob hq ho => u.newU _ _ q ob hd.symm hq ho (reps_cut lo hi (reps_mono h1 rr))⟩
      have : cutD xs lo hi = xs := by
        unfold cutD
        rw [← rr.length, hw.1, hw.2, List.drop_zero, Nat.sub_zero, rr.length, List.take_length]
      rw [← hd, this]
      exact rep_mono h1 (rep_tup r1)
    | _ => simp only [cutOf, reduceCtorEq] at hd
  | _ => simp only [cutOf, reduceCtorEq] at hd
/-- a part of a slice: absent, or an int -/
structure POs (X : Cx) (L : Lo) (tb : Tab) (o : Orc) (e : Option Expr) (c : E) : Prop where
  run : ∀ W, Takes X W → PO X e (fun σ H Q => tG L W (Rep L) (evE tb o c) σ H (fun v H1 => (c = .nop ∧ Q none H1) ∨ ∃ i, c ≠ .nop ∧ v = .int i ∧ Q (some i) H1))
theorem POimp {e : Option Expr} {t t' : TO} (p : PO X e t) (h : ∀ σ H Q, t' σ H Q → t σ H Q) : PO X e t' := ⟨fun pins s σ H Q I hq => p.run pins s σ H Q I (h σ H Q hq)⟩
theorem co_none : POs X L tb o none .nop := ⟨fun W tk => POimp po_none fun σ H Q h => by
  have q := const_run (d := .non) (v := .non) (fun e => by rw [evE]) (fun Z H => by rw [Rep]) h
  rcases q with ⟨_, q⟩ | ⟨i, q, _⟩
  · exact q
  · exact absurd rfl q⟩
theorem co_some (ha : PEs X L tb o a ca) (hn : ca ≠ .nop := by intro z; cases z) : POs X L tb o (some a) ca := ⟨fun W tk => POimp (po_some (ha.run W tk)) fun σ H Q h => h.imp fun v H1 q => by
  rcases q with ⟨q, _⟩ | ⟨i, _, e, q⟩
  · exact absurd q hn
  · exact ⟨i, e, q⟩⟩
theorem partE_nop {d : D} {p : Option Int} (h : partE .nop d = some p) : p = none := by simp only [partE, Option.some.injEq] at h; exact h.symm
theorem partE_int {c : E} (hn : c ≠ .nop) {d : D} {p : Option Int} (h : partE c d = some p) : ∃ i, d = .int i ∧ p = some i := by
  cases c <;> first | exact absurd rfl hn | (cases d <;> simp only [partE, Option.some.injEq, reduceCtorEq] at h; exact ⟨_, rfl, h.symm⟩)
theorem ce_slc [Lay X L tb o k] {lo hi : Option Expr} {cl ch : E} {p2 : Pos} (ha : PEs X L tb o a ca) (hl : POs X L tb o lo cl) (hh : POs X L tb o hi ch) : PEs X L tb o (.Subscript a (.Slice lo hi none p2) pos) (.slc ca cl ch) :=
  ⟨fun W tk => PEimp (pe_slice (SlR.or sl_list sl_tupF) (ha.run W tk) (hl.run W tk) (hh.run W tk)) fun σ H Q h => by
    obtain ⟨e, m⟩ := h.mid
    simp only [evE] at m
    refine m.one.imp fun x H1 ⟨d, e1, m1⟩ => ?_
    refine m1.one.imp fun l H2 ⟨dl, e2, m2⟩ => ?_
    obtain ⟨Z2, S2, k2, rs2⟩ := m2.reps
    obtain ⟨l', T1, T2, el, _, _, _, rl, _⟩ := reps_at (j := 1) rs2 rfl
    cases el
    cases qq : partE cl dl with
    | none => rw [qq] at m2; exact m2.none.elim
    | some lo' =>
    rw [qq] at m2
    have goOn : tG L W (Rep L) (evE tb o ch) σ H2 (fun v H1 => (ch = .nop ∧ (rSlL X.K x lo' none H1 Q ∨ rSlF X.K x lo' none H1 Q)) ∨ ∃ i, ch ≠ .nop ∧ v = .int i ∧ (rSlL X.K x lo' (some i) H1 Q ∨ rSlF X.K x lo' (some i) H1 Q)) := by
      refine m2.one.imp fun h' H3 ⟨dh, e3, m3⟩ => ?_
      obtain ⟨dd, hd, m4⟩ := m3.opt
      obtain ⟨Z3, S3, k3, rs3⟩ := m3.reps
      obtain ⟨h'', T1, T2, eh, _, _, _, rh, _⟩ := reps_at (j := 2) rs3 rfl
      cases eh
      cases qh : partE ch dh with
      | none => rw [qh] at hd; cases hd
      | some hi' =>
        rw [qh] at hd
        have fin := slc_run (hK := Lay.K (X := X) (L := L) (tb := tb) (o := o) (k := k)) m4 hd
        by_cases c : ch = .nop
        · subst c
          rw [partE_nop qh] at fin
          exact .inl ⟨rfl, fin⟩
        · obtain ⟨i, e1, e2⟩ := partE_int c qh
          subst e1 e2
          exact .inr ⟨i, c, rep_int rh, fin⟩
    by_cases c : cl = .nop
    · subst c
      rw [partE_nop qq] at goOn
      exact .inl ⟨rfl, goOn⟩
    · obtain ⟨i, e1, e2⟩ := partE_int c qq
      subst e1 e2
      exact .inr ⟨i, c, rep_int rl, goOn⟩⟩
end
end PL

/-! PL.Bi: built-in functions. -/
namespace PL
open PySem L2
section
variable {X : Cx} {L : Lo} {tb : Tab} {o : Orc} {k : Nat} {pos p : Pos} {a b c : Expr} {ca cb cc : E} {W : WX}
theorem bi_run {b : Bi} {r : List V → Hp → VK → Prop} {σ : St} {H : Hp} {Q : VK} (hr : ∀ x H e d1 d, biD b d1 = some d → Mid L W σ H e [x] [d1] (Rep L) Q (some (.val d e)) → r [x] H Q) (h : tG L W (Rep L) (evE tb o (.bi b ca)) σ H Q) :
    tCB r (tCons (tG L W (Rep L) (evE tb o ca)) tNil) σ H Q := by
  obtain ⟨e, m⟩ := h.mid
  simp only [evE] at m
  refine m.one.imp fun v H1 ⟨d, e1, m1⟩ => ?_
  obtain ⟨dd, hd, m2⟩ := m1.opt
  exact hr v H1 e1 d dd hd m2
theorem use1 {σ : St} {H : Hp} {e : Env} {x : V} {d1 d : D} {Q : VK} (m : Mid L W σ H e [x] [d1] (Rep L) Q (some (.val d e))) : ∃ Z S, Rep L Z H x d1 S ∧ Use L Z S H d Q := by
  obtain ⟨Z, S, k', rs, u⟩ := m.use
  obtain ⟨v', ev, r1⟩ := reps1 rs
  cases ev
  exact ⟨Z, S, r1, u⟩
theorem ce_len [Lay X L tb o k] (ha : PEs X L tb o a ca) (hg : Gl X "len" := by rfl) (hs : starEach [a] X.env = (false, eval a X.env) :: starEach [] X.env := by rfl) : PEs X L tb o (.Call (.Name "len" p) [a] [] pos) (.bi .len ca) :=
  ⟨fun W tk => PEimp (pe_callB (CallR.or call_len (CallR.or call_lenD (call_lenN (L := L) (Lay.K (X := X) (L := L) (tb := tb) (o := o) (k := k)) (Lay.wd (X := X) (L := L) (tb := tb) (o := o) (k := k))))) hg (Lay.bi (X := X) (L := L) (tb := tb) (o := o) (k := k) _ (by decide +kernel)) PySem.boot_len (pa_cons (ha.run W tk) pa_nil hs) (he := hs)) fun σ H Q h => bi_run (fun x H e d1 d hd m => by
    obtain ⟨Z, S, r1, u⟩ := use1 m
    have hK := Lay.K (X := X) (L := L) (tb := tb) (o := o) (k := k)
    cases d1 with
    | str y =>
      simp only [biD] at hd
      split at hd
      · cases hd
        rw [rep_str r1]
        exact .inl ⟨_, y.length, rfl, ⟨by assumption, rfl⟩, u.fin _ (by simp only [Rep])⟩
      · cases hd
    | nd kd ow xs =>
      cases kd with
      | tup =>
        simp only [biD, Option.some.injEq] at hd
        obtain ⟨q, vs, rfl, _, hq, rr⟩ := shape_tup r1
        subst hd
        exact .inl ⟨_, _, rfl, .inr ⟨vs, by rw [hK]; exact hq, rfl⟩, u.fin _ (by rw [rr.length]; simp only [Rep])⟩
      | lst =>
        simp only [biD, Option.some.injEq] at hd
        obtain ⟨q, vs, rfl, hq, _, rr⟩ := shape_lst r1
        subst hd
        exact .inl ⟨_, _, rfl, .inl ⟨vs, .of hq, rfl⟩, u.fin _ (by rw [rr.length]; simp only [Rep])⟩
      | cl =>
        simp only [biD, Option.some.injEq] at hd
        obtain ⟨q, vs, rfl, hq, rr⟩ := shape_cl r1
        subst hd
        exact .inl ⟨_, _, rfl, .inl ⟨vs, by rw [hK]; exact hq.sq, rfl⟩, u.fin _ (by rw [rr.length]; simp only [Rep])⟩
      | dk ks =>
        simp only [biD, Option.some.injEq] at hd
        obtain ⟨q, vs, rfl, h0, hl, hq, _, rr⟩ := shape_dk r1
        subst hd
        refine .inr (.inl ⟨_, _, rfl, hq, u.fin _ ?_⟩)
        rw [List.length_zip, ← hl, Nat.min_self]
        simp only [Rep]
      | dt ks =>
        simp only [biD, Option.some.injEq] at hd
        obtain ⟨q, vs, l, rfl, dl, _, rr⟩ := dl_dt r1
        subst hd
        exact .inr (.inr ⟨_, _, _, _, rfl, dl, u.fin _ (by simp only [Rep])⟩)
      | pr => simp only [biD, reduceCtorEq] at hd
      | ins c ns => simp only [biD, reduceCtorEq] at hd
    | _ => simp only [biD, reduceCtorEq] at hd) h⟩
theorem ce_int1 [Lay X L tb o k] (ha : PEs X L tb o a ca) (hg : Gl X "int" := by rfl) (hs : starEach [a] X.env = (false, eval a X.env) :: starEach [] X.env := by rfl) : PEs X L tb o (.Call (.Name "int" p) [a] [] pos) (.bi .int ca) :=
  ⟨fun W tk => PEimp (pe_callTy call_int1 hg (Lay.bi (X := X) (L := L) (tb := tb) (o := o) (k := k) _ (by decide +kernel)) (by decide +kernel) (pa_cons (ha.run W tk) pa_nil hs) (he := hs)) fun σ H Q h => bi_run (fun x H e d1 d hd m => by
    obtain ⟨Z, S, r1, u⟩ := use1 m
    cases d1 <;> simp only [biD, reduceCtorEq, Option.some.injEq] at hd
    · subst hd
      rw [rep_bl r1]
      exact .inr ⟨_, rfl, u.fin _ (by simp only [Rep])⟩
    · subst hd
      rw [rep_int r1]
      exact .inl ⟨_, rfl, u.fin _ (by simp only [Rep])⟩) h⟩
theorem ce_abs [Lay X L tb o k] (ha : PEs X L tb o a ca) (hg : Gl X "abs" := by rfl) (hs : starEach [a] X.env = (false, eval a X.env) :: starEach [] X.env := by rfl) : PEs X L tb o (.Call (.Name "abs" p) [a] [] pos) (.bi .abs ca) :=
  ⟨fun W tk => PEimp (pe_callB call_abs hg (Lay.bi (X := X) (L := L) (tb := tb) (o := o) (k := k) _ (by decide +kernel)) (by decide +kernel) (pa_cons (ha.run W tk) pa_nil hs) (he := hs)) fun σ H Q h => bi_run (fun x H e d1 d hd m => by
    obtain ⟨Z, S, r1, u⟩ := use1 m
    cases d1 <;> simp only [biD, reduceCtorEq, Option.some.injEq] at hd
    subst hd
    rw [rep_int r1]
    exact ⟨_, rfl, u.fin _ (by simp only [Rep])⟩) h⟩
theorem keys_ints {ks : List Key} {l : List Int} (h : intsD (ks.map keyD) = some l) : ks = l.map Sum.inl := by
  induction ks generalizing l with
  | nil => simp only [List.map_nil, intsD, Option.some.injEq] at h; subst h; rfl
  | cons kk ks ih =>
    cases kk with
    | inl i =>
      simp only [List.map_cons, keyD, intsD] at h
      cases q : intsD (ks.map keyD) with
      | none => rw [q] at h; cases h
      | some m =>
        rw [q] at h
        cases h
        rw [ih q]; rfl
    | inr x => simp only [List.map_cons, keyD, intsD, reduceCtorEq] at h
theorem zip_fst {ks : List Key} {vs : List V} (h : ks.length = vs.length) : (ks.zip vs).map (·.1) = ks := by
  rw [List.map_fst_zip]
  omega
theorem reps_keys {Z : AS} {H : Hp} : ∀ (ks : List Key) {S : AS}, Reps L Z H (ks.map kV) (ks.map keyD) S
  | [], S => reps_nil
  | kk :: ks, S => by
    refine reps_cons (S1 := NoAS) (S2 := NoAS) (fun _ z => z.elim) (fun _ z => z.elim) (fun _ _ z => z) ?_ (reps_keys ks)
    cases kk <;> simp only [keyD, Rep, kV]
theorem ce_list [Lay X L tb o k] (ha : PEs X L tb o a ca) (hg : Gl X "list" := by rfl) (hs : starEach [a] X.env = (false, eval a X.env) :: starEach [] X.env := by rfl) : PEs X L tb o (.Call (.Name "list" p) [a] [] pos) (.bi .list ca) :=
  ⟨fun W tk => PEimp (pe_callTy (CallR.or call_list_of (CallR.or (call_list_dK (Lay.calm (X := X) (L := L) (tb := tb) (o := o) (k := k))) (call_listN (L := L) (Lay.calm (X := X) (L := L) (tb := tb) (o := o) (k := k)) (Lay.K (X := X) (L := L) (tb := tb) (o := o) (k := k)) (Lay.wd (X := X) (L := L) (tb := tb) (o := o) (k := k))))) hg (Lay.bi (X := X) (L := L) (tb := tb) (o := o) (k := k) _ (by decide +kernel)) (by decide +kernel) (pa_cons (ha.run W tk) pa_nil hs) (he := hs)) fun σ H Q h => bi_run (fun x H e d1 d hd m => by
    obtain ⟨Z, S, r1, u⟩ := use1 m
    have hK := Lay.K (X := X) (L := L) (tb := tb) (o := o) (k := k)
    cases d1 with
    | nd kd ow xs =>
      cases kd with
      | tup =>
        simp only [biD, Option.some.injEq] at hd
        obtain ⟨q, vs, rfl, _, hq, rr⟩ := shape_tup r1
        exact .inl ⟨q, vs, rfl, .inr (by rw [hK]; exact hq), fun l hl => u.newL _ _ l hd.symm hl rr⟩
      | lst =>
        simp only [biD, Option.some.injEq] at hd
        obtain ⟨q, vs, rfl, hq, _, rr⟩ := shape_lst r1
        exact .inl ⟨q, vs, rfl, .inl (.of hq), fun l hl => u.newL _ _ l hd.symm hl (reps_mono (fun b z => z.1) rr)⟩
      | cl =>
        simp only [biD, Option.some.injEq] at hd
        obtain ⟨q, vs, rfl, hq, rr⟩ := shape_cl r1
        exact .inl ⟨q, vs, rfl, .inl (by rw [hK]; exact hq.sq), fun l hl => u.newL _ _ l hd.symm hl rr⟩
      | dk ks =>
        simp only [biD, Option.some.injEq] at hd
        obtain ⟨q, vs, rfl, h0, hll, hq, _, rr⟩ := shape_dk r1
        refine .inr (.inl ⟨q, _, rfl, hq, fun l hl => ?_⟩)
        have e1 : (ks.zip vs).map (fun kv => kV kv.1) = ks.map kV := by
          rw [show (fun kv : Key × V => kV kv.1) = kV ∘ Prod.fst from rfl, ← List.map_map, zip_fst hll]
        rw [e1]
        exact u.newL _ _ l hd.symm hl (reps_keys ks)
      | dt ks =>
        simp only [biD, Option.some.injEq] at hd
        obtain ⟨q, vs, l, rfl, dl, _, rr⟩ := dl_dt r1
        exact .inr (.inr ⟨q, _, _, _, rfl, dl, fun bs p kb hp => u.newL _ _ p hd.symm hp (reps_keyN kb)⟩)
      | pr => simp only [biD, reduceCtorEq] at hd
      | ins c ns => simp only [biD, reduceCtorEq] at hd
    | _ => simp only [biD, reduceCtorEq] at hd) h⟩
theorem ce_tuple [Lay X L tb o k] (ha : PEs X L tb o a ca) (hg : Gl X "tuple" := by rfl) (hs : starEach [a] X.env = (false, eval a X.env) :: starEach [] X.env := by rfl) : PEs X L tb o (.Call (.Name "tuple" p) [a] [] pos) (.bi .tuple ca) :=
  ⟨fun W tk => PEimp (pe_callTy call_tupleF hg (Lay.bi (X := X) (L := L) (tb := tb) (o := o) (k := k) _ (by decide +kernel)) (by decide +kernel) (pa_cons (ha.run W tk) pa_nil hs) (he := hs)) fun σ H Q h => bi_run (fun x H e d1 d hd m => by
    obtain ⟨Z, S, r1, u⟩ := use1 m
    have hK := Lay.K (X := X) (L := L) (tb := tb) (o := o) (k := k)
    cases d1 with
    | nd kd ow xs =>
      cases kd with
      | tup =>
        simp only [biD, Option.some.injEq] at hd
        obtain ⟨q, vs, rfl, _, hq, rr⟩ := shape_tup r1
        exact ⟨q, vs, rfl, .inr ⟨by rw [hK]; exact hq, u.fin _ (by rw [← hd]; exact rep_tup r1)⟩⟩
      | lst =>
        simp only [biD, Option.some.injEq] at hd
        obtain ⟨q, vs, rfl, hq, _, rr⟩ := shape_lst r1
        exact ⟨q, vs, rfl, .inl ⟨.of hq, fun l ob hl ho => u.newU _ _ l ob hd.symm hl ho (reps_mono (fun b z => z.1) rr)⟩⟩
      | cl =>
        simp only [biD, Option.some.injEq] at hd
        obtain ⟨q, vs, rfl, hq, rr⟩ := shape_cl r1
        exact ⟨q, vs, rfl, .inl ⟨by rw [hK]; exact hq.sq, fun l ob hl ho => u.newU _ _ l ob hd.symm hl ho rr⟩⟩
      | _ => simp only [biD, reduceCtorEq] at hd
    | _ => simp only [biD, reduceCtorEq] at hd) h⟩
theorem sortI_perm (l : List Int) : (sortI l).Perm l := List.mergeSort_perm l _
theorem sortI_pair (l : List Int) : (sortI l).Pairwise (· ≤ ·) := by
  have h := List.pairwise_mergeSort (le := fun (a b : Int) => decide (a ≤ b)) (fun a b c h1 h2 => by simp at h1 h2 ⊢; omega) (fun a b => by simp; omega) l
  exact h.imp fun h => by simpa using h
theorem sortI_unique {l ns' : List Int} (hp : ns'.Perm l) (hs : ns'.Pairwise (· ≤ ·)) : ns' = sortI l := PySem.W.ksm_same (hp.trans (sortI_perm l).symm) hs (sortI_pair l)
theorem ce_sorted [Lay X L tb o k] (ha : PEs X L tb o a ca) (hg : Gl X "sorted" := by rfl) (hs : starEach [a] X.env = (false, eval a X.env) :: starEach [] X.env := by rfl) : PEs X L tb o (.Call (.Name "sorted" p) [a] [] pos) (.bi .sorted ca) :=
  ⟨fun W tk => PEimp (pe_callB (CallR.or cr_sortedI (CallR.or (call_sortedDI (Lay.calm (X := X) (L := L) (tb := tb) (o := o) (k := k))) (CallR.or (cr_sortedN (L := L) (units65 (Lay.room (X := X) (L := L) (tb := tb) (o := o) (k := k))) (Lay.K (X := X) (L := L) (tb := tb) (o := o) (k := k))) (call_sortedDN (L := L) (Lay.calm (X := X) (L := L) (tb := tb) (o := o) (k := k)) (units65 (Lay.room (X := X) (L := L) (tb := tb) (o := o) (k := k))) (Lay.K (X := X) (L := L) (tb := tb) (o := o) (k := k)) (Lay.wd (X := X) (L := L) (tb := tb) (o := o) (k := k)))))) hg (Lay.bi (X := X) (L := L) (tb := tb) (o := o) (k := k) _ (by decide +kernel)) (by decide +kernel) (pa_cons (ha.run W tk) pa_nil hs) (he := hs)) fun σ H Q h => bi_run (fun x H e d1 d hd m => by
    obtain ⟨Z, S, r1, u⟩ := use1 m
    cases d1 with
    | nd kd ow xs =>
      cases kd with
      | lst =>
        simp only [biD] at hd
        cases ql : intsD xs with
        | none =>
          rw [ql] at hd
          dsimp only at hd
          cases qk : nkeyL xs with
          | none => rw [qk] at hd; cases hd
          | some ks =>
            rw [qk] at hd
            simp only [Option.bind_some] at hd
            split at hd
            · obtain ⟨q, vs, rfl, hq, _, rr⟩ := shape_lst r1
              refine .inr (.inr (.inl ⟨q, vs, ks, rfl, hq, kreps_of qk rr, by assumption, fun ws p kw hp => u.newL _ _ p (by cases hd; rfl) hp (reps_keyN kw)⟩))
            · cases hd
        | some l =>
          rw [ql] at hd
          dsimp only at hd
          split at hd
          · obtain ⟨q, vs, rfl, hq, _, rr⟩ := shape_lst r1
            have ev := reps_ints ql rr
            subst ev
            refine .inl ⟨q, l, rfl, .of hq, fun ns' t hp hpw ht => ?_⟩
            rw [sortI_unique hp hpw]
            exact u.newL _ _ t (by cases hd; rfl) ht (reps_of_ints _)
          · cases hd
      | dk ks =>
        simp only [biD] at hd
        cases ql : intsD (ks.map keyD) with
        | none => rw [ql] at hd; cases hd
        | some l =>
          rw [ql] at hd
          simp only [Option.bind_some] at hd
          split at hd
          · obtain ⟨q, vs, rfl, h0, hll, hq, _, rr⟩ := shape_dk r1
            refine .inr (.inl ⟨q, _, l, rfl, .inl hq, by rw [zip_fst hll]; exact keys_ints ql, by assumption, fun ns' t hp hpw ht => ?_⟩)
            rw [sortI_unique hp hpw]
            exact u.newL _ _ t (by cases hd; rfl) ht (reps_of_ints _)
          · cases hd
      | dt ks =>
        simp only [biD] at hd
        split at hd
        · obtain ⟨q, vs, l, rfl, dl, _, rr⟩ := dl_dt r1
          exact .inr (.inr (.inr ⟨q, _, _, _, rfl, dl, by assumption, fun ws p kw hp => u.newL _ _ p (by cases hd; rfl) hp (reps_keyN kw)⟩))
        · cases hd
      | _ => simp only [biD, reduceCtorEq] at hd
    | _ => simp only [biD, reduceCtorEq] at hd) h⟩
theorem ce_sum [Lay X L tb o k] (ha : PEs X L tb o a ca) (hg : Gl X "sum" := by rfl) (hs : starEach [a] X.env = (false, eval a X.env) :: starEach [] X.env := by rfl) : PEs X L tb o (.Call (.Name "sum" p) [a] [] pos) (.bi .sum ca) :=
  ⟨fun W tk => PEimp (pe_callB (cr_sumA (Lay.calm (X := X) (L := L) (tb := tb) (o := o) (k := k))) hg (Lay.bi (X := X) (L := L) (tb := tb) (o := o) (k := k) _ (by decide +kernel)) (by decide +kernel) (pa_cons (ha.run W tk) pa_nil hs) (he := hs)) fun σ H Q h => bi_run (fun x H e d1 d hd m => by
    obtain ⟨Z, S, r1, u⟩ := use1 m
    cases d1 with
    | nd kd ow xs =>
      cases kd <;> simp only [biD, reduceCtorEq] at hd
      · cases ql : intsD xs with
        | none => rw [ql] at hd; cases hd
        | some l =>
          rw [ql] at hd
          cases hd
          obtain ⟨q, vs, rfl, _, hq, rr⟩ := shape_tup r1
          have ev := reps_ints ql rr
          subst ev
          exact ⟨q, l, rfl, .inr (by rw [Lay.K (X := X) (L := L) (tb := tb) (o := o) (k := k)]; exact hq), u.fin _ (by simp only [Rep])⟩
      · cases ql : intsD xs with
        | none => rw [ql] at hd; cases hd
        | some l =>
          rw [ql] at hd
          cases hd
          obtain ⟨q, vs, rfl, hq, _, rr⟩ := shape_lst r1
          have ev := reps_ints ql rr
          subst ev
          exact ⟨q, l, rfl, .inl (.of hq), u.fin _ (by simp only [Rep])⟩
    | _ => simp only [biD, reduceCtorEq] at hd) h⟩
theorem ce_all [Lay X L tb o k] (ha : PEs X L tb o a ca) (hg : Gl X "all" := by rfl) (hs : starEach [a] X.env = (false, eval a X.env) :: starEach [] X.env := by rfl) : PEs X L tb o (.Call (.Name "all" p) [a] [] pos) (.bi .all ca) :=
  ⟨fun W tk => PEimp (pe_callB (cr_all (Lay.calm (X := X) (L := L) (tb := tb) (o := o) (k := k))) hg (Lay.bi (X := X) (L := L) (tb := tb) (o := o) (k := k) _ (by decide +kernel)) (by decide +kernel) (pa_cons (ha.run W tk) pa_nil hs) (he := hs)) fun σ H Q h => bi_run (fun x H e d1 d hd m => by
    obtain ⟨Z, S, r1, u⟩ := use1 m
    cases d1 with
    | nd kd ow xs =>
      cases kd <;> simp only [biD, reduceCtorEq] at hd
      cases ql : blsD xs with
      | none => rw [ql] at hd; cases hd
      | some l =>
        rw [ql] at hd
        cases hd
        obtain ⟨q, vs, rfl, hq, _, rr⟩ := shape_lst r1
        have ev := reps_bls ql rr
        subst ev
        exact ⟨q, l, rfl, .of hq, u.fin _ (by simp only [Rep])⟩
    | _ => simp only [biD, reduceCtorEq] at hd) h⟩
theorem ce_any [Lay X L tb o k] (ha : PEs X L tb o a ca) (hg : Gl X "any" := by rfl) (hs : starEach [a] X.env = (false, eval a X.env) :: starEach [] X.env := by rfl) : PEs X L tb o (.Call (.Name "any" p) [a] [] pos) (.bi .any ca) :=
  ⟨fun W tk => PEimp (pe_callB (cr_any (Lay.calm (X := X) (L := L) (tb := tb) (o := o) (k := k))) hg (Lay.bi (X := X) (L := L) (tb := tb) (o := o) (k := k) _ (by decide +kernel)) (by decide +kernel) (pa_cons (ha.run W tk) pa_nil hs) (he := hs)) fun σ H Q h => bi_run (fun x H e d1 d hd m => by
    obtain ⟨Z, S, r1, u⟩ := use1 m
    cases d1 with
    | nd kd ow xs =>
      cases kd <;> simp only [biD, reduceCtorEq] at hd
      cases ql : blsD xs with
      | none => rw [ql] at hd; cases hd
      | some l =>
        rw [ql] at hd
        cases hd
        obtain ⟨q, vs, rfl, hq, _, rr⟩ := shape_lst r1
        have ev := reps_bls ql rr
        subst ev
        exact ⟨q, l, rfl, .of hq, u.fin _ (by simp only [Rep])⟩
    | _ => simp only [biD, reduceCtorEq] at hd) h⟩
theorem leastI_eq : ∀ {l : List Int} {m : Int}, m ∈ l → (∀ y, y ∈ l → m ≤ y) → m = leastI l := by
  have spec : ∀ (l : List Int), l ≠ [] → leastI l ∈ l ∧ ∀ y ∈ l, leastI l ≤ y := by
    intro l
    induction l with
    | nil => intro h; exact absurd rfl h
    | cons x xs ih =>
      intro _
      cases xs with
      | nil => exact ⟨by simp [leastI], fun y hy => by simp at hy; subst hy; exact Int.le_refl _⟩
      | cons z zs =>
        obtain ⟨i1, i2⟩ := ih (by simp)
        simp only [leastI] at i1 i2 ⊢
        split
        · rename_i c
          refine ⟨List.mem_cons_of_mem _ i1, fun y hy => ?_⟩
          rcases List.mem_cons.mp hy with rfl | hy
          · omega
          · exact i2 y hy
        · rename_i c
          refine ⟨List.mem_cons_self, fun y hy => ?_⟩
          rcases List.mem_cons.mp hy with rfl | hy
          · exact Int.le_refl _
          · have := i2 y hy; omega
  intro l m hm hl
  have hne : l ≠ [] := fun z => by rw [z] at hm; cases hm
  obtain ⟨s1, s2⟩ := spec l hne
  exact Int.le_antisymm (hl _ s1) (s2 _ hm)
theorem mostI_eq : ∀ {l : List Int} {m : Int}, m ∈ l → (∀ y, y ∈ l → y ≤ m) → m = mostI l := by
  have spec : ∀ (l : List Int), l ≠ [] → mostI l ∈ l ∧ ∀ y ∈ l, y ≤ mostI l := by
    intro l
    induction l with
    | nil => intro h; exact absurd rfl h
    | cons x xs ih =>
      intro _
      cases xs with
      | nil => exact ⟨by simp [mostI], fun y hy => by simp at hy; subst hy; exact Int.le_refl _⟩
      | cons z zs =>
        obtain ⟨i1, i2⟩ := ih (by simp)
        simp only [mostI] at i1 i2 ⊢
        split
        · rename_i c
          refine ⟨List.mem_cons_of_mem _ i1, fun y hy => ?_⟩
          rcases List.mem_cons.mp hy with rfl | hy
          · omega
          · exact i2 y hy
        · rename_i c
          refine ⟨List.mem_cons_self, fun y hy => ?_⟩
          rcases List.mem_cons.mp hy with rfl | hy
          · exact Int.le_refl _
          · have := i2 y hy; omega
  intro l m hm hl
  have hne : l ≠ [] := fun z => by rw [z] at hm; cases hm
  obtain ⟨s1, s2⟩ := spec l hne
  exact Int.le_antisymm (s2 _ hm) (hl _ s1)
theorem ce_min [Lay X L tb o k] (ha : PEs X L tb o a ca) (hg : Gl X "min" := by rfl) (hs : starEach [a] X.env = (false, eval a X.env) :: starEach [] X.env := by rfl) : PEs X L tb o (.Call (.Name "min" p) [a] [] pos) (.bi .min ca) :=
  ⟨fun W tk => PEimp (pe_callB (cr_min (Lay.calm (X := X) (L := L) (tb := tb) (o := o) (k := k))) hg (Lay.bi (X := X) (L := L) (tb := tb) (o := o) (k := k) _ (by decide +kernel)) (by decide +kernel) (pa_cons (ha.run W tk) pa_nil hs) (he := hs)) fun σ H Q h => bi_run (fun x H e d1 d hd m => by
    obtain ⟨Z, S, r1, u⟩ := use1 m
    cases d1 with
    | nd kd ow xs =>
      cases kd <;> simp only [biD, reduceCtorEq] at hd
      cases ql : intsD xs with
      | none => rw [ql] at hd; cases hd
      | some l =>
        rw [ql] at hd
        simp only [Option.bind_some] at hd
        split at hd
        · cases hd
        · rename_i hne
          cases hd
          obtain ⟨q, vs, rfl, hq, _, rr⟩ := shape_lst r1
          have ev := reps_ints ql rr
          subst ev
          refine ⟨q, l, rfl, .of hq, by cases l with | nil => exact absurd rfl hne | cons _ _ => simp, fun mm h1 h2 => ?_⟩
          rw [leastI_eq h1 h2]
          exact u.fin _ (by simp only [Rep])
    | _ => simp only [biD, reduceCtorEq] at hd) h⟩
theorem ce_max [Lay X L tb o k] (ha : PEs X L tb o a ca) (hg : Gl X "max" := by rfl) (hs : starEach [a] X.env = (false, eval a X.env) :: starEach [] X.env := by rfl) : PEs X L tb o (.Call (.Name "max" p) [a] [] pos) (.bi .max ca) :=
  ⟨fun W tk => PEimp (pe_callB (cr_max (Lay.calm (X := X) (L := L) (tb := tb) (o := o) (k := k))) hg (Lay.bi (X := X) (L := L) (tb := tb) (o := o) (k := k) _ (by decide +kernel)) (by decide +kernel) (pa_cons (ha.run W tk) pa_nil hs) (he := hs)) fun σ H Q h => bi_run (fun x H e d1 d hd m => by
    obtain ⟨Z, S, r1, u⟩ := use1 m
    cases d1 with
    | nd kd ow xs =>
      cases kd <;> simp only [biD, reduceCtorEq] at hd
      cases ql : intsD xs with
      | none => rw [ql] at hd; cases hd
      | some l =>
        rw [ql] at hd
        simp only [Option.bind_some] at hd
        split at hd
        · cases hd
        · rename_i hne
          cases hd
          obtain ⟨q, vs, rfl, hq, _, rr⟩ := shape_lst r1
          have ev := reps_ints ql rr
          subst ev
          refine ⟨q, l, rfl, .of hq, by cases l with | nil => exact absurd rfl hne | cons _ _ => simp, fun mm h1 h2 => ?_⟩
          rw [mostI_eq h1 h2]
          exact u.fin _ (by simp only [Rep])
    | _ => simp only [biD, reduceCtorEq] at hd) h⟩
theorem evE_bi2 (mx : Bool) : evE tb o (.bi2 mx ca cb) = fun e => bnd (evE tb o ca e) fun x e => bnd (evE tb o cb e) fun y e => opt (bi2D mx x y) e := by funext e; rw [evE]
theorem ce_max2 [Lay X L tb o k] (ha : PEs X L tb o a ca) (hb : PEs X L tb o b cb) (hg : Gl X "max" := by rfl) (hs : starEach [a, b] X.env = (false, eval a X.env) :: starEach [b] X.env := by rfl) (hs2 : starEach [b] X.env = (false, eval b X.env) :: starEach [] X.env := by rfl) : PEs X L tb o (.Call (.Name "max" p) [a, b] [] pos) (.bi2 true ca cb) :=
  ⟨fun W tk => PEimp (pe_callB (call_max2 (Lay.calm (X := X) (L := L) (tb := tb) (o := o) (k := k))) hg (Lay.bi (X := X) (L := L) (tb := tb) (o := o) (k := k) _ (by decide +kernel)) (by decide +kernel) (pa_cons (ha.run W tk) (pa_cons (hb.run W tk) pa_nil hs2) hs) (he := hs) (hpl := by rw [hs2]; rfl)) fun σ H Q h => by
    rw [evE_bi2] at h
    refine bin_run (r := fun x y H Q => ∃ i j, [x, y] = [.int i, .int j] ∧ Q (.int (if j > i then j else i)) H) (fun x y H e d1 d2 d hd m => ?_) h
    obtain ⟨Z, S, k', rs, u⟩ := m.use
    obtain ⟨S1, S2, h1, h2, dj, r1, r2⟩ := reps2 rs
    cases d1 <;> cases d2 <;> simp only [bi2D, reduceCtorEq, Option.some.injEq] at hd
    rw [rep_int r1, rep_int r2]
    exact ⟨_, _, rfl, u.fin _ (by rw [← hd]; simp only [Rep, if_true])⟩⟩
theorem ce_min2 [Lay X L tb o k] (ha : PEs X L tb o a ca) (hb : PEs X L tb o b cb) (hg : Gl X "min" := by rfl) (hs : starEach [a, b] X.env = (false, eval a X.env) :: starEach [b] X.env := by rfl) (hs2 : starEach [b] X.env = (false, eval b X.env) :: starEach [] X.env := by rfl) : PEs X L tb o (.Call (.Name "min" p) [a, b] [] pos) (.bi2 false ca cb) :=
  ⟨fun W tk => PEimp (pe_callB (call_min2 (Lay.calm (X := X) (L := L) (tb := tb) (o := o) (k := k))) hg (Lay.bi (X := X) (L := L) (tb := tb) (o := o) (k := k) _ (by decide +kernel)) (by decide +kernel) (pa_cons (ha.run W tk) (pa_cons (hb.run W tk) pa_nil hs2) hs) (he := hs) (hpl := by rw [hs2]; rfl)) fun σ H Q h => by
    rw [evE_bi2] at h
    refine bin_run (r := fun x y H Q => ∃ i j, [x, y] = [.int i, .int j] ∧ Q (.int (if j < i then j else i)) H) (fun x y H e d1 d2 d hd m => ?_) h
    obtain ⟨Z, S, k', rs, u⟩ := m.use
    obtain ⟨S1, S2, h1, h2, dj, r1, r2⟩ := reps2 rs
    cases d1 <;> cases d2 <;> simp only [bi2D, reduceCtorEq, Option.some.injEq] at hd
    rw [rep_int r1, rep_int r2]
    exact ⟨_, _, rfl, u.fin _ (by rw [← hd]; simp only [Rep, Bool.false_eq_true, if_false])⟩⟩
end
end PL

/-! PL.Call: calls of the program's own defs, methods and classes. -/
namespace PL
open PySem L2
section
variable {X : Cx} {CX : CXT} {x m : Str} {p pos apos : Pos} {e o : Expr} {es : List Expr} {ta : TE} {t : TA}
theorem run_makeS {k : Nat} {f C : Addr} {fd : FuncData} {ps : List Str} {sp : Sp} {E : XK} {pins : List (Addr × Obj)} {σ : St} {H : Hp} {s : Shared} {Q : VK} {us : List Value} {vs : List V} (M : Mk X.K C f) (F : FnOk X.prog X.w X.K X.mg X.base CX k f fd ps sp) (hr : Room (k + 1) X.A) (hb : Binds X.K fd ps [])
    (hx : PassesAt CX X σ E) (I : Inv X pins σ H s) (r : Vals vs us)
    (h : ∀ x dx, H x = none → H dx = none → dx ≠ x → sp (.ref x :: vs) (upd (upd H dx (.own x)) x (.ins C dx [])) (fun v H2 => v = .non ∧ Q (.ref x) H2) E) :
    wpAny (model X.prog X.w) X.A (call (.ref C) us) (EP X pins σ Q) X.xe s := by
  have hq := h (s.heap.objs.size + 1) s.heap.objs.size (I.hok.fresh (Nat.le_succ _)) (I.hok.fresh (Nat.le_refl _)) (Nat.ne_of_lt (Nat.lt_succ_self _))
  have I2 := Inv.made (C := C) I
  have r2 : Vals (V.ref (s.heap.objs.size + 1) :: vs) (Value.ref (s.heap.objs.size + 1) :: us) := .cons rfl r
  have hl : (Value.ref (s.heap.objs.size + 1) :: us).length = ps.length := by
    have e := r2.length
    rw [F.len _ _ _ _ hq] at e
    exact e.symm
  have b := hb _ (Value.ref (s.heap.objs.size + 1) :: us) I2.kIn (by rw [List.append_nil]; exact hl)
  rw [List.append_nil] at b
  refine wpAny_call (make_map (f := f) I.kIn M.makes M.init (beq_iff_eq.mp M.fn) (codeAny_mono (F.run _ X.stack _ _ ⟨Value.ref (s.heap.objs.size + 1) :: us, []⟩ (Value.ref (s.heap.objs.size + 1) :: us) _ _ E (hr.make C us [])
    (I2.env0.make C us []) b r2 hq) fun r s' hq' => ?_))
  cases r with
  | error e => exact hx pins _ _ e s' I2 hq'
  | ok fl =>
    cases fl with
    | ret u =>
      obtain ⟨v, H', I3, rv, ev, q3⟩ := I2.after hq'
      subst ev
      exact ⟨rv, ⟨V.ref (s.heap.objs.size + 1), H', I3, rfl, q3⟩⟩
    | next => exact False.elim hq'
    | brk => exact False.elim hq'
    | cont => exact False.elim hq'
/-- what a call asks: a def at f that keeps a promise -/
structure Callee (X : Cx) (CX : CXT) (k : Nat) (σ : St) (f : Addr) (sp : Sp) (E : XK) : Prop where
  ex : ∃ fd ps, FnOk X.prog X.w X.K X.mg X.base CX k f fd ps sp ∧ Binds X.K fd ps [] ∧ PassesAt CX X σ E
def tFn (X : Cx) (CX : CXT) (k : Nat) (f : Addr) (t : TA) : TE := fun σ H Q => t σ H fun vs H1 => ∃ sp E, Callee X CX k σ f sp E ∧ sp vs H1 Q E
theorem pe_fn {k : Nat} {f : Addr} (hr : Room k X.A) (hg : Gl X x) (hm : X.mg x = some (.ref f)) (hk : PySem.W.keepIn X.K (.ref f) = true)
    (ha : PA X (e :: es) t) (hdb : (x == ("__debug__" : Str)) = false := by decide) (he : starEach (e :: es) X.env = (false, eval e X.env) :: starEach es X.env := by rfl) (hpl : (backTo pos (starEach es X.env)).any (·.1) = false := by rfl) :
    PE X (.Call (.Name x p) (e :: es) [] pos) (tFn X CX k f t) := by
  refine ⟨fun pins s σ H Q I h => ?_⟩
  refine wpAny_Call_Name_kw (ld_glob I hg hm ?_ hdb)
  refine PySem.W.callWith_K (h₀ := X.base) I.ok.mod.kin hk (thn (ha.run pos pins s σ H _ I h) fun us s1 ⟨vs, H1, I1, r, sp, E, ⟨fd, ps, F, hb, hx⟩, q⟩ => ⟨I1.kIn, ?_⟩) he hpl
  exact run_fnS (E := fun _ => E) F hr hb hx I1 r q
theorem pe_fn0 {k : Nat} {f : Addr} (hr : Room k X.A) (hg : Gl X x) (hm : X.mg x = some (.ref f)) (hk : PySem.W.keepIn X.K (.ref f) = true)
    (hdb : (x == ("__debug__" : Str)) = false := by decide) : PE X (.Call (.Name x p) [] [] pos) (tFn X CX k f tNil) := by
  refine ⟨fun pins s σ H Q I h => ?_⟩
  obtain ⟨sp, E, ⟨fd, ps, F, hb, hx⟩, q⟩ := h
  refine wpAny_Call_Name_kw (ld_glob I hg hm ?_ hdb)
  exact PySem.W.callWith_K0 I.kIn hk (run_fnS (us := []) (E := fun _ => E) F hr hb hx I .nil q)
def tMk (X : Cx) (CX : CXT) (k : Nat) (C f : Addr) (t : TA) : TE := fun σ H Q => t σ H fun vs H1 => ∃ sp E, Callee X CX k σ f sp E ∧ ∀ x dx, H1 x = none → H1 dx = none → dx ≠ x →
  sp (.ref x :: vs) (upd (upd H1 dx (.own x)) x (.ins C dx [])) (fun v H2 => v = .non ∧ Q (.ref x) H2) E
theorem pe_mkS {k : Nat} {f C : Addr} (M : Mk X.K C f) (hr : Room (k + 1) X.A) (hg : Gl X x) (hm : X.mg x = some (.ref C))
    (ha : PA X (e :: es) t) (hdb : (x == ("__debug__" : Str)) = false := by decide) (he : starEach (e :: es) X.env = (false, eval e X.env) :: starEach es X.env := by rfl) (hpl : (backTo pos (starEach es X.env)).any (·.1) = false := by rfl) :
    PE X (.Call (.Name x p) (e :: es) [] pos) (tMk X CX k C f t) := by
  refine ⟨fun pins s σ H Q I h => ?_⟩
  refine wpAny_Call_Name_kw (ld_glob I hg hm ?_ hdb)
  refine PySem.W.callWith_K (h₀ := X.base) I.ok.mod.kin M.kp (thn (ha.run pos pins s σ H _ I h) fun us s1 ⟨vs, H1, I1, r, sp, E, ⟨fd, ps, F, hb, hx⟩, q⟩ => ⟨I1.kIn, ?_⟩) he hpl
  exact run_makeS M F hr hb hx I1 r q
theorem pe_mkS0 {k : Nat} {f C : Addr} (M : Mk X.K C f) (hr : Room (k + 1) X.A) (hg : Gl X x) (hm : X.mg x = some (.ref C))
    (hdb : (x == ("__debug__" : Str)) = false := by decide) : PE X (.Call (.Name x p) [] [] pos) (tMk X CX k C f tNil) := by
  refine ⟨fun pins s σ H Q I h => ?_⟩
  obtain ⟨sp, E, ⟨fd, ps, F, hb, hx⟩, q⟩ := h
  refine wpAny_Call_Name_kw (ld_glob I hg hm ?_ hdb)
  exact PySem.W.callWith_K0 I.kIn M.kp (run_makeS (us := []) M F hr hb hx I .nil q)
def tMeD (X : Cx) (CX : CXT) (k : Nat) (m : Str) (ta : TE) (t : TA) : TE := fun σ H Q => ta σ H fun x H1 => ∃ a C dx fs f, x = .ref a ∧ H1 a = some (.ins C dx fs) ∧ Cls X.K C ∧ Meth X.K C m f ∧ fs.lookup m = none ∧
  t σ H1 fun vs H2 => ∃ sp E, Callee X CX k σ f sp E ∧ sp (x :: vs) H2 Q E
theorem pe_meD {k : Nat} {pl : Sem Bool} (he : PE X o ta) (hr : Room k X.A) (ha : PA X (e :: es) t)
    (hst : starEach (e :: es) X.env = (false, eval e X.env) :: starEach es X.env := by rfl) (hpl : (backTo pos (starEach es X.env)).any (·.1) = false := by rfl)
    (ht : eval (.Call (.Attribute o m apos) (e :: es) [] pos) X.env = (do
      let ov ← eval o X.env
      standAt apos.atName
      let (f, first) ← holding [ov] (getMethod ov m pl)
      callWith pos f first (backTo pos (starEach (e :: es) X.env)) (backToKw pos (keywordEach [] X.env))) := by rfl) :
    PE X (.Call (.Attribute o m apos) (e :: es) [] pos) (tMeD X CX k m ta t) := by
  refine ⟨fun pins s σ H Q I h => ?_⟩
  refine PySem.W.methodCall_KW (pl := pl) (thn (he.run pins s σ H _ I h) fun u s1 ⟨x, H1, I1, rx, a, C, dx, fs, f, ex, ea, c, hm, l, q⟩ => ?_) ht
  subst ex
  obtain rfl : u = Value.ref a := rx
  refine getmeth_ok I1 ea c hm l ?_
  refine PySem.W.callWith_K (first := [.ref a]) (h₀ := X.base) I.ok.mod.kin hm.kp (thn (ha.run pos pins s1 σ H1 _ I1 q) fun us s2 ⟨vs, H2, I2, r, sp, E, ⟨fd, ps, F, hb, hx⟩, q2⟩ => ⟨I2.kIn, ?_⟩) hst hpl
  exact run_fnS (us := .ref a :: us) (vs := .ref a :: vs) (E := fun _ => E) F hr hb hx I2 (.cons rfl r) q2
theorem pe_meD0 {k : Nat} {pl : Sem Bool} (he : PE X o ta) (hr : Room k X.A)
    (ht : eval (.Call (.Attribute o m apos) [] [] pos) X.env = (do
      let ov ← eval o X.env
      standAt apos.atName
      let (f, first) ← holding [ov] (getMethod ov m pl)
      callWith pos f first (backTo pos (starEach [] X.env)) (backToKw pos (keywordEach [] X.env))) := by rfl) :
    PE X (.Call (.Attribute o m apos) [] [] pos) (tMeD X CX k m ta tNil) := by
  refine ⟨fun pins s σ H Q I h => ?_⟩
  refine PySem.W.methodCall_KW (pl := pl) (thn (he.run pins s σ H _ I h) fun u s1 ⟨x, H1, I1, rx, a, C, dx, fs, f, ex, ea, c, hm, l, sp, E, ⟨fd, ps, F, hb, hx⟩, q⟩ => ?_) ht
  subst ex
  obtain rfl : u = Value.ref a := rx
  refine getmeth_ok I1 ea c hm l ?_
  exact PySem.W.callWith_K0 (first := [.ref a]) I1.kIn hm.kp (run_fnS (us := [.ref a]) (vs := [.ref a]) (E := fun _ => E) F hr hb hx I1 (.cons rfl .nil) q)
end

/-! ### arguments: by value, by name -/
def RepAs (L : Lo) (σ : St) (Z : AS) (H : Hp) : List V → List Arg → AS → Prop
  | vs, [], _ => vs = []
  | vs, .d x :: as, S => ∃ v ws S1 S2, vs = v :: ws ∧ (∀ b, S1 b → S b) ∧ (∀ b, S2 b → S b) ∧ (∀ b, S1 b → ¬ S2 b) ∧ Rep L Z H v x S1 ∧ RepAs L σ Z H ws as S2
  | vs, .r i :: as, S => ∃ v ws, vs = v :: ws ∧ σ[i]? = some (some v) ∧ RepAs L σ Z H ws as S
section
variable {L : Lo} {σ : St} {Z Z' : AS} {H H' : Hp} {S S' : AS}
theorem RepAs.mono : ∀ {as : List Arg} {vs : List V} {S S' : AS}, (∀ b, S b → S' b) → RepAs L σ Z H vs as S → RepAs L σ Z H vs as S'
  | [], _, _, _, _, h => h
  | .d x :: as, vs, S, S', hs, ⟨v, ws, S1, S2, e, h1, h2, dj, r1, r2⟩ => ⟨v, ws, S1, S2, e, fun b hb => hs b (h1 b hb), fun b hb => hs b (h2 b hb), dj, r1, r2⟩
  | .r i :: as, vs, S, S', hs, ⟨v, ws, e, h1, r2⟩ => ⟨v, ws, e, h1, r2.mono hs⟩
theorem RepAs.fr {U : AS} (f : Fr U H H') (o : Own U H) (hz : ∀ b, Z b → ¬ U b) (zz : ∀ b, Z b → Z' b) : ∀ {as : List Arg} {vs : List V} {S : AS}, (∀ b, S b → ¬ U b) → RepAs L σ Z H vs as S → RepAs L σ Z' H' vs as S
  | [], _, _, _, h => h
  | .d x :: as, vs, S, hs, ⟨v, ws, S1, S2, e, h1, h2, dj, r1, r2⟩ => ⟨v, ws, S1, S2, e, h1, h2, dj, rep_fr f o hz zz (fun b hb => hs b (h1 b hb)) r1, r2.fr f o hz zz fun b hb => hs b (h2 b hb)⟩
  | .r i :: as, vs, S, hs, ⟨v, ws, e, h1, r2⟩ => ⟨v, ws, e, h1, r2.fr f o hz zz hs⟩
theorem RepAs.z {as : List Arg} {vs : List V} (zz : ∀ b, Z b → Z' b) (h : RepAs L σ Z H vs as S) : RepAs L σ Z' H vs as S :=
  h.fr (U := NoAS) fr_refl (fun _ z => z.elim) (fun _ _ z => z) zz (fun _ _ z => z)
/-- the values at names -/
def pick : List Arg → List V → List V
  | .r _ :: as, v :: vs => v :: pick as vs
  | .d _ :: as, _ :: vs => pick as vs
  | _, _ => []
theorem pick_io : ∀ (as : List Arg) (vs pre : List V), as.length = vs.length → ioV (ioOf as pre.length) (pre ++ vs) = pick as vs
  | [], _, _, _ => rfl
  | .d x :: as, [], _, h => by simp at h
  | .r i :: as, [], _, h => by simp at h
  | .d x :: as, v :: vs, pre, h => by
    have := pick_io as vs (pre ++ [v]) (by simpa using h)
    simp only [List.length_append, List.length_cons, List.length_nil, List.append_assoc, List.cons_append, List.nil_append] at this
    simpa [ioOf, pick] using this
  | .r i :: as, v :: vs, pre, h => by
    have := pick_io as vs (pre ++ [v]) (by simpa using h)
    simp only [List.length_append, List.length_cons, List.length_nil, List.append_assoc, List.cons_append, List.nil_append] at this
    simp only [ioOf, pick, ioV, List.map_cons]
    rw [show (pre ++ v :: vs).getD pre.length V.non = v from by simp [List.getD]]
    exact congrArg _ this
theorem RepAs.length : ∀ {as : List Arg} {vs : List V} {S : AS}, RepAs L σ Z H vs as S → as.length = vs.length
  | [], _, _, h => by rw [show _ = [] from h]; rfl
  | .d x :: as, vs, S, ⟨v, ws, S1, S2, e, h1, h2, dj, r1, r2⟩ => by rw [e, List.length_cons, List.length_cons, r2.length]
  | .r i :: as, vs, S, ⟨v, ws, e, h1, r2⟩ => by rw [e, List.length_cons, List.length_cons, r2.length]
/-- the arguments are taken -/
theorem take_rep : ∀ {as : List Arg} {vs : List V} {e e1 : Env} {ds : List D} {Z S1 S2 : AS}, Ok Z (OrS S1 S2) H → (∀ b, S1 b → ¬ S2 b) → RepE L Z H σ e S1 → RepAs L σ Z H vs as S2 → takeArgs as e = some (ds, e1) →
    ∃ Z' T1 T2, (∀ b, Z b → Z' b) ∧ (∀ b, Z' b → Z b ∨ S2 b) ∧ (∀ b, T1 b → S1 b) ∧ (∀ b, T2 b → S1 b) ∧ (∀ b, T1 b → ¬ T2 b) ∧ RepE L Z' H σ e1 T1 ∧ Reps L Z' H vs ds T2
  | [], vs, e, e1, ds, Z, S1, S2, k, dj, re, h, et => by
    cases et
    exact ⟨Z, S1, NoAS, fun _ z => z, fun _ z => .inl z, fun _ z => z, fun _ z => z.elim, fun _ _ z => z, re, by rw [show vs = [] from h]; exact reps_nil⟩
  | .d x :: as, vs, e, e1, ds, Z, S1, S2, k, dj, re, ⟨v, ws, U1, U2, ev, h1, h2, uj, r1, r2⟩, et => by
    simp only [takeArgs] at et
    cases q : takeArgs as e with
    | none => rw [q] at et; cases et
    | some y =>
      obtain ⟨ds', e'⟩ := y
      rw [q] at et
      cases et
      obtain ⟨Z', T1, T2, z1, z2, t1, t2, tj, re', rs'⟩ := take_rep (k.mono fun b z => z.elim .inl fun z => .inr (h2 b z)) (fun b z y => dj b z (h2 b y)) re r2 q
      refine ⟨OrS Z' U1, T1, T2, fun b z => .inl (z1 b z), fun b z => z.elim (fun z => (z2 b z).elim .inl fun z => .inr (h2 b z)) fun z => .inr (h1 b z), t1, t2, tj, re'.z fun b z => .inl z, ?_⟩
      rw [ev]
      exact reps_cons (S1 := NoAS) (S2 := T2) (fun _ z => z.elim) (fun _ z => z) (fun _ z => z.elim) (rep_frz (fun b z => .inr z) (fun b z => .inl (z1 b z)) r1) (reps_z (fun b z => .inl z) rs')
  | .r i :: as, vs, e, e1, ds, Z, S1, S2, k, dj, re, ⟨v, ws, ev, hi, r2⟩, et => by
    simp only [takeArgs] at et
    cases qi : e.at i with
    | none => rw [qi] at et; cases et
    | some x =>
      rw [qi] at et
      dsimp only at et
      cases q : takeArgs as (e.set i none) with
      | none => rw [q] at et; cases et
      | some y =>
        obtain ⟨ds', e'⟩ := y
        rw [q] at et
        cases et
        obtain ⟨v', V1, V2, ev', h1, h2, vj, rv, re2⟩ := re.at qi
        rw [hi] at ev'
        cases ev'
        obtain ⟨Z', T1, T2, z1, z2, t1, t2, tj, re', rs'⟩ := take_rep (S1 := V2) (k.mono fun b z => z.elim (fun z => .inl (h2 b z)) .inr) (fun b z y => dj b (h2 b z) y) re2 r2 q
        refine ⟨Z', T1, OrS V1 T2, z1, z2, fun b z => h2 b (t1 b z), fun b z => z.elim (h1 b) fun z => h2 b (t2 b z), fun b z y => y.elim (fun y => vj b y (t1 b z)) (tj b z), re', ?_⟩
        rw [ev]
        exact reps_cons (S1 := V1) (S2 := T2) (fun _ z => .inl z) (fun _ z => .inr z) (fun b z y => vj b z (t2 b y)) (rep_z z1 rv) rs'
/-- .. and put back -/
theorem put_rep : ∀ {as : List Arg} {vs : List V} {e e2 : Env} {fs : List D} {S0 S1 S2 : AS}, (∀ b, S1 b → ¬ S2 b) → RepE L Z H σ e S1 → RepAs L σ Z' H' vs as S0 → Reps L Z H (pick as vs) fs S2 → putBack as fs e = some e2 → RepE L Z H σ e2 (OrS S1 S2)
  | [], vs, e, e2, fs, S0, S1, S2, dj, re, h, rs, ep => by
    cases fs with
    | nil => cases ep; exact re.mono fun b z => .inl z
    | cons _ _ => cases ep
  | .d x :: as, vs, e, e2, fs, S0, S1, S2, dj, re, ⟨v, ws, U1, U2, ev, h1, h2, uj, r1, r2⟩, rs, ep => by
    subst ev
    simp only [putBack] at ep
    exact put_rep dj re r2 rs ep
  | .r i :: as, vs, e, e2, fs, S0, S1, S2, dj, re, ⟨v, ws, ev, hi, r2⟩, rs, ep => by
    subst ev
    cases fs with
    | nil => cases ep
    | cons f fs =>
      simp only [putBack] at ep
      simp only [pick, Reps] at rs
      obtain ⟨v', ws', T1, T2, e', t1, t2, tj, q1, q2⟩ := rs
      cases e'
      have re' : RepE L Z H σ (e.set i (some f)) (OrS S1 T1) := (re.forget i).put hi q1 (fun b z => .inr z) (fun b z => .inl z) fun b z y => dj b y (t1 b z)
      exact (put_rep (S1 := OrS S1 T1) (S2 := T2) (fun b z y => z.elim (fun z => dj b z (t2 b y)) fun z => tj b z y) re' r2 q2 ep).mono fun b z => z.elim (fun z => z.elim .inl fun z => .inr (t1 b z)) fun z => .inr (t2 b z)
end

/-- a def runs with as many arguments as it has parameters -/
def OLen (tb : Tab) (o : Orc) : Prop := ∀ f fn, tb.fns[f]? = some fn → ∀ ds, o f ds ≠ none → ds.length = fn.np
structure PGs (X : Cx) (L : Lo) (tb : Tab) (o : Orc) (es : List Expr) (c : Es) : Prop where
  run : ∀ W, Takes X W → PA X es (fun σ H Q => tG L W (RepAs L σ) (evAs tb o c) σ H Q)
/-- between two steps, arguments in hand -/
def MidA (L : Lo) (W : WX) (σ : St) (H : Hp) (e : Env) (vs : List V) (as : List Arg) {γ β' : Type} (rep' : AS → Hp → β' → γ → AS → Prop) (Q : β' → Hp → Prop) (r : R γ) : Prop :=
  ∃ Z S1 S2, Ok Z (OrS S1 S2) H ∧ (∀ b, S1 b → ¬ S2 b) ∧ RepE L Z H σ e S1 ∧ RepAs L σ Z H vs as S2 ∧ ∃ r', r = some r' ∧ Good L W σ rep' Z (OrS S1 S2) H r' Q
section
variable {L : Lo} {W : WX} {σ : St} {α β γ β' : Type} {rep : AS → Hp → β → α → AS → Prop} {rep' : AS → Hp → β' → γ → AS → Prop} {H : Hp} {e : Env} {Q : β' → Hp → Prop} {vs : List V} {as : List Arg}
theorem MidA.bind {ev : Env → R α} {f : α → Env → R γ} (m : MidA L W σ H e vs as rep' Q (bnd (ev e) f)) {nv : β → List V} {nd : α → List Arg}
    (add : ∀ {Z : AS} {H : Hp} {v : β} {d : α} {S S2 S' : AS}, (∀ b, S b → S' b) → (∀ b, S2 b → S' b) → (∀ b, S b → ¬ S2 b) → rep Z H v d S → RepAs L σ Z H vs as S2 → RepAs L σ Z H (nv v) (nd d) S') :
    tG L W rep ev σ H (fun v H1 => ∃ d e1, MidA L W σ H1 e1 (nv v) (nd d) rep' Q (f d e1)) := by
  obtain ⟨Z, S1, S2, k, dj, re, rs, r', h, g⟩ := m
  have k1 : Ok Z S1 H := k.mono fun b z => .inl z
  cases q : ev e with
  | none => rw [q] at h; cases h
  | some r =>
    rw [q] at h
    refine ⟨Z, S1, e, r, k1, re, q, ?_⟩
    cases r with
    | exc x e1 =>
      simp only [bnd_exc, Option.some.injEq] at h
      subst h
      intro cls dd H' Z' T a k' re' rx
      obtain ⟨a', k2, _⟩ := a.hold k dj k'
      exact g cls dd H' Z' (OrS T S2) a' k2 (re'.mono fun b z => .inl z) rx
    | val d e1 =>
      simp only [bnd_val] at h
      intro v H' Z' T1 T2 a k' dj' re' rv
      obtain ⟨a', k2, d2⟩ := a.hold k dj k'
      refine ⟨d, e1, Z', T1, OrS T2 S2, k2.mono fun b z => ?_, fun b hb z => ?_, re', add (S := T2) (S2 := S2) (fun b z => Or.inl z) (fun b z => Or.inr z) (fun b z => d2 b (.inr z)) rv
        (rs.fr a.fr k1.own (fun b z y => k1.dj b y z) a.zz (fun b z y => dj b y z)), r', h, g.step (a'.trans (Step.refl fun b z => ?_))⟩
      · rcases z with z | z | z
        · exact .inl (.inl z)
        · exact .inl (.inr z)
        · exact .inr z
      · rcases z with z | z
        · exact dj' b hb z
        · exact d2 b (.inl hb) z
      · rcases z with z | z | z
        · exact .inl (.inl z)
        · exact .inl (.inr z)
        · exact .inr z
theorem tG.midA {ev : Env → R γ} (h : tG L W rep' ev σ H Q) : ∃ e, MidA L W σ H e [] [] rep' Q (ev e) := by
  obtain ⟨Z, S, e, r, k, re, h, g⟩ := h
  exact ⟨e, Z, S, NoAS, k.noOr, fun _ _ z => z, re, rfl, r, h, g.step (Step.refl fun b z => z.elim id (fun z => z.elim))⟩
theorem repAs_d {Z : AS} {H : Hp} {v : V} {d : D} {S S2 S' : AS} {vs : List V} {as : List Arg} (h1 : ∀ b, S b → S' b) (h2 : ∀ b, S2 b → S' b) (dj : ∀ b, S b → ¬ S2 b) (r : Rep L Z H v d S) (rs : RepAs L σ Z H vs as S2) : RepAs L σ Z H (v :: vs) (.d d :: as) S' :=
  ⟨v, vs, S, S2, rfl, h1, h2, dj, r, rs⟩
theorem RepAs.append {Z : AS} {H : Hp} : ∀ {as bs : List Arg} {vs ws : List V} {S S1 S2 : AS}, (∀ b, S1 b → S b) → (∀ b, S2 b → S b) → (∀ b, S1 b → ¬ S2 b) → RepAs L σ Z H vs as S1 → RepAs L σ Z H ws bs S2 → RepAs L σ Z H (vs ++ ws) (as ++ bs) S
  | [], bs, vs, ws, S, S1, S2, h1, h2, dj, r1, r2 => by
    rw [show vs = [] from r1]
    exact r2.mono h2
  | .d x :: as, bs, vs, ws, S, S1, S2, h1, h2, dj, ⟨v, us, T1, T2, e, t1, t2, tj, q1, q2⟩, r2 => by
    rw [e]
    exact ⟨v, us ++ ws, T1, fun b => T2 b ∨ S2 b, rfl, fun b hb => h1 b (t1 b hb), fun b hb => hb.elim (fun z => h1 b (t2 b z)) (h2 b), fun b hb z => z.elim (tj b hb) (dj b (t1 b hb)), q1,
      RepAs.append (fun b hb => .inl hb) (fun b hb => .inr hb) (fun b hb => dj b (t2 b hb)) q2 r2⟩
  | .r i :: as, bs, vs, ws, S, S1, S2, h1, h2, dj, ⟨v, us, e, hi, q2⟩, r2 => by
    rw [e]
    exact ⟨v, us ++ ws, rfl, hi, RepAs.append h1 h2 dj q2 r2⟩
theorem MidA.many {ev : Env → R (List Arg)} {f : List Arg → Env → R γ} (m : MidA L W σ H e vs as rep' Q (bnd (ev e) f)) :
    tG L W (RepAs L σ) ev σ H (fun ws H1 => ∃ es e1, MidA L W σ H1 e1 (vs ++ ws) (as ++ es) rep' Q (f es e1)) :=
  m.bind (nv := fun v => vs ++ v) (nd := fun d => as ++ d) fun h1 h2 dj r1 r2 => RepAs.append h2 h1 (fun b z y => dj b y z) r2 r1
theorem MidA.one {ev : Env → R D} {f : D → Env → R γ} (m : MidA L W σ H e vs as rep' Q (bnd (ev e) f)) :
    tG L W (Rep L) ev σ H (fun v H1 => ∃ d e1, MidA L W σ H1 e1 (vs ++ [v]) (as ++ [.d d]) rep' Q (f d e1)) :=
  m.bind (nv := fun v => vs ++ [v]) (nd := fun d => as ++ [.d d]) fun {Z H v d S S2 S'} h1 h2 dj r1 r2 => RepAs.append (S2 := S) h2 h1 (fun b z y => dj b y z) r2 (repAs_d (S2 := NoAS) (fun _ z => z) (fun _ z => z.elim) (fun _ _ z => z) r1 (show RepAs L σ Z H [] [] NoAS from rfl))
theorem MidA.fin {d : γ} {v : β'} (m : MidA L W σ H e vs as rep' Q (some (.val d e))) (h : ∀ Z S, Ok Z S H → RepAs L σ Z H vs as S → rep' Z H v d S) : Q v H := by
  obtain ⟨Z, S1, S2, k, dj, re, rs, r', e', g⟩ := m
  cases e'
  exact g v H Z S1 S2 (Step.refl fun _ z => z) k dj re (h Z S2 (k.mono fun b z => .inr z) rs)
theorem MidA.none (m : MidA L W σ H e vs as rep' Q none) : False := by
  obtain ⟨Z, S1, S2, k, dj, re, rs, r', h, g⟩ := m
  cases h
theorem MidA.grow {p : Addr} {ob : HO} {r : R γ} (m : MidA L W σ H e vs as rep' Q r) (hp : H p = Option.none) : MidA L W σ (upd H p ob) e vs as rep' Q r := by
  obtain ⟨Z, S1, S2, k, dj, re, rs, r', e', g⟩ := m
  have f0 : Fr NoAS H (upd H p ob) := upd_fr hp NoAS
  have k2 : Ok Z (OrS S1 S2) (upd H p ob) := by
    refine ⟨k.dj, fun b hb => ?_, fun b z y => k.zd b z (upd_nn y)⟩
    rw [upd_ne (fun c => by subst c; exact k.sd hb hp)]
    exact k.own b hb
  exact ⟨Z, S1, S2, k2, dj, re.fr f0 (fun _ z => z.elim) (fun _ _ z => z) (fun _ z => z) fun _ _ z => z, rs.fr f0 (fun _ z => z.elim) (fun _ _ z => z) (fun _ z => z) (fun _ _ z => z), r', e', g.step ⟨fun _ z => z, fun _ z => .inl z, fun b z => .inl z, upd_fr hp _, fun b => upd_nn⟩⟩
/-- THE CALL: the arguments are in hand; the promise is as it is asked -/
theorem MidA.call {tb : Tab} {o : Orc} {f : Nat} {Q : V → Hp → Prop} (m : MidA L W σ H e vs as (Rep L) Q (runCall tb o f as e)) (hl : ∀ fn, tb.fns[f]? = some fn → ∀ ds, o f ds ≠ Option.none → ds.length = fn.np) : spF L tb o f vs H Q (fun cls dd H' => W cls dd σ H') := by
  obtain ⟨Z, S1, S2, k, dj, re, rs, r', h, g⟩ := m
  unfold runCall at h
  cases qt : takeArgs as e with
  | none => rw [qt] at h; cases h
  | some y =>
    obtain ⟨ds, e1⟩ := y
    rw [qt] at h
    dsimp only at h
    cases qf : tb.fns[f]? with
    | none => rw [qf] at h; simp at h
    | some fn =>
      rw [qf] at h
      simp only [Option.map_some, Option.some.injEq] at h
      split at h
      · rename_i hio
        obtain ⟨Z1, T1, T2, z1, z2, t1, t2, tj, re1, rs1⟩ := take_rep k dj re rs qt
        have kk : Ok Z1 (OrS T2 T1) H := ⟨fun b hb z => by
            have hb1 : S1 b := hb.elim (t2 b) (t1 b)
            exact (z2 b z).elim (k.dj b (.inl hb1)) (dj b hb1), fun b hb => k.own b (.inl (hb.elim (t2 b) (t1 b))), fun b z => (z2 b z).elim (k.zd b) fun z => k.sd (.inr z)⟩
        have st0 : Step Z (OrS S1 S2) H Z1 (OrS T2 T1) H := ⟨z1, fun b z => (z2 b z).elim .inl fun z => .inr (.inl (.inr z)), fun b z => .inl (.inl (z.elim (t2 b) (t1 b))), fr_refl, fun _ z => z⟩
        cases qo : o f ds with
        | none => rw [qo] at h; cases h
        | some cr =>
          rw [qo] at h
          have len : ds.length = fn.np := hl fn qf ds (by rw [qo]; exact fun z => by cases z)
          have pk : ioV fn.io vs = pick as vs := by
            have q := pick_io as vs [] rs.length
            rw [hio]
            simpa using q
          refine ⟨fn, Z1, T2, ds, cr, qf, len, kk.mono fun b z => .inl z, rs1, qo, ?_⟩
          cases cr with
          | val d fs =>
            dsimp only at h ⊢
            cases qp : putBack as fs e1 with
            | none => rw [qp] at h; cases h
            | some e2 =>
              rw [qp] at h
              simp only [Option.map_some, Option.some.injEq] at h
              subst h
              intro v H' Z' U1 U2 a k' uj rfs rv
              rw [pk] at rfs
              obtain ⟨a', k2, d2⟩ := a.hold kk (fun b z y => tj b y z) k'
              have re1' := re1.fr a.fr (kk.mono fun b z => Or.inl z).own (fun b z y => kk.dj b (.inl y) z) a.zz (fun b z y => tj b z y)
              have re2 := put_rep (S1 := T1) (S2 := U1) (fun b z y => d2 b (.inl y) z) re1' rs rfs qp
              have sub : ∀ b, OrS (OrS T1 U1) U2 b → OrS (OrS U1 U2) T1 b := fun b z => z.elim (fun z => z.elim .inr fun z => .inl (.inl z)) fun z => .inl (.inr z)
              exact g v H' Z' (OrS T1 U1) U2 ((st0.trans a').trans (Step.refl sub)) (k2.mono sub) (fun b z y => z.elim (fun z => d2 b (.inr y) z) fun z => uj b z y) re2 rv
          | exc x fs =>
            dsimp only at h ⊢
            cases qp : putBack as fs e1 with
            | none => rw [qp] at h; cases h
            | some e2 =>
              rw [qp] at h
              simp only [Option.map_some, Option.some.injEq] at h
              subst h
              intro cls dd H' Z' U1 a k' rfs rx
              rw [pk] at rfs
              obtain ⟨a', k2, d2⟩ := a.hold kk (fun b z y => tj b y z) k'
              have re1' := re1.fr a.fr (kk.mono fun b z => Or.inl z).own (fun b z y => kk.dj b (.inl y) z) a.zz (fun b z y => tj b z y)
              have re2 := put_rep (S1 := T1) (S2 := U1) (fun b z y => d2 b y z) re1' rs rfs qp
              have sub : ∀ b, OrS T1 U1 b → OrS U1 T1 b := fun b z => z.elim .inr .inl
              exact g cls dd H' Z' (OrS T1 U1) ((st0.trans a').trans (Step.refl sub)) (k2.mono sub) re2 rx
      · cases h
end
end PL
namespace PL
open PySem L2
section
variable {X : Cx} {L : Lo} {tb : Tab} {o : Orc} {k : Nat} {pos p : Pos} {a b c : Expr} {es : List Expr} {ca cb cc : E} {cs : Es} {W : WX} {x : Str}
theorem cg_nil : PGs X L tb o [] .n := ⟨fun W tk => PAimp pa_nil fun σ H Q h => by
  obtain ⟨e, m⟩ := h.midA
  simp only [evAs] at m
  exact m.fin fun Z S _ _ => rfl⟩
theorem cg_cons (ha : PEs X L tb o a ca) (hr : PGs X L tb o es cs) (hs : starEach (a :: es) X.env = (false, eval a X.env) :: starEach es X.env := by rfl) : PGs X L tb o (a :: es) (.c ca cs) :=
  ⟨fun W tk => PAimp (pa_cons (ha.run W tk) (hr.run W tk) hs) fun σ H Q h => by
    obtain ⟨e, m⟩ := h.midA
    simp only [evAs] at m
    refine m.one.imp fun v H1 ⟨d, e1, m1⟩ => ?_
    refine m1.many.imp fun vs H2 ⟨ds, e2, m2⟩ => ?_
    exact m2.fin fun Z S _ r => r⟩
theorem MidA.at {σ : St} {H : Hp} {e : Env} {vs : List V} {as : List Arg} {γ β' : Type} {rep' : AS → Hp → β' → γ → AS → Prop} {Q : β' → Hp → Prop} {r : R γ} (m : MidA L W σ H e vs as rep' Q r) {i : Nat} {d : D} (h : e.at i = some d) : ∃ v, σ[i]? = some (some v) ∧ MidA L W σ H e (vs ++ [v]) (as ++ [.r i]) rep' Q r ∧ ∃ Z S, Rep L Z H v d S := by
  obtain ⟨Z, S1, S2, k, dj, re, rs, r', e', g⟩ := m
  obtain ⟨v, U1, U2, ev, h1, h2, uj, rv, re2⟩ := re.at h
  exact ⟨v, ev, ⟨Z, S1, S2, k, dj, re, RepAs.append (S2 := NoAS) (fun _ z => z) (fun _ z => z.elim) (fun _ _ z => z) rs ⟨v, [], rfl, ev, rfl⟩, r', e', g⟩, Z, U1, rv⟩
theorem cg_io (i : Nat) (hr : PGs X L tb o es cs) (hN : X.N[i]? = some x := by rfl) (hv : Vis X.env.scope x := by first | exact Or.inl rfl | exact Or.inr (Or.inl rfl) | exact Or.inr (Or.inr rfl)) (hd : (x == ("__debug__" : Str)) = false := by decide)
    (hcd : (x == ("__classdict__" : Str)) = false := by decide) : PGs X L tb o (.Name x p :: es) (.io i cs) :=
  ⟨fun W tk => PAimp (pa_cons (pv i hN hv hd hcd) (hr.run W tk)) fun σ H Q h => by
    obtain ⟨e, m⟩ := h.midA
    simp only [evAs] at m
    cases q : e.at i with
    | none => rw [q] at m; exact m.none.elim
    | some d =>
      rw [q] at m
      obtain ⟨v, ev, m1, _⟩ := m.at q
      refine ⟨v, ev, m1.many.imp fun vs H2 ⟨ds, e2, m2⟩ => ?_⟩
      exact m2.fin fun Z S _ r => r⟩
/-- the promise that is asked of a def of the program -/
theorem callee_of [Lay X L tb o k] {σ : St} {f : Nat} {fn : Fn} (hf : tb.fns[f]? = some fn) (tk : Takes X W) : Callee X (L2.CX X.prog X.w) k σ (L.fadr f) (spF L tb o f) (fun cls dd H' => W cls dd σ H') := by
  obtain ⟨F, kp, b, _⟩ := Lay.fn (X := X) (L := L) (tb := tb) (o := o) (k := k) f fn hf
  exact ⟨_, _, F, b, passAt tk σ⟩
theorem MidA.called [Lay X L tb o k] {σ : St} {H : Hp} {e : Env} {vs : List V} {as : List Arg} {f : Nat} {Q : V → Hp → Prop} (hlen : OLen tb o) (m : MidA L W σ H e vs as (Rep L) Q (runCall tb o f as e)) (tk : Takes X W) : ∃ sp E, Callee X (L2.CX X.prog X.w) k σ (L.fadr f) sp E ∧ sp vs H Q E := by
  have h := m.call fun fn hf ds => hlen f fn hf ds
  obtain ⟨fn, Z, S, ds, r, hf, _⟩ := id h
  exact ⟨_, _, callee_of hf tk, h⟩
theorem ce_call [Lay X L tb o k] (f : Nat) (hlen : OLen tb o) (ha : PGs X L tb o (a :: es) cs) (hx : L.fname f = x := by rfl) (ht : L.ftop f = true := by rfl) (hin : (tb.fns[f]?).isSome = true := by rfl) (hg : Gl X x := by rfl) (hdb : (x == ("__debug__" : Str)) = false := by decide)
    (he : starEach (a :: es) X.env = (false, eval a X.env) :: starEach es X.env := by rfl) (hpl : (backTo pos (starEach es X.env)).any (·.1) = false := by rfl) : PEs X L tb o (.Call (.Name x p) (a :: es) [] pos) (.call f cs) :=
  ⟨fun W tk => by
    obtain ⟨fn, hf⟩ := Option.isSome_iff_exists.mp hin
    refine PEimp (pe_fn (CX := L2.CX X.prog X.w) (k := k) (f := L.fadr f) Lay.room hg (by rw [← hx]; exact Lay.top (X := X) (tb := tb) (o := o) (k := k) f ht) (Lay.fn (X := X) (L := L) (tb := tb) (o := o) (k := k) f fn hf).2.1 (ha.run W tk) hdb he hpl) fun σ H Q h => ?_
    obtain ⟨e, m⟩ := h.midA
    simp only [evE] at m
    refine m.many.imp fun vs H1 ⟨as, e1, m1⟩ => ?_
    exact MidA.called hlen m1 tk⟩
theorem ce_call0 [Lay X L tb o k] (f : Nat) (hlen : OLen tb o) (hx : L.fname f = x := by rfl) (ht : L.ftop f = true := by rfl) (hin : (tb.fns[f]?).isSome = true := by rfl) (hg : Gl X x := by rfl) (hdb : (x == ("__debug__" : Str)) = false := by decide) : PEs X L tb o (.Call (.Name x p) [] [] pos) (.call f .n) :=
  ⟨fun W tk => by
    obtain ⟨fn, hf⟩ := Option.isSome_iff_exists.mp hin
    refine PEimp (pe_fn0 (CX := L2.CX X.prog X.w) (k := k) (f := L.fadr f) Lay.room hg (by rw [← hx]; exact Lay.top (X := X) (tb := tb) (o := o) (k := k) f ht) (Lay.fn (X := X) (L := L) (tb := tb) (o := o) (k := k) f fn hf).2.1 hdb) fun σ H Q h => ?_
    obtain ⟨e, m⟩ := h.midA
    simp only [evE, evAs, bnd_val] at m
    exact MidA.called hlen m tk⟩
theorem no_attr {ns : List Str} {vs : List V} {m : Str} (h : ns.contains m = false) : (ns.zip vs).lookup m = none := by
  induction ns generalizing vs with
  | nil => rfl
  | cons n ns ih =>
    cases vs with
    | nil => rfl
    | cons v vs =>
      simp only [List.contains_cons, Bool.or_eq_false_iff] at h
      rw [List.zip_cons_cons, List.lookup_cons, h.1]
      exact ih h.2
theorem ce_meth [Lay X L tb o k] {m : Str} {apos : Pos} {pl : Sem Bool} (hlen : OLen tb o) (hc : PEs X L tb o c cc) (ha : PGs X L tb o (a :: es) cs)
    (hst : starEach (a :: es) X.env = (false, eval a X.env) :: starEach es X.env := by rfl) (hpl : (backTo pos (starEach es X.env)).any (·.1) = false := by rfl)
    (ht : eval (.Call (.Attribute c m apos) (a :: es) [] pos) X.env = (do
      let ov ← eval c X.env
      standAt apos.atName
      let (f, first) ← holding [ov] (getMethod ov m pl)
      callWith pos f first (backTo pos (starEach (a :: es) X.env)) (backToKw pos (keywordEach [] X.env))) := by rfl) : PEs X L tb o (.Call (.Attribute c m apos) (a :: es) [] pos) (.meth m cc cs) :=
  ⟨fun W tk => PEimp (pe_meD (CX := L2.CX X.prog X.w) (k := k) (pl := pl) (hc.run W tk) Lay.room (ha.run W tk) hst hpl ht) fun σ H Q h => by
    obtain ⟨e, m1⟩ := h.midA
    simp only [evE] at m1
    refine m1.one.imp fun v H1 ⟨d, e1, m2⟩ => ?_
    cases d with
    | nd kd ow xs =>
      cases kd with
      | ins cn ns =>
        dsimp only at m2
        cases qm : tb.meth cn m with
        | none => rw [qm] at m2; exact m2.none.elim
        | some f =>
          rw [qm] at m2
          dsimp only at m2
          cases qc : ns.contains m with
          | true => simp only [qc, if_true] at m2; exact m2.none.elim
          | false =>
            simp only [qc, Bool.false_eq_true, if_false] at m2
            obtain ⟨Z, S1, S2, kk, dj, re, rs, _⟩ := id m2
            obtain ⟨v', ws, T1, T2, ev, h1, h2, tj, r1, r2⟩ := rs
            cases ev
            obtain ⟨q, vs, dx, rfl, hl, hq, _, rr⟩ := shape_ins r1
            obtain ⟨hcl, hme⟩ := Lay.met (X := X) (L := L) (tb := tb) (o := o) (k := k) cn m f qm
            refine ⟨q, _, dx, _, _, rfl, hq, hcl, hme, no_attr qc, ?_⟩
            refine m2.many.imp fun vs H2 ⟨as, e2, m3⟩ => ?_
            exact MidA.called hlen m3 tk
      | _ => exact m2.none.elim
    | _ => exact m2.none.elim⟩
theorem ce_meth0 [Lay X L tb o k] {m : Str} {apos : Pos} {pl : Sem Bool} (hlen : OLen tb o) (hc : PEs X L tb o c cc)
    (ht : eval (.Call (.Attribute c m apos) [] [] pos) X.env = (do
      let ov ← eval c X.env
      standAt apos.atName
      let (f, first) ← holding [ov] (getMethod ov m pl)
      callWith pos f first (backTo pos (starEach [] X.env)) (backToKw pos (keywordEach [] X.env))) := by rfl) : PEs X L tb o (.Call (.Attribute c m apos) [] [] pos) (.meth m cc .n) :=
  ⟨fun W tk => PEimp (pe_meD0 (CX := L2.CX X.prog X.w) (k := k) (pl := pl) (hc.run W tk) Lay.room ht) fun σ H Q h => by
    obtain ⟨e, m1⟩ := h.midA
    simp only [evE] at m1
    refine m1.one.imp fun v H1 ⟨d, e1, m2⟩ => ?_
    cases d with
    | nd kd ow xs =>
      cases kd with
      | ins cn ns =>
        dsimp only at m2
        cases qm : tb.meth cn m with
        | none => rw [qm] at m2; exact m2.none.elim
        | some f =>
          rw [qm] at m2
          dsimp only at m2
          cases qc : ns.contains m with
          | true => simp only [qc, if_true] at m2; exact m2.none.elim
          | false =>
            simp only [qc, Bool.false_eq_true, if_false, evAs, bnd_val] at m2
            obtain ⟨Z, S1, S2, kk, dj, re, rs, _⟩ := id m2
            obtain ⟨v', ws, T1, T2, ev, h1, h2, tj, r1, r2⟩ := rs
            cases ev
            obtain ⟨q, vs, dx, rfl, hl, hq, _, rr⟩ := shape_ins r1
            obtain ⟨hcl, hme⟩ := Lay.met (X := X) (L := L) (tb := tb) (o := o) (k := k) cn m f qm
            refine ⟨q, _, dx, _, _, rfl, hq, hcl, hme, no_attr qc, ?_⟩
            exact MidA.called hlen m2 tk
      | _ => exact m2.none.elim
    | _ => exact m2.none.elim⟩
/-- o.m(..), o a name whose object the method may change -/
theorem ce_methR [Lay X L tb o k] {m : Str} {apos : Pos} {pl : Sem Bool} (i : Nat) (hlen : OLen tb o) (ha : PGs X L tb o (a :: es) cs) (hN : X.N[i]? = some x := by rfl) (hv : Vis X.env.scope x := by first | exact Or.inl rfl | exact Or.inr (Or.inl rfl) | exact Or.inr (Or.inr rfl)) (hd : (x == ("__debug__" : Str)) = false := by decide)
    (hcd : (x == ("__classdict__" : Str)) = false := by decide)
    (hst : starEach (a :: es) X.env = (false, eval a X.env) :: starEach es X.env := by rfl) (hpl : (backTo pos (starEach es X.env)).any (·.1) = false := by rfl)
    (ht : eval (.Call (.Attribute (.Name x p) m apos) (a :: es) [] pos) X.env = (do
      let ov ← eval (.Name x p) X.env
      standAt apos.atName
      let (f, first) ← holding [ov] (getMethod ov m pl)
      callWith pos f first (backTo pos (starEach (a :: es) X.env)) (backToKw pos (keywordEach [] X.env))) := by rfl) : PEs X L tb o (.Call (.Attribute (.Name x p) m apos) (a :: es) [] pos) (.methR m i cs) :=
  ⟨fun W tk => PEimp (pe_meD (CX := L2.CX X.prog X.w) (k := k) (pl := pl) (pv i hN hv hd hcd) Lay.room (ha.run W tk) hst hpl ht) fun σ H Q h => by
    obtain ⟨e, m1⟩ := h.midA
    simp only [evE] at m1
    cases q : e.at i with
    | none => rw [q] at m1; exact m1.none.elim
    | some d =>
      rw [q] at m1
      obtain ⟨v, ev, m2, Z, S, r1⟩ := m1.at q
      refine ⟨v, ev, ?_⟩
      cases d with
      | nd kd ow xs =>
        cases kd with
        | ins cn ns =>
          dsimp only at m2
          cases qm : tb.meth cn m with
          | none => rw [qm] at m2; exact m2.none.elim
          | some f =>
            rw [qm] at m2
            dsimp only at m2
            cases qc : ns.contains m with
            | true => simp only [qc, if_true] at m2; exact m2.none.elim
            | false =>
              simp only [qc, Bool.false_eq_true, if_false] at m2
              obtain ⟨q, vs, dx, rfl, hl, hq, _, rr⟩ := shape_ins r1
              obtain ⟨hcl, hme⟩ := Lay.met (X := X) (L := L) (tb := tb) (o := o) (k := k) cn m f qm
              refine ⟨q, _, dx, _, _, rfl, hq, hcl, hme, no_attr qc, ?_⟩
              refine m2.many.imp fun vs H2 ⟨as, e2, m3⟩ => ?_
              exact MidA.called hlen m3 tk
        | _ => exact m2.none.elim
      | _ => exact m2.none.elim⟩
theorem ce_methR0 [Lay X L tb o k] {m : Str} {apos : Pos} {pl : Sem Bool} (i : Nat) (hlen : OLen tb o) (hN : X.N[i]? = some x := by rfl) (hv : Vis X.env.scope x := by first | exact Or.inl rfl | exact Or.inr (Or.inl rfl) | exact Or.inr (Or.inr rfl)) (hd : (x == ("__debug__" : Str)) = false := by decide)
    (hcd : (x == ("__classdict__" : Str)) = false := by decide)
    (ht : eval (.Call (.Attribute (.Name x p) m apos) [] [] pos) X.env = (do
      let ov ← eval (.Name x p) X.env
      standAt apos.atName
      let (f, first) ← holding [ov] (getMethod ov m pl)
      callWith pos f first (backTo pos (starEach [] X.env)) (backToKw pos (keywordEach [] X.env))) := by rfl) : PEs X L tb o (.Call (.Attribute (.Name x p) m apos) [] [] pos) (.methR m i .n) :=
  ⟨fun W tk => PEimp (pe_meD0 (CX := L2.CX X.prog X.w) (k := k) (pl := pl) (pv i hN hv hd hcd) Lay.room ht) fun σ H Q h => by
    obtain ⟨e, m1⟩ := h.midA
    simp only [evE] at m1
    cases q : e.at i with
    | none => rw [q] at m1; exact m1.none.elim
    | some d =>
      rw [q] at m1
      obtain ⟨v, ev, m2, Z, S, r1⟩ := m1.at q
      refine ⟨v, ev, ?_⟩
      cases d with
      | nd kd ow xs =>
        cases kd with
        | ins cn ns =>
          dsimp only at m2
          cases qm : tb.meth cn m with
          | none => rw [qm] at m2; exact m2.none.elim
          | some f =>
            rw [qm] at m2
            dsimp only at m2
            cases qc : ns.contains m with
            | true => simp only [qc, if_true] at m2; exact m2.none.elim
            | false =>
              simp only [qc, Bool.false_eq_true, if_false, evAs, bnd_val] at m2
              obtain ⟨q, vs, dx, rfl, hl, hq, _, rr⟩ := shape_ins r1
              obtain ⟨hcl, hme⟩ := Lay.met (X := X) (L := L) (tb := tb) (o := o) (k := k) cn m f qm
              refine ⟨q, _, dx, _, _, rfl, hq, hcl, hme, no_attr qc, ?_⟩
              exact MidA.called hlen m2 tk
        | _ => exact m2.none.elim
      | _ => exact m2.none.elim⟩
/-- C(..) -/
theorem mk_run [Lay X L tb o k] {σ : St} {H : Hp} {Q : VK} {e : Env} {vs : List V} {ds : List D} {cn f : Nat} (hlen : OLen tb o) (hf : tb.init cn = some f)
    (m : Mid L W σ H e vs ds (Rep L) Q (match tb.init cn with
      | none => none
      | some f => if (tb.fns[f]?).map (·.io) = some [0] then
          match o f (.nd (.ins cn []) true [] :: ds.map D.frz) with
          | some (.val .non [x]) => some (.val x e)
          | some (.exc x [_]) => some (.exc x e)
          | _ => none
        else none)) (tk : Takes X W) : ∃ sp E, Callee X (L2.CX X.prog X.w) k σ (L.fadr f) sp E ∧ ∀ x dx, H x = none → H dx = none → dx ≠ x →
      sp (.ref x :: vs) (upd (upd H dx (.own x)) x (.ins (L.cls cn) dx [])) (fun v H2 => v = .non ∧ Q (.ref x) H2) E := by
  rw [hf] at m
  dsimp only at m
  cases qf : tb.fns[f]? with
  | none => rw [qf] at m; simp at m; exact m.none.elim
  | some fn =>
    refine ⟨_, _, callee_of qf tk, fun x dx hx hdx ne => ?_⟩
    rw [qf] at m
    simp only [Option.map_some, Option.some.injEq] at m
    by_cases hio : fn.io = [0]
    · rw [if_pos hio] at m
      have hx' : upd H dx (.own x) x = none := by rw [upd_ne (Ne.symm ne)]; exact hx
      have m2 := (m.growT (ob := .own x) hdx)
      obtain ⟨Z, S1, S2, kk, dj, re, rs, r', h, g⟩ := m2
      -- the new instance is ours
      have f0 : Fr NoAS (upd H dx (.own x)) (upd (upd H dx (.own x)) x (.ins (L.cls cn) dx [])) := upd_fr hx' NoAS
      have sx : ∀ b, OrS S1 S2 b → b ≠ x := fun b z y => by subst y; exact kk.sd z hx'
      have zx : ∀ b, Z b → b ≠ x := fun b z y => by subst y; exact kk.zd b z hx'
      let N : AS := fun b => b = x
      have sx' : ∀ b, N b → ¬ OrS S1 S2 b := fun b z y => sx b y z
      have kN : Ok (OrS Z S2) (OrS N S1) (upd (upd H dx (.own x)) x (.ins (L.cls cn) dx [])) := by
        refine ⟨fun b hb z => ?_, fun b hb => ?_, fun b z y => ?_⟩
        · rcases hb with hb | hb
          · rcases z with z | z
            · exact zx b z hb
            · exact sx b (.inr z) hb
          · rcases z with z | z
            · exact kk.dj b (.inl hb) z
            · exact dj b hb z
        · rcases hb with hb | hb
          · rw [show b = x from hb, upd_same]; exact trivial
          · rw [upd_ne (sx b (.inl hb))]; exact kk.own b (.inl hb)
        · have y' := upd_nn y
          rcases z with z | z
          · exact kk.zd b z y'
          · exact kk.sd (.inr z) y'
      have st0 : Step Z (OrS S1 S2) (upd H dx (.own x)) (OrS Z S2) (OrS N S1) (upd (upd H dx (.own x)) x (.ins (L.cls cn) dx [])) :=
        ⟨fun b z => .inl z, fun b z => z.elim .inl fun z => .inr (.inl (.inr z)), fun b z => z.elim (fun z => .inr (by rw [show b = x from z]; exact hx')) fun z => .inl (.inl z), upd_fr hx' _, fun b => upd_nn⟩
      have frzs : ∀ {l : List D} {ws : List V} {S : AS}, (∀ b, S b → OrS Z S2 b) → Reps L Z (upd H dx (.own x)) ws l S → Reps L (OrS Z S2) (upd H dx (.own x)) ws (l.map D.frz) NoAS := by
        intro l
        induction l with
        | nil => intro ws S _ h; exact h
        | cons y ys ih =>
          intro ws S hs h
          simp only [Reps] at h
          obtain ⟨v, us, T1, T2, e', t1, t2, tj, q1, q2⟩ := h
          rw [e']
          exact reps_cons (S1 := NoAS) (S2 := NoAS) (fun _ z => z) (fun _ z => z) (fun _ z => z.elim) (rep_frz (fun b z => hs b (t1 b z)) (fun b z => .inl z) q1) (ih (fun b z => hs b (t2 b z)) q2)
      have rds := reps_fr (Z' := OrS Z S2) f0 (fun _ z => z.elim) (fun _ _ z => z) (fun _ z => z) (fun _ _ z => z) (frzs (fun b z => .inr z) rs)
      have rall : Reps L (OrS Z S2) (upd (upd H dx (.own x)) x (.ins (L.cls cn) dx [])) (.ref x :: vs) (.nd (.ins cn []) true [] :: ds.map D.frz) N := by
        refine reps_cons (S1 := N) (S2 := NoAS) (fun _ z => z) (fun _ z => z.elim) (fun _ _ z => z) ?_ rds
        simp only [Rep]
        exact ⟨x, [], rfl, ⟨rfl, ⟨dx, upd_same⟩, fun z => (by cases z)⟩, fun _ => rfl, reps_nil⟩
      have re1 := re.fr (Z' := OrS Z S2) f0 (fun _ z => z.elim) (fun _ _ z => z) (fun b z => .inl z) (fun _ _ z => z)
      cases qo : o f (.nd (.ins cn []) true [] :: ds.map D.frz) with
      | none => rw [qo] at h; cases h
      | some cr =>
        rw [qo] at h
        have len := hlen f fn qf _ (by rw [qo]; exact fun z => by cases z)
        refine ⟨fn, OrS Z S2, N, _, cr, qf, len, kN.mono fun b z => .inl z, rall, qo, ?_⟩
        rw [hio]
        cases cr with
        | val d fs =>
          dsimp only at h ⊢
          intro v H' Z' U1 U2 a k' uj rfs rv
          have go : ∃ y, d = .non ∧ fs = [y] ∧ r' = .val y e := by
            cases d <;> (try cases h)
            cases fs with
            | nil => cases h
            | cons y ys =>
              cases ys with
              | nil => cases h; exact ⟨y, rfl, rfl, rfl⟩
              | cons _ _ => cases h
          obtain ⟨y, rfl, rfl, rfl⟩ := go
          refine ⟨rep_non rv, ?_⟩
          obtain ⟨a', k2, d2⟩ := a.hold kN (fun b z y => sx b (.inl y) z) k'
          have re2 := re1.fr a.fr (kN.mono fun b z => Or.inl z).own (fun b z y => kN.dj b (.inl y) z) a.zz (fun b z y => sx b (.inl z) y)
          obtain ⟨w, ew, rw'⟩ := reps1 rfs
          have ew' : w = .ref x := by
            simp only [ioV, List.map_cons, List.map_nil, List.getD_cons_zero] at ew
            cases ew; rfl
          subst ew'
          have sub : ∀ b, OrS S1 U1 b → OrS (OrS U1 U2) S1 b := fun b z => z.elim .inr fun z => .inl (.inl z)
          exact g (.ref x) H' Z' S1 U1 ((st0.trans a').trans (Step.refl sub)) (k2.mono sub) (fun b z y => d2 b (.inl y) z) re2 rw'
        | exc y fs =>
          dsimp only at h ⊢
          intro cls dd H' Z' U1 a k' rfs rx
          have go : ∃ z, fs = [z] ∧ r' = .exc y e := by
            cases fs with
            | nil => cases h
            | cons z ys =>
              cases ys with
              | nil => cases h; exact ⟨z, rfl, rfl⟩
              | cons _ _ => cases h
          obtain ⟨z, rfl, rfl⟩ := go
          obtain ⟨a', k2, d2⟩ := a.hold kN (fun b z y => sx b (.inl y) z) k'
          have re2 := re1.fr a.fr (kN.mono fun b z => Or.inl z).own (fun b z y => kN.dj b (.inl y) z) a.zz (fun b z y => sx b (.inl z) y)
          have sub : ∀ b, S1 b → OrS U1 S1 b := fun b z => .inr z
          exact g cls dd H' Z' S1 ((st0.trans a').trans (Step.refl sub)) (k2.mono sub) re2 rx
    · rw [if_neg hio] at m
      exact m.none.elim
theorem ce_mk [Lay X L tb o k] (cn : Nat) (hlen : OLen tb o) (ha : PAs X L tb o (a :: es) cs) (hi : (tb.init cn).isSome = true := by rfl) (hx : L.cname cn = x := by rfl) (ht : L.ctop cn = true := by rfl) (hg : Gl X x := by rfl) (hdb : (x == ("__debug__" : Str)) = false := by decide)
    (he : starEach (a :: es) X.env = (false, eval a X.env) :: starEach es X.env := by rfl) (hpl : (backTo pos (starEach es X.env)).any (·.1) = false := by rfl) : PEs X L tb o (.Call (.Name x p) (a :: es) [] pos) (.mk cn cs) :=
  ⟨fun W tk => by
    obtain ⟨f, hf⟩ := Option.isSome_iff_exists.mp hi
    refine PEimp (pe_mkS (CX := L2.CX X.prog X.w) (k := k) (Lay.mak (X := X) (L := L) (tb := tb) (o := o) (k := k) cn f hf) (Lay.room' (X := X) (L := L) (tb := tb) (o := o) (k := k)) hg (by rw [← hx]; exact Lay.ctp (X := X) (tb := tb) (o := o) (k := k) cn ht) (ha.run W tk) hdb he hpl) fun σ H Q h => ?_
    obtain ⟨e, m⟩ := h.mid
    simp only [evE] at m
    refine m.many.imp fun vs H1 ⟨ds, e1, hl, m1⟩ => ?_
    exact mk_run hlen hf m1 tk⟩
theorem ce_mk0 [Lay X L tb o k] (cn : Nat) (hlen : OLen tb o) (hi : (tb.init cn).isSome = true := by rfl) (hx : L.cname cn = x := by rfl) (ht : L.ctop cn = true := by rfl) (hg : Gl X x := by rfl) (hdb : (x == ("__debug__" : Str)) = false := by decide) : PEs X L tb o (.Call (.Name x p) [] [] pos) (.mk cn .n) :=
  ⟨fun W tk => by
    obtain ⟨f, hf⟩ := Option.isSome_iff_exists.mp hi
    refine PEimp (pe_mkS0 (CX := L2.CX X.prog X.w) (k := k) (Lay.mak (X := X) (L := L) (tb := tb) (o := o) (k := k) cn f hf) (Lay.room' (X := X) (L := L) (tb := tb) (o := o) (k := k)) hg (by rw [← hx]; exact Lay.ctp (X := X) (tb := tb) (o := o) (k := k) cn ht) hdb) fun σ H Q h => ?_
    obtain ⟨e, m⟩ := h.mid
    simp only [evE, evEs, bnd_val] at m
    exact mk_run hlen hf m tk⟩
end
end PL

/-! PL.Mu: what stands at a path from a name, and its changes. -/
namespace PL
open PySem L2

/-- what is held stays, whatever else changes -/
structure Stb (P : AS → Hp → AS → Prop) : Prop where
  st : ∀ {Z Z' : AS} {H H' : Hp} {U S : AS}, Fr U H H' → OwnW U H → (∀ b, Z b → ¬ U b) → (∀ b, Z b → Z' b) → (∀ b, S b → ¬ U b) → P Z H S → P Z' H' S
  mo : ∀ {Z : AS} {H : Hp} {S S' : AS}, (∀ b, S b → S' b) → P Z H S → P Z H S'
def Spl (P R : AS → Hp → AS → Prop) : AS → Hp → AS → Prop := fun Z H S => ∃ Sa Sb : AS, (∀ b, Sa b → S b) ∧ (∀ b, Sb b → S b) ∧ (∀ b, Sa b → ¬ Sb b) ∧ P Z H Sa ∧ R Z H Sb
theorem Stb.spl {P R : AS → Hp → AS → Prop} (p : Stb P) (r : Stb R) : Stb (Spl P R) where
  st := fun f o hz zz hs ⟨Sa, Sb, h1, h2, dj, q1, q2⟩ => ⟨Sa, Sb, h1, h2, dj, p.st f o hz zz (fun b z => hs b (h1 b z)) q1, r.st f o hz zz (fun b z => hs b (h2 b z)) q2⟩
  mo := fun hs ⟨Sa, Sb, h1, h2, dj, q1, q2⟩ => ⟨Sa, Sb, fun b z => hs b (h1 b z), fun b z => hs b (h2 b z), dj, q1, q2⟩
def stb_rep {L : Lo} {v : V} {d : D} : Stb (fun Z H S => Rep L Z H v d S) := ⟨fun f o hz zz hs h => rep_frW f o hz zz hs h, fun hs h => rep_mono hs h⟩
def stb_reps {L : Lo} {v : List V} {d : List D} : Stb (fun Z H S => Reps L Z H v d S) := ⟨fun f o hz zz hs h => reps_frW f o hz zz hs h, fun hs h => reps_mono hs h⟩

/-- what is wanted of a result, in whatever form -/
structure GP (L : Lo) (W : WX) (σ : St) {γ : Type} (G : AS → AS → Hp → Out γ → Prop) : Prop where
  step : ∀ {Z S Z1 S1 : AS} {H H1 : Hp} {r : Out γ}, G Z S H r → Step Z S H Z1 S1 H1 → G Z1 S1 H1 r
  exc : ∀ {Z S : AS} {H : Hp} {x : D} {e : Env}, G Z S H (.exc x e) → ∀ cls dd H' Z' S1, Step Z S H Z' S1 H' → Ok Z' S1 H' → RepE L Z' H' σ e S1 → RepX L Z' H' cls dd x → W cls dd σ H'
/-- the wish of an expression -/
abbrev GE (L : Lo) (W : WX) (σ : St) {γ β' : Type} (rep' : AS → Hp → β' → γ → AS → Prop) (Q : β' → Hp → Prop) : AS → AS → Hp → Out γ → Prop := fun Z S H r => Good L W σ rep' Z S H r Q
theorem gp_e {L : Lo} {W : WX} {σ : St} {γ β' : Type} {rep' : AS → Hp → β' → γ → AS → Prop} {Q : β' → Hp → Prop} : GP L W σ (GE L W σ rep' Q) := ⟨fun g a => g.step a, fun g => g⟩
structure GS {γ : Type} (G : AS → AS → Hp → Out γ → Prop) : Prop where
  step : ∀ {Z S Z1 S1 : AS} {H H1 : Hp} {r : Out γ}, G Z S H r → Step Z S H Z1 S1 H1 → G Z1 S1 H1 r
theorem gs_e {L : Lo} {W : WX} {σ : St} {γ β' : Type} {rep' : AS → Hp → β' → γ → AS → Prop} {Q : β' → Hp → Prop} : GS (GE L W σ rep' Q) := ⟨fun g a => g.step a⟩
theorem GP.gs {L : Lo} {W : WX} {σ : St} {γ : Type} {G : AS → AS → Hp → Out γ → Prop} (h : GP L W σ G) : GS G := ⟨fun g a => h.step g a⟩
def MidH (L : Lo) (σ : St) (H : Hp) (e : Env) (P : AS → Hp → AS → Prop) {γ : Type} (G : AS → AS → Hp → Out γ → Prop) (r : R γ) : Prop :=
  ∃ Z S1 S2, Ok Z (OrS S1 S2) H ∧ (∀ b, S1 b → ¬ S2 b) ∧ RepE L Z H σ e S1 ∧ P Z H S2 ∧ ∃ r', r = some r' ∧ G Z (OrS S1 S2) H r'
section
variable {L : Lo} {W : WX} {σ : St} {α β γ : Type} {rep : AS → Hp → β → α → AS → Prop} {G : AS → AS → Hp → Out γ → Prop} {H : Hp} {e : Env} {P : AS → Hp → AS → Prop}
theorem MidH.bind {ev : Env → R α} {f : α → Env → R γ} (gp : GP L W σ G) (st : Stb P) (m : MidH L σ H e P G (bnd (ev e) f)) :
    tG L W rep ev σ H (fun v H1 => ∃ d e1, MidH L σ H1 e1 (Spl P (fun Z H S => rep Z H v d S)) G (f d e1)) := by
  obtain ⟨Z, S1, S2, k, dj, re, rs, r', h, g⟩ := m
  have k1 : Ok Z S1 H := k.mono fun b z => .inl z
  cases q : ev e with
  | none => rw [q] at h; cases h
  | some r =>
    rw [q] at h
    refine ⟨Z, S1, e, r, k1, re, q, ?_⟩
    cases r with
    | exc x e1 =>
      simp only [bnd_exc, Option.some.injEq] at h
      subst h
      intro cls dd H' Z' T a k' re' rx
      obtain ⟨a', k2, _⟩ := a.hold k dj k'
      exact gp.exc g cls dd H' Z' (OrS T S2) a' k2 (re'.mono fun b z => .inl z) rx
    | val d e1 =>
      simp only [bnd_val] at h
      intro v H' Z' T1 T2 a k' dj' re' rv
      obtain ⟨a', k2, d2⟩ := a.hold k dj k'
      refine ⟨d, e1, Z', T1, OrS S2 T2, k2.mono fun b z => ?_, fun b hb z => ?_, re',
        ⟨S2, T2, fun b z => .inl z, fun b z => .inr z, fun b z y => d2 b (.inr y) z, st.st a.fr k1.own.w (fun b z y => k1.dj b y z) a.zz (fun b z y => dj b y z) rs, rv⟩, r', h, gp.step g (a'.trans (Step.refl fun b z => ?_))⟩
      · rcases z with z | z | z
        · exact .inl (.inl z)
        · exact .inr z
        · exact .inl (.inr z)
      · rcases z with z | z
        · exact d2 b (.inl hb) z
        · exact dj' b hb z
      · rcases z with z | z | z
        · exact .inl (.inl z)
        · exact .inr z
        · exact .inl (.inr z)
theorem MidH.none (m : MidH L σ H e P G none) : False := by
  obtain ⟨Z, S1, S2, k, dj, re, rs, r', h, g⟩ := m
  cases h
theorem MidH.imp {P' : AS → Hp → AS → Prop} {r : R γ} (m : MidH L σ H e P G r) (h : ∀ Z S, Ok Z S H → P Z H S → P' Z H S) : MidH L σ H e P' G r := by
  obtain ⟨Z, S1, S2, k, dj, re, rs, r', h', g⟩ := m
  exact ⟨Z, S1, S2, k, dj, re, h Z S2 (k.mono fun b z => .inr z) rs, r', h', g⟩
theorem MidH.opt {x : Option γ} (m : MidH L σ H e P G (opt x e)) : ∃ d, x = some d ∧ MidH L σ H e P G (some (.val d e)) := by
  obtain ⟨Z, S1, S2, k, dj, re, rs, r', h, g⟩ := m
  unfold PL.opt at h
  cases x with
  | none => cases h
  | some d => exact ⟨d, rfl, Z, S1, S2, k, dj, re, rs, r', h, g⟩
theorem Mid.toH {β' : Type} {rep' : AS → Hp → β' → γ → AS → Prop} {Q : β' → Hp → Prop} {vs : List V} {ds : List D} {r : R γ} (m : Mid L W σ H e vs ds rep' Q r) : MidH L σ H e (fun Z H S => Reps L Z H vs ds S) (GE L W σ rep' Q) r := m
/-- a name's value goes aside -/
theorem MidH.aside {r : R γ} {root : Nat} {d : D} (gp : GP L W σ G) (m : MidH L σ H e P G r) (h : e.at root = some d) : ∃ vr, σ[root]? = some (some vr) ∧ MidH L σ H (e.set root Option.none) (Spl P (fun Z H S => Rep L Z H vr d S)) G r := by
  obtain ⟨Z, S1, S2, k, dj, re, rs, r', h', g⟩ := m
  obtain ⟨v, U1, U2, ev, h1, h2, uj, rv, re2⟩ := re.at h
  refine ⟨v, ev, Z, U2, OrS S2 U1, k.mono fun b z => ?_, fun b z y => ?_, re2, ⟨S2, U1, fun b z => .inl z, fun b z => .inr z, fun b z y => dj b (h1 b y) z, rs, rv⟩, r', h', gp.step g (Step.refl fun b z => ?_)⟩
  · rcases z with z | z | z
    · exact .inl (h2 b z)
    · exact .inr z
    · exact .inl (h1 b z)
  · rcases y with y | y
    · exact dj b (h2 b z) y
    · exact uj b y z
  · rcases z with z | z | z
    · exact .inl (h2 b z)
    · exact .inr z
    · exact .inl (h1 b z)
end

/-! ### what stands at the path -/
/-- vc is at the path's end: dc; with another dc' there the whole is back dc' -/
structure Foc (L : Lo) (Z : AS) (H : Hp) (vc : V) (dc : D) (S1 S2 : AS) (v : V) (back : D → D) : Prop where
  rep : Rep L Z H vc dc S1
  put : ∀ {Z' : AS} {H' : Hp} {U S1' S' : AS} {dc' : D}, Fr U H H' → OwnW U H → (∀ b, Z b → ¬ U b) → (∀ b, Z b → Z' b) → (∀ b, S2 b → ¬ U b) → (∀ b, S1' b → S' b) → (∀ b, S2 b → S' b) → (∀ b, S1' b → ¬ S2 b) → Rep L Z' H' vc dc' S1' → Rep L Z' H' v (back dc') S'
def FocP (L : Lo) (at' : Nat → Str → Bool) (vr : V) (d : D) (acs : List Acc) (vc : V) : AS → Hp → AS → Prop := fun Z H S => ∃ (dc : D) (back : D → D) (S1 S2 : AS), (∀ b, S1 b → S b) ∧ (∀ b, S2 b → S b) ∧ (∀ b, S1 b → ¬ S2 b) ∧ Foc L Z H vc dc S1 S2 vr back ∧ back dc = d ∧
  (∀ (rest : List Acc), walkD at' (acs ++ rest) d = walkD at' rest dc) ∧ ∀ (α : Type) (f : D → Option (α × D)) (rest : List Acc), modD at' f (acs ++ rest) d = (modD at' f rest dc).map fun (r, x) => (r, back x)
section
variable {L : Lo} {Z Z' : AS} {H H' : Hp}
theorem Foc.st {vc v : V} {dc : D} {S1 S2 U : AS} {back : D → D} (h : Foc L Z H vc dc S1 S2 v back) (f : Fr U H H') (o : OwnW U H) (hz : ∀ b, Z b → ¬ U b) (zz : ∀ b, Z b → Z' b) (h1 : ∀ b, S1 b → ¬ U b) (h2 : ∀ b, S2 b → ¬ U b) : Foc L Z' H' vc dc S1 S2 v back where
  rep := rep_frW f o hz zz h1 h.rep
  put := fun {Z'' H'' U' S1' S' dc'} f' o' hz' zz' n2 s1 s2 dj r => by
    refine h.put (U := OrS U U') (fun b ob e n => f' b ob (f b ob e fun z => n (.inl z)) fun z => n (.inr z)) (fun b ob e u => ?_) (fun b z y => y.elim (hz b z) (hz' b (zz b z))) (fun b z => zz' b (zz b z)) (fun b z y => y.elim (h2 b z) (n2 b z)) s1 s2 dj r
    by_cases c : U b
    · exact o b ob e c
    · exact o' b ob (f b ob e c) (u.resolve_left c)
theorem stb_foc {at' : Nat → Str → Bool} {vr : V} {d : D} {acs : List Acc} {vc : V} : Stb (FocP L at' vr d acs vc) where
  st := fun f o hz zz hs ⟨dc, back, S1, S2, h1, h2, dj, F, hb, hwk, hm⟩ => ⟨dc, back, S1, S2, h1, h2, dj, F.st f o hz zz (fun b z => hs b (h1 b z)) (fun b z => hs b (h2 b z)), hb, hwk, hm⟩
  mo := fun hs ⟨dc, back, S1, S2, h1, h2, dj, F, hb, hwk, hm⟩ => ⟨dc, back, S1, S2, fun b z => hs b (h1 b z), fun b z => hs b (h2 b z), dj, F, hb, hwk, hm⟩
theorem foc_start {at' : Nat → Str → Bool} {vr : V} {d : D} {S : AS} (r : Rep L Z H vr d S) : FocP L at' vr d [] vr Z H S := by
  refine ⟨d, id, S, NoAS, fun _ z => z, fun _ z => z.elim, fun _ _ z => z, ⟨r, fun f o hz zz n2 s1 s2 dj r => rep_mono s1 r⟩, rfl, fun rest => rfl, fun α f rest => ?_⟩
  rw [List.nil_append]
  cases modD at' f rest d <;> rfl
/-- the whole, out of its part -/
theorem FocP.whole {at' : Nat → Str → Bool} {vr : V} {d : D} {acs : List Acc} {vc : V} {S : AS} (h : FocP L at' vr d acs vc Z H S) : Rep L Z H vr d S := by
  obtain ⟨dc, back, S1, S2, h1, h2, dj, F, hb, hwk, hm⟩ := h
  rw [← hb]
  exact F.put (U := NoAS) fr_refl (fun _ _ _ z => z.elim) (fun _ _ z => z) (fun _ z => z) (fun _ _ z => z) h1 h2 dj F.rep
theorem set_self {α : Type} : ∀ {l : List α} {j : Nat} {x : α}, l[j]? = some x → l.set j x = l
  | [], _, _, h => by simp at h
  | y :: ys, 0, x, h => by simp at h; subst h; rfl
  | y :: ys, j + 1, x, h => by simp at h; simp [set_self h]
/-- one step down -/
theorem foc_kid {at' : Nat → Str → Bool} {vr vc : V} {d : D} {acs : List Acc} {S : AS} {a : Acc} {k : Kd} {o : Bool} {xs : List D} {back : D → D} {S1 S2 : AS} {p : Addr} {vs : List V} {j : Nat} {x : D} (h1 : ∀ b, S1 b → S b) (h2 : ∀ b, S2 b → S b) (dj : ∀ b, S1 b → ¬ S2 b)
    (F : Foc L Z H vc (.nd k o xs) S1 S2 vr back) (hb : back (.nd k o xs) = d) (hwk : ∀ (rest : List Acc), walkD at' (acs ++ rest) d = walkD at' rest (.nd k o xs)) (hm : ∀ (α : Type) (f : D → Option (α × D)) (rest : List Acc), modD at' f (acs ++ rest) d = (modD at' f rest (.nd k o xs)).map fun (r, x) => (r, back x))
    (ev : vc = .ref p) (sh : shapeOk L Z H p o k vs) (ho : o = true → S1 p) (rr : Reps L Z H vs xs (fun b => S1 b ∧ (o = true → b ≠ p))) (hj : stepD at' (.nd k o xs) a = some j) (hx : xs[j]? = some x) :
    ∃ w, vs[j]? = some w ∧ FocP L at' vr d (acs ++ [a]) w Z H S := by
  obtain ⟨w, T1, T2, ew, t1, t2, tj, rw', put⟩ := reps_at rr hx
  refine ⟨w, ew, x, fun y => back (.nd k o (xs.set j y)), T1, OrS S2 (OrS T2 (fun b => o = true ∧ b = p)), fun b z => h1 b (t1 b z).1, fun b z => ?_, fun b z y => ?_, ⟨rw', ?_⟩, ?_, fun rest => ?_, fun α f rest => ?_⟩
  · rcases z with z | z | z
    · exact h2 b z
    · exact h1 b (t2 b z).1
    · rw [z.2]; exact h1 p (ho z.1)
  · rcases y with y | y | y
    · exact dj b (t1 b z).1 y
    · exact tj b z y
    · exact (t1 b z).2 y.1 y.2
  · intro Z' H' U S1' S' dc' f o' hz zz n2 s1 s2 dj' r
    refine F.put (U := U) (S1' := OrS S1' (OrS T2 (fun b => o = true ∧ b = p))) f o' hz zz (fun b z => n2 b (.inl z)) (fun b z => z.elim (s1 b) fun z => s2 b (.inr z)) (fun b z => s2 b (.inl z)) (fun b z y => ?_) ?_
    · rcases z with z | z | z
      · exact dj' b z (.inl y)
      · exact dj b (t2 b z).1 y
      · rw [z.2] at y; exact dj p (ho z.1) y
    · rw [ev]
      simp only [Rep]
      refine ⟨p, vs, rfl, ?_, fun z => .inr (.inr ⟨z, rfl⟩), ?_⟩
      · have np : o = true → ¬ U p := fun z => n2 p (.inr (.inr ⟨z, rfl⟩))
        cases k with
        | tup => exact ⟨sh.1, SqU.fr f o' sh.2⟩
        | pr => exact ⟨sh.1, SqT.fr f o' sh.2⟩
        | cl => exact ⟨sh.1, FzL.fr f o' sh.2⟩
        | lst =>
          obtain ⟨g1, g2⟩ := sh
          refine ⟨f p _ g1 ?_, fun z => zz p (g2 z)⟩
          cases o with
          | true => exact np rfl
          | false => exact hz p (g2 rfl)
        | dk ks =>
          obtain ⟨g0, g1, g2, g3⟩ := sh
          refine ⟨g0, g1, f p _ g2 ?_, fun z => zz p (g3 z)⟩
          cases o with
          | true => exact np rfl
          | false => exact hz p (g3 rfl)
        | dt ks =>
          obtain ⟨g0, g1, ⟨as, g4, g5, g2⟩, g3⟩ := sh
          refine ⟨g0, g1, ⟨as, KReps.fr f o' g4, g5, f p _ g2 ?_⟩, fun z => zz p (g3 z)⟩
          cases o with
          | true => exact np rfl
          | false => exact hz p (g3 rfl)
        | ins c ns =>
          obtain ⟨g1, ⟨dx, g2⟩, g3⟩ := sh
          refine ⟨g1, ⟨dx, f p _ g2 ?_⟩, fun z => zz p (g3 z)⟩
          cases o with
          | true => exact np rfl
          | false => exact hz p (g3 rfl)
      · have q := put (S' := fun b => OrS S1' (OrS T2 (fun b => o = true ∧ b = p)) b ∧ (o = true → b ≠ p)) (S1' := S1') (v' := w) (d' := dc') f o' hz zz (fun b z => n2 b (.inr (.inl z)))
          (fun b z => ⟨.inl z, fun y e => dj' b z (.inr (.inr ⟨y, e⟩))⟩) (fun b z => ⟨.inr (.inl z), (t2 b z).2⟩) (fun b z y => dj' b z (.inr (.inl y))) r
        rw [set_self ew] at q
        exact q
  · dsimp only
    rw [set_self hx]
    exact hb
  · have := hwk (a :: rest)
    rw [List.append_assoc, List.cons_append, List.nil_append, this]
    simp only [walkD, hj, Option.bind_some, D.kids, hx]
  · have := hm α f (a :: rest)
    rw [List.append_assoc, List.cons_append, List.nil_append, this]
    simp only [modD, hj, Option.bind_some, D.kids, hx]
    cases modD at' f rest x <;> rfl
end

/-! ### members beside a hidden name -/
section
variable {X : Cx} {L : Lo} {tb : Tab} {o : Orc} {k : Nat} {pos p : Pos} {a b c : Expr} {es : List Expr} {ca cb cc : E} {W : WX} {x : Str}
/-- the reading of a member: what is held knows the hidden name's value -/
def tMb (L : Lo) (W : WX) (tb : Tab) (o : Orc) (root : Nat) (m : M) : TE := fun σ H Q => ∃ (γ : Type) (G : AS → AS → Hp → Out γ → Prop) (f : D → Env → R γ) (P : AS → Hp → AS → Prop) (e : Env) (vr : V) (d : D),
  GP L W σ G ∧ Stb P ∧ σ[root]? = some (some vr) ∧ (∀ Z H S, P Z H S → Rep L Z H vr d S) ∧ MidH L σ H e P G (bnd (evM tb o m d root e) f) ∧ ∀ v H' y e', MidH L σ H' e' (Spl P (fun Z H S => Rep L Z H v y S)) G (f y e') → Q v H'
structure PMs (X : Cx) (L : Lo) (tb : Tab) (o : Orc) (root : Nat) (e : Expr) (m : M) : Prop where
  run : ∀ W, Takes X W → PE X e (tMb L W tb o root m)
theorem cm_h {root : Nat} (ha : PEs X L tb o a ca) : PMs X L tb o root a (.h ca) := ⟨fun W tk => PEimp (ha.run W tk) fun σ H Q h => by
  obtain ⟨γ, G, f, P, e, vr, d, gp, st, hv, hr, m, k⟩ := h
  simp only [evM] at m
  exact (m.bind (rep := Rep L) gp st).imp fun v H' ⟨y, e', m'⟩ => k v H' y e' m'⟩
theorem cm_v {root : Nat} {is : List Nat} (ha : PEs X L tb o a ca) : PMs X L tb o root a (.v is ca) := ⟨fun W tk => PEimp (ha.run W tk) fun σ H Q h => by
  obtain ⟨γ, G, f, P, e, vr, d, gp, st, hv, hr, m, k⟩ := h
  simp only [evM] at m
  obtain ⟨Z, S1, S2, kk, dj, re, rs, r', h', g⟩ := m
  -- the whole frame, the hidden name too
  have reF : RepE L Z H σ (e.set root (some d)) (OrS S1 S2) := (re.forget root).put hv (hr Z H S2 rs) (fun b z => .inr z) (fun b z => .inl z) fun b z y => dj b y z
  have re' : RepE L (OrS Z (OrS S1 S2)) H σ (viewEnv is 0 (e.set root (some d))) NoAS := viewEnv_rep reF (fun b z => .inr z) fun b z => .inl z
  have k0 : Ok (OrS Z (OrS S1 S2)) NoAS H := ⟨fun _ z => z.elim, fun _ z => z.elim, fun b z => z.elim (kk.zd b) fun z => kk.sd z⟩
  cases q : evE tb o ca (viewEnv is 0 (e.set root (some d))) with
  | none => rw [q] at h'; cases h'
  | some r1 =>
    rw [q] at h'
    cases r1 with
    | exc x e1 => cases h'
    | val y e1 =>
      simp only [viewOut] at h'
      by_cases n : y.nf = true
      · rw [if_pos n] at h'
        simp only [bnd_val] at h'
        refine ⟨OrS Z (OrS S1 S2), NoAS, viewEnv is 0 (e.set root (some d)), _, k0, re', q, ?_⟩
        intro v H' Z' T1 T2 ast k' tj re1 rv
        have t2n : ∀ b, T2 b → H b = none := fun b z => (ast.ss b (.inr z)).elim (fun z => z.elim) id
        have fr0 : Fr NoAS H H' := fun b ob e n => ast.fr b ob e n
        have own' : Own (OrS S1 S2) H' := fun b hb => by
          have := kk.own b hb
          cases e : H b with
          | none => exact absurd e (kk.sd hb)
          | some ob => rw [fr0 b ob e fun z => z]; rw [← e]; exact this
        have sz : ∀ b, OrS S1 S2 b → ¬ T2 b := fun b z w => kk.sd z (t2n b w)
        refine k v H' y e ⟨Z, S1, OrS S2 T2, ⟨fun b hb z => ?_, fun b hb => ?_, fun b z w => kk.zd b z (ast.nn b w)⟩, fun b z w => w.elim (dj b z) (sz b (.inl z)), re.fr fr0 (fun _ z => z.elim) (fun _ _ z => z) (fun _ z => z) (fun _ _ z => z),
          ⟨S2, T2, fun b z => .inl z, fun b z => .inr z, fun b z w => sz b (.inr z) w, st.st fr0 (fun _ _ _ z => z.elim) (fun _ _ z => z) (fun _ z => z) (fun _ _ z => z) rs, rep_nf n rv⟩, r', h', gp.step g ⟨fun _ z => z, fun _ z => .inl z, fun b z => ?_, fun b ob e _ => fr0 b ob e fun z => z, ast.nn⟩⟩
        · rcases hb with hb | hb | hb
          · exact kk.dj b (.inl hb) z
          · exact kk.dj b (.inr hb) z
          · exact kk.zd b z (t2n b hb)
        · rcases hb with hb | hb | hb
          · exact own' b (.inl hb)
          · exact own' b (.inr hb)
          · exact k'.own b (.inr hb)
        · rcases z with z | z | z
          · exact .inl (.inl z)
          · exact .inl (.inr z)
          · exact .inr (t2n b z)
      · rw [if_neg n] at h'; cases h'⟩

/-! ### paths -/
theorem strIx_look : ∀ {ns : List Str} {f : Str} {j : Nat} {vs : List V} {w : V}, strIx ns f = some j → ns.length = vs.length → vs[j]? = some w → (ns.zip vs).lookup f = some w
  | [], f, j, vs, w, h, _, _ => by simp [strIx] at h
  | n :: ns, f, j, [], w, h, hl, _ => by simp at hl
  | n :: ns, f, j, v :: vs, w, h, hl, hw => by
    simp only [strIx] at h
    rw [List.zip_cons_cons, List.lookup_cons]
    by_cases c : n = f
    · rw [if_pos c] at h
      cases h
      rw [show (f == n) = true from by rw [c]; exact beq_self_eq_true f]
      simpa using hw
    · rw [if_neg c] at h
      rw [show (f == n) = false from beq_eq_false_iff_ne.mpr (fun z => c z.symm)]
      cases q : strIx ns f with
      | none => rw [q] at h; cases h
      | some j' =>
        rw [q] at h
        simp only [Option.map_some, Option.some.injEq] at h
        subst h
        exact strIx_look q (by simpa using hl) (by simpa using hw)
theorem keyIx_look {κ : Type} [DecidableEq κ] : ∀ {ks : List κ} {f : κ} {j : Nat} {vs : List V} {w : V}, keyIx ks f = some j → ks.length = vs.length → vs[j]? = some w → valV (ks.zip vs) f = some w
  | [], f, j, vs, w, h, _, _ => by simp [keyIx] at h
  | n :: ns, f, j, [], w, h, hl, _ => by simp at hl
  | n :: ns, f, j, v :: vs, w, h, hl, hw => by
    simp only [keyIx] at h
    rw [List.zip_cons_cons]
    by_cases c : n = f
    · rw [if_pos c] at h
      cases h
      rw [valV_pos c]
      simpa using hw
    · rw [if_neg c] at h
      rw [valV_neg c]
      cases q : keyIx ns f with
      | none => rw [q] at h; cases h
      | some j' =>
        rw [q] at h
        simp only [Option.map_some, Option.some.injEq] at h
        subst h
        exact keyIx_look q (by simpa using hl) (by simpa using hw)
def tPth (L : Lo) (W : WX) (tb : Tab) (o : Orc) (root : Nat) (p : Ps) : TE := fun σ H Q => ∃ (γ : Type) (G : AS → AS → Hp → Out γ → Prop) (f : List Acc → Env → R γ) (P : AS → Hp → AS → Prop) (e : Env) (vr : V) (d : D),
  GP L W σ G ∧ Stb P ∧ σ[root]? = some (some vr) ∧ MidH L σ H e (Spl P (fun Z H S => Rep L Z H vr d S)) G (bnd (evPs tb o p d root e) f) ∧ ∀ vc H' acs e', MidH L σ H' e' (Spl P (FocP L tb.attr vr d acs vc)) G (f acs e') → Q vc H'
structure PPs (X : Cx) (L : Lo) (tb : Tab) (o : Orc) (root : Nat) (e : Expr) (p : Ps) : Prop where
  run : ∀ W, Takes X W → PE X e (tPth L W tb o root p)
theorem cp_n (root : Nat) (hN : X.N[root]? = some x := by rfl) (hv : Vis X.env.scope x := by first | exact Or.inl rfl | exact Or.inr (Or.inl rfl) | exact Or.inr (Or.inr rfl)) (hd : (x == ("__debug__" : Str)) = false := by decide)
    (hcd : (x == ("__classdict__" : Str)) = false := by decide) : PPs X L tb o root (.Name x pos) .n := ⟨fun W tk => PEimp (pv root hN hv hd hcd) fun σ H Q h => by
  obtain ⟨γ, G, f, P, e, vr, d, gp, st, hv, m, k⟩ := h
  simp only [evPs, bnd_val] at m
  refine ⟨vr, hv, k vr H [] e (m.imp fun Z S _ ⟨Sa, Sb, h1, h2, dj, q1, q2⟩ => ⟨Sa, Sb, h1, h2, dj, q1, foc_start q2⟩)⟩⟩
theorem cp_fld [Lay X L tb o k] {root : Nat} {pp : Ps} {f : Str} (ha : PPs X L tb o root a pp) (hb : attributeBase a f X.env (eval a X.env) = eval a X.env := by rfl) : PPs X L tb o root (.Attribute a f pos) (.fld pp f) := ⟨fun W tk => PEimp (pe_fld (ha.run W tk) hb) fun σ H Q h => by
  obtain ⟨γ, G, g, P, e, vr, d, gp, st, hv, m, kk⟩ := h
  simp only [evPs, bnd_assoc] at m
  refine ⟨γ, G, _, P, e, vr, d, gp, st, hv, m, fun vc H' acs e' m' => ?_⟩
  split at m'
  · rename_i hw
    simp only [bnd_val] at m'
    obtain ⟨Z, S1, S2, k1, dj, re, ⟨Sa, Sb, a1, a2, aj, q1, dc, back, T1, T2, h1, h2, tj, F, hbk, hwk, hm⟩, r', h', g'⟩ := id m'
    rw [hwk, Option.isSome_iff_exists] at hw
    obtain ⟨dd, hw⟩ := hw
    simp only [walkD] at hw
    cases dc with
    | nd kd ow xs =>
      cases kd with
      | ins cn ns =>
        simp only [stepD] at hw
        split at hw
        · rename_i hat
          cases qj : strIx ns f with
          | none => rw [qj] at hw; cases hw
          | some j =>
            rw [qj] at hw
            simp only [Option.bind_some, D.kids] at hw
            cases qx : xs[j]? with
            | none => rw [qx] at hw; cases hw
            | some y =>
              have hst : stepD tb.attr (.nd (.ins cn ns) ow xs) (.fld f) = some j := by simp only [stepD, if_pos hat, qj]
              have hrep := F.rep
              simp only [Rep] at hrep
              obtain ⟨q, vs, ev, sh, ho, rr⟩ := hrep
              obtain ⟨w, ew, fp⟩ := foc_kid (acs := acs) (at' := tb.attr) h1 h2 tj F hbk hwk hm ev sh ho rr hst qx
              obtain ⟨hc, hn⟩ := Lay.att (X := X) (L := L) (tb := tb) (o := o) (k := k) cn f hat
              obtain ⟨g1, ⟨dx, g2⟩, g3⟩ := sh
              refine ⟨q, L.cls cn, dx, ns.zip vs, w, ev, g2, hc, hn, strIx_look qj g1 ew, ?_⟩
              exact kk w H' _ e' ⟨Z, S1, S2, k1, dj, re, ⟨Sa, Sb, a1, a2, aj, q1, fp⟩, r', h', g'⟩
        · cases hw
      | _ => simp only [stepD, Option.bind_none, reduceCtorEq] at hw
    | _ => simp only [stepD, Option.bind_none, reduceCtorEq] at hw
  · exact m'.none.elim⟩
theorem cp_ix [Lay X L tb o k] {root : Nat} {pp : Ps} {mi : M} (ha : PPs X L tb o root a pp) (hi : PMs X L tb o root b mi) (hs : PlainIx b := by intro _ _; rfl) : PPs X L tb o root (.Subscript a b pos) (.ix pp mi) :=
  ⟨fun W tk => PEimp (pe_ix (IxR.or ix_list (IxR.or ix_tup (IxR.or (ix_dict (hu_of (Lay.room (X := X) (L := L) (tb := tb) (o := o) (k := k)))) (ix_dictN (L := L) (units65 (Lay.room (X := X) (L := L) (tb := tb) (o := o) (k := k))) (Lay.K (X := X) (L := L) (tb := tb) (o := o) (k := k)) (Lay.wd (X := X) (L := L) (tb := tb) (o := o) (k := k)))))) (ha.run W tk) (hi.run W tk) hs) fun σ H Q h => by
  have hK := Lay.K (X := X) (L := L) (tb := tb) (o := o) (k := k)
  obtain ⟨γ, G, g, P, e, vr, d, gp, st, hv, m, kk⟩ := h
  simp only [evPs, bnd_assoc] at m
  refine ⟨γ, G, _, P, e, vr, d, gp, st, hv, m, fun vc H1 acs e1 m1 => ?_⟩
  refine ⟨γ, G, _, _, e1, vr, d, gp, st.spl stb_foc, hv, fun Z H S ⟨Sa, Sb, a1, a2, aj, q1, q2⟩ => rep_mono a2 q2.whole, m1, fun v H' y e' m' => ?_⟩
  split at m'
  · rename_i hw
    simp only [bnd_val] at m'
    obtain ⟨Z, S1, S2, k1, dj, re, ⟨Sab, Sc, b1, b2, bj, ⟨Sa, Sb, a1, a2, aj, q1, dc, back, T1, T2, h1, h2, tj, F, hbk, hwk, hm⟩, q3⟩, r', h', g'⟩ := id m'
    rw [hwk, Option.isSome_iff_exists] at hw
    obtain ⟨dd, hw⟩ := hw
    simp only [walkD] at hw
    have go : ∀ {p : Addr} {kd : Kd} {ow : Bool} {xs : List D} {vs : List V} {j : Nat} {x : D} {w : V}, FocP L tb.attr vr d (acs ++ [.ix y]) w Z H' Sb → Q w H' := fun fp =>
      kk _ H' _ e' ⟨Z, S1, S2, k1, dj, re, ⟨Sa, Sb, fun b z => b1 b (a1 b z), fun b z => b1 b (a2 b z), aj, q1, fp⟩, r', h', g'⟩
    cases dc with
    | nd kd ow xs =>
      have hrep := F.rep
      simp only [Rep] at hrep
      obtain ⟨q, vs, ev, sh, ho, rr⟩ := hrep
      cases qs : stepD tb.attr (.nd kd ow xs) (.ix y) with
      | none => rw [qs] at hw; cases hw
      | some j =>
        rw [qs] at hw
        simp only [Option.bind_some, D.kids] at hw
        cases qx : xs[j]? with
        | none => rw [qx] at hw; cases hw
        | some xx =>
          obtain ⟨w, ew, fp⟩ := foc_kid (acs := acs) (at' := tb.attr) h1 h2 tj F hbk hwk hm ev sh ho rr qs qx
          have fin := go (p := q) (kd := kd) (ow := ow) (xs := xs) (vs := vs) (j := j) (x := xx) fp
          cases kd with
          | lst =>
            cases y <;> simp only [stepD, reduceCtorEq] at qs
            rename_i i
            refine .inl ⟨q, vs, i, w, ev, rep_int q3, .of sh.1, ?_, fin⟩
            unfold atI
            rw [rr.length, qs]
            exact ew
          | tup =>
            cases y <;> simp only [stepD, reduceCtorEq] at qs
            rename_i i
            refine .inr (.inl ⟨q, vs, i, w, ev, rep_int q3, by rw [hK]; exact sh.2.1, ?_, fin⟩)
            unfold atI
            rw [rr.length, qs]
            exact ew
          | dk ks =>
            simp only [stepD] at qs
            cases qk : y.key with
            | none => rw [qk] at qs; cases qs
            | some kk' =>
              rw [qk] at qs
              simp only [Option.bind_some] at qs
              obtain ⟨g0, g1, g2, g3⟩ := sh
              exact .inr (.inr (.inl ⟨q, _, kk', w, ev, g2, key_kV q3 qk, keyIx_look qs g1 ew, fin⟩))
          | dt ks =>
            simp only [stepD] at qs
            cases qk : y.tkey with
            | none => rw [qk] at qs; cases qs
            | some kk' =>
              rw [qk] at qs
              simp only [Option.bind_some] at qs
              obtain ⟨g0, g1, ⟨as, g4, g5, g2⟩, g3⟩ := sh
              obtain ⟨⟨b, eb⟩, kr, kd⟩ := tkey_rep qk q3
              exact .inr (.inr (.inr ⟨q, w, ev, ⟨_, _, _, kk', b, ⟨g0, g1, .inl ⟨as, g4, g5, rfl, g2⟩⟩, eb, kr, kd, (keyIx_look qs g1 ew).symm⟩, fin⟩))
          | _ => simp only [stepD, reduceCtorEq] at qs
    | _ => simp only [stepD, Option.bind_none, reduceCtorEq] at hw
  · exact m'.none.elim⟩
end
end PL

/-! PL.Mut: methods that change a list; isinstance; dicts asked. -/
namespace PL
open PySem L2
section
variable {X : Cx} {L : Lo} {tb : Tab} {o : Orc} {k : Nat} {pos p apos : Pos} {a b c : Expr} {es : List Expr} {ca cb cc : E} {W : WX} {x : Str}
/-- an object at a path's end is changed -/
theorem mut_state {Z S1 S2 T1 T2 U1 U2 : AS} {H : Hp} {σ : St} {e : Env} {root : Nat} {vr : V} {l : Addr} {dc dc' : D} {back : D → D} {ob : HO} (k : Ok Z (OrS S1 S2) H) (dj : ∀ b, S1 b → ¬ S2 b) (re : RepE L Z H σ e S1) (hv : σ[root]? = some (some vr))
    (F : Foc L Z H (.ref l) dc T1 T2 vr back) (t1 : ∀ b, T1 b → S2 b) (t2 : ∀ b, T2 b → S2 b) (tj : ∀ b, T1 b → ¬ T2 b) (hl : T1 l) (mu : Mut (some ob)) (new : Rep L Z (upd H l ob) (.ref l) dc' U1) (u1 : ∀ b, U1 b → S2 b) (u1t : ∀ b, U1 b → ¬ T2 b) (u2 : ∀ b, U2 b → S2 b) (uj : ∀ b, U1 b → ¬ U2 b) (u2t : ∀ b, U2 b → ¬ T2 b) :
    Step Z (OrS S1 S2) H Z (OrS (OrS S1 (OrS U1 T2)) U2) (upd H l ob) ∧ Ok Z (OrS (OrS S1 (OrS U1 T2)) U2) (upd H l ob) ∧ (∀ b, OrS S1 (OrS U1 T2) b → ¬ U2 b) ∧ RepE L Z (upd H l ob) σ (e.set root (some (back dc'))) (OrS S1 (OrS U1 T2)) := by
  have fr : Fr (fun b => b = l) H (upd H l ob) := fun b o e n => by rw [upd_ne n]; exact e
  have ow : OwnW (fun b => b = l) H := fun b o e n => by
    have := k.own l (.inr (t1 l hl))
    rw [n] at e
    rw [e] at this
    exact this
  have nl : ∀ b, S1 b → b ≠ l := fun b z y => by subst y; exact dj b z (t1 b hl)
  have zl : ∀ b, Z b → b ≠ l := fun b z y => by subst y; exact k.dj b (.inr (t1 b hl)) z
  have sub : ∀ b, OrS (OrS S1 (OrS U1 T2)) U2 b → OrS S1 S2 b := fun b z => by
    rcases z with (z | z | z) | z
    · exact .inl z
    · exact .inr (u1 b z)
    · exact .inr (t2 b z)
    · exact .inr (u2 b z)
  refine ⟨⟨fun _ z => z, fun _ z => .inl z, fun b z => .inl (sub b z), fun b ob' e n => fr b ob' e fun y => n (by rw [y]; exact .inr (t1 l hl)), fun b => upd_nn⟩, ⟨fun b z => k.dj b (sub b z), fun b z => ?_, fun b z y => k.zd b z (upd_nn y)⟩, fun b z y => ?_, ?_⟩
  · by_cases c : b = l
    · subst c; rw [upd_same]; exact mu
    · rw [upd_ne c]; exact k.own b (sub b z)
  · rcases z with z | z | z
    · exact dj b z (u2 b y)
    · exact uj b z y
    · exact u2t b y z
  · have re1 : RepE L Z (upd H l ob) σ e S1 := by
      obtain ⟨Fm, f1, f2, f3⟩ := re.ex
      refine ⟨re.len, Fm, f1, f2, fun i d hd => ?_⟩
      obtain ⟨v, ev, r⟩ := f3 i d hd
      exact ⟨v, ev, rep_frW fr ow (fun b z => zl b z) (fun _ z => z) (fun b z => nl b (f1 i b z)) r⟩
    refine (re1.forget root).put hv (F.put (U := fun b => b = l) (S1' := U1) (S' := OrS U1 T2) fr ow (fun b z => zl b z) (fun _ z => z) (fun b z y => by subst y; exact tj b hl z) (fun b z => .inl z) (fun b z => .inr z) u1t new) (fun b z => .inr z) (fun b z => .inl z) fun b z y => ?_
    rcases z with z | z
    · exact dj b y (u1 b z)
    · exact dj b y (t2 b z)
/-- a list's children in the heap behind a change of the list itself -/
theorem kids_upd {Z S : AS} {H : Hp} {l : Addr} {ob : HO} {vs : List V} {xs : List D} (k : ∀ b, S b → Mut (H b)) (ml : Mut (H l)) (zl : ∀ b, Z b → b ≠ l) (sl : ∀ b, S b → b ≠ l) (h : Reps L Z H vs xs S) : Reps L Z (upd H l ob) vs xs S :=
  reps_frW (U := fun b => b = l) (fun b o e n => by rw [upd_ne n]; exact e) (fun b o e n => by rw [n] at e; rw [e] at ml; exact ml) (fun b z => zl b z) (fun _ z => z) (fun b z => sl b z) h
theorem kid_upd {Z S : AS} {H : Hp} {l : Addr} {ob : HO} {v : V} {x : D} (ml : Mut (H l)) (zl : ∀ b, Z b → b ≠ l) (sl : ∀ b, S b → b ≠ l) (h : Rep L Z H v x S) : Rep L Z (upd H l ob) v x S :=
  rep_frW (U := fun b => b = l) (fun b o e n => by rw [upd_ne n]; exact e) (fun b o e n => by rw [n] at e; rw [e] at ml; exact ml) (fun b z => zl b z) (fun _ z => z) (fun b z => sl b z) h
/-- a path's end is a list of ours -/
theorem foc_list {at' : Nat → Str → Bool} {vr vc : V} {d : D} {acs : List Acc} {Z S : AS} {H : Hp} {xs : List D} (h : FocP L at' vr d acs vc Z H S) (hw : walkD at' acs d = some (.nd .lst true xs)) :
    ∃ (l : Addr) (vs : List V) (back : D → D) (S1 S2 : AS), vc = .ref l ∧ H l = some (.lst vs) ∧ (∀ b, S1 b → S b) ∧ (∀ b, S2 b → S b) ∧ (∀ b, S1 b → ¬ S2 b) ∧ S1 l ∧ Foc L Z H (.ref l) (.nd .lst true xs) S1 S2 vr back ∧ Reps L Z H vs xs (fun b => S1 b ∧ b ≠ l) ∧
      (∀ (α : Type) (f : D → Option (α × D)), modD at' f acs d = (f (.nd .lst true xs)).map fun (r, x) => (r, back x)) := by
  obtain ⟨dc, back, S1, S2, h1, h2, dj, F, hb, hwk, hm⟩ := h
  have e : dc = .nd .lst true xs := by
    have := hwk []
    rw [List.append_nil, hw] at this
    exact (Option.some.inj this).symm
  subst e
  obtain ⟨l, vs, ev, hl, ho, rr⟩ := shape_lst F.rep
  subst ev
  exact ⟨l, vs, back, S1, S2, rfl, hl, h1, h2, dj, ho rfl, F, reps_mono (fun b z => ⟨z.1, z.2 rfl⟩) rr, fun α f => by
    have := hm α f []
    rw [List.append_nil] at this
    exact this⟩
theorem mu_start {root : Nat} {pp : Ps} {ms : Ms} {bm : Mu} {σ : St} {H : Hp} {Q : VK} {Qc : VK} (h : tG L W (Rep L) (evE tb o (.mu bm root pp ms)) σ H Q)
    (k : ∀ (vr vc : V) (d : D) (acs : List Acc) (H1 : Hp) (e1 : Env) (xs : List D), σ[root]? = some (some vr) → walkD tb.attr acs d = some (.nd .lst true xs) →
      MidH L σ H1 e1 (Spl (fun Z H S => Reps L Z H [] [] S) (FocP L tb.attr vr d acs vc)) (GE L W σ (Rep L) Q) (bnd (evMs tb o ms d root e1) fun ds e => match modD tb.attr (fun x => muD bm x ds) acs d with
        | none => none
        | some (r, d') => some (.val r (e.set root (some d')))) → Qc vc H1) : tPth L W tb o root pp σ H Qc := by
  obtain ⟨e, m⟩ := h.mid
  simp only [evE] at m
  cases q : e.at root with
  | none => rw [q] at m; exact m.none.elim
  | some d =>
    rw [q] at m
    obtain ⟨vr, hv, m1⟩ := (Mid.toH m).aside gp_e q
    refine ⟨_, _, _, _, _, vr, d, gp_e, stb_reps, hv, m1, fun vc H' acs e' m' => ?_⟩
    cases qw : walkD tb.attr acs d with
    | none => rw [qw] at m'; exact m'.none.elim
    | some dw =>
      rw [qw] at m'
      cases dw with
      | nd kd ow xs =>
        cases kd with
        | lst =>
          cases ow with
          | true => exact k vr vc d acs H' e' xs hv qw m'
          | false => exact m'.none.elim
        | _ => exact m'.none.elim
      | _ => exact m'.none.elim
theorem ty_list {K : PySem.W.Frag} {H : Hp} {l : Addr} {vs : List V} (h : H l = some (.lst vs)) : tyV K "list" (.ref l) H := Or.inl ⟨rfl, _, SqL.of h⟩
theorem ce_append [Lay X L tb o k] {root : Nat} {pp : Ps} {m1 : M} (hp : PPs X L tb o root a pp) (ha : PMs X L tb o root b m1)
    (hbase : attributeBase a "append" X.env (eval a X.env) = eval a X.env := by rfl)
    (hfew : ((backTo pos (starEach [b] X.env)).all (fun x => !x.1) && (backToKw pos (keywordEach [] X.env)).all (fun x => x.1.isSome)
      && decide ([b].length + ([] : List Keyword).length + (if ([] : List Keyword).isEmpty then 0 else 1) < 30)) = true := by rfl)
    (hline : (apos.endLine == pos.line) = true := by rfl) (hs : starEach [b] X.env = (false, eval b X.env) :: starEach [] X.env := by rfl) (hplain : (backTo pos (starEach [] X.env)).any (·.1) = false := by rfl) :
    PEs X L tb o (.Call (.Attribute a "append" apos) [b] [] pos) (.mu .append root pp (.c m1 .n)) :=
  ⟨fun W tk => PEimp (pe_bm PySem.F.plainAttrs_list PySem.F.slot_list_append PySem.F.type_list_append mt_append (hp.run W tk) (pa_cons (ha.run W tk) pa_nil hs) hbase hfew hline hs hplain) fun σ H Q h => by
    refine mu_start h fun vr vc d acs H1 e1 xs hv hw m => ?_
    obtain ⟨Z, S1, S2, k1, dj, re, ⟨Sa, Sb, a1, a2, aj, q1, q2⟩, r', h', g⟩ := id m
    obtain ⟨l, vs, back, T1, T2, ev, hl, _⟩ := foc_list q2 hw
    subst ev
    refine ⟨ty_list hl, ?_⟩
    simp only [evMs, bnd_assoc, bnd_val] at m
    refine ⟨_, _, _, _, e1, vr, d, gp_e, stb_reps.spl stb_foc, hv, fun Z H S ⟨Sa, Sb, a1, a2, aj, q1, q2⟩ => rep_mono a2 q2.whole, m, fun v H2 y e2 m2 => ?_⟩
    obtain ⟨Z, S1, S2, k1, dj, re, ⟨Sab, Sc, b1, b2, bj, ⟨Sa, Sb, a1, a2, aj, q1, q2⟩, q3⟩, r', h', g⟩ := m2
    obtain ⟨l', vs, back, T1, T2, ev, hl, t1, t2, tj, hT, F, rr, hm⟩ := foc_list q2 hw
    cases ev
    rw [hm] at h'
    simp only [muD] at h'
    split at h'
    · cases h'
    · rename_i rr0 dd heq
      split at heq
      · rename_i hsz
        simp only [Option.map_some, Option.some.injEq, Prod.mk.injEq] at heq
        obtain ⟨e3, e4⟩ := heq
        cases h'
        subst e3 e4
        refine ⟨l, vs, v, rfl, rfl, hl, by rw [rr.length]; exact hsz, ?_⟩
        have ml : Mut (H2 l) := k1.own l (.inr (b1 l (a2 l (t1 l hT))))
        have zl : ∀ b, Z b → b ≠ l := fun b z y => by subst y; exact k1.dj b (.inr (b1 b (a2 b (t1 b hT)))) z
        have cl : ∀ b, Sc b → b ≠ l := fun b z y => by subst y; exact bj b (a2 b (t1 b hT)) z
        have new : Rep L Z (upd H2 l (.lst (vs ++ [v]))) (.ref l) (.nd .lst true (xs ++ [y])) (OrS T1 Sc) := by
          simp only [Rep]
          refine ⟨l, vs ++ [v], rfl, ⟨upd_same, fun z => by cases z⟩, fun _ => .inl hT, ?_⟩
          exact reps_append (S1 := fun b => T1 b ∧ b ≠ l) (S2 := Sc) (fun b z => ⟨.inl z.1, fun _ => z.2⟩) (fun b z => ⟨.inr z, fun _ => cl b z⟩) (fun b z y => bj b (a2 b (t1 b z.1)) y)
            (kids_upd (fun b z => k1.own b (.inr (b1 b (a2 b (t1 b z.1))))) ml zl (fun b z => z.2) rr) (reps_cons (S1 := Sc) (S2 := NoAS) (fun _ z => z) (fun _ z => z.elim) (fun _ _ z => z) (kid_upd ml zl cl q3) reps_nil)
        obtain ⟨st, ok, dd, re2⟩ := mut_state (ob := .lst (vs ++ [v])) (U2 := NoAS) k1 dj re hv F (fun b z => b1 b (a2 b (t1 b z))) (fun b z => b1 b (a2 b (t2 b z))) tj hT (by exact trivial) new (fun b z => z.elim (fun z => b1 b (a2 b (t1 b z))) (b2 b)) (fun b z y => z.elim (fun z => tj b z y) (fun z => bj b (a2 b (t2 b y)) z)) (fun _ z => z.elim) (fun _ _ z => z) (fun _ z => z.elim)
        exact g .non _ Z _ NoAS st ok dd re2 (by simp only [Rep])
      · cases heq⟩
theorem ce_reverse [Lay X L tb o k] {root : Nat} {pp : Ps} (hp : PPs X L tb o root a pp)
    (hbase : attributeBase a "reverse" X.env (eval a X.env) = eval a X.env := by rfl) (hline : (apos.endLine == pos.line) = true := by rfl) :
    PEs X L tb o (.Call (.Attribute a "reverse" apos) [] [] pos) (.mu .reverse root pp .n) :=
  ⟨fun W tk => PEimp (pe_bm0 PySem.F.plainAttrs_list PySem.F.slot_list_reverse PySem.F.type_list_reverse mt_reverse (hp.run W tk) hbase hline) fun σ H Q h => by
    refine mu_start h fun vr vc d acs H1 e1 xs hv hw m => ?_
    simp only [evMs, bnd_val] at m
    obtain ⟨Z, S1, S2, k1, dj, re, ⟨Sa, Sb, a1, a2, aj, q1, q2⟩, r', h', g⟩ := m
    obtain ⟨l, vs, back, T1, T2, ev, hl, t1, t2, tj, hT, F, rr, hm⟩ := foc_list q2 hw
    subst ev
    refine ⟨ty_list hl, l, vs, rfl, rfl, hl, ?_⟩
    rw [hm] at h'
    simp only [muD, Option.map_some] at h'
    cases h'
    have ml : Mut (H1 l) := k1.own l (.inr (a2 l (t1 l hT)))
    have zl : ∀ b, Z b → b ≠ l := fun b z y => by subst y; exact k1.dj b (.inr (a2 b (t1 b hT))) z
    have new : Rep L Z (upd H1 l (.lst vs.reverse)) (.ref l) (.nd .lst true xs.reverse) T1 := by
      simp only [Rep]
      refine ⟨l, vs.reverse, rfl, ⟨upd_same, fun z => by cases z⟩, fun _ => hT, ?_⟩
      exact reps_mono (fun b z => ⟨z.1, fun _ => z.2⟩) (reps_reverse (kids_upd (fun b z => k1.own b (.inr (a2 b (t1 b z.1)))) ml zl (fun b z => z.2) rr))
    obtain ⟨st, ok, dd, re2⟩ := mut_state (ob := .lst vs.reverse) (U2 := NoAS) k1 dj re hv F (fun b z => a2 b (t1 b z)) (fun b z => a2 b (t2 b z)) tj hT (by exact trivial) new (fun b z => a2 b (t1 b z)) tj (fun _ z => z.elim) (fun _ _ z => z) (fun _ z => z.elim)
    exact g .non _ Z _ NoAS st ok dd re2 (by simp only [Rep])⟩
theorem ce_clear [Lay X L tb o k] {root : Nat} {pp : Ps} (hp : PPs X L tb o root a pp)
    (hbase : attributeBase a "clear" X.env (eval a X.env) = eval a X.env := by rfl) (hline : (apos.endLine == pos.line) = true := by rfl) :
    PEs X L tb o (.Call (.Attribute a "clear" apos) [] [] pos) (.mu .clear root pp .n) :=
  ⟨fun W tk => PEimp (pe_bm0 PySem.F.plainAttrs_list PySem.F.slot_list_clear PySem.F.type_list_clear mt_clear (hp.run W tk) hbase hline) fun σ H Q h => by
    refine mu_start h fun vr vc d acs H1 e1 xs hv hw m => ?_
    simp only [evMs, bnd_val] at m
    obtain ⟨Z, S1, S2, k1, dj, re, ⟨Sa, Sb, a1, a2, aj, q1, q2⟩, r', h', g⟩ := m
    obtain ⟨l, vs, back, T1, T2, ev, hl, t1, t2, tj, hT, F, rr, hm⟩ := foc_list q2 hw
    subst ev
    refine ⟨ty_list hl, l, vs, rfl, rfl, hl, ?_⟩
    rw [hm] at h'
    simp only [muD, Option.map_some] at h'
    cases h'
    have new : Rep L Z (upd H1 l (.lst [])) (.ref l) (.nd .lst true []) T1 := by
      simp only [Rep]
      exact ⟨l, [], rfl, ⟨upd_same, fun z => by cases z⟩, fun _ => hT, reps_nil⟩
    obtain ⟨st, ok, dd, re2⟩ := mut_state (ob := .lst []) (U2 := NoAS) k1 dj re hv F (fun b z => a2 b (t1 b z)) (fun b z => a2 b (t2 b z)) tj hT (by exact trivial) new (fun b z => a2 b (t1 b z)) tj (fun _ z => z.elim) (fun _ _ z => z) (fun _ z => z.elim)
    exact g .non _ Z _ NoAS st ok dd re2 (by simp only [Rep])⟩
theorem ce_pop [Lay X L tb o k] {root : Nat} {pp : Ps} (hp : PPs X L tb o root a pp)
    (hbase : attributeBase a "pop" X.env (eval a X.env) = eval a X.env := by rfl) (hline : (apos.endLine == pos.line) = true := by rfl) :
    PEs X L tb o (.Call (.Attribute a "pop" apos) [] [] pos) (.mu .pop root pp .n) :=
  ⟨fun W tk => PEimp (pe_bm0 PySem.F.plainAttrs_list PySem.F.slot_list_pop PySem.F.type_list_pop mt_pop (hp.run W tk) hbase hline) fun σ H Q h => by
    refine mu_start h fun vr vc d acs H1 e1 xs hv hw m => ?_
    simp only [evMs, bnd_val] at m
    obtain ⟨Z, S1, S2, k1, dj, re, ⟨Sa, Sb, a1, a2, aj, q1, q2⟩, r', h', g⟩ := m
    obtain ⟨l, vs, back, T1, T2, ev, hl, t1, t2, tj, hT, F, rr, hm⟩ := foc_list q2 hw
    subst ev
    rw [hm] at h'
    simp only [muD] at h'
    cases qy : xs[xs.length - 1]? with
    | none => rw [qy] at h'; cases h'
    | some y =>
      rw [qy] at h'
      simp only [Option.map_some] at h'
      cases h'
      have ml : Mut (H1 l) := k1.own l (.inr (a2 l (t1 l hT)))
      have zl : ∀ b, Z b → b ≠ l := fun b z y => by subst y; exact k1.dj b (.inr (a2 b (t1 b hT))) z
      -- the list is what was ahead, and the last one
      have split : xs = xs.dropLast ++ [y] := by
        have hne : xs ≠ [] := fun z => by rw [z] at qy; simp at qy
        have := List.dropLast_concat_getLast hne
        rw [List.getLast_eq_getElem hne] at this
        have hy : xs[xs.length - 1]'(by have := List.length_pos_iff.mpr hne; omega) = y := by
          rw [List.getElem?_eq_getElem (by have := List.length_pos_iff.mpr hne; omega)] at qy
          exact Option.some.inj qy
        rw [hy] at this
        exact this.symm
      have rr' := rr
      rw [split] at rr'
      obtain ⟨us, ws, V1, V2, ee, v1, v2, vj, r1, r2⟩ := reps_split rr'
      obtain ⟨w, ew, rw'⟩ := reps1 r2
      subst ew
      have hlast : vs.dropLast = us := by rw [ee]; simp
      have hget : vs[vs.length - 1]? = some w := by rw [ee]; simp
      refine ⟨ty_list hl, l, vs, w, rfl, rfl, hl, hget, ?_⟩
      rw [hlast]
      have sl : ∀ b, V2 b → b ≠ l := fun b z => (v2 b z).2
      have new : Rep L Z (upd H1 l (.lst us)) (.ref l) (.nd .lst true xs.dropLast) (fun b => V1 b ∨ b = l) := by
        simp only [Rep]
        refine ⟨l, us, rfl, ⟨upd_same, fun z => by cases z⟩, fun _ => .inr rfl, ?_⟩
        exact reps_mono (fun b z => ⟨.inl z, fun _ => (v1 b z).2⟩) (kids_upd (fun b z => k1.own b (.inr (a2 b (t1 b (v1 b z).1)))) ml zl (fun b z => (v1 b z).2) r1)
      have u1 : ∀ b, (V1 b ∨ b = l) → T1 b := fun b z => z.elim (fun z => (v1 b z).1) fun z => by rw [z]; exact hT
      obtain ⟨st, ok, dd, re2⟩ := mut_state (ob := .lst us) (U2 := V2) k1 dj re hv F (fun b z => a2 b (t1 b z)) (fun b z => a2 b (t2 b z)) tj hT (by exact trivial) new (fun b z => a2 b (t1 b (u1 b z))) (fun b z => tj b (u1 b z)) (fun b z => a2 b (t1 b (v2 b z).1)) (fun b z y => z.elim (fun z => vj b z y) fun z => (v2 b y).2 z) (fun b z => tj b (v2 b z).1)
      exact g w _ Z _ V2 st ok dd re2 (kid_upd ml zl sl rw')⟩
end
end PL

/-! PL.At: an object that is being made; displays of dicts; isinstance; dicts asked. -/
namespace PL
open PySem L2
/-- p is held, and stands as ob -/
def At (p : Addr) (ob : HO) : AS → Hp → AS → Prop := fun _ H S => S p ∧ H p = some ob
theorem stb_at {p : Addr} {ob : HO} : Stb (At p ob) := ⟨fun f o hz zz hs ⟨h1, h2⟩ => ⟨h1, f p ob h2 (hs p h1)⟩, fun hs ⟨h1, h2⟩ => ⟨hs p h1, h2⟩⟩
section
variable {L : Lo} {W : WX} {σ : St} {γ : Type} {G : AS → AS → Hp → Out γ → Prop} {H : Hp} {e : Env} {P : AS → Hp → AS → Prop}
theorem MidH.newAt {p : Addr} {ob : HO} {r : R γ} (gp : GS G) (st : Stb P) (m : MidH L σ H e P G r) (hp : H p = Option.none) (mu : Mut (some ob)) : MidH L σ (upd H p ob) e (Spl P (At p ob)) G r := by
  obtain ⟨Z, S1, S2, k, dj, re, rs, r', h', g⟩ := m
  have f0 : Fr NoAS H (upd H p ob) := upd_fr hp NoAS
  have np : ∀ b, OrS S1 S2 b → b ≠ p := fun b z y => by subst y; exact k.sd z hp
  have nz : ∀ b, Z b → b ≠ p := fun b z y => by subst y; exact k.zd b z hp
  refine ⟨Z, S1, OrS S2 (fun b => b = p), ⟨fun b hb z => ?_, fun b hb => ?_, fun b z y => k.zd b z (upd_nn y)⟩, fun b z y => y.elim (dj b z) (np b (.inl z)), re.fr f0 (fun _ z => z.elim) (fun _ _ z => z) (fun _ z => z) (fun _ _ z => z),
    ⟨S2, fun b => b = p, fun b z => .inl z, fun b z => .inr z, fun b z y => np b (.inr z) y, st.st f0 (fun _ _ _ z => z.elim) (fun _ _ z => z) (fun _ z => z) (fun _ _ z => z) rs, rfl, upd_same⟩, r', h', gp.step g ⟨fun _ z => z, fun _ z => .inl z, fun b z => ?_, upd_fr hp _, fun b => upd_nn⟩⟩
  · rcases hb with hb | hb | hb
    · exact k.dj b (.inl hb) z
    · exact k.dj b (.inr hb) z
    · exact nz b z hb
  · by_cases c : b = p
    · subst c; rw [upd_same]; exact mu
    · rw [upd_ne c]
      rcases hb with hb | hb | hb
      · exact k.own b (.inl hb)
      · exact k.own b (.inr hb)
      · exact absurd hb c
  · rcases z with z | z | z
    · exact .inl (.inl z)
    · exact .inl (.inr z)
    · exact .inr (by rw [z]; exact hp)
/-- .. it goes on -/
theorem MidH.updAt {p : Addr} {ob ob' : HO} {r : R γ} (gp : GS G) (st : Stb P) (m : MidH L σ H e (Spl P (At p ob)) G r) (mu : Mut (some ob')) : MidH L σ (upd H p ob') e (Spl P (At p ob')) G r := by
  obtain ⟨Z, S1, S2, k, dj, re, ⟨Sa, Sb, h1, h2, aj, q1, q2, q3⟩, r', h', g⟩ := m
  have fr : Fr (fun b => b = p) H (upd H p ob') := fun b o e n => by rw [upd_ne n]; exact e
  have ow : OwnW (fun b => b = p) H := fun b o e n => by
    have := k.own p (.inr (h2 p q2))
    rw [n] at e
    rw [e] at this
    exact this
  have zp : ∀ b, Z b → b ≠ p := fun b z y => by subst y; exact k.dj b (.inr (h2 b q2)) z
  have sp : ∀ b, S1 b → b ≠ p := fun b z y => by subst y; exact dj b z (h2 b q2)
  have re1 : RepE L Z (upd H p ob') σ e S1 := by
    obtain ⟨Fm, f1, f2, f3⟩ := re.ex
    refine ⟨re.len, Fm, f1, f2, fun i d hd => ?_⟩
    obtain ⟨v, ev, r⟩ := f3 i d hd
    exact ⟨v, ev, rep_frW fr ow (fun b z => zp b z) (fun _ z => z) (fun b z => sp b (f1 i b z)) r⟩
  refine ⟨Z, S1, S2, ⟨k.dj, fun b hb => ?_, fun b z y => k.zd b z (upd_nn y)⟩, dj, re1, ⟨Sa, Sb, h1, h2, aj, st.st fr ow (fun b z => zp b z) (fun _ z => z) (fun b z y => by subst y; exact aj b z q2) q1, q2, upd_same⟩, r', h', gp.step g ⟨fun _ z => z, fun _ z => .inl z, fun _ z => .inl z, fun b o e n => ?_, fun b => upd_nn⟩⟩
  · by_cases c : b = p
    · subst c; rw [upd_same]; exact mu
    · rw [upd_ne c]; exact k.own b hb
  · exact fr b o e fun y => n (by rw [y]; exact .inr (h2 p q2))
end
section
variable {X : Cx} {L : Lo} {tb : Tab} {o : Orc} {k : Nat} {pos p apos : Pos} {a b c : Expr} {es : List Expr} {ca cb cc : E} {W : WX} {x : Str}
theorem ce_dnew : PEs X L tb o (.Dict [] [] pos) .dnew := ⟨fun W tk => PEimp pe_dnewK fun σ H Q h => by
  obtain ⟨e, m⟩ := h.mid
  simp only [evE] at m
  intro p hp
  refine m.new hp trivial fun Z S k r np => ?_
  simp only [Rep]
  exact ⟨p, [], rfl, ⟨List.nodup_nil, rfl, upd_same, fun z => by cases z⟩, fun _ => .inr rfl, reps_nil⟩⟩
theorem ce_ddisp (ha : PEs X L tb o a ca) (hb : PEs X L tb o b cb) : PEs X L tb o (.Dict [some a] [b] pos) (.ddisp ca cb) :=
  ⟨fun W tk => PEimp (pe_disp (L2.pps_cons (ha.run W tk) (hb.run W tk) L2.pps_nil) rfl rfl (fun z => by cases z) (Nat.le_of_ble_eq_true rfl)) fun σ H Q h => by
    obtain ⟨e, m⟩ := h.mid
    simp only [evE] at m
    intro p hp
    have m1 := (Mid.toH m).newAt gs_e stb_reps hp (ob := .dK []) trivial
    show tG L W (Rep L) (evE tb o ca) σ _ _
    refine (m1.bind (rep := Rep L) gp_e (stb_reps.spl stb_at)).imp fun x H1 ⟨d1, e1, m2⟩ => ?_
    refine (m2.bind (rep := Rep L) gp_e ((stb_reps.spl stb_at).spl stb_rep)).imp fun y H2 ⟨d2, e2, m3⟩ => ?_
    show H2 p = _ ∧ _
    obtain ⟨Z, S1, S2, k1, dj, re, ⟨Sx, Sy, g1, g2, gj, ⟨Sw, Sk, b1, b2, bj, ⟨Sa, Sb, a1, a2, aj, q1, q2⟩, q3⟩, q4⟩, r', h', g⟩ := m3
    refine ⟨q2.2, ?_⟩
    cases qk : d1.key with
    | none => rw [qk] at h'; cases h'
    | some kk =>
      rw [qk] at h'
      cases h'
      refine ⟨[(kk, y)], ?_, Nat.le_of_ble_eq_true rfl, ?_⟩
      · rw [key_kV q3 qk]; rfl
      · have zp : ∀ b, Z b → b ≠ p := fun b z y => by subst y; exact k1.dj b (.inr (g1 b (b1 b (a2 b q2.1)))) z
        have sp : ∀ b, S1 b → b ≠ p := fun b z y => by subst y; exact dj b z (g1 b (b1 b (a2 b q2.1)))
        have yp : ∀ b, Sy b → b ≠ p := fun b z y => by subst y; exact gj b (b1 b (a2 b q2.1)) z
        have ml : Mut (H2 p) := by rw [q2.2]; exact trivial
        have re1 : RepE L Z (upd H2 p (.dK (mergeK [] [(kk, y)]))) σ e2 S1 := by
          obtain ⟨Fm, f1, f2, f3⟩ := re.ex
          refine ⟨re.len, Fm, f1, f2, fun i d hd => ?_⟩
          obtain ⟨v, ev, r⟩ := f3 i d hd
          exact ⟨v, ev, kid_upd ml zp (fun b z => sp b (f1 i b z)) r⟩
        have sub : ∀ b, OrS S1 (fun b => Sy b ∨ b = p) b → OrS S1 S2 b := fun b z => z.elim .inl fun z => .inr (z.elim (g2 b) fun z => by rw [z]; exact g1 p (b1 p (a2 p q2.1)))
        refine g (.ref p) _ Z S1 (fun b => Sy b ∨ b = p) ⟨fun _ z => z, fun _ z => .inl z, fun b z => .inl (sub b z), fun b ob e n => ?_, fun b => upd_nn⟩ ⟨fun b z => k1.dj b (sub b z), fun b z => ?_, fun b z y => k1.zd b z (upd_nn y)⟩ (fun b z y => y.elim (fun y => dj b z (g2 b y)) (sp b z)) re1 ?_
        · rw [upd_ne (fun y => n (by rw [y]; exact .inr (g1 p (b1 p (a2 p q2.1)))))]; exact e
        · by_cases c : b = p
          · subst c; rw [upd_same]; exact trivial
          · rw [upd_ne c]; exact k1.own b (sub b z)
        · simp only [Rep]
          refine ⟨p, [y], rfl, ⟨by simp, rfl, by rw [upd_same]; rfl, fun z => by cases z⟩, fun _ => .inr rfl, ?_⟩
          exact reps_cons (S1 := Sy) (S2 := NoAS) (fun b z => ⟨.inl z, fun _ => yp b z⟩) (fun _ z => z.elim) (fun _ _ z => z) (kid_upd ml zp yp q4) reps_nil⟩

/-! ### isinstance -/
def tyS : Ty → String
  | .int => "int" | .bool => "bool" | .str => "str" | .tuple => "tuple" | .list => "list" | .dict => "dict" | .none => "NoneType" | .cls _ => "type"
theorem kit_isT {K : PySem.W.Frag} : ∀ {t u : Ty} {b : Bool}, u ≠ .none → (∀ c, t ≠ .cls c) → isT t u = some b → PySem.W.kitOne K (.type (tyS t)) (.type (tyS u)) = some b
  | t, .cls c, b, _, _, h => by cases t <;> simp only [isT, reduceCtorEq] at h
  | t, .none, b, h, _, _ => absurd rfl h
  | .cls c, _, _, _, h, _ => absurd rfl (h c)
  | .int, .int, b, _, _, h | .int, .bool, b, _, _, h | .int, .str, b, _, _, h | .int, .tuple, b, _, _, h | .int, .list, b, _, _, h | .int, .dict, b, _, _, h
  | .bool, .int, b, _, _, h | .bool, .bool, b, _, _, h | .bool, .str, b, _, _, h | .bool, .tuple, b, _, _, h | .bool, .list, b, _, _, h | .bool, .dict, b, _, _, h
  | .str, .int, b, _, _, h | .str, .bool, b, _, _, h | .str, .str, b, _, _, h | .str, .tuple, b, _, _, h | .str, .list, b, _, _, h | .str, .dict, b, _, _, h
  | .tuple, .int, b, _, _, h | .tuple, .bool, b, _, _, h | .tuple, .str, b, _, _, h | .tuple, .tuple, b, _, _, h | .tuple, .list, b, _, _, h | .tuple, .dict, b, _, _, h
  | .list, .int, b, _, _, h | .list, .bool, b, _, _, h | .list, .str, b, _, _, h | .list, .tuple, b, _, _, h | .list, .list, b, _, _, h | .list, .dict, b, _, _, h
  | .dict, .int, b, _, _, h | .dict, .bool, b, _, _, h | .dict, .str, b, _, _, h | .dict, .tuple, b, _, _, h | .dict, .list, b, _, _, h | .dict, .dict, b, _, _, h
  | .none, .int, b, _, _, h | .none, .bool, b, _, _, h | .none, .str, b, _, _, h | .none, .tuple, b, _, _, h | .none, .list, b, _, _, h | .none, .dict, b, _, _, h => by
    simp only [isT, Option.some.injEq] at h
    subst h
    exact kit_ty (by decide +kernel)
theorem tyx_of {K : PySem.W.Frag} (hK : K = L.K) {Z S : AS} {H : Hp} {v : V} {d : D} {t : Ty} (e : tyD d = some t) (r : Rep L Z H v d S) : TyX K H v (.type (tyS t)) ∧ ∀ c, t ≠ .cls c := by
  cases d with
  | non => cases e; rw [rep_non r]; exact ⟨.base .non, fun c z => by cases z⟩
  | bl b => cases e; rw [rep_bl r]; exact ⟨.base (.bl b), fun c z => by cases z⟩
  | int i => cases e; rw [rep_int r]; exact ⟨.base (.int i), fun c z => by cases z⟩
  | str i => cases e; rw [rep_str r]; exact ⟨.base (.str i), fun c z => by cases z⟩
  | nd kd ow xs =>
    cases kd with
    | pr => cases e
    | tup =>
      cases e
      obtain ⟨a, vs, rfl, _, h, rr⟩ := shape_tup r
      refine ⟨?_, fun c z => by cases z⟩
      rcases h with (h | ⟨ob, h⟩) | ⟨ob, its, n, h1, h2, _⟩
      · exact .base (.tup h)
      · exact .fTuple h
      · exact .kTuple (by rw [hK]; exact h1) h2
    | lst =>
      cases e
      obtain ⟨a, vs, rfl, h, _, rr⟩ := shape_lst r
      exact ⟨.base (.lst h), fun c z => by cases z⟩
    | cl =>
      cases e
      obtain ⟨a, vs, rfl, h, rr⟩ := shape_cl r
      refine ⟨?_, fun c z => by cases z⟩
      rcases h with ⟨ob, h⟩ | ⟨ob, its, n, h1, h2, _⟩
      · exact .base (.frz h)
      · exact .kList (by rw [hK]; exact h1) h2
    | dk ks =>
      cases e
      obtain ⟨a, vs, rfl, h0, h1, h, _, rr⟩ := shape_dk r
      exact ⟨.base (.dK h), fun c z => by cases z⟩
    | dt ks => simp only [tyD, reduceCtorEq] at e
    | ins c ns => cases e
/-- a built-in class by its name -/
theorem pe_ty [Lay X L tb o k] {u : Ty} {x : Str} {pos : Pos} (hx : x = PySem.Str.ofString (tyS u) := by rfl) (hg : Gl X x) (hb : x ∈ biNames := by decide +kernel) (hv : bootBuiltins x = some (.type (tyS u)) := by decide +kernel) (hn : x ≠ "__name__" := by decide) (hd : (x == ("__debug__" : Str)) = false := by decide) : PE X (.Name x pos) (tC (.ty (tyS u))) :=
  pe_bltn hg (Lay.bi (X := X) (L := L) (tb := tb) (o := o) (k := k) x hb) hv rfl hn hd
theorem isi_mid {σ : St} {H : Hp} {Q : VK} {ts : List Ty} {R : V → Hp → Prop} (hR : ∀ x H d b, isD d ts = some b → (∃ Z S, Rep L Z H x d S) → (∀ e, Mid L W σ H e [x] [d] (Rep L) Q (some (.val (.bl b) e)) → R x H)) (h : tG L W (Rep L) (evE tb o (.isi ca ts)) σ H Q) : tG L W (Rep L) (evE tb o ca) σ H R := by
  obtain ⟨e, m⟩ := h.mid
  simp only [evE] at m
  refine m.one.imp fun x H1 ⟨d, e1, m1⟩ => ?_
  obtain ⟨dd, hd, m2⟩ := m1.opt
  cases q : isD d ts with
  | none => rw [q] at hd; cases hd
  | some b =>
    rw [q] at hd
    cases hd
    obtain ⟨Z, S, k', rs⟩ := m1.reps
    obtain ⟨v', ev, r1⟩ := reps1 rs
    cases ev
    exact hR x H1 d b q ⟨Z, S, r1⟩ e1 m2
theorem ce_isi [Lay X L tb o k] {T : Expr} (u : Ty) (ha : PEs X L tb o a ca) (hT : PE X T (tC (.ty (tyS u)))) (hu : u ≠ .none := by intro z; cases z) (hg : Gl X "isinstance" := by rfl) (hs : starEach [a, T] X.env = (false, eval a X.env) :: starEach [T] X.env := by rfl) (hs2 : starEach [T] X.env = (false, eval T X.env) :: starEach [] X.env := by rfl) :
    PEs X L tb o (.Call (.Name "isinstance" p) [a, T] [] pos) (.isi ca [u]) :=
  ⟨fun W tk => PEimp (pe_callB call_isi hg (Lay.bi (X := X) (L := L) (tb := tb) (o := o) (k := k) _ (by decide +kernel)) (by decide +kernel) (pa_cons (ha.run W tk) (pa_cons hT pa_nil hs2) hs) (he := hs) (hpl := by rw [hs2]; rfl)) fun σ H Q h => by
    have hK := Lay.K (X := X) (L := L) (tb := tb) (o := o) (k := k)
    refine isi_mid (fun x H d b hb ⟨Z, S, r⟩ e m => ?_) h
    unfold isD at hb
    cases qt : tyD d with
    | none => rw [qt] at hb; cases hb
    | some t =>
      rw [qt] at hb
      simp only [Option.bind_some, isTs] at hb
      obtain ⟨ty, nc⟩ := tyx_of hK qt r
      cases qi : isT t u with
      | none => rw [qi] at hb; cases hb
      | some b' =>
        rw [qi] at hb
        simp only [Bool.or_false, Option.some.injEq] at hb
        subst hb
        exact ⟨x, .ty (tyS u), _, _, b', rfl, .ty _, ty, kit_isT hu nc qi, m.fin fun _ _ _ _ => by simp only [Rep]⟩⟩
theorem ce_isi2 [Lay X L tb o k] {T U : Expr} (u w : Ty) {x1 : Nat} {tp : Pos} (ha : PEs X L tb o a ca) (hT : PE X T (tC (.ty (tyS u)))) (hU : PE X U (tC (.ty (tyS w)))) (hu : u ≠ .none := by intro z; cases z) (hw : w ≠ .none := by intro z; cases z) (hg : Gl X "isinstance" := by rfl)
    (hs : starEach [a, .Tuple [T, U] x1 tp] X.env = (false, eval a X.env) :: starEach [.Tuple [T, U] x1 tp] X.env := by rfl) (hs2 : starEach [.Tuple [T, U] x1 tp] X.env = (false, eval (.Tuple [T, U] x1 tp) X.env) :: starEach [] X.env := by rfl) (hs3 : starEach [T, U] X.env = (false, eval T X.env) :: starEach [U] X.env := by rfl) (hs4 : starEach [U] X.env = (false, eval U X.env) :: starEach [] X.env := by rfl) :
    PEs X L tb o (.Call (.Name "isinstance" p) [a, .Tuple [T, U] x1 tp] [] pos) (.isi ca [u, w]) :=
  ⟨fun W tk => PEimp (pe_callB call_isiT hg (Lay.bi (X := X) (L := L) (tb := tb) (o := o) (k := k) _ (by decide +kernel)) (by decide +kernel) (pa_cons (ha.run W tk) (pa_cons (pe_tup (pa_cons hT (pa_cons hU pa_nil hs4) hs3)) pa_nil hs2) hs) (he := hs) (hpl := by rw [hs2]; rfl)) fun σ H Q h => by
    have hK := Lay.K (X := X) (L := L) (tb := tb) (o := o) (k := k)
    refine isi_mid (fun x H d b hb ⟨Z, S, r⟩ e m => ?_) h
    refine ⟨by show 2 ≤ sizeLine; decide, fun q hq => ?_⟩
    have m2 := m.growT (ob := .tup [.ty (tyS u), .ty (tyS w)]) hq
    unfold isD at hb
    cases qt : tyD d with
    | none => rw [qt] at hb; cases hb
    | some t =>
      rw [qt] at hb
      simp only [Option.bind_some, isTs] at hb
      have r2 : Rep L Z (upd H q (.tup [.ty (tyS u), .ty (tyS w)])) x d S := rep_fr (upd_fr hq NoAS) (fun _ z => z.elim) (fun _ _ z => z) (fun _ z => z) (fun _ _ z => z) r
      obtain ⟨ty, nc⟩ := tyx_of hK qt r2
      cases qi : isT t u with
      | none => rw [qi] at hb; cases hb
      | some b1 =>
        cases qj : isT t w with
        | none => rw [qi, qj] at hb; cases hb
        | some b2 =>
          rw [qi, qj] at hb
          simp only [Bool.or_false, Option.some.injEq] at hb
          subst hb
          refine ⟨x, q, [.ty (tyS u), .ty (tyS w)], _, [.type (tyS u), .type (tyS w)], (b1 || b2), rfl, upd_same, .cons (.ty _) (.cons (.ty _) .nil), ty, ?_, m2.fin fun _ _ _ _ => by simp only [Rep]⟩
          refine kitAny_cons (kit_isT hu nc qi) (fun z => ?_) (fun z => by rw [z]; rfl)
          subst z
          refine kitAny_cons (kit_isT hw nc qj) (fun z => ?_) (fun z => by rw [z]; rfl)
          subst z
          exact kitAny_nil⟩

/-! ### d.get -/
theorem dk_mid {Z S : AS} {H : Hp} {v : V} {ks : List Key} {ow : Bool} {xs : List D} (h : Rep L Z H v (.nd (.dk ks) ow xs) S) : ∃ a, v = .ref a ∧ IsD H a := by
  obtain ⟨a, vs, rfl, h0, h1, h2, _, rr⟩ := shape_dk h
  exact ⟨a, rfl, .inl ⟨_, Rd.of h2⟩⟩
theorem look_getD {κ : Type} [DecidableEq κ] {ks : List κ} {xs : List D} {vs : List V} {Z S : AS} {H : Hp} {kk : κ} (hl : ks.length = vs.length) (rr : Reps L Z H vs xs S) {dflt : D} {vd : V} {S2 : AS} (rd : Rep L Z H vd dflt S2) :
    Rep L Z H ((valV (ks.zip vs) kk).getD vd) ((lookD ks xs kk).getD dflt) (OrS S S2) := by
  obtain ⟨i1, i2⟩ := look_zip kk hl rr
  cases q : lookD ks xs kk with
  | none =>
    have := look_none (by rw [hl]; exact rr.length) q
    rw [this] at i1
    cases q2 : valV (ks.zip vs) kk with
    | none => exact rep_mono (fun b z => .inr z) rd
    | some _ => rw [q2] at i1; cases i1
  | some d =>
    obtain ⟨j, v, e1, e2, e3, e4⟩ := i2 d q
    rw [e4]
    obtain ⟨v', e3', rv⟩ := rr.get e2
    rw [e3] at e3'
    cases e3'
    exact rep_mono (fun b z => .inl z) rv
theorem ce_get [Lay X L tb o k] (ha : PEs X L tb o a ca) (hb : PEs X L tb o b cb) (m : M1 X a "get" apos b pos := by exact ⟨rfl, rfl, rfl, rfl⟩) : PEs X L tb o (.Call (.Attribute a "get" apos) [b] [] pos) (.bm .get ca (.c cb .n)) :=
  ⟨fun W tk => PEimp (pe_dget1N (L := L) (units65 (Lay.room (X := X) (L := L) (tb := tb) (o := o) (k := k))) (Lay.K (X := X) (L := L) (tb := tb) (o := o) (k := k)) (Lay.wd (X := X) (L := L) (tb := tb) (o := o) (k := k)) (ha.run W tk) (hb.run W tk) m) fun σ H Q h => by
    obtain ⟨e, m⟩ := h.mid
    simp only [evE, evEs, bnd_assoc, bnd_val] at m
    refine m.one.imp fun x H1 ⟨d, e1, m1⟩ => ?_
    cases qo : okB .get d with
    | false => simp only [qo, Bool.false_eq_true, if_false] at m1; exact m1.none.elim
    | true =>
    simp only [qo, if_true] at m1
    have isdk : (∃ ks ow xs, d = .nd (.dk ks) ow xs) ∨ ∃ ks ow xs, d = .nd (.dt ks) ow xs := by
      cases d with
      | nd kd ow xs => cases kd <;> first | exact .inl ⟨_, _, _, rfl⟩ | exact .inr ⟨_, _, _, rfl⟩ | (simp only [okB, Bool.false_eq_true] at qo)
      | _ => simp only [okB, Bool.false_eq_true] at qo
    rcases isdk with ⟨ks, ow, xs, rfl⟩ | ⟨ks, ow, xs, rfl⟩
    · obtain ⟨Z, S, k', rs⟩ := m1.reps
      obtain ⟨v', ev, r1⟩ := reps1 rs
      cases ev
      obtain ⟨q, rfl, hd⟩ := dk_mid r1
      refine ⟨q, rfl, .inl hd, ?_⟩
      refine m1.one.imp fun y H2 ⟨d2, e2, m2⟩ => ?_
      obtain ⟨dd, hd2, m3⟩ := m2.opt
      obtain ⟨Z, S, k', rs, u⟩ := m3.use
      obtain ⟨S1, S2, h1, h2, dj, r1, r2⟩ := reps2 rs
      simp only [bmD] at hd2
      cases qk : d2.key with
      | none => rw [qk] at hd2; cases hd2
      | some kk =>
        rw [qk] at hd2
        cases hd2
        obtain ⟨q', vs, eq', h0, hl, hq, _, rr⟩ := shape_dk r1
        cases eq'
        refine ⟨valV (ks.zip vs) kk, by rw [key_kV r2 qk]; exact .inl (DGet.k hq), u.fin _ ?_⟩
        exact rep_mono (fun b z => z.elim (fun z => h1 b z.1) fun z => z.elim) (look_getD (dflt := .non) (vd := .non) (S2 := NoAS) hl rr (by simp only [Rep]))
    · obtain ⟨Z, S, k', rs⟩ := m1.reps
      obtain ⟨v', ev, r1⟩ := reps1 rs
      cases ev
      obtain ⟨q, vs0, l0, rfl, hd, _, _⟩ := dl_dt r1
      refine ⟨q, rfl, .inr ⟨_, _, _, hd⟩, ?_⟩
      refine m1.one.imp fun y H2 ⟨d2, e2, m2⟩ => ?_
      obtain ⟨dd, hd2, m3⟩ := m2.opt
      obtain ⟨Z, S, k', rs, u⟩ := m3.use
      obtain ⟨S1, S2, h1, h2, dj, r1, r2⟩ := reps2 rs
      simp only [bmD] at hd2
      cases qk : d2.tkey with
      | none => rw [qk] at hd2; cases hd2
      | some kk =>
        rw [qk] at hd2
        cases hd2
        obtain ⟨q', vs, l, eq', dl, _, rr⟩ := dl_dt r1
        obtain ⟨⟨b, eb⟩, kr, kd⟩ := tkey_rep qk r2
        have hl := dl.2.1
        cases eq'
        refine ⟨valV (ks.zip vs) kk, by exact .inr ⟨_, _, _, kk, b, dl, eb, kr, kd, rfl⟩, u.fin _ ?_⟩
        exact rep_mono (fun b z => z.elim (fun z => h1 b z.1) fun z => z.elim) (look_getD (dflt := .non) (vd := .non) (S2 := NoAS) hl rr (by simp only [Rep]))⟩
theorem ce_get2 [Lay X L tb o k] (ha : PEs X L tb o a ca) (hb : PEs X L tb o b cb) (hc : PEs X L tb o c cc) (m : M2 X a "get" apos b c pos := by exact ⟨rfl, rfl, rfl, rfl⟩) : PEs X L tb o (.Call (.Attribute a "get" apos) [b, c] [] pos) (.bm .get2 ca (.c cb (.c cc .n))) :=
  ⟨fun W tk => PEimp (pe_dget2N (L := L) (units65 (Lay.room (X := X) (L := L) (tb := tb) (o := o) (k := k))) (Lay.K (X := X) (L := L) (tb := tb) (o := o) (k := k)) (Lay.wd (X := X) (L := L) (tb := tb) (o := o) (k := k)) (ha.run W tk) (hb.run W tk) (hc.run W tk) m) fun σ H Q h => by
    obtain ⟨e, m⟩ := h.mid
    simp only [evE, evEs, bnd_assoc, bnd_val] at m
    refine m.one.imp fun x H1 ⟨d, e1, m1⟩ => ?_
    cases qo : okB .get2 d with
    | false => simp only [qo, Bool.false_eq_true, if_false] at m1; exact m1.none.elim
    | true =>
    simp only [qo, if_true] at m1
    have isdk : (∃ ks ow xs, d = .nd (.dk ks) ow xs) ∨ ∃ ks ow xs, d = .nd (.dt ks) ow xs := by
      cases d with
      | nd kd ow xs => cases kd <;> first | exact .inl ⟨_, _, _, rfl⟩ | exact .inr ⟨_, _, _, rfl⟩ | (simp only [okB, Bool.false_eq_true] at qo)
      | _ => simp only [okB, Bool.false_eq_true] at qo
    rcases isdk with ⟨ks, ow, xs, rfl⟩ | ⟨ks, ow, xs, rfl⟩
    · obtain ⟨Z, S, k', rs⟩ := m1.reps
      obtain ⟨v', ev, r1⟩ := reps1 rs
      cases ev
      obtain ⟨q, rfl, hd⟩ := dk_mid r1
      refine ⟨q, rfl, .inl hd, ?_⟩
      refine m1.one.imp fun y H2 ⟨d2, e2, m2⟩ => ?_
      refine m2.one.imp fun z H3 ⟨d3, e3, m3⟩ => ?_
      obtain ⟨dd, hd2, m4⟩ := m3.opt
      obtain ⟨Z, S, k', rs, u⟩ := m4.use
      simp only [List.nil_append, List.cons_append, Reps] at rs
      obtain ⟨v1, ws1, S1, R1, e1', s1, t1, j1, r1, v2, ws2, S2, R2, e2', s2, t2, j2, r2, v3, ws3, S3, R3, e3', s3, t3, j3, r3, e4'⟩ := rs
      cases e1'
      cases e2'
      cases e3'
      simp only [bmD] at hd2
      cases qk : d2.key with
      | none => rw [qk] at hd2; cases hd2
      | some kk =>
        rw [qk] at hd2
        cases hd2
        obtain ⟨q', vs, eq', h0, hl, hq, _, rr⟩ := shape_dk r1
        cases eq'
        refine ⟨valV (ks.zip vs) kk, by rw [key_kV r2 qk]; exact .inl (DGet.k hq), u.fin _ ?_⟩
        exact rep_mono (fun b z => z.elim (fun z => s1 b z.1) fun z => t1 b (t2 b (s3 b z))) (look_getD hl rr r3)
    · obtain ⟨Z, S, k', rs⟩ := m1.reps
      obtain ⟨v', ev, r1⟩ := reps1 rs
      cases ev
      obtain ⟨q, vs0, l0, rfl, hd, _, _⟩ := dl_dt r1
      refine ⟨q, rfl, .inr ⟨_, _, _, hd⟩, ?_⟩
      refine m1.one.imp fun y H2 ⟨d2, e2, m2⟩ => ?_
      refine m2.one.imp fun z H3 ⟨d3, e3, m3⟩ => ?_
      obtain ⟨dd, hd2, m4⟩ := m3.opt
      obtain ⟨Z, S, k', rs, u⟩ := m4.use
      simp only [List.nil_append, List.cons_append, Reps] at rs
      obtain ⟨v1, ws1, S1, R1, e1', s1, t1, j1, r1, v2, ws2, S2, R2, e2', s2, t2, j2, r2, v3, ws3, S3, R3, e3', s3, t3, j3, r3, e4'⟩ := rs
      cases e1'
      cases e2'
      cases e3'
      simp only [bmD] at hd2
      cases qk : d2.tkey with
      | none => rw [qk] at hd2; cases hd2
      | some kk =>
        rw [qk] at hd2
        cases hd2
        obtain ⟨q', vs, l, eq', dl, _, rr⟩ := dl_dt r1
        obtain ⟨⟨b, eb⟩, kr, kd⟩ := tkey_rep qk r2
        have hl := dl.2.1
        cases eq'
        refine ⟨valV (ks.zip vs) kk, by exact .inr ⟨_, _, _, kk, b, dl, eb, kr, kd, rfl⟩, u.fin _ ?_⟩
        exact rep_mono (fun b z => z.elim (fun z => s1 b z.1) fun z => t1 b (t2 b (s3 b z))) (look_getD hl rr r3)⟩
/-! ### constants of the module -/
theorem ce_gl [Lay X L tb o k] {x : Str} {d : D} (hgl : L.glb x = some d := by rfl) (hg : Gl X x := by rfl) (hd : (x == ("__debug__" : Str)) = false := by decide) : PEs X L tb o (.Name x pos) (.gl d) := by
  obtain ⟨u, v, h1, h2, h3⟩ := Lay.glb (X := X) (L := L) (tb := tb) (o := o) (k := k) x d hgl
  exact ⟨fun W tk => PEimp (pe_glob hg h1 h2 hd) fun σ H Q h => const_run (fun e => by rw [evE]) (fun Z H => h3 Z H) h⟩
theorem ix_kd {a : Addr} {es : Array DictEntry} {n : Nat} (hK : KDict X.K X.w a es n) : IxR X (fun x y H Q => ∃ (z : Str) (u0 : Value) (v0 : V), x = .ref a ∧ y = .str z ∧ PySem.W.nsIn X.K a z = some (some u0) ∧ RelV v0 u0 ∧ Q v0 H) := by
  intro value slice pins s σ H x y v u Q I rx ry h hs
  obtain ⟨z, u0, v0, rfl, rfl, e, r, q⟩ := h
  cases rx
  obtain ⟨t, rfl⟩ := ry
  exact PyProof.Rows.subscriptTail_builtinR (x := u0) (kd_type hK I) PySem.F.slot_dict_getitem.lookup
    (wpAny_getItem_of (Q := fun r s' => r = u0 ∧ EP X pins σ Q r s') (PySem.strKind_is X.prog X.w z t) (PySem.W.mapOf_K (prog := X.prog) I.kIn hK.at_ hK.lit) (PySem.W.find_K hK.at_ e) ⟨rfl, ⟨v0, H, I.tok _, r, q⟩⟩) hs
theorem ce_gsub [Lay X L tb o k] {x : Str} {ks : List Key} {xs : List D} {p2 : Pos} (hgl : L.gdc x = some (ks, xs)) (hb : PEs X L tb o b cb) (hs : PlainIx b := by intro _ _; rfl) (hg : Gl X x := by rfl) (hd : (x == ("__debug__" : Str)) = false := by decide) : PEs X L tb o (.Subscript (.Name x p2) b pos) (.gsub ks xs cb) := by
  obtain ⟨a, es, n, h1, h2, h3⟩ := Lay.gdc (X := X) (L := L) (tb := tb) (o := o) (k := k) x ks xs hgl
  have h2' : KDict X.K X.w a es n := h2
  refine ⟨fun W tk => PEimp (pe_ix (ix_kd h2') (pe_glob (v := .ref a) hg h1 rfl hd) (hb.run W tk) hs) fun σ H Q h => ?_⟩
  obtain ⟨e, m⟩ := h.mid
  simp only [evE] at m
  show tG L W (Rep L) (evE tb o cb) σ H fun y H2 => _
  refine m.one.imp fun v H1 ⟨d, e1, m1⟩ => ?_
  cases d with
  | str z =>
    dsimp only at m1
    obtain ⟨dd, hd', m2⟩ := m1.opt
    obtain ⟨Z, S, r1, u⟩ := use1 m2
    obtain ⟨u0, v0, g1, g2, g3⟩ := h3 z dd hd'
    exact ⟨z, u0, v0, rfl, rep_str r1, g1, g2, u.fin _ (rep_mono (fun _ z => z.elim) (g3 Z H1))⟩
  | _ => exact m1.none.elim
/-! ### t.count(i) -/
def rCntT (K : PySem.W.Frag) : V → List V → Hp → VK → Prop := fun x xs H Q => ∃ (p : Addr) (ns : List Int) (i : Int), x = .ref p ∧ xs = [.int i] ∧ SqT K H p (ns.map V.int) ∧ Q (.int (ns.count i : Nat)) H
theorem mt_tcount : MtR X "tuple.count" (rCntT X.K) := by
  intro pins s σ H x xs v us Q I rx rxs hyp
  obtain ⟨p, ns, i, rfl, rfl, sq, q⟩ := hyp
  cases rx
  obtain ⟨u, rfl, t, rfl⟩ := rxs.one
  obtain ⟨its, vl, ⟨⟨cls, dd, data, sl⟩, ho, hc, n, hd⟩, _⟩ := I.tuple sq
  simp only at hc hd
  subst hc hd
  have ia := ints_of_vals vl
  refine call_meets PySem.F.slot_tuple_count ⟨_, ho, rfl⟩ PySem.F.entry_tuple_count (PySem.F.args_tuple_count_2 _ _) (SeqAt.tuple_countAt p its.toArray n dd sl (.int i t) (eqk i)) ⟨ho, fun y hy => (eqk_gives ia y (by simpa using hy)).at _ _, ?_⟩
  have ec : its.toArray.toList.countP (eqk i) = ns.count i := eqk_count ia
  rw [ec]
  exact ⟨.int (ns.count i : Nat), H, I.tok _, ⟨_, rfl⟩, q⟩
/-- the receiver is a tuple without a dict of its own -/
def tBMT (K : PySem.W.Frag) (r : V → List V → Hp → VK → Prop) (to : TE) (t : TA) : TE := fun σ H Q => to σ H fun x H1 => (∃ p vs, x = .ref p ∧ SqU K H1 p vs) ∧ t σ H1 fun xs H2 => r x xs H2 Q
theorem pe_bmT {X : Cx} {a : Expr} {to : TE} {t : TA} {apos cpos : Pos} {nm : Str} {id : String} {r : V → List V → Hp → VK → Prop} (slot : Slot "tuple" nm id) (hty : typeOf (.builtin id) = pure (.type "method_descriptor")) (hm : MtR X id r)
    (ho : PE X a to) {b : Expr} (ha : PA X [b] t) (hbase : attributeBase a nm X.env (eval a X.env) = eval a X.env)
    (hfew : ((backTo cpos (starEach [b] X.env)).all (fun x => !x.1) && (backToKw cpos (keywordEach [] X.env)).all (fun x => x.1.isSome)
      && decide ([b].length + ([] : List Keyword).length + (if ([] : List Keyword).isEmpty then 0 else 1) < 30)) = true)
    (hline : (apos.endLine == cpos.line) = true) (hs : starEach [b] X.env = (false, eval b X.env) :: starEach [] X.env) (hplain : (backTo cpos (starEach [] X.env)).any (·.1) = false) :
    PE X (.Call (.Attribute a nm apos) [b] [] cpos) (tBMT X.K r to t) := by
  refine ⟨fun pins s σ H Q I h => wpAny_Call_method_late hbase hfew hline rfl (thn (ho.run pins s σ H _ I h) fun v s1 ⟨x, H1, I1, r1, ⟨p, vs, ex, sq, nd⟩, q1⟩ => ?_)⟩
  subst ex
  have r2 := r1
  cases r1
  obtain ⟨_, _, tp, _⟩ := I1.tuple sq
  have bare : ∃ ob, s1.heap.get? p = some ob ∧ ob.dict = none := by
    rcases nd with ⟨ob, u, q, n⟩ | ⟨ob, q, n⟩
    · exact ⟨ob, (I1.hok p _ q).1, n⟩
    · exact ⟨ob, I1.kIn p ob q, n⟩
  refine ⟨"tuple", id, PySem.F.plainAttrs_tuple, slot, hty, tp.typeIs, fun c e => (by cases e; exact bare), ?_⟩
  have hA := ha.run cpos pins s1 σ H1 _ I1 q1
  rw [hs] at hA ⊢
  refine Calls.callWith_builtin (by show (false || (backTo cpos (starEach [] X.env)).any (·.1)) = false; rw [hplain] <;> rfl) (Calls.evalArgs_plain ?_)
  exact thn hA fun us s2 ⟨ws, H2, I2, r3, q2⟩ => hm pins s2 σ H2 _ ws _ us Q I2 r2 r3 q2
theorem ce_tcount [Lay X L tb o k] (ha : PEs X L tb o a ca) (hb : PEs X L tb o b cb)
    (hbase : attributeBase a "count" X.env (eval a X.env) = eval a X.env := by rfl)
    (hfew : ((backTo pos (starEach [b] X.env)).all (fun x => !x.1) && (backToKw pos (keywordEach [] X.env)).all (fun x => x.1.isSome)
      && decide ([b].length + ([] : List Keyword).length + (if ([] : List Keyword).isEmpty then 0 else 1) < 30)) = true := by rfl)
    (hline : (apos.endLine == pos.line) = true := by rfl) (hs : starEach [b] X.env = (false, eval b X.env) :: starEach [] X.env := by rfl) (hplain : (backTo pos (starEach [] X.env)).any (·.1) = false := by rfl) :
    PEs X L tb o (.Call (.Attribute a "count" apos) [b] [] pos) (.bm .count ca (.c cb .n)) :=
  ⟨fun W tk => PEimp (pe_bmT PySem.F.slot_tuple_count PySem.F.type_tuple_count mt_tcount (ha.run W tk) (pa_cons (hb.run W tk) pa_nil hs) hbase hfew hline hs hplain) fun σ H Q h => by
    have hK := Lay.K (X := X) (L := L) (tb := tb) (o := o) (k := k)
    obtain ⟨e, m⟩ := h.mid
    simp only [evE, evEs, bnd_assoc, bnd_val] at m
    refine m.one.imp fun x H1 ⟨d, e1, m1⟩ => ?_
    cases qo : okB .count d with
    | false => simp only [qo, Bool.false_eq_true, if_false] at m1; exact m1.none.elim
    | true =>
    simp only [qo, if_true] at m1
    have ist : ∃ ow xs, d = .nd .tup ow xs := by
      cases d with
      | nd kd ow xs => cases kd <;> first | exact ⟨_, _, rfl⟩ | (simp only [okB, Bool.false_eq_true] at qo)
      | _ => simp only [okB, Bool.false_eq_true] at qo
    obtain ⟨ow, xs, rfl⟩ := ist
    obtain ⟨Z, S, k', rs⟩ := m1.reps
    obtain ⟨v', ev, r1⟩ := reps1 rs
    cases ev
    obtain ⟨q, vs, rfl, hq, _⟩ := shape_tupN r1
    refine ⟨⟨q, vs, rfl, by rw [hK]; exact hq⟩, ?_⟩
    refine m1.one.imp fun y H2 ⟨d2, e2, m2⟩ => ?_
    obtain ⟨dd, hd2, m3⟩ := m2.opt
    obtain ⟨Z, S, k', rs, u⟩ := m3.use
    obtain ⟨S1, S2, h1, h2, dj, r1, r2⟩ := reps2 rs
    cases d2 <;> simp only [bmD, reduceCtorEq] at hd2
    rename_i i
    cases ql : intsD xs with
    | none => rw [ql] at hd2; cases hd2
    | some l =>
      rw [ql] at hd2
      cases hd2
      obtain ⟨q', vs', eq', _, hq', rr⟩ := shape_tup r1
      cases eq'
      have ev := reps_ints ql rr
      subst ev
      exact ⟨q, l, i, rfl, by rw [rep_int r2], by rw [hK]; exact hq', u.fin _ (by simp only [Rep])⟩⟩
end
end PL

/-! PL.Cst: an own list that nobody may change from here on. -/
namespace PL
open PySem L2
section
variable {X : Cx} {L : Lo} {tb : Tab} {o : Orc} {k : Nat} {W : WX} {a : Expr} {ca : E}
/-- the object in hand is locked for good -/
def tKeep (t : TE) : TE := fun σ H Q => t σ H fun v H1 => ∃ p u, v = .ref p ∧ H1 p = some u ∧ Mut (some u) ∧ ∀ od, Q v (upd H1 p (.frz od u))
theorem pe_keep {t : TE} (h : PE X a t) : PE X a (tKeep t) :=
  ⟨fun pins s σ H Q I q => thn (h.run pins s σ H _ I q) fun v s1 ⟨x, H1, I1, r1, p, u, _, e, mu, q1⟩ => by
    obtain ⟨od, I2⟩ := I1.lock e mu
    exact ⟨x, _, I2, r1, q1 od⟩⟩
theorem Mid.keep {σ : St} {H : Hp} {e : Env} {v : V} {xs : List D} {Q : V → Hp → Prop} (hf : fzL xs = true) (m : Mid L W σ H e [v] [.nd .lst true xs] (Rep L) Q (some (.val (.nd .cl false xs) e))) :
    ∃ p u, v = .ref p ∧ H p = some u ∧ Mut (some u) ∧ ∀ od, Q v (upd H p (.frz od u)) := by
  obtain ⟨Z, S1, S2, kk, dj, re, rs, r', e', g⟩ := m
  cases e'
  obtain ⟨v', ev, r1⟩ := reps1 rs
  cases ev
  obtain ⟨p, vs, rfl, hp, hs, rr⟩ := shape_lst r1
  have sp : S2 p := hs rfl
  refine ⟨p, _, rfl, hp, trivial, fun od => ?_⟩
  have fr : Fr S2 H (upd H p (.frz od (.lst vs))) := fun b ob q n => by
    rw [upd_ne (fun z => n (by rw [z]; exact sp))]
    exact q
  have ow : Own S2 H := fun b z => kk.own b (.inr z)
  have zz : ∀ b, Z b → ¬ S2 b := fun b z y => kk.dj b (.inr y) z
  have one : Fr (fun b => b = p) H (upd H p (.frz od (.lst vs))) := fun b ob q n => by
    rw [upd_ne n]
    exact q
  have ow1 : Own (fun b => b = p) H := fun b z => by rw [z, hp]; trivial
  have nn : ∀ b, upd H p (.frz od (.lst vs)) b = Option.none → H b = Option.none := fun b z => by
    by_cases c : b = p
    · rw [c, upd_same] at z; cases z
    · rw [upd_ne c] at z; exact z
  refine g (.ref p) _ Z S1 NoAS ⟨fun _ z => z, fun _ z => .inl z, fun b z => .inl (.inl (z.elim id fun y => y.elim)), fun b ob q n => fr b ob q fun z => n (.inr z), nn⟩
    ⟨fun b z => kk.dj b (.inl (z.elim id fun y => y.elim)), fun b z => ?_, fun b z y => kk.zd b z (nn b y)⟩ (fun _ _ z => z) (re.fr fr ow zz (fun _ z => z) dj) ?_
  · rcases z with z | z
    · rw [upd_ne fun c => dj b z (by rw [c]; exact sp)]
      exact kk.own b (.inl z)
    · exact z.elim
  · simp only [Rep]
    refine ⟨p, vs, rfl, ⟨rfl, .inl ⟨od, upd_same⟩⟩, fun z => (by cases z), ?_⟩
    exact reps_fr one ow1 (fun b z y => zz b z (by rw [y]; exact sp)) (fun _ z => z) (fun b z => z.1.elim) (reps_fz (S' := fun b => NoAS b ∧ (false = true → b ≠ p)) hf rr)
theorem ce_cst (ha : PEs X L tb o a ca) : PEs X L tb o a (.cst ca) :=
  ⟨fun W tk => PEimp (pe_keep (ha.run W tk)) fun σ H Q h => by
    obtain ⟨e, m⟩ := h.mid
    simp only [evE] at m
    refine m.one.imp fun v H1 ⟨d, e1, m1⟩ => ?_
    obtain ⟨d2, hd, m2⟩ := m1.opt
    cases d with
    | nd kd ow xs =>
      cases kd <;> try (simp only [cstD, reduceCtorEq] at hd)
      cases ow
      · simp only [cstD, reduceCtorEq] at hd
      · simp only [cstD] at hd
        split at hd
        · rename_i hf
          cases hd
          exact Mid.keep hf m2
        · cases hd
    | _ => simp only [cstD, reduceCtorEq] at hd⟩
end
end PL

/-! PL.Enm: enumerate(tuple); zip(tuple, tuple) walked. -/
namespace PL
open PySem L2
set_option maxHeartbeats 2000000 in
/-- enumerate(v): the new iterator, the new enumerate -/
theorem enm_new {v : Value} {ob : Obj} {At : Heap → Prop} (B : Begins v ob At) :
    Meets (Builtin.«enumerate.__new__» ⟨[.type "enumerate", v], []⟩) (fun _ R s => At s.heap ∧
      R (.ok (.ret (.ref (s.heap.push ob).objs.size))) { s with heap := (s.heap.push ob).push { cls := .type "enumerate", data := .fields #[.none, .bool false, .ref s.heap.objs.size, rawInt 0, .none, .none] } }) :=
  .of_wp fun pg wd Ar Rs st hyp => by
    obtain ⟨hea, gn, dw, tks, oss⟩ := st
    obtain ⟨hat, hres⟩ := hyp
    have isE := sub_enumerate
    have it1 : ∀ {Ar' : Around} {Ex : Value → Shared → Prop} {Qv : Value → Shared → Prop}, Qv (.ref hea.objs.size) ⟨hea.push ob, gn, dw, tks, oss⟩ → wpAny (model pg wd) Ar' (pyIter v) Qv Ex ⟨hea, gn, dw, tks, oss⟩ :=
      fun qv => B.iter pg wd _ _ ⟨hea, gn, dw, tks, oss⟩ _ hat qv
    wp_walk using it1
    refine wpAny_stack_any fun stk => wpAny_pure ?_
    split
    · rename_i cl _ _ _ _ _
      cases (cl == Value.type "enumerate") <;> (wp_walk using it1; exact ⟨_, rfl, hres⟩)
    · wp_walk using it1; exact ⟨_, rfl, hres⟩
theorem enm_call {prog : Program} {w : World} {A : Around} {E : Value → Shared → Prop} {s : Shared} {v : Value} {ob : Obj} {At : Heap → Prop} {Qv : Value → Shared → Prop} (B : Begins v ob At) (hat : At s.heap)
    (hq : ∀ hea, IsEnum hea (s.heap.objs.size + 1) s.heap.objs.size 0 .none → hea.get? s.heap.objs.size = some ob → (∀ c o', s.heap.get? c = some o' → hea.get? c = some o') → Qv (.ref (s.heap.objs.size + 1)) { s with heap := hea }) :
    wpAny (model prog w) A (call (.type "enumerate") [v]) Qv E s := by
  have e1 : (s.heap.push ob).objs.size = s.heap.objs.size + 1 := Heap.size_push _ _
  refine callType_new F.called_enumerate (by decide) (F.typeCall_enumerate_1 _) (F.newCall_enumerate_1 _) (fun x => F.args_object_init_2 x _) F.entry_enumerate_new (enm_new B) ⟨hat, ?_⟩
  have ne : ((s.heap.push ob).push { cls := .type "enumerate", data := .fields #[.none, .bool false, .ref s.heap.objs.size, rawInt 0, .none, .none] }).get? (s.heap.push ob).objs.size = some { cls := .type "enumerate", data := .fields #[.none, .bool false, .ref s.heap.objs.size, rawInt 0, .none, .none] } := Heap.get?_push_size _ rfl
  show _ ∧ _
  rw [e1] at ne ⊢
  exact ⟨⟨_, ne, rfl⟩, hq _ ne (Heap.get?_push_of_some _ (Heap.get?_push_size _ B.free)) fun c o' x => Heap.get?_push_of_some _ (Heap.get?_push_of_some _ x)⟩
/-- the tuple at a, each item in a new pair -/
def IteT (K : PySem.W.Frag) (a : Addr) : It where
  go := fun i H => ∃ (l : List V) (y : V), SqT K H a l ∧ l[i]? = some y
  yld := fun i H v H' => ∃ T y, v = .ref T ∧ H T = none ∧ H' = upd H T (.tup [.int (i : Nat), y]) ∧ ∀ l, SqT K H a l → l[i]? = some y
  stop := fun i H => ∃ l : List V, SqT K H a l ∧ l.length = i
theorem turn_enumT {P : Program} {w : World} {K : PySem.W.Frag} {elts : List Expr} {kk : Nat} {tpos : Pos} (a ee ii : Addr) (hai : a ≠ ii) (hae : a ≠ ee) :
    Turn P w K (.Tuple elts kk tpos) (IteT K a) [ee, ii] ee (fun i hea => (∃ ov, IsEnum hea ee ii (0 + (i : Int)) ov) ∧ hea.IsTupleIter ii a i ∧ ee ≠ ii) where
  mem := List.mem_cons_self
  obj := fun i hea st b hb => by
    obtain ⟨⟨ov, q1⟩, ⟨ob, q2, _, q4⟩, _⟩ := st
    simp only [List.mem_cons, List.not_mem_nil, or_false] at hb
    rcases hb with rfl | rfl
    · exact ⟨_, q1, fun v z => by cases z⟩
    · exact ⟨ob, q2, fun v z => by rw [q4] at z; cases z⟩
  keep := fun i hea hea' st kp => by
    obtain ⟨⟨ov, q1⟩, q2, q3⟩ := st
    exact ⟨⟨ov, kp ee (by simp) _ q1⟩, q2.at fun ob z => kp ii (by simp) ob z, q3⟩
  item := by
    intro X e1 e2 e3 cm i pins s σ H Ex I hf st hg
    subst e1 e2 e3
    obtain ⟨⟨ov, q1⟩, q2, q3⟩ := st
    obtain ⟨l, y, sq, gy⟩ := hg
    obtain ⟨us, vl, tp, _⟩ := I.tuple sq
    obtain ⟨u, gu, ru⟩ := vl.get gy
    have lt : i < us.toArray.size := by rw [List.size_toArray]; exact (List.getElem?_eq_some_iff.mp gu).1
    have G := GoesN.enumFrom (elts := elts) (x1 := kk) (pos := tpos) 0 (Draws.tuple (prog := X.prog) (w := X.w) (A := X.A.in1) (show X.A.in1.handled = none from I.ok.hd cm) ii a hai us.toArray) ee q3 (by simp [q3, Ne.symm hae]) (by simp)
    refine G.goes i s _ Ex lt ⟨⟨ov, q1⟩, q2, tp⟩ fun v hea tks hY st' kp _ => ?_
    obtain ⟨T, t, z, rfl, nT, gz, tT⟩ := hY
    have ez : z = u := by
      rw [List.getElem?_toArray, gu] at gz
      cases gz; rfl
    subst ez
    refine ⟨.ref T, upd H T (.tup [.int (i : Nat), y]), I.turnedNew (t' := tks) (ch := [ee, ii]) kp hf nT ⟨by show 2 ≤ sizeLine; decide, [.int (0 + (i : Int)) t, z], .cons ⟨t, by rw [Int.zero_add]⟩ (.cons ru .nil), tT⟩, rfl,
      ⟨T, y, rfl, I.hok.fresh nT, rfl, fun l' sq' => by rw [I.tuple_inj sq' sq]; exact gy⟩, ⟨st'.1, st'.2.1, q3⟩, fun b hb => ?_⟩
    rw [upd_ne fun z => ?_]
    · exact (hf b hb).1
    · subst z
      simp only [List.mem_cons, List.not_mem_nil, or_false] at hb
      rcases hb with rfl | rfl
      · exact absurd (Nat.lt_of_lt_of_le (Heap.lt_size q1) nT) (Nat.lt_irrefl _)
      · obtain ⟨ob, q4, _⟩ := q2
        exact absurd (Nat.lt_of_lt_of_le (Heap.lt_size q4) nT) (Nat.lt_irrefl _)
  done := by
    intro X e1 e2 e3 cm i pins s σ H Ex I hf st hg
    subst e1 e2 e3
    obtain ⟨⟨ov, q1⟩, q2, q3⟩ := st
    obtain ⟨l, sq, rfl⟩ := hg
    obtain ⟨us, vl, tp, _⟩ := I.tuple sq
    have sz : us.toArray.size = l.length := by rw [List.size_toArray, vl.length]
    have G := GoesN.enumFrom (elts := elts) (x1 := kk) (pos := tpos) 0 (Draws.tuple (prog := X.prog) (w := X.w) (A := X.A.in1) (show X.A.in1.handled = none from I.ok.hd cm) ii a hai us.toArray) ee q3 (by simp [q3, Ne.symm hae]) (by simp)
    refine wpAny_mono (G.stops s (fun s1 => Inv X pins σ H s1) Ex (by rw [sz]; exact ⟨⟨ov, q1⟩, q2, tp⟩) fun hea tks kp _ => I.turnedL (t' := tks) (ch := [ee, ii]) kp hf) (fun r s1 z => z) fun _ _ z => z
  self := fun Ar i s Qv Ex st hq => by
    obtain ⟨⟨ov, q1⟩, _⟩ := st
    exact wpAny_pyIter_enum q1 hq
def iEnumA (K : PySem.W.Frag) (ta : TA) : TI := fun σ H R => ta σ H fun vs H1 => ∃ a l, vs = [.ref a] ∧ ((SqL K H1 a l ∧ R (Ite K a) H1) ∨ (SqT K H1 a l ∧ R (IteT K a) H1))
theorem pi_enumA {X : Cx} {e : Expr} {ta : TA} {p pos tpos : Pos} {elts : List Expr} {kk : Nat} (hg : Gl X "enumerate") (hm : X.mg "enumerate" = none) (ha : PA X [e] ta) (hs : starEach [e] X.env = [(false, eval e X.env)] := by rfl) :
    PI X (.Tuple elts kk tpos) (.Call (.Name "enumerate" p) [e] [] pos) (iEnumA X.K ta) := ⟨fun pins s σ H R I hyp => by
  refine PyProof.Rows.Call_ (ld_blt I hg hm PyProof.Rows.boot_enumerate (PyProof.Rows.callWith_type1 (thn (ha.run pos pins s σ H _ I hyp) fun us t1 ⟨vs, G1, I1, r1, a, l, ev, qq⟩ => ?_) hs rfl))
  subst ev
  obtain ⟨u, rfl, ru⟩ := vals1 r1
  cases ru
  have new2 : ∀ b, b ∈ [t1.heap.objs.size + 1, t1.heap.objs.size] → FpOk X pins G1 b := fun b hb => by
    have ge : t1.heap.objs.size ≤ b := by
      simp only [List.mem_cons, List.not_mem_nil, or_false] at hb
      omega
    exact I1.fpOk ge (I1.hok.fresh ge)
  rcases qq with ⟨sq, q⟩ | ⟨sq, q⟩
  · obtain ⟨us, vl, pl, _⟩ := I1.list sq
    exact call_enumerate_list pl.isList fun hea q1 q2 _ kp => wpAny_pyIter_enum q1 ⟨_, _, _, _, G1, rfl, I1.kept (t' := t1.toks) kp, turn_enum a (t1.heap.objs.size + 1) t1.heap.objs.size, ⟨⟨_, q1⟩, q2, Nat.succ_ne_self _⟩, new2, q⟩
  · obtain ⟨us, vl, tp, _⟩ := I1.tuple sq
    have la : a < t1.heap.objs.size := by obtain ⟨ob, z, _⟩ := id tp; exact Heap.lt_size z
    exact enm_call (begins_tuple a us.toArray) tp fun hea q1 q2 kp => wpAny_pyIter_enum q1 ⟨_, _, _, _, G1, rfl, I1.kept (t' := t1.toks) kp, turn_enumT a (t1.heap.objs.size + 1) t1.heap.objs.size (Nat.ne_of_lt la) (Nat.ne_of_lt (Nat.lt_succ_of_lt la)), ⟨⟨_, by simpa using q1⟩, ⟨_, q2, rfl, rfl⟩, Nat.succ_ne_self _⟩, new2, q⟩⟩
section
variable {K : PySem.W.Frag} {a b : Addr} {xs ys : List V}
theorem walk_enumT : Walk (IteT K a) xs.length (fun H => SqT K H a xs) (YPair (fun i => some (.int (i : Nat))) (fun i => xs[i]?)) where
  goes := fun i _ lt sq => ⟨xs, xs[i], sq, List.getElem?_eq_getElem lt⟩
  stops := fun _ sq => ⟨xs, sq, rfl⟩
  yields := fun i H v H' _ sq ⟨T, y, q1, q2, q3, q4⟩ => ⟨T, .int (i : Nat), y, q1, q2, q3, rfl, q4 xs sq⟩
theorem walk_zipT {n : Nat} (hn : n = min xs.length ys.length) : Walk (RZ.ItzT K a b) n (fun H => SqT K H a xs ∧ SqT K H b ys) (YPair (fun i => xs[i]?) (fun i => ys[i]?)) where
  goes := fun i _ lt sq => ⟨xs, ys, _, _, sq.1, sq.2, List.getElem?_eq_getElem (by omega), List.getElem?_eq_getElem (by omega)⟩
  stops := fun _ sq => ⟨xs, ys, sq.1, sq.2, by omega⟩
  yields := fun i H v H' _ sq ⟨T, y, z, q1, q2, q3, q4, q5⟩ => ⟨T, y, z, q1, q2, q3, q4 xs sq.1, q5 ys sq.2⟩
end
end PL

/-! PL.Loop: what is walked; targets; comprehensions. -/
namespace PL
open PySem L2
theorem Spl.swap {A B C : AS → Hp → AS → Prop} {Z S : AS} {H : Hp} (h : Spl (Spl A B) C Z H S) : Spl (Spl A C) B Z H S := by
  obtain ⟨Sab, Sc, b1, b2, bj, ⟨Sa, Sb, a1, a2, aj, q1, q2⟩, q3⟩ := h
  exact ⟨OrS Sa Sc, Sb, fun b z => z.elim (fun z => b1 b (a1 b z)) (b2 b), fun b z => b1 b (a2 b z), fun b z y => z.elim (fun z => aj b z y) fun z => bj b (a2 b y) z, ⟨Sa, Sc, fun b z => .inl z, fun b z => .inr z, fun b z y => bj b (a1 b z) y, q1, q3⟩, q2⟩
/-- what an iterator gives at a turn -/
def Yk (L : Lo) (Z : AS) (H : Hp) (x : V) (H' : Hp) (d : D) : Prop := (H' = H ∨ ∃ p xs, H p = none ∧ H' = upd H p (.tup xs)) ∧ Rep L Z H' x d NoAS
structure WkOk (L : Lo) (Hd : AS → Hp → AS → Prop) (J : It) (items : List D) : Prop where
  ex : ∃ (GH : Hp → Prop) (Y : Nat → Hp → V → Hp → Prop), Walk J items.length GH Y ∧ (∀ Z H S, Hd Z H S → GH H) ∧ ∀ Z H S i x H' d, Hd Z H S → items[i]? = some d → Y i H x H' → Yk L Z H x H' d
def tIt (L : Lo) (W : WX) (tb : Tab) (o : Orc) (c : I) : TI := fun σ H R => ∃ (γ : Type) (G : AS → AS → Hp → Out γ → Prop) (f : List D → Env → PL.R γ) (P : AS → Hp → AS → Prop) (e : Env), GP L W σ G ∧ Stb P ∧ MidH L σ H e P G (bnd (evI tb o c e) f) ∧
  ∀ J H' items e' Hd, Stb Hd → WkOk L Hd J items → MidH L σ H' e' (Spl P Hd) G (f items e') → R J H'
structure PIs (X : Cx) (L : Lo) (tb : Tab) (o : Orc) (tg it : Expr) (c : I) : Prop where
  run : ∀ W, Takes X W → PI X tg it (tIt L W tb o c)
theorem PIimp {X : Cx} {tg it : Expr} {t t' : TI} (p : PI X tg it t) (h : ∀ σ H Q, t' σ H Q → t σ H Q) : PI X tg it t' := ⟨fun pins s σ H R I hq => p.run pins s σ H R I (h σ H R hq)⟩
def stb_true : Stb (fun _ _ _ => True) := ⟨fun _ _ _ _ _ _ => trivial, fun _ _ => trivial⟩
section
variable {L : Lo} {W : WX} {σ : St} {γ : Type} {G : AS → AS → Hp → Out γ → Prop} {H : Hp} {e : Env} {P : AS → Hp → AS → Prop} {r : R γ}
theorem MidH.plus (m : MidH L σ H e P G r) : MidH L σ H e (Spl P (fun _ _ _ => True)) G r := m.imp fun Z S _ q => ⟨S, NoAS, fun _ z => z, fun _ z => z.elim, fun _ _ z => z, q, trivial⟩
theorem MidH.grow {p : Addr} {ob : HO} (gp : GP L W σ G) (st : Stb P) (m : MidH L σ H e P G r) (hp : H p = Option.none) : MidH L σ (upd H p ob) e P G r := by
  obtain ⟨Z, S1, S2, k, dj, re, rs, r', e', g⟩ := m
  have f0 : Fr NoAS H (upd H p ob) := upd_fr hp NoAS
  have k2 : Ok Z (OrS S1 S2) (upd H p ob) := by
    refine ⟨k.dj, fun b hb => ?_, fun b z y => k.zd b z (upd_nn y)⟩
    rw [upd_ne (fun c => by subst c; exact k.sd hb hp)]
    exact k.own b hb
  exact ⟨Z, S1, S2, k2, dj, re.fr f0 (fun _ z => z.elim) (fun _ _ z => z) (fun _ z => z) fun _ _ z => z, st.st f0 (fun _ _ _ z => z.elim) (fun _ _ z => z) (fun _ z => z) (fun _ _ z => z) rs, r', e', gp.step g ⟨fun _ z => z, fun _ z => .inl z, fun b z => .inl z, upd_fr hp _, fun b => upd_nn⟩⟩
/-- what is in hand becomes shared -/
theorem MidH.freeze {v : V} {d : D} (gp : GP L W σ G) (st : Stb P) (m : MidH L σ H e (Spl P (fun Z H S => Rep L Z H v d S)) G r) : MidH L σ H e (Spl P (fun Z H S => Rep L Z H v d.frz S)) G r := by
  obtain ⟨Z, S1, S2, k, dj, re, ⟨Sa, Sb, h1, h2, aj, q1, q2⟩, r', h', g⟩ := m
  have sub : ∀ b, OrS S1 Sa b → OrS S1 S2 b := fun b z => z.elim .inl fun z => .inr (h1 b z)
  refine ⟨OrS Z Sb, S1, Sa, ⟨fun b z y => ?_, fun b z => k.own b (sub b z), fun b z => z.elim (k.zd b) fun z => k.sd (.inr (h2 b z))⟩, fun b z y => dj b z (h1 b y), re.z fun b z => .inl z,
    ⟨Sa, NoAS, fun _ z => z, fun _ z => z.elim, fun _ _ z => z, st.st (U := NoAS) fr_refl (fun _ _ _ z => z.elim) (fun _ _ z => z) (fun b z => .inl z) (fun _ _ z => z) q1, rep_frz (fun b z => .inr z) (fun b z => .inl z) q2⟩, r', h', gp.step g ⟨fun b z => .inl z, fun b z => z.elim .inl fun z => .inr (.inl (.inr (h2 b z))), fun b z => .inl (sub b z), fr_refl, fun _ z => z⟩⟩
  rcases y with y | y
  · exact k.dj b (sub b z) y
  · rcases z with z | z
    · exact dj b z (h2 b y)
    · exact aj b z y
end
theorem frzL_get {ds : List D} {i : Nat} {d : D} (h : (frzL ds)[i]? = some d) : d.fz = true := by
  induction ds generalizing i with
  | nil => simp [frzL] at h
  | cons x xs ih =>
    cases i with
    | zero => simp only [frzL, List.getElem?_cons_zero, Option.some.injEq] at h; subst h; exact frz_fz x
    | succ i => simp only [frzL, List.getElem?_cons_succ] at h; exact ih h
/-- a list or a tuple that is shared, walked -/
theorem wk_lst {L : Lo} {K : PySem.W.Frag} {a : Addr} {xs : List D} {vs : List V} : WkOk L (fun Z H S => Rep L Z H (.ref a) (.nd .lst false (frzL xs)) S ∧ H a = some (.lst vs) ∧ vs.length = (frzL xs).length) (Itl K a) (frzL xs) := by
  refine ⟨fun H => H a = some (.lst vs) ∧ vs.length = (frzL xs).length, YAt vs, ?_, fun Z H S ⟨_, h⟩ => h, fun Z H S i x H' d ⟨r, hl, _⟩ hd ⟨e, hx⟩ => ?_⟩
  · refine ⟨fun i H hi ⟨q, ql⟩ => ⟨vs, vs[i], .of q, by simp [show i < vs.length by omega]⟩, fun H ⟨q, ql⟩ => ⟨vs, .of q, by omega⟩, fun i H x H' hi ⟨q, ql⟩ y => ⟨y.1, y.2 vs (.of q)⟩⟩
  · subst e
    refine ⟨.inl rfl, ?_⟩
    obtain ⟨a', ws, ea, hw, _, rr⟩ := shape_lst r
    cases ea
    rw [hl] at hw
    cases hw
    obtain ⟨v, ev, rv⟩ := rr.get hd
    rw [hx] at ev
    cases ev
    exact rep_fz (frzL_get hd) rv
theorem stb_lst {L : Lo} {a : Addr} {xs : List D} {vs : List V} : Stb (fun Z H S => Rep L Z H (.ref a) (.nd .lst false (frzL xs)) S ∧ H a = some (.lst vs) ∧ vs.length = (frzL xs).length) where
  st := fun {Z Z' H H' U S} f o hz zz hs ⟨h1, h2, h3⟩ => by
    refine ⟨rep_frW f o hz zz hs h1, f a _ h2 ?_, h3⟩
    simp only [Rep, shapeOk] at h1
    obtain ⟨a', ws, e, ⟨g1, g2⟩, _⟩ := h1
    cases e
    exact hz a (g2 trivial)
  mo := fun hs ⟨h1, h2, h3⟩ => ⟨rep_mono hs h1, h2, h3⟩
theorem wk_tup {L : Lo} {K : PySem.W.Frag} (hK : K = L.K) {a : Addr} {xs : List D} {vs : List V} : WkOk L (fun Z H S => Reps L Z H vs (frzL xs) S ∧ SqT K H a vs) (Itt K a) (frzL xs) := by
  refine ⟨fun H => SqT K H a vs ∧ vs.length = (frzL xs).length, YAt vs, ?_, fun Z H S ⟨r, h⟩ => ⟨h, r.length⟩, fun Z H S i x H' d ⟨r, hl⟩ hd ⟨e, hx⟩ => ?_⟩
  · refine ⟨fun i H hi ⟨q, ql⟩ => ⟨vs, vs[i], q, by simp [show i < vs.length by omega]⟩, fun H ⟨q, ql⟩ => ⟨vs, q, by omega⟩, fun i H x H' hi ⟨q, ql⟩ y => ⟨y.1, y.2 vs q⟩⟩
  · subst e
    refine ⟨.inl rfl, ?_⟩
    obtain ⟨v, ev, rv⟩ := r.get hd
    rw [hx] at ev
    cases ev
    exact rep_fz (frzL_get hd) rv
theorem stb_tup {L : Lo} {K : PySem.W.Frag} {a : Addr} {xs : List D} {vs : List V} : Stb (fun Z H S => Reps L Z H vs (frzL xs) S ∧ SqT K H a vs) :=
  ⟨fun f o hz zz hs ⟨h1, h2⟩ => ⟨reps_frW f o hz zz hs h1, SqT.fr f o h2⟩, fun hs ⟨h1, h2⟩ => ⟨reps_mono hs h1, h2⟩⟩
theorem wk_cl {L : Lo} {K : PySem.W.Frag} (hK : K = L.K) {a : Addr} {xs : List D} {vs : List V} : WkOk L (fun Z H S => Reps L Z H vs (frzL xs) S ∧ FzL L H a vs) (Itl K a) (frzL xs) := by
  refine ⟨fun H => SqL K H a vs ∧ vs.length = (frzL xs).length, YAt vs, ?_, fun Z H S ⟨r, h⟩ => ⟨by rw [hK]; exact h.sq, r.length⟩, fun Z H S i x H' d ⟨r, hl⟩ hd ⟨e, hx⟩ => ?_⟩
  · refine ⟨fun i H hi ⟨q, ql⟩ => ⟨vs, vs[i], q, by simp [show i < vs.length by omega]⟩, fun H ⟨q, ql⟩ => ⟨vs, q, by omega⟩, fun i H x H' hi ⟨q, ql⟩ y => ⟨y.1, y.2 vs q⟩⟩
  · subst e
    refine ⟨.inl rfl, ?_⟩
    obtain ⟨v, ev, rv⟩ := r.get hd
    rw [hx] at ev
    cases ev
    exact rep_fz (frzL_get hd) rv
theorem stb_cl {L : Lo} {a : Addr} {xs : List D} {vs : List V} : Stb (fun Z H S => Reps L Z H vs (frzL xs) S ∧ FzL L H a vs) :=
  ⟨fun f o hz zz hs ⟨h1, h2⟩ => ⟨reps_frW f o hz zz hs h1, FzL.fr f o h2⟩, fun hs ⟨h1, h2⟩ => ⟨reps_mono hs h1, h2⟩⟩
theorem wk_rng {L : Lo} {lo hi : Int} : WkOk L (fun _ _ _ => True) (Itr lo (hi - lo).toNat) (rangeD lo hi) := by
  refine ⟨fun _ => True, YFn fun i => .int (lo + i), ?_, fun _ _ _ _ => trivial, ?_⟩
  · have : (rangeD lo hi).length = (hi - lo).toNat := by simp [rangeD]
    rw [this]
    exact walk_range
  · intro Z H S i x H' d _ hd y
    obtain ⟨e1, e2⟩ := y
    subst e1 e2
    refine ⟨.inl rfl, ?_⟩
    simp only [rangeD, List.getElem?_map] at hd
    cases q : (List.range (hi - lo).toNat)[i]? with
    | none => rw [q] at hd; cases hd
    | some j =>
      rw [q] at hd
      have : j = i := by
        obtain ⟨h1, h2⟩ := List.getElem?_eq_some_iff.mp q
        rw [List.getElem_range] at h2
        exact h2.symm
      subst this
      simp only [Option.map_some, Option.some.injEq] at hd
      subst hd
      simp only [Rep]
/-- a new pair of what is shared -/
theorem yk_pair {L : Lo} {Z : AS} {H : Hp} {T : Addr} {x y : V} {d1 d2 : D} (hT : H T = none) (r1 : Rep L Z H x d1 NoAS) (r2 : Rep L Z H y d2 NoAS) : Yk L Z H (.ref T) (upd H T (.tup [x, y])) (.nd .pr false [d1, d2]) := by
  refine ⟨.inr ⟨T, _, hT, rfl⟩, ?_⟩
  have f0 : Fr NoAS H (upd H T (.tup [x, y])) := upd_fr hT NoAS
  have q1 : Rep L Z (upd H T (.tup [x, y])) x d1 NoAS := rep_fr f0 (fun _ z => z.elim) (fun _ _ z => z) (fun _ z => z) (fun _ _ z => z) r1
  have q2 : Rep L Z (upd H T (.tup [x, y])) y d2 NoAS := rep_fr f0 (fun _ z => z.elim) (fun _ _ z => z) (fun _ z => z) (fun _ _ z => z) r2
  simp only [Rep]
  exact ⟨T, [x, y], rfl, ⟨rfl, .inl (.inl upd_same)⟩, fun z => (by cases z), reps_cons (S1 := NoAS) (S2 := NoAS) (fun _ z => z.elim) (fun _ z => z.elim) (fun _ _ z => z) q1 (reps_cons (S1 := NoAS) (S2 := NoAS) (fun _ z => z.elim) (fun _ z => z.elim) (fun _ _ z => z) q2 reps_nil)⟩
def enmD (xs : List D) : List D := xs.mapIdx fun i d => .nd .pr false [.int i, d]
theorem enmD_len (xs : List D) : (enmD xs).length = xs.length := by simp [enmD]
theorem enmD_get {xs : List D} {i : Nat} {d : D} (h : (enmD xs)[i]? = some d) : ∃ d0, xs[i]? = some d0 ∧ d = .nd .pr false [.int i, d0] := by
  simp only [enmD, List.getElem?_mapIdx] at h
  cases q : xs[i]? with
  | none => rw [q] at h; cases h
  | some d0 =>
    rw [q] at h
    simp only [Option.map_some, Option.some.injEq] at h
    exact ⟨d0, rfl, h.symm⟩
theorem enm_yk {L : Lo} {Z : AS} {H H' : Hp} {S : AS} {xs : List D} {vs : List V} {i : Nat} {x : V} {d : D} (r : Reps L Z H vs (frzL xs) S) (hd : (enmD (frzL xs))[i]? = some d) (y : YPair (fun i => some (.int (i : Nat))) (fun i => vs[i]?) i H x H') : Yk L Z H x H' d := by
  obtain ⟨T, a, b, rfl, h2, rfl, h4, h5⟩ := y
  obtain ⟨d0, e1, rfl⟩ := enmD_get hd
  cases h4
  have h5 : vs[i]? = some b := h5
  obtain ⟨v, ev, rv⟩ := r.get e1
  rw [h5] at ev
  cases ev
  exact yk_pair h2 (by simp only [Rep]) (rep_fz (frzL_get e1) rv)
theorem wk_enmL {L : Lo} {K : PySem.W.Frag} {a : Addr} {xs : List D} {vs : List V} : WkOk L (fun Z H S => Rep L Z H (.ref a) (.nd .lst false (frzL xs)) S ∧ H a = some (.lst vs) ∧ vs.length = (frzL xs).length) (Ite K a) (enmD (frzL xs)) := by
  refine ⟨fun H => H a = some (.lst vs) ∧ vs.length = (frzL xs).length, YPair (fun i => some (.int (i : Nat))) (fun i => vs[i]?), ?_, fun Z H S ⟨_, h⟩ => h, fun Z H S i x H' d ⟨r, hl, _⟩ hd y => ?_⟩
  · have w := walk_enum (K := K) (a := a) (xs := vs)
    refine ⟨fun i H hi ⟨q, ql⟩ => w.goes i H (by rw [enmD_len] at hi; omega) (.of q), fun H ⟨q, ql⟩ => ?_, fun i H x H' hi ⟨q, ql⟩ y => w.yields i H x H' (by rw [enmD_len] at hi; omega) (.of q) y⟩
    have := w.stops H (.of q)
    rw [enmD_len, ← ql]
    exact this
  · obtain ⟨a', ws, ea, hw, _, rr⟩ := shape_lst r
    cases ea
    rw [hl] at hw
    cases hw
    exact enm_yk (reps_mono (fun _ z => z.1) rr) hd y
theorem wk_enmC {L : Lo} {K : PySem.W.Frag} (hK : K = L.K) {a : Addr} {xs : List D} {vs : List V} : WkOk L (fun Z H S => Reps L Z H vs (frzL xs) S ∧ FzL L H a vs) (Ite K a) (enmD (frzL xs)) := by
  refine ⟨fun H => SqL K H a vs ∧ vs.length = (frzL xs).length, YPair (fun i => some (.int (i : Nat))) (fun i => vs[i]?), ?_, fun Z H S ⟨r, h⟩ => ⟨by rw [hK]; exact h.sq, r.length⟩, fun Z H S i x H' d ⟨r, hl⟩ hd y => enm_yk r hd y⟩
  have w := walk_enum (K := K) (a := a) (xs := vs)
  refine ⟨fun i H hi ⟨q, ql⟩ => w.goes i H (by rw [enmD_len] at hi; omega) q, fun H ⟨q, ql⟩ => ?_, fun i H x H' hi ⟨q, ql⟩ y => w.yields i H x H' (by rw [enmD_len] at hi; omega) q y⟩
  have := w.stops H q
  rw [enmD_len, ← ql]
  exact this
theorem wk_enmT {L : Lo} {K : PySem.W.Frag} {a : Addr} {xs : List D} {vs : List V} : WkOk L (fun Z H S => Reps L Z H vs (frzL xs) S ∧ SqT K H a vs) (IteT K a) (enmD (frzL xs)) := by
  refine ⟨fun H => SqT K H a vs ∧ vs.length = (frzL xs).length, YPair (fun i => some (.int (i : Nat))) (fun i => vs[i]?), ?_, fun Z H S ⟨r, h⟩ => ⟨h, r.length⟩, fun Z H S i x H' d ⟨r, hl⟩ hd y => enm_yk r hd y⟩
  have w := walk_enumT (K := K) (a := a) (xs := vs)
  refine ⟨fun i H hi ⟨q, ql⟩ => w.goes i H (by rw [enmD_len] at hi; omega) q, fun H ⟨q, ql⟩ => ?_, fun i H x H' hi ⟨q, ql⟩ y => w.yields i H x H' (by rw [enmD_len] at hi; omega) q y⟩
  have := w.stops H q
  rw [enmD_len, ← ql]
  exact this
def zipD (xs ys : List D) : List D := (xs.zip ys).map fun p => .nd .pr false [p.1, p.2]
theorem wk_zipT {L : Lo} {K : PySem.W.Frag} {a b : Addr} {xs ys : List D} {vs ws : List V} : WkOk L (Spl (fun Z H S => Reps L Z H vs (frzL xs) S ∧ SqT K H a vs) (fun Z H S => Reps L Z H ws (frzL ys) S ∧ SqT K H b ws)) (RZ.ItzT K a b) (zipD (frzL xs) (frzL ys)) := by
  have lz : (zipD (frzL xs) (frzL ys)).length = min (frzL xs).length (frzL ys).length := by simp [zipD]
  refine ⟨fun H => (SqT K H a vs ∧ SqT K H b ws) ∧ vs.length = (frzL xs).length ∧ ws.length = (frzL ys).length, YPair (fun i => vs[i]?) (fun i => ws[i]?), ?_, fun Z H S ⟨S1, S2, _, _, _, ⟨r, h⟩, ⟨r', h'⟩⟩ => ⟨⟨h, h'⟩, r.length, r'.length⟩, fun Z H S i x H' d ⟨S1, S2, _, _, _, ⟨r, h⟩, ⟨r', h'⟩⟩ hd y => ?_⟩
  · have w := walk_zipT (K := K) (a := a) (b := b) (xs := vs) (ys := ws) rfl
    refine ⟨fun i H hi ⟨q, ql⟩ => w.goes i H (by rw [lz] at hi; omega) q, fun H ⟨q, ql⟩ => ?_, fun i H x H' hi ⟨q, ql⟩ y => w.yields i H x H' (by rw [lz] at hi; omega) q y⟩
    have := w.stops H q
    rw [lz, ← ql.1, ← ql.2]
    exact this
  · obtain ⟨T, x1, y1, rfl, h2, rfl, h4, h5⟩ := y
    simp only [zipD, List.getElem?_map, Option.map_eq_some_iff] at hd
    obtain ⟨p, hp, rfl⟩ := hd
    obtain ⟨p1, p2⟩ := List.getElem?_zip_eq_some.mp hp
    have h4 : vs[i]? = some x1 := h4
    have h5 : ws[i]? = some y1 := h5
    obtain ⟨v, ev, rv⟩ := r.get p1
    rw [h4] at ev
    cases ev
    obtain ⟨v', ev', rv'⟩ := r'.get p2
    rw [h5] at ev'
    cases ev'
    exact yk_pair h2 (rep_fz (frzL_get p1) rv) (rep_fz (frzL_get p2) rv')
section
variable {X : Cx} {L : Lo} {tb : Tab} {o : Orc} {k : Nat} {pos p apos : Pos} {a b c tg : Expr} {es : List Expr} {ca cb cc : E} {W : WX} {x : Str}
theorem seqD_frz {d : D} {xs : List D} (h : seqD d.frz = some xs) : (∃ ow ys, d = .nd .tup ow ys ∧ xs = frzL ys) ∨ (∃ ow ys, d = .nd .lst ow ys ∧ xs = frzL ys) ∨ ∃ ow ys, d = .nd .cl ow ys ∧ xs = frzL ys := by
  cases d with
  | nd kd ow ys =>
    cases kd <;> simp only [D.frz, seqD, Option.some.injEq, reduceCtorEq] at h
    · exact .inl ⟨ow, ys, rfl, h.symm⟩
    · exact .inr (.inr ⟨ow, ys, rfl, h.symm⟩)
    · exact .inr (.inl ⟨ow, ys, rfl, h.symm⟩)
  | _ => simp only [D.frz, seqD, reduceCtorEq] at h
/-- for x in a list -/
theorem ci_lst [Lay X L tb o k] (ha : PEs X L tb o a ca) : PIs X L tb o tg a (.seqL ca) := ⟨fun W tk => PIimp (pi_list (ha.run W tk)) fun σ H Q h => by
  have hK := Lay.K (X := X) (L := L) (tb := tb) (o := o) (k := k)
  obtain ⟨γ, G, f, P, e, gp, st, m, kk⟩ := h
  simp only [evI, bnd_assoc] at m
  refine (m.bind (rep := Rep L) gp st).imp fun v H1 ⟨d, e1, m1⟩ => ?_
  cases q : seqD d.frz with
  | none => rw [q] at m1; exact m1.none.elim
  | some xs =>
    rw [q] at m1
    cases ql : isLst d with
    | false => simp only [ql, Bool.false_eq_true, if_false] at m1; exact m1.none.elim
    | true =>
    simp only [ql, if_true, bnd_val] at m1
    have m2 := m1.freeze gp st
    rcases seqD_frz q with ⟨ow, ys, rfl, rfl⟩ | ⟨ow, ys, rfl, rfl⟩ | ⟨ow, ys, rfl, rfl⟩
    · cases ql
    · obtain ⟨Z, S1, S2, k1, dj, re, ⟨Sa, Sb, h1, h2, aj, q1, q2⟩, r', h', g⟩ := id m2
      obtain ⟨l, vs, rfl, hl, _, rr⟩ := shape_lst q2
      have hlen := rr.length
      refine ⟨l, rfl, ⟨vs, .of hl⟩, kk _ H1 _ e1 _ stb_lst (wk_lst (vs := vs)) ⟨Z, S1, S2, k1, dj, re, ⟨Sa, Sb, h1, h2, aj, q1, q2, hl, hlen⟩, r', h', g⟩⟩
    · obtain ⟨Z, S1, S2, k1, dj, re, ⟨Sa, Sb, h1, h2, aj, q1, q2⟩, r', h', g⟩ := id m2
      obtain ⟨l, vs, rfl, hl, rr⟩ := shape_cl q2
      refine ⟨l, rfl, ⟨vs, by rw [hK]; exact hl.sq⟩, kk _ H1 _ e1 _ stb_cl (wk_cl hK) ⟨Z, S1, S2, k1, dj, re, ⟨Sa, Sb, h1, h2, aj, q1, rr, hl⟩, r', h', g⟩⟩⟩
/-- for x in a tuple -/
theorem ci_tup [Lay X L tb o k] (ha : PEs X L tb o a ca) : PIs X L tb o tg a (.seqT ca) := ⟨fun W tk => PIimp (pi_tup (ha.run W tk)) fun σ H Q h => by
  have hK := Lay.K (X := X) (L := L) (tb := tb) (o := o) (k := k)
  obtain ⟨γ, G, f, P, e, gp, st, m, kk⟩ := h
  simp only [evI, bnd_assoc] at m
  refine (m.bind (rep := Rep L) gp st).imp fun v H1 ⟨d, e1, m1⟩ => ?_
  cases q : seqD d.frz with
  | none => rw [q] at m1; exact m1.none.elim
  | some xs =>
    rw [q] at m1
    cases ql : isLst d with
    | true => simp only [ql, if_true] at m1; exact m1.none.elim
    | false =>
    simp only [ql, Bool.false_eq_true, if_false, bnd_val] at m1
    have m2 := m1.freeze gp st
    rcases seqD_frz q with ⟨ow, ys, rfl, rfl⟩ | ⟨ow, ys, rfl, rfl⟩ | ⟨ow, ys, rfl, rfl⟩
    · obtain ⟨Z, S1, S2, k1, dj, re, ⟨Sa, Sb, h1, h2, aj, q1, q2⟩, r', h', g⟩ := id m2
      obtain ⟨l, vs, rfl, _, hl, rr⟩ := shape_tup q2
      rw [← hK] at hl
      exact ⟨l, rfl, ⟨vs, hl⟩, kk _ H1 _ e1 _ stb_tup (wk_tup hK) ⟨Z, S1, S2, k1, dj, re, ⟨Sa, Sb, h1, h2, aj, q1, rr, hl⟩, r', h', g⟩⟩
    · cases ql
    · cases ql⟩
theorem ci_rng [Lay X L tb o k] (ha : PEs X L tb o a ca) (hg : Gl X "range" := by rfl) (hs : starEach [a] X.env = [(false, eval a X.env)] := by rfl) : PIs X L tb o tg (.Call (.Name "range" p) [a] [] pos) (.rng ca) :=
  ⟨fun W tk => PIimp (pi_range1 hg (Lay.bi (X := X) (L := L) (tb := tb) (o := o) (k := k) _ (by decide +kernel)) (pa_cons (ha.run W tk) pa_nil hs) hs) fun σ H Q h => by
  obtain ⟨γ, G, f, P, e, gp, st, m, kk⟩ := h
  simp only [evI, bnd_assoc] at m
  refine (m.bind (rep := Rep L) gp st).imp fun v H1 ⟨d, e1, m1⟩ => ?_
  cases d with
  | int j =>
    dsimp only at m1
    cases q : okR 0 j with
    | false => simp only [q, Bool.false_eq_true, if_false] at m1; exact m1.none.elim
    | true =>
      simp only [q, if_true, bnd_val] at m1
      obtain ⟨Z, S1, S2, k1, dj, re, ⟨Sa, Sb, h1, h2, aj, q1, q2⟩, r', h', g⟩ := id m1
      simp only [okR, Bool.and_eq_true, decide_eq_true_eq] at q
      refine ⟨j, by rw [rep_int q2], q.1.2, q.2, kk _ H1 _ e1 _ stb_true (by have := wk_rng (L := L) (lo := 0) (hi := j); rw [Int.sub_zero] at this; exact this) ⟨Z, S1, S2, k1, dj, re, ⟨Sa, Sb, h1, h2, aj, q1, trivial⟩, r', h', g⟩⟩
  | _ => exact m1.none.elim⟩
theorem ci_rng2 [Lay X L tb o k] (ha : PEs X L tb o a ca) (hb : PEs X L tb o b cb) (hg : Gl X "range" := by rfl) (hs : starEach [a, b] X.env = [(false, eval a X.env), (false, eval b X.env)] := by rfl) (hs2 : starEach [b] X.env = [(false, eval b X.env)] := by rfl) : PIs X L tb o tg (.Call (.Name "range" p) [a, b] [] pos) (.rng2 ca cb) :=
  ⟨fun W tk => PIimp (pi_range2 hg (Lay.bi (X := X) (L := L) (tb := tb) (o := o) (k := k) _ (by decide +kernel)) (pa_cons (ha.run W tk) (pa_cons (hb.run W tk) pa_nil hs2) (by rw [hs, hs2])) hs hs2) fun σ H Q h => by
  obtain ⟨γ, G, f, P, e, gp, st, m, kk⟩ := h
  simp only [evI, bnd_assoc] at m
  refine (m.bind (rep := Rep L) gp st).imp fun v H1 ⟨d, e1, m1⟩ => ?_
  refine (m1.bind (rep := Rep L) gp (st.spl stb_rep)).imp fun w H2 ⟨d2, e2, m2⟩ => ?_
  cases d with
  | int i =>
    cases d2 with
    | int j =>
      dsimp only at m2
      cases q : okR i j with
      | false => simp only [q, Bool.false_eq_true, if_false] at m2; exact m2.none.elim
      | true =>
        simp only [q, if_true, bnd_val] at m2
        obtain ⟨Z, S1, S2, k1, dj, re, ⟨Sx, Sy, g1, g2, gj, ⟨Sa, Sb, h1, h2, aj, q1, q2⟩, q3⟩, r', h', g⟩ := id m2
        simp only [okR, Bool.and_eq_true, decide_eq_true_eq] at q
        refine ⟨i, j, by rw [rep_int q2, rep_int q3], ⟨q.1.1.1, q.1.1.2, q.1.2, q.2⟩, kk _ H2 _ e2 _ stb_true wk_rng ⟨Z, S1, S2, k1, dj, re, ⟨Sa, NoAS, fun b z => g1 b (h1 b z), fun _ z => z.elim, fun _ _ z => z, q1, trivial⟩, r', h', g⟩⟩
    | _ => exact m2.none.elim
  | _ => exact m2.none.elim⟩
/-- for i, x in enumerate(a) -/
theorem ci_enm [Lay X L tb o k] {elts : List Expr} {kk : Nat} {tpos : Pos} (ha : PEs X L tb o a ca) (hg : Gl X "enumerate" := by rfl) (hs : starEach [a] X.env = [(false, eval a X.env)] := by rfl) : PIs X L tb o (.Tuple elts kk tpos) (.Call (.Name "enumerate" p) [a] [] pos) (.enm ca) :=
  ⟨fun W tk => PIimp (pi_enumA hg (Lay.bi (X := X) (L := L) (tb := tb) (o := o) (k := k) _ (by decide +kernel)) (pa_cons (ha.run W tk) pa_nil hs) hs) fun σ H Q h => by
  have hK := Lay.K (X := X) (L := L) (tb := tb) (o := o) (k := k)
  obtain ⟨γ, G, f, P, e, gp, st, m, kk⟩ := h
  simp only [evI, bnd_assoc] at m
  refine (m.bind (rep := Rep L) gp st).imp fun v H1 ⟨d, e1, m1⟩ => ?_
  cases q : seqD d.frz with
  | none => rw [q] at m1; exact m1.none.elim
  | some xs =>
    rw [q] at m1
    simp only [bnd_val] at m1
    have m2 := m1.freeze gp st
    rcases seqD_frz q with ⟨ow, ys, rfl, rfl⟩ | ⟨ow, ys, rfl, rfl⟩ | ⟨ow, ys, rfl, rfl⟩
    · obtain ⟨Z, S1, S2, k1, dj, re, ⟨Sa, Sb, h1, h2, aj, q1, q2⟩, r', h', g⟩ := id m2
      obtain ⟨l, vs, rfl, _, hl, rr⟩ := shape_tup q2
      rw [← hK] at hl
      exact ⟨l, vs, rfl, .inr ⟨hl, kk _ H1 _ e1 _ stb_tup wk_enmT ⟨Z, S1, S2, k1, dj, re, ⟨Sa, Sb, h1, h2, aj, q1, rr, hl⟩, r', h', g⟩⟩⟩
    · obtain ⟨Z, S1, S2, k1, dj, re, ⟨Sa, Sb, h1, h2, aj, q1, q2⟩, r', h', g⟩ := id m2
      obtain ⟨l, vs, rfl, hl, _, rr⟩ := shape_lst q2
      have hlen := rr.length
      exact ⟨l, vs, rfl, .inl ⟨.of hl, kk _ H1 _ e1 _ stb_lst (wk_enmL (vs := vs)) ⟨Z, S1, S2, k1, dj, re, ⟨Sa, Sb, h1, h2, aj, q1, q2, hl, hlen⟩, r', h', g⟩⟩⟩
    · obtain ⟨Z, S1, S2, k1, dj, re, ⟨Sa, Sb, h1, h2, aj, q1, q2⟩, r', h', g⟩ := id m2
      obtain ⟨l, vs, rfl, hl, rr⟩ := shape_cl q2
      exact ⟨l, vs, rfl, .inl ⟨by rw [hK]; exact hl.sq, kk _ H1 _ e1 _ stb_cl (wk_enmC hK) ⟨Z, S1, S2, k1, dj, re, ⟨Sa, Sb, h1, h2, aj, q1, rr, hl⟩, r', h', g⟩⟩⟩⟩
/-- for x, y in zip(a, b), tuples -/
theorem ci_zip [Lay X L tb o k] {elts : List Expr} {kk : Nat} {tpos : Pos} (ha : PEs X L tb o a ca) (hb : PEs X L tb o b cb) (hg : Gl X "zip" := by rfl) (hs : starEach [a, b] X.env = (false, eval a X.env) :: starEach [b] X.env := by rfl) (hs2 : starEach [b] X.env = (false, eval b X.env) :: starEach [] X.env := by rfl) : PIs X L tb o (.Tuple elts kk tpos) (.Call (.Name "zip" p) [a, b] [] pos) (.zip ca cb) :=
  ⟨fun W tk => PIimp (RZ.pi_zipA hg (Lay.bi (X := X) (L := L) (tb := tb) (o := o) (k := k) _ (by decide +kernel)) (pa_cons (ha.run W tk) (pa_cons (hb.run W tk) pa_nil hs2) hs) hs (by rw [hs2]; rfl)) fun σ H Q h => by
  have hK := Lay.K (X := X) (L := L) (tb := tb) (o := o) (k := k)
  obtain ⟨γ, G, f, P, e, gp, st, m, kk⟩ := h
  simp only [evI, bnd_assoc] at m
  refine (m.bind (rep := Rep L) gp st).imp fun v H1 ⟨d, e1, m1⟩ => ?_
  refine (m1.bind (rep := Rep L) gp (st.spl stb_rep)).imp fun w H2 ⟨d2, e2, m2⟩ => ?_
  cases q : seqD d.frz with
  | none => rw [q] at m2; exact m2.none.elim
  | some xs =>
    cases q' : seqD d2.frz with
    | none => rw [q, q'] at m2; exact m2.none.elim
    | some ys =>
      rw [q, q'] at m2
      cases ql : isLst d || isLst d2 with
      | true => simp only [ql, if_true] at m2; exact m2.none.elim
      | false =>
      simp only [ql, Bool.false_eq_true, if_false, bnd_val] at m2
      simp only [Bool.or_eq_false_iff] at ql
      have m3 := m2.freeze gp (st.spl stb_rep)
      have m4 := (m3.imp (P' := Spl (Spl P (fun Z H S => Rep L Z H w d2.frz S)) (fun Z H S => Rep L Z H v d S)) fun Z S _ z => Spl.swap z).freeze gp (st.spl stb_rep)
      rcases seqD_frz q with ⟨ow, xs, rfl, rfl⟩ | ⟨ow, xs, rfl, rfl⟩ | ⟨ow, xs, rfl, rfl⟩
      · rcases seqD_frz q' with ⟨ow', ys, rfl, rfl⟩ | ⟨ow', ys, rfl, rfl⟩ | ⟨ow', ys, rfl, rfl⟩
        · obtain ⟨Z, S1, S2, k1, dj, re, ⟨Sx, Sy, g1, g2, gj, ⟨Sa, Sb, h1, h2, aj, q1, q2⟩, q3⟩, r', h', g⟩ := id m4
          obtain ⟨l, vs, rfl, _, hl, rr⟩ := shape_tup q3
          obtain ⟨l2, vs2, rfl, _, hl2, rr2⟩ := shape_tup q2
          rw [← hK] at hl hl2
          exact ⟨l, l2, vs, vs2, rfl, .inr ⟨hl, hl2, kk _ H2 _ e2 _ (stb_tup.spl stb_tup) wk_zipT ⟨Z, S1, S2, k1, dj, re, ⟨Sa, OrS Sy Sb, fun b z => g1 b (h1 b z), fun b z => z.elim (g2 b) (fun z => g1 b (h2 b z)), fun b z y => y.elim (gj b (h1 b z)) (aj b z), q1, Sy, Sb, fun b z => .inl z, fun b z => .inr z, fun b z y => gj b (h2 b y) z, ⟨rr, hl⟩, ⟨rr2, hl2⟩⟩, r', h', g⟩⟩⟩
        · cases ql.2
        · cases ql.2
      · cases ql.1
      · cases ql.1⟩
end
end PL

/-! PL.Lc: targets; comprehensions. -/
namespace PL
open PySem L2
mutual
def T.sl : T → List Nat
  | .v i => [i]
  | .t ts => slL ts
def slL : List T → List Nat
  | [] => []
  | t :: ts => t.sl ++ slL ts
end
def Chg (sl : List Nat) (σ σ' : St) : Prop := σ'.length = σ.length ∧ ∀ i : Nat, i ∉ sl → σ'[i]? = σ[i]?
theorem Chg.trans {a b : List Nat} {σ σ1 σ2 : St} (h : Chg a σ σ1) (h' : Chg b σ1 σ2) : Chg (a ++ b) σ σ2 :=
  ⟨h'.1.trans h.1, fun i n => by rw [h'.2 i fun z => n (List.mem_append_right _ z), h.2 i fun z => n (List.mem_append_left _ z)]⟩
def tTg (L : Lo) (pr : List Nat) (t : T) : TG := fun v σ H Q => ∃ d Z S1 S2 e e', RepE L Z H σ e S1 ∧ Rep L Z H v d S2 ∧ (∀ b, S1 b → ¬ S2 b) ∧ storeT pr t d e = some e' ∧
  ∀ σ', Chg t.sl σ σ' → (∀ i ∈ pr, i ∉ t.sl) → RepE L Z H σ' e' (OrS S1 S2) → Q σ' H
def tTgs (L : Lo) (pr : List Nat) (t : List T) : TGs := fun v σ H Q => ∃ d Z S1 S2 e e', RepE L Z H σ e S1 ∧ Reps L Z H v d S2 ∧ (∀ b, S1 b → ¬ S2 b) ∧ storeTs pr t d e = some e' ∧
  ∀ σ', Chg (slL t) σ σ' → (∀ i ∈ pr, i ∉ slL t) → RepE L Z H σ' e' (OrS S1 S2) → Q σ' H
structure PTg (X : Cx) (L : Lo) (pr : List Nat) (tg : Expr) (t : T) : Prop where
  run : PG X tg (tTg L pr t)
structure PTgs (X : Cx) (L : Lo) (pr : List Nat) (tg : List Expr) (t : List T) : Prop where
  run : L2.PGs X tg (tTgs L pr t)
theorem PGimp {X : Cx} {tg : Expr} {t t' : TG} (p : PG X tg t) (h : ∀ v σ H Q, t' v σ H Q → t v σ H Q) : PG X tg t' := ⟨fun pins s σ H v u Q I r hq => p.run pins s σ H v u Q I r (h v σ H Q hq)⟩
theorem PGsimp {X : Cx} {tg : List Expr} {t t' : TGs} (p : L2.PGs X tg t) (h : ∀ v σ H Q, t' v σ H Q → t v σ H Q) : L2.PGs X tg t' := ⟨fun pins s σ H v u Q I r hq => p.run pins s σ H v u Q I r (h v σ H Q hq)⟩
section
variable {X : Cx} {L : Lo} {pos : Pos} {pr : List Nat}
theorem tg_v (i : Nat) {x : Str} (hN : X.N.Nodup) (hi : X.N[i]? = some x := by rfl) (hx : Loc X.env.scope x := by first | exact Or.inl rfl | exact Or.inr rfl)
    (hf : X.fn x = true ∨ X.env.scope.names.lookup x = some .local := by first | exact .inl rfl | exact .inr rfl) : PTg X L pr (.Name x pos) (.v i) := ⟨PGimp (pg_name hN hi hx hf) fun v σ H Q ⟨d, Z, S1, S2, e, e', re, r, dj, hs, k⟩ => by
  simp only [storeT] at hs
  have np : i ∉ pr := fun z => by
    rw [show pr.contains i = true from by simpa using z] at hs
    simp at hs
  rw [show pr.contains i = false from by simpa using np] at hs
  simp only [Bool.false_eq_true, if_false, Option.some.injEq] at hs
  subst hs
  refine k _ ⟨by simp, fun j hj => ?_⟩ (fun j hj => ?_) (re.store r (fun b z => .inr z) (fun b z => .inl z) fun b z y => dj b y z)
  · simp only [T.sl, List.mem_singleton] at hj
    rw [List.getElem?_set]
    split
    · rename_i h; exact absurd h.symm hj
    · rfl
  · simp only [T.sl, List.mem_singleton]
    exact fun z => np (z ▸ hj)⟩
theorem tgs_nil : PTgs X L pr [] [] := ⟨PGsimp pgs_nil fun v σ H Q ⟨d, Z, S1, S2, e, e', re, r, dj, hs, k⟩ => by
  cases d with
  | cons x xs => simp only [storeTs, reduceCtorEq] at hs
  | nil =>
    simp only [Reps] at r
    simp only [storeTs, Option.some.injEq] at hs
    subst r hs
    exact ⟨rfl, k σ ⟨rfl, fun _ _ => rfl⟩ (fun _ _ => by simp [slL]) (re.mono fun b z => .inl z)⟩⟩
theorem tgs_cons {x : Expr} {xs : List Expr} {t : T} {ts : List T} (h1 : PTg X L pr x t) (h2 : PTgs X L pr xs ts)
    (hs : (assignEach (x :: xs) X.env).map (·.2) = assign x X.env :: (assignEach xs X.env).map (·.2) := by rfl) : PTgs X L pr (x :: xs) (t :: ts) := ⟨PGsimp (pgs_cons h1.run h2.run hs) fun v σ H Q ⟨d, Z, S1, S2, e, e', re, r, dj, hst, k⟩ => by
  cases d with
  | nil => simp only [storeTs, reduceCtorEq] at hst
  | cons d ds =>
    simp only [storeTs] at hst
    simp only [Reps] at r
    obtain ⟨v1, vs, T1, T2, ev, t1, t2, tj, r1, r2⟩ := r
    subst ev
    cases q : storeT pr t d e with
    | none => rw [q] at hst; cases hst
    | some e1 =>
      rw [q] at hst
      refine ⟨v1, vs, rfl, d, Z, S1, T1, e, e1, re, r1, fun b z y => dj b z (t1 b y), q, fun σ1 c1 n1 re1 => ?_⟩
      refine ⟨ds, Z, OrS S1 T1, T2, e1, e', re1, r2, fun b z y => z.elim (fun z => dj b z (t2 b y)) fun z => tj b z y, hst, fun σ2 c2 n2 re2 => ?_⟩
      refine k σ2 (by simp only [slL]; exact c1.trans c2) (fun i hi => ?_) (re2.mono fun b z => ?_)
      · simp only [slL, List.mem_append, not_or]
        exact ⟨n1 i hi, n2 i hi⟩
      · rcases z with (z | z) | z
        · exact .inl z
        · exact .inr (t1 b z)
        · exact .inr (t2 b z)⟩
theorem storeTs_len {pr : List Nat} : ∀ (ts : List T) (xs : List D) (e e' : Env), storeTs pr ts xs e = some e' → xs.length = ts.length
  | [], [], _, _, _ => rfl
  | [], x :: xs, _, _, h => by simp only [storeTs, reduceCtorEq] at h
  | t :: ts, [], _, _, h => by simp only [storeTs, reduceCtorEq] at h
  | t :: ts, x :: xs, e, e', h => by
    simp only [storeTs] at h
    cases q : storeT pr t x e with
    | none => rw [q] at h; cases h
    | some e1 => rw [q] at h; simp [storeTs_len ts xs e1 e' h]
theorem tg_t {tb : Tab} {o : Orc} {k : Nat} [Lay X L tb o k] {es : List Expr} {j : Nat} {ts : List T} (h : PTgs X L pr es ts)
    (hn : (assignEach es X.env).length = ts.length := by rfl) (hst : (assignEach es X.env).findIdx? (·.1) = none := by rfl) : PTg X L pr (.Tuple es j pos) (.t ts) := ⟨PGimp (pg_tup (Lay.calm (X := X) (L := L) (tb := tb) (o := o) (k := k)) h.run hn hst) fun v σ H Q ⟨d, Z, S1, S2, e, e', re, r, dj, hs, kk⟩ => by
  have hK := Lay.K (X := X) (L := L) (tb := tb) (o := o) (k := k)
  cases d with
  | nd kd ow xs =>
    cases kd with
    | pr =>
      obtain ⟨a, vs, rfl, e0, sq, rr⟩ := shape_pr r
      simp only [storeT] at hs
      exact ⟨a, vs, rfl, by rw [hK]; exact sq, by rw [rr.length]; exact storeTs_len ts xs e e' hs, xs, Z, S1, S2, e, e', re, rr, dj, hs, fun σ' c n re' => kk σ' (by simpa only [T.sl] using c) (by simpa only [T.sl] using n) re'⟩
    | tup =>
      obtain ⟨a, vs, rfl, e0, sq, rr⟩ := shape_tup r
      simp only [storeT] at hs
      exact ⟨a, vs, rfl, by rw [hK]; exact sq, by rw [rr.length]; exact storeTs_len ts xs e e' hs, xs, Z, S1, S2, e, e', re, rr, dj, hs, fun σ' c n re' => kk σ' (by simpa only [T.sl] using c) (by simpa only [T.sl] using n) re'⟩
    | _ => simp only [storeT, reduceCtorEq] at hs
  | _ => simp only [storeT, reduceCtorEq] at hs⟩
end

/-! ### comprehensions -/
structure PIf (X : Cx) (L : Lo) (tb : Tab) (o : Orc) (ifs : List Expr) (c : C) : Prop where
  run : ∀ W, Takes X W → PTs X ifs (tG L W repB (evT tb o c))
theorem PTsimp {X : Cx} {e : List Expr} {t t' : TT} (p : PTs X e t) (h : ∀ σ H Q, t' σ H Q → t σ H Q) : PTs X e t' := ⟨fun pins s σ H Q I hq => p.run pins s σ H Q I (h σ H Q hq)⟩
theorem cf_n {X : Cx} {L : Lo} {tb : Tab} {o : Orc} : PIf X L tb o [] .tt := ⟨fun W tk => PTsimp pts_nil fun σ H Q h => by
  obtain ⟨e, m⟩ := h.mid
  simp only [evT] at m
  exact m.fin fun Z S _ _ => rfl⟩
theorem cf_1 {X : Cx} {L : Lo} {tb : Tab} {o : Orc} {c : Expr} {cc : C} (h : PTs' X L tb o c cc) : PIf X L tb o [c] cc := ⟨fun W tk => pts_one (h.run W tk)⟩
theorem set_get {α : Type} {l : List α} {i j : Nat} {x : α} : (l.set i x)[j]? = if i = j then (if j < l.length then some x else none) else l[j]? := by
  rw [List.getElem?_set]
  split
  · rename_i h; subst h; rfl
  · rfl
theorem wipe_get {σ : St} {i : Nat} : ∀ {vs : List Nat}, (wipe σ vs)[i]? = if i ∈ vs then (if i < σ.length then some none else none) else σ[i]?
  | [] => by simp [wipe]
  | v :: vs => by
    unfold wipe
    rw [set_get, wipe_length, wipe_get]
    by_cases c : v = i
    · subst c; simp
    · rw [if_neg c]; simp only [List.mem_cons, show ¬ i = v from fun z => c z.symm, false_or]
theorem wipe_chg {σ σ' : St} {sl own : List Nat} (h : Chg sl (wipe σ own) σ') (hs : ∀ i ∈ sl, i ∈ own) : wipe σ' own = wipe σ own := by
  have hl : σ'.length = σ.length := by rw [h.1, wipe_length]
  refine List.ext_getElem? fun i => ?_
  rw [wipe_get, wipe_get]
  by_cases c : i ∈ own
  · rw [if_pos c, if_pos c, hl]
  · rw [if_neg c, if_neg c, h.2 i fun z => c (hs i z), wipe_get, if_neg c]
theorem RepE.wipe {L : Lo} {Z S : AS} {H : Hp} {σ : St} {e : Env} (h : RepE L Z H σ e S) : ∀ own, RepE L Z H (L2.wipe σ own) (wipeE e own) S
  | [] => h
  | v :: vs => by
    have ih := RepE.wipe h vs
    unfold L2.wipe wipeE
    obtain ⟨F, f1, f2, f3⟩ := ih.ex
    refine ⟨by rw [List.length_set, List.length_set]; exact ih.len, F, f1, f2, fun i d hd => ?_⟩
    rw [set_get] at hd
    by_cases c : v = i
    · rw [if_pos c] at hd
      split at hd <;> cases hd
    · rw [if_neg c] at hd
      obtain ⟨w, ew, r⟩ := f3 i d hd
      refine ⟨w, ?_, r⟩
      rw [set_get, if_neg c]; exact ew
theorem RepE.unwipe {L : Lo} {Z S : AS} {H : Hp} {σ : St} {e : Env} {own : List Nat} (h : RepE L Z H (L2.wipe σ own) e S) : RepE L Z H σ e S := by
  obtain ⟨F, f1, f2, f3⟩ := h.ex
  refine ⟨by rw [← wipe_length σ own]; exact h.len, F, f1, f2, fun i d hd => ?_⟩
  obtain ⟨w, ew, r⟩ := f3 i d hd
  exact ⟨w, (wipe_some ew).1, r⟩
section
variable {L : Lo} {W : WX} {σ : St} {α β γ : Type} {rep : AS → Hp → β → α → AS → Prop} {G : AS → AS → Hp → Out γ → Prop} {H : Hp} {e : Env} {P : AS → Hp → AS → Prop} {r : R γ}
/-- a value is asked for: what is held stays -/
theorem MidH.ask {W' : WX} {ev : Env → R α} {d : α} {e1 : Env} (gs : GS G) (st : Stb P) (m : MidH L σ H e P G r) (h : ev e = some (.val d e1)) :
    tG L W' rep ev σ H (fun v H1 => MidH L σ H1 e1 (Spl P (fun Z H S => rep Z H v d S)) G r) := by
  obtain ⟨Z, S1, S2, k, dj, re, rs, r', h', g⟩ := m
  have k1 : Ok Z S1 H := k.mono fun b z => .inl z
  refine ⟨Z, S1, e, _, k1, re, h, ?_⟩
  intro v H' Z' T1 T2 a k' dj' re' rv
  obtain ⟨a', k2, d2⟩ := a.hold k dj k'
  refine ⟨Z', T1, OrS S2 T2, k2.mono fun b z => ?_, fun b hb z => ?_, re',
    ⟨S2, T2, fun b z => .inl z, fun b z => .inr z, fun b z y => d2 b (.inr y) z, st.st a.fr k1.own.w (fun b z y => k1.dj b y z) a.zz (fun b z y => dj b y z) rs, rv⟩, r', h', gs.step g (a'.trans (Step.refl fun b z => ?_))⟩
  · rcases z with z | z | z
    · exact .inl (.inl z)
    · exact .inr z
    · exact .inl (.inr z)
  · rcases z with z | z
    · exact d2 b (.inl hb) z
    · exact dj' b hb z
  · rcases z with z | z | z
    · exact .inl (.inl z)
    · exact .inr z
    · exact .inl (.inr z)
/-- what an iterator gives goes into a target -/
theorem MidH.yield {pr : List Nat} {t : T} {x : V} {H' : Hp} {d : PL.D} {e1 : Env} (gs : GS G) (st : Stb P) (m : MidH L σ H e P G r)
    (hY : ∀ Z S, P Z H S → Yk L Z H x H' d) (hs : storeT pr t d e = some e1) {Q : St → Hp → Prop} (kk : ∀ σ2, Chg t.sl σ σ2 → (∀ i ∈ pr, i ∉ t.sl) → MidH L σ2 H' e1 P G r → Q σ2 H') : tTg L pr t x σ H' Q := by
  obtain ⟨Z, S1, S2, k, dj, re, rs, r', h', g⟩ := m
  obtain ⟨y1, y2⟩ := hY Z S2 rs
  have f0 : Fr NoAS H H' := by
    rcases y1 with rfl | ⟨p, xs, hp, rfl⟩
    · exact fr_refl
    · exact upd_fr hp NoAS
  have nn : ∀ b, H' b = Option.none → H b = Option.none := by
    rcases y1 with rfl | ⟨p, xs, hp, rfl⟩
    · exact fun _ z => z
    · exact fun b => upd_nn
  have re1 : RepE L Z H' σ e S1 := re.fr f0 (fun _ z => z.elim) (fun _ _ z => z) (fun _ z => z) fun _ _ z => z
  have rs1 : P Z H' S2 := st.st f0 (fun _ _ _ z => z.elim) (fun _ _ z => z) (fun _ z => z) (fun _ _ z => z) rs
  have k1 : Ok Z (OrS S1 S2) H' := ⟨k.dj, fun b hb => by
    have := k.own b hb
    cases e : H b with
    | none => exact absurd e (k.sd hb)
    | some ob => rw [f0 b ob e fun z => z, ← e]; exact this, fun b z y => k.zd b z (nn b y)⟩
  refine ⟨d, Z, S1, NoAS, e, e1, re1, y2, fun _ _ z => z, hs, fun σ2 c n re2 => kk σ2 c n ⟨Z, S1, S2, k1, dj, re2.mono fun b z => z.elim id fun z => z.elim, rs1, r', h', gs.step g ⟨fun _ z => z, fun _ z => .inl z, fun _ z => .inl z, fun b ob e _ => f0 b ob e fun z => z, nn⟩⟩⟩
theorem MidH.wipe (m : MidH L σ H e P G r) (own : List Nat) : MidH L (L2.wipe σ own) H (wipeE e own) P G r := by
  obtain ⟨Z, S1, S2, k, dj, re, rs, r', h', g⟩ := m
  exact ⟨Z, S1, S2, k, dj, re.wipe own, rs, r', h', g⟩
end
theorem Spl.assoc {A B C : AS → Hp → AS → Prop} {Z S : AS} {H : Hp} (h : Spl (Spl A B) C Z H S) : Spl A (Spl B C) Z H S := by
  obtain ⟨Sab, Sc, b1, b2, bj, ⟨Sa, Sb, a1, a2, aj, q1, q2⟩, q3⟩ := h
  exact ⟨Sa, OrS Sb Sc, fun b z => b1 b (a1 b z), fun b z => z.elim (fun z => b1 b (a2 b z)) (b2 b), fun b z y => y.elim (aj b z) (bj b (a1 b z)), q1, Sb, Sc, fun b z => .inl z, fun b z => .inr z, fun b z y => bj b (a2 b z) y, q2, q3⟩
theorem Spl.left {A B : AS → Hp → AS → Prop} (sa : Stb A) {Z S : AS} {H : Hp} (h : Spl A B Z H S) : A Z H S := by
  obtain ⟨Sa, Sb, a1, a2, aj, q1, q2⟩ := h
  exact sa.mo a1 q1
theorem Spl.mid {A A' B : AS → Hp → AS → Prop} {Z S : AS} {H : Hp} (h : Spl A B Z H S) (k : ∀ S, A Z H S → A' Z H S) : Spl A' B Z H S := by
  obtain ⟨Sa, Sb, a1, a2, aj, q1, q2⟩ := h
  exact ⟨Sa, Sb, a1, a2, aj, k Sa q1, q2⟩
section
variable {X : Cx} {L : Lo} {tb : Tab} {o : Orc} {k : Nat} {pos : Pos}
theorem lc_run [Lay X L tb o k] {W : WX} {W0 W1 : WX} {elt : E} {tg : T} {it : I} {cond : C} {own : List Nat} (hsub : ∀ i ∈ tg.sl, i ∈ own) {σ : St} {H : Hp} {Q : V → Hp → Prop} (h : tG L W (Rep L) (evE tb o (.lc elt tg it cond own)) σ H Q) :
    tLc (tIt L W tb o it) (tTg L [] tg) (tG L W0 repB (evT tb o cond)) (tG L W1 (Rep L) (evE tb o elt)) own σ H Q := by
  obtain ⟨e, m⟩ := h.mid
  simp only [evE] at m
  refine ⟨_, _, _, _, e, gp_e, stb_reps, Mid.toH m, fun J H1 items e1 Hd sth wk m1 => fun dl hD => ?_⟩
  obtain ⟨GH, Y, w, hgh, hy⟩ := wk.ex
  cases q : loopC (fun x e => storeT [] tg x e) (fun e => evT tb o cond e) (fun e => evE tb o elt e) own items (wipeE e1 own) with
  | none => rw [q] at m1; exact m1.none.elim
  | some p =>
  obtain ⟨ds9, e9⟩ := p
  rw [q] at m1
  dsimp only at m1
  by_cases hz : ds9.length ≤ sizeLine
  · rw [if_pos hz] at m1
    have m2 := (m1.newAt gs_e (stb_reps.spl sth) hD (ob := .lst []) trivial).wipe own
    let Base : AS → Hp → AS → Prop := Spl (fun Z H S => Reps L Z H [] [] S) Hd
    have sb : Stb Base := stb_reps.spl sth
    let Pv : Nat → Hp → Prop := fun i H' => ∃ (acc : List V) (dacc ds : List D) (e : Env), MidH L (L2.wipe σ own) H' e (Spl (Spl Base (fun Z H S => Reps L Z H acc dacc S)) (At dl (.lst acc))) (GE L W σ (Rep L) Q) (some (.val (.nd .lst true ds9) e9)) ∧
      loopC (fun x e => storeT [] tg x e) (fun e => evT tb o cond e) (fun e => evE tb o elt e) own (items.drop i) e = some (ds, e9) ∧ dacc ++ ds = ds9
    refine lc_it (g := tTg L [] tg) (tt := tG L W0 repB (evT tb o cond)) (te := tG L W1 (Rep L) (evE tb o elt)) (Qd := fun H => Q (.ref dl) H) w Pv ?_ ?_ ?_ ?_
    · refine ⟨[], [], ds9, _, m2.imp fun Z S _ p => ?_, q, rfl⟩
      exact p.mid fun S z => ⟨S, NoAS, fun _ z => z, fun _ z => z.elim, fun _ _ z => z, z, reps_nil⟩
    · rintro i H' hi ⟨acc, dacc, ds, e, ⟨Z, S1, S2, _, _, _, ⟨Sa, Sb, _, _, _, ⟨Sc, Sd, _, _, _, ⟨Se, Sf, _, _, _, _, hh⟩, _⟩, _⟩, _⟩, _, _⟩
      exact hgh _ _ _ hh
    · rintro i x H2 H3 hi ⟨acc, dacc, ds, e, m3, hl, hds⟩ hY
      have hget : items[i]? = some items[i] := List.getElem?_eq_getElem hi
      rw [List.drop_eq_getElem_cons hi] at hl
      simp only [loopC] at hl
      cases qt : storeT [] tg items[i] e with
      | none => rw [qt] at hl; cases hl
      | some e2 =>
      rw [qt] at hl
      dsimp only at hl
      refine MidH.yield (P := Spl (Spl Base (fun Z H S => Reps L Z H acc dacc S)) (At dl (.lst acc))) (G := GE L W σ (Rep L) Q) gs_e ((sb.spl stb_reps).spl stb_at) m3 (fun Z S ⟨Sa, Sb, _, _, _, ⟨Sc, Sd, _, _, _, ⟨Se, Sf, _, _, _, _, hh⟩, _⟩, _⟩ => hy _ _ _ i x H3 _ hh hget hY) qt fun σ2 ch _ m4 => ?_
      have hw := wipe_chg ch hsub
      refine ⟨hw, ?_⟩
      cases qc : evT tb o cond e2 with
      | none => rw [qc] at hl; cases hl
      | some rc =>
      rw [qc] at hl
      cases rc with
      | exc x e => cases hl
      | val b e3 =>
      refine (m4.ask (rep := repB) gs_e ((sb.spl stb_reps).spl stb_at) qc).imp fun b' H4 m5 => ?_
      have eb : b' = b := by
        obtain ⟨Z, S1, S2, _, _, _, ⟨_, _, _, _, _, _, z⟩, _⟩ := m5
        exact z
      subst eb
      have m6 := m5.imp fun Z S _ p => Spl.left ((sb.spl stb_reps).spl stb_at) p
      cases b' with
      | false =>
        simp only [Bool.false_eq_true, if_false] at hl ⊢
        refine ⟨acc, dacc, ds, _, ?_, hl, hds⟩
        have m7 := m6.wipe own
        rw [hw] at m7
        exact m7
      | true =>
        simp only [if_true] at hl ⊢
        cases qe : evE tb o elt e3 with
        | none => rw [qe] at hl; cases hl
        | some re =>
        rw [qe] at hl
        cases re with
        | exc x e => cases hl
        | val y e4 =>
        dsimp only at hl
        cases ql : loopC (fun x e => storeT [] tg x e) (fun e => evT tb o cond e) (fun e => evE tb o elt e) own (items.drop (i + 1)) (wipeE e4 own) with
        | none => rw [ql] at hl; cases hl
        | some p =>
        obtain ⟨ds1, e9'⟩ := p
        rw [ql] at hl
        simp only [Option.map_some, Option.some.injEq, Prod.mk.injEq] at hl
        obtain ⟨rfl, rfl⟩ := hl
        refine (m6.ask (rep := Rep L) gs_e ((sb.spl stb_reps).spl stb_at) qe).imp fun yv H5 m8 => ?_
        have ha : H5 dl = some (.lst acc) ∧ acc.length = dacc.length := by
          obtain ⟨Z, S1, S2, _, _, _, ⟨_, _, _, _, _, ⟨_, _, _, _, _, ⟨_, _, _, _, _, _, rr⟩, z⟩, _⟩, _⟩ := m8
          exact ⟨z.2, rr.length⟩
        refine ⟨acc, ha.1, by rw [ha.2]; rw [← hds] at hz; simp at hz; omega, acc ++ [yv], dacc ++ [y], ds1, _, ?_, ql, by simpa using hds⟩
        have m9 := m8.imp fun Z S _ p => Spl.swap p
        have m10 := m9.imp (P' := Spl (Spl Base (fun Z H S => Reps L Z H (acc ++ [yv]) (dacc ++ [y]) S)) (At dl (.lst acc))) fun Z S _ p => p.mid fun S z => by
          obtain ⟨Sa, Sb, a1, a2, aj, q1, Sc, Sd, b1, b2, bj, q2, q3⟩ := Spl.assoc z
          exact ⟨Sa, Sb, a1, a2, aj, q1, reps_append b1 b2 bj q2 (reps_cons (S1 := Sd) (S2 := NoAS) (fun _ z => z) (fun _ z => z.elim) (fun _ _ z => z) q3 reps_nil)⟩
        have m11 := (m10.updAt gs_e (sb.spl stb_reps) (ob' := .lst (acc ++ [yv])) trivial).wipe own
        rw [hw] at m11
        exact m11
    · rintro H' ⟨acc, dacc, ds, e, m3, hl, hds⟩
      rw [List.drop_length] at hl
      simp only [loopC, Option.some.injEq, Prod.mk.injEq] at hl
      obtain ⟨rfl, rfl⟩ := hl
      rw [List.append_nil] at hds
      subst hds
      obtain ⟨Z, S1, S2, k1, dj, re, ⟨Sa, Sb, a1, a2, aj, ⟨Sc, Sd, b1, b2, bj, _, rr⟩, hat⟩, r', h', g⟩ := m3
      cases h'
      refine g (.ref dl) H' Z S1 S2 (Step.refl fun _ z => z) k1 dj re.unwipe ?_
      simp only [Rep]
      exact ⟨dl, acc, rfl, ⟨hat.2, fun z => by cases z⟩, fun _ => a2 dl hat.1, reps_mono (fun b z => ⟨a1 b (b2 b z), fun _ y => aj b (b2 b z) (y ▸ hat.1)⟩) rr⟩
  · rw [if_neg hz] at m1
    exact m1.none.elim
theorem ce_lc [Lay X L tb o k] {elt tg iter : Expr} {ifs : List Expr} {scope : Scope} (own : List (Str × Nat)) {ct : T} {ci : I} {cc : C} {ce : E} {ownI : List Nat} (hN : X.N.Nodup) (ok : BlkOk X.N X.env.scope scope own) (hi : PIs X L tb o tg iter ci)
    (hg : ∀ (s : Shared) (H : Hp) (C : Addr) (cl : List (Str × Addr)) (fp : List Addr), PTg (X.blk s H scope (compEnvC scope cl C X.env) fp) L [] tg ct) (hf : ∀ (s : Shared) (H : Hp) (C : Addr) (cl : List (Str × Addr)) (fp : List Addr), PIf (X.blk s H scope (compEnvC scope cl C X.env) fp) L tb o ifs cc)
    (he : ∀ (s : Shared) (H : Hp) (C : Addr) (cl : List (Str × Addr)) (fp : List Addr), PEs (X.blk s H scope (compEnvC scope cl C X.env) fp) L tb o elt ce) (hw : own.map (·.2) = ownI := by rfl) (hsub : ∀ i ∈ ct.sl, i ∈ ownI := by decide) (hs : ∀ x, foldedSetIterable iter X.env x = pure x := by intro _; rfl) :
    PEs X L tb o (.ListComp elt [⟨tg, iter, ifs, 0⟩] scope pos) (.lc ce ct ci cc ownI) := by
  subst hw
  exact ⟨fun W tk => PEimp (pe_lc (Lay.calm (X := X) (L := L) (tb := tb) (o := o) (k := k)) hN (hi.run W tk) ok (fun s H C cl fp => (hg s H C cl fp).run) (fun s H C cl fp => (hf s H C cl fp).run _ L2.takes0) (fun s H C cl fp => (he s H C cl fp).run _ L2.takes0) hs)
    fun σ H Q h => lc_run (X := X) (k := k) hsub h⟩
end
end PL

/-! PL.Stm: statements. -/
namespace PL
open PySem L2
/-- the changed parameters' slots are as they were -/
def Same (pr : List Nat) (σ σ' : St) : Prop := ∀ i ∈ pr, σ'[i]? = σ[i]?
theorem Same.refl {pr : List Nat} {σ : St} : Same pr σ σ := fun _ _ => rfl
theorem Same.trans {pr : List Nat} {σ σ1 σ2 : St} (h : Same pr σ σ1) (h' : Same pr σ1 σ2) : Same pr σ σ2 := fun i hi => (h' i hi).trans (h i hi)
theorem Same.chg {pr sl : List Nat} {σ σ' : St} (h : Chg sl σ σ') (n : ∀ i ∈ pr, i ∉ sl) : Same pr σ σ' := fun i hi => h.2 i (n i hi)
def GoodS (L : Lo) (W : WX) (pr : List Nat) (σ : St) (D : Ends) : AS → AS → Hp → Out Fl → Prop := fun Z S H r =>
  match r with
  | .val .nx e => ∀ σ' H' Z' S1, Step Z S H Z' S1 H' → Ok Z' S1 H' → RepE L Z' H' σ' e S1 → Same pr σ σ' → D.nx σ' H'
  | .val .bk e => ∀ σ' H' Z' S1, Step Z S H Z' S1 H' → Ok Z' S1 H' → RepE L Z' H' σ' e S1 → Same pr σ σ' → D.bk σ' H'
  | .val .ct e => ∀ σ' H' Z' S1, Step Z S H Z' S1 H' → Ok Z' S1 H' → RepE L Z' H' σ' e S1 → Same pr σ σ' → D.ct σ' H'
  | .val (.rt d) e => ∀ σ' v H' Z' S1 S2, Step Z S H Z' (OrS S1 S2) H' → Ok Z' (OrS S1 S2) H' → (∀ b, S1 b → ¬ S2 b) → RepE L Z' H' σ' e S1 → Rep L Z' H' v d S2 → Same pr σ σ' → D.rt v H'
  | .exc x e => ∀ σ' cls dd H' Z' S1, Step Z S H Z' S1 H' → Ok Z' S1 H' → RepE L Z' H' σ' e S1 → Same pr σ σ' → RepX L Z' H' cls dd x → W cls dd σ' H'
section
variable {L : Lo} {W : WX} {pr : List Nat} {σ σ1 : St} {D : Ends}
theorem gs_s : GS (GoodS L W pr σ D) := ⟨fun {Z S Z1 S1 H H1 r} g a => by
  cases r with
  | exc x e => exact fun σ' cls dd H' Z' T1 b => g σ' cls dd H' Z' T1 (a.trans b)
  | val f e =>
    cases f with
    | nx => exact fun σ' H' Z' T1 b => g σ' H' Z' T1 (a.trans b)
    | bk => exact fun σ' H' Z' T1 b => g σ' H' Z' T1 (a.trans b)
    | ct => exact fun σ' H' Z' T1 b => g σ' H' Z' T1 (a.trans b)
    | rt d => exact fun σ' v H' Z' T1 T2 b => g σ' v H' Z' T1 T2 (a.trans b)⟩
theorem gp_s (h : Same pr σ σ1) : GP L W σ1 (GoodS L W pr σ D) := ⟨fun g a => gs_s.step g a, fun g cls dd H' Z' S1 a k re rx => g σ1 cls dd H' Z' S1 a k re h rx⟩
theorem GoodS.same {Z S : AS} {H : Hp} {r : Out Fl} (g : GoodS L W pr σ D Z S H r) (h : Same pr σ σ1) : GoodS L W pr σ1 D Z S H r := by
  cases r with
  | exc x e => exact fun σ' cls dd H' Z' T1 b k re s => g σ' cls dd H' Z' T1 b k re (h.trans s)
  | val f e =>
    cases f with
    | nx => exact fun σ' H' Z' T1 b k re s => g σ' H' Z' T1 b k re (h.trans s)
    | bk => exact fun σ' H' Z' T1 b k re s => g σ' H' Z' T1 b k re (h.trans s)
    | ct => exact fun σ' H' Z' T1 b k re s => g σ' H' Z' T1 b k re (h.trans s)
    | rt d => exact fun σ' v H' Z' T1 T2 b k dj re rv s => g σ' v H' Z' T1 T2 b k dj re rv (h.trans s)
end
def tS (L : Lo) (W : WX) (pr : List Nat) (ev : Env → SR) : TS := fun D σ H => ∃ Z S e r, Ok Z S H ∧ RepE L Z H σ e S ∧ ev e = some r ∧ GoodS L W pr σ D Z S H r
structure PCs (X : Cx) (L : Lo) (tb : Tab) (o : Orc) (pr : List Nat) (st : Stmt) (c : S) : Prop where
  run : ∀ W, Takes X W → PS X st (tS L W pr (exS tb o pr c))
structure PCss (X : Cx) (L : Lo) (tb : Tab) (o : Orc) (pr : List Nat) (st : List Stmt) (c : List S) : Prop where
  run : ∀ W, Takes X W → PSs X st (tS L W pr (exSs tb o pr c))
section
variable {L : Lo} {W : WX} {pr : List Nat} {σ : St} {D : Ends} {H : Hp} {e : Env} {P : AS → Hp → AS → Prop}
abbrev nP : AS → Hp → AS → Prop := fun _ _ _ => True
theorem tS.mid {ev : Env → SR} (h : tS L W pr ev D σ H) : ∃ e, MidH L σ H e nP (GoodS L W pr σ D) (ev e) := by
  obtain ⟨Z, S, e, r, k, re, h, g⟩ := h
  exact ⟨e, Z, S, NoAS, k.noOr, fun _ _ z => z, re, trivial, r, h, gs_s.step g (Step.refl fun b z => z.elim id fun z => z.elim)⟩
/-- what is held is wanted no more -/
theorem MidH.tS {σ0 : St} {ev : Env → SR} (h : Same pr σ0 σ) (m : MidH L σ H e P (GoodS L W pr σ0 D) (ev e)) : tS L W pr ev D σ H := by
  obtain ⟨Z, S1, S2, k, dj, re, rs, r', h', g⟩ := m
  exact ⟨Z, S1, e, r', k.mono fun b z => .inl z, re, h', (gs_s.step g (Step.refl fun b z => .inl z)).same h⟩
/-- a statement's run, then more -/
theorem MidH.body {γ : Type} {G : AS → AS → Hp → Out γ → Prop} {ev : Env → SR} {f : Fl → Env → R γ} {D' : Ends} (gp : ∀ σ', Same pr σ σ' → GP L W σ' G) (st : Stb P) (m : MidH L σ H e P G (bnd (ev e) f))
    (hn : ∀ σ' H' e', Same pr σ σ' → MidH L σ' H' e' P G (f .nx e') → D'.nx σ' H') (hb : ∀ σ' H' e', Same pr σ σ' → MidH L σ' H' e' P G (f .bk e') → D'.bk σ' H')
    (hc : ∀ σ' H' e', Same pr σ σ' → MidH L σ' H' e' P G (f .ct e') → D'.ct σ' H') (hr : ∀ σ' H' e' v d, Same pr σ σ' → MidH L σ' H' e' (Spl P (fun Z H S => Rep L Z H v d S)) G (f (.rt d) e') → D'.rt v H') : PL.tS L W pr ev D' σ H := by
  obtain ⟨Z, S1, S2, k, dj, re, rs, r', h, g⟩ := m
  have k1 : Ok Z S1 H := k.mono fun b z => .inl z
  have gp0 := gp σ Same.refl
  cases q : ev e with
  | none => rw [q] at h; cases h
  | some r =>
    rw [q] at h
    refine ⟨Z, S1, e, r, k1, re, q, ?_⟩
    have go : ∀ (fl : Fl) (e1 : Env), f fl e1 = some r' → ∀ σ' H' Z' T, Step Z S1 H Z' T H' → Ok Z' T H' → RepE L Z' H' σ' e1 T → Same pr σ σ' → MidH L σ' H' e1 P G (f fl e1) := fun fl e1 hf σ' H' Z' T a k' re' sm => by
      obtain ⟨a', k2, d2⟩ := a.hold k dj k'
      exact ⟨Z', T, S2, k2, d2, re', st.st a.fr k1.own.w (fun b z y => k1.dj b y z) a.zz (fun b z y => dj b y z) rs, r', hf, gp0.step g a'⟩
    cases r with
    | exc x e1 =>
      simp only [bnd_exc, Option.some.injEq] at h
      subst h
      intro σ' cls dd H' Z' T a k' re' sm rx
      obtain ⟨a', k2, _⟩ := a.hold k dj k'
      exact (gp σ' sm).exc g cls dd H' Z' (OrS T S2) a' k2 (re'.mono fun b z => .inl z) rx
    | val fl e1 =>
      simp only [bnd_val] at h
      cases fl with
      | nx => exact fun σ' H' Z' T a k' re' sm => hn σ' H' e1 sm (go _ _ h _ _ _ _ a k' re' sm)
      | bk => exact fun σ' H' Z' T a k' re' sm => hb σ' H' e1 sm (go _ _ h _ _ _ _ a k' re' sm)
      | ct => exact fun σ' H' Z' T a k' re' sm => hc σ' H' e1 sm (go _ _ h _ _ _ _ a k' re' sm)
      | rt d =>
        intro σ' v H' Z' T1 T2 a k' dj' re' rv sm
        obtain ⟨a', k2, d2⟩ := a.hold k dj k'
        refine hr σ' H' e1 v d sm ⟨Z', T1, OrS S2 T2, k2.mono fun b z => ?_, fun b hb z => ?_, re', ⟨S2, T2, fun b z => .inl z, fun b z => .inr z, fun b z y => d2 b (.inr y) z, st.st a.fr k1.own.w (fun b z y => k1.dj b y z) a.zz (fun b z y => dj b y z) rs, rv⟩, r', h, gp0.step g (a'.trans (Step.refl fun b z => ?_))⟩
        · rcases z with z | z | z
          · exact .inl (.inl z)
          · exact .inr z
          · exact .inl (.inr z)
        · rcases z with z | z
          · exact d2 b (.inl hb) z
          · exact dj' b hb z
        · rcases z with z | z | z
          · exact .inl (.inl z)
          · exact .inr z
          · exact .inl (.inr z)
/-- the ends -/
theorem MidH.endN {σ0 : St} (h : Same pr σ0 σ) (m : MidH L σ H e P (GoodS L W pr σ0 D) (some (.val .nx e))) : D.nx σ H := by
  obtain ⟨Z, S1, S2, k, dj, re, rs, r', h', g⟩ := m
  cases h'
  exact g σ H Z S1 (Step.refl fun b z => .inl z) (k.mono fun b z => .inl z) re h
theorem MidH.endB {σ0 : St} (h : Same pr σ0 σ) (m : MidH L σ H e P (GoodS L W pr σ0 D) (some (.val .bk e))) : D.bk σ H := by
  obtain ⟨Z, S1, S2, k, dj, re, rs, r', h', g⟩ := m
  cases h'
  exact g σ H Z S1 (Step.refl fun b z => .inl z) (k.mono fun b z => .inl z) re h
theorem MidH.endC {σ0 : St} (h : Same pr σ0 σ) (m : MidH L σ H e P (GoodS L W pr σ0 D) (some (.val .ct e))) : D.ct σ H := by
  obtain ⟨Z, S1, S2, k, dj, re, rs, r', h', g⟩ := m
  cases h'
  exact g σ H Z S1 (Step.refl fun b z => .inl z) (k.mono fun b z => .inl z) re h
theorem MidH.endR {σ0 : St} {d : PL.D} {v : V} (h : Same pr σ0 σ) (m : MidH L σ H e (Spl P (fun Z H S => Rep L Z H v d S)) (GoodS L W pr σ0 D) (some (.val (.rt d) e))) : D.rt v H := by
  obtain ⟨Z, S1, S2, k, dj, re, ⟨Sa, Sb, a1, a2, aj, q1, q2⟩, r', h', g⟩ := m
  cases h'
  exact g σ v H Z S1 Sb (Step.refl fun b z => z.elim .inl fun z => .inr (a2 b z)) (k.mono fun b z => z.elim .inl fun z => .inr (a2 b z)) (fun b z y => dj b z (a2 b y)) re q2 h
/-- a value in hand goes into a target -/
theorem MidH.store {γ : Type} {G : AS → AS → Hp → Out γ → Prop} {r : R γ} {t : T} {x : V} {d : PL.D} {e1 : Env} (gs : GS G) (st : Stb P) (m : MidH L σ H e (Spl P (fun Z H S => Rep L Z H x d S)) G r) (hs : storeT pr t d e = some e1)
    {Q : St → Hp → Prop} (kk : ∀ σ2, Chg t.sl σ σ2 → (∀ i ∈ pr, i ∉ t.sl) → MidH L σ2 H e1 P G r → Q σ2 H) : tTg L pr t x σ H Q := by
  obtain ⟨Z, S1, S2, k, dj, re, ⟨Sa, Sb, a1, a2, aj, q1, q2⟩, r', h', g⟩ := m
  have sub : ∀ b, OrS (OrS S1 Sb) Sa b → OrS S1 S2 b := fun b z => z.elim (fun z => z.elim .inl fun z => .inr (a2 b z)) fun z => .inr (a1 b z)
  exact ⟨d, Z, S1, Sb, e, e1, re, q2, fun b z y => dj b z (a2 b y), hs, fun σ2 c n re2 => kk σ2 c n ⟨Z, OrS S1 Sb, Sa, k.mono sub, fun b z y => z.elim (fun z => dj b z (a1 b y)) fun z => aj b y z, re2, q1, r', h', gs.step g (Step.refl sub)⟩⟩
end
section
variable {X : Cx} {L : Lo} {tb : Tab} {o : Orc} {k : Nat} {pr : List Nat} {pos p : Pos} {W : WX} {a b : Expr} {ca cb : E}
theorem stb_n : Stb nP := stb_true
/-! ### blocks -/
theorem css_nil : PCss X L tb o pr [] [] := ⟨fun W tk => PSsimp pss_nil fun D σ H h => by
  obtain ⟨e, m⟩ := h.mid
  simp only [exSs] at m
  exact m.endN Same.refl⟩
theorem css_cons {st : Stmt} {sts : List Stmt} {c : S} {cs : List S} (h1 : PCs X L tb o pr st c) (h2 : PCss X L tb o pr sts cs) : PCss X L tb o pr (st :: sts) (c :: cs) := ⟨fun W tk => PSsimp (pss_cons (h1.run W tk) (h2.run W tk)) fun D σ H h => by
  obtain ⟨e, m⟩ := h.mid
  simp only [exSs] at m
  exact m.body (ev := exS tb o pr c) (fun σ' s => gp_s s) stb_n (fun σ' H' e' s m => m.tS s) (fun σ' H' e' s m => MidH.endB (D := D) s m) (fun σ' H' e' s m => MidH.endC (D := D) s m) (fun σ' H' e' v d s m => MidH.endR (D := D) s m)⟩
/-! ### small ones -/
theorem cs_pas : PCs X L tb o pr (.Pass pos) .pas := ⟨fun W tk => PSimp ps_pass fun D σ H h => by
  obtain ⟨e, m⟩ := h.mid
  simp only [exS] at m
  exact m.endN Same.refl⟩
theorem cs_doc {x j pos pos'} : PCs X L tb o pr (.Expr (.Constant (.str x) j pos) pos') .pas := ⟨fun W tk => PSimp ps_doc fun D σ H h => by
  obtain ⟨e, m⟩ := h.mid
  simp only [exS] at m
  exact m.endN Same.refl⟩
theorem cs_brk : PCs X L tb o pr (.Break pos) .brk := ⟨fun W tk => PSimp ps_break fun D σ H h => by
  obtain ⟨e, m⟩ := h.mid
  simp only [exS] at m
  exact m.endB Same.refl⟩
theorem cs_cnt : PCs X L tb o pr (.Continue pos) .cnt := ⟨fun W tk => PSimp ps_continue fun D σ H h => by
  obtain ⟨e, m⟩ := h.mid
  simp only [exS] at m
  exact m.endC Same.refl⟩
theorem cs_bad {st : Stmt} : PCs X L tb o pr st .bad := ⟨fun W tk => PSimp ps_never fun D σ H h => by
  obtain ⟨e, m⟩ := h.mid
  simp only [exS] at m
  exact m.none.elim⟩
theorem cs_ex (ha : PEs X L tb o a ca) (hs : swapsWith a none pos.line X.env = pure false := by rfl) : PCs X L tb o pr (.Expr a pos) (.ex ca) := ⟨fun W tk => PSimp (ps_expr (ha.run W tk) hs) fun D σ H h => by
  obtain ⟨e, m⟩ := h.mid
  simp only [exS] at m
  exact (m.bind (rep := Rep L) (gp_s Same.refl) stb_n).imp fun v H1 ⟨d, e1, m1⟩ => m1.endN Same.refl⟩
theorem cs_ret (ha : PEs X L tb o a ca) : PCs X L tb o pr (.Return (some a) pos) (.ret ca) := ⟨fun W tk => PSimp (ps_ret (ha.run W tk)) fun D σ H h => by
  obtain ⟨e, m⟩ := h.mid
  simp only [exS] at m
  exact (m.bind (rep := Rep L) (gp_s Same.refl) stb_n).imp fun v H1 ⟨d, e1, m1⟩ => m1.endR Same.refl⟩
theorem cs_retN : PCs X L tb o pr (.Return none pos) .retN := ⟨fun W tk => PSimp ps_retN fun D σ H h => by
  obtain ⟨e, m⟩ := h.mid
  simp only [exS] at m
  exact MidH.endR (P := nP) (σ0 := σ) Same.refl (m.imp fun Z S _ _ => ⟨S, NoAS, fun _ z => z, fun _ z => z.elim, fun _ _ z => z, trivial, by simp only [Rep]⟩)⟩
/-! ### target = value -/
theorem asg_end {t : T} {D : Ends} {σ : St} {H1 : Hp} {e1 : Env} {x : V} {d : PL.D} (m : MidH L σ H1 e1 (Spl nP (fun Z H S => Rep L Z H x d S)) (GoodS L W pr σ D) (nxt (storeT pr t d e1))) : tTg L pr t x σ H1 D.nx := by
  cases q : storeT pr t d e1 with
  | none => rw [q] at m; exact m.none.elim
  | some e2 =>
    rw [q] at m
    exact m.store gs_s stb_n q fun σ2 c n m2 => MidH.endN (Same.chg c n) m2
theorem cs_asg {tg : Expr} {t : T} (ha : PEs X L tb o a ca) (hg : PTg X L pr tg t) (hs : swapsWithSole [tg] a pos.line X.env = pure false := by rfl) (hw : swappedStores [tg] a X.env = pure none := by rfl)
    (h1 : (assignEach [tg] X.env).map (·.2) = [assign tg X.env] := by rfl) : PCs X L tb o pr (.Assign [tg] a pos) (.asg t ca) := ⟨fun W tk => PSimp (ps_asg (ha.run W tk) hg.run hs hw h1) fun D σ H h => by
  obtain ⟨e, m⟩ := h.mid
  simp only [exS] at m
  exact (m.bind (rep := Rep L) (gp_s Same.refl) stb_n).imp fun v H1 ⟨d, e1, m1⟩ => asg_end m1⟩
theorem cs_set (i : Nat) {x : Str} (hN : X.N.Nodup) (ha : PEs X L tb o a ca) (hi : X.N[i]? = some x := by rfl) (hx : Loc X.env.scope x := by first | exact Or.inl rfl | exact Or.inr rfl) (hs : swapsWith a (some (.Name x p)) pos.line X.env = pure false := by rfl)
    (hf : X.fn x = true ∨ X.env.scope.names.lookup x = some .local := by first | exact .inl rfl | exact .inr rfl) : PCs X L tb o pr (.Assign [.Name x p] a pos) (.asg (.v i) ca) := ⟨fun W tk => PSimp (ps_set hN hi hx (ha.run W tk) hs hf) fun D σ H h => by
  obtain ⟨e, m⟩ := h.mid
  simp only [exS] at m
  refine (m.bind (rep := Rep L) (gp_s Same.refl) stb_n).imp fun v H1 ⟨d, e1, m1⟩ => ?_
  simp only [storeT] at m1
  by_cases np : pr.contains i = true
  · rw [if_pos np] at m1; exact m1.none.elim
  · rw [if_neg np] at m1
    obtain ⟨Z, S1, S2, k, dj, re, ⟨Sa, Sb, a1, a2, aj, q1, q2⟩, r', h', g⟩ := m1
    cases h'
    have sub : ∀ b, OrS S1 Sb b → OrS S1 S2 b := fun b z => z.elim .inl fun z => .inr (a2 b z)
    exact g _ H1 Z (OrS S1 Sb) (Step.refl sub) (k.mono sub) (re.store q2 (fun b z => .inr z) (fun b z => .inl z) fun b z y => dj b y (a2 b z)) fun j hj => by
      rw [set_get, if_neg fun z => np (by subst z; simpa using hj)]⟩
theorem cs_lc [Lay X L tb o k] (i : Nat) {y : Str} {py spos : Pos} {elt tg iter : Expr} {ifs : List Expr} {scope : Scope} (own : List (Str × Nat)) {ct : T} {ci : I} {cc : C} {ce : E} {ownI : List Nat} (hN : X.N.Nodup) (ok : BlkOk X.N X.env.scope scope own) (hsw : swapsWith (.ListComp elt [⟨tg, iter, ifs, 0⟩] scope pos) (some (.Name y py)) spos.line X.env = pure true) (hi : PIs X L tb o tg iter ci)
    (hg : ∀ (s : Shared) (H : Hp) (C : Addr) (cl : List (Str × Addr)) (fp : List Addr), PTg (X.blk s H scope (compEnvC scope cl C X.env) fp) L [] tg ct) (hf : ∀ (s : Shared) (H : Hp) (C : Addr) (cl : List (Str × Addr)) (fp : List Addr), PIf (X.blk s H scope (compEnvC scope cl C X.env) fp) L tb o ifs cc)
    (he : ∀ (s : Shared) (H : Hp) (C : Addr) (cl : List (Str × Addr)) (fp : List Addr), PEs (X.blk s H scope (compEnvC scope cl C X.env) fp) L tb o elt ce) (hy : X.N[i]? = some y := by rfl) (hyl : X.env.scope.names.lookup y = some .local := by rfl) (hw : own.map (·.2) = ownI := by rfl) (hsub : ∀ i ∈ ct.sl, i ∈ ownI := by decide) (hs : ∀ x, foldedSetIterable iter X.env x = pure x := by intro _; rfl) :
    PCs X L tb o pr (.Assign [.Name y py] (.ListComp elt [⟨tg, iter, ifs, 0⟩] scope pos) spos) (.asg (.v i) (.lc ce ct ci cc ownI)) := by
  subst hw
  exact ⟨fun W tk => PSimp (ps_setLc (Lay.calm (X := X) (L := L) (tb := tb) (o := o) (k := k)) hN hy hyl hsw (hi.run W tk) ok (fun s H C cl fp => (hg s H C cl fp).run) (fun s H C cl fp => (hf s H C cl fp).run _ L2.takes0) (fun s H C cl fp => (he s H C cl fp).run _ L2.takes0) hs)
    fun D σ H h => by
      refine lc_run (X := X) (k := k) (W := W) hsub ?_
      obtain ⟨e, m⟩ := h.mid
      simp only [exS] at m
      refine (m.bind (rep := Rep L) (gp_s Same.refl) stb_n).imp fun v H1 ⟨d, e1, m1⟩ => ?_
      simp only [storeT] at m1
      by_cases np : pr.contains i = true
      · rw [if_pos np] at m1; exact m1.none.elim
      · rw [if_neg np] at m1
        obtain ⟨Z, S1, S2, k, dj, re, ⟨Sa, Sb, a1, a2, aj, q1, q2⟩, r', h', g⟩ := m1
        cases h'
        have sub : ∀ b, OrS S1 Sb b → OrS S1 S2 b := fun b z => z.elim .inl fun z => .inr (a2 b z)
        exact g _ H1 Z (OrS S1 Sb) (Step.refl sub) (k.mono sub) (re.store q2 (fun b z => .inr z) (fun b z => .inl z) fun b z y => dj b y (a2 b z)) fun j hj => by
          rw [set_get, if_neg fun z => np (by subst z; simpa using hj)]⟩
/-! ### if, for, while -/
theorem cs_ite {c : Expr} {cc : C} {sa sb : List Stmt} {xa xb : List S} (hc : PTs' X L tb o c cc) (ha : PCss X L tb o pr sa xa) (hb : PCss X L tb o pr sb xb) : PCs X L tb o pr (.If c sa sb pos) (.ite cc xa xb) := ⟨fun W tk => PSimp (ps_if (hc.run W tk) (ha.run W tk) (hb.run W tk)) fun D σ H h => by
  obtain ⟨e, m⟩ := h.mid
  simp only [exS] at m
  refine (m.bind (rep := repB) (gp_s Same.refl) stb_n).imp fun v H1 ⟨d, e1, m1⟩ => ?_
  have ev : v = d := by
    obtain ⟨Z, S1, S2, _, _, _, ⟨_, _, _, _, _, _, z⟩, _⟩ := m1
    exact z
  subst ev
  cases v with
  | true => simp only [if_true] at m1 ⊢; exact m1.tS Same.refl
  | false => simp only [Bool.false_eq_true, if_false] at m1 ⊢; exact m1.tS Same.refl⟩
theorem cs_for [Lay X L tb o k] {tg iter : Expr} {t : T} {ci : I} {body : List Stmt} {xb : List S} (hp : PassesOwn (model X.prog X.w) X.A X.env X.xe) (hi : PIs X L tb o tg iter ci) (hg : PTg X L pr tg t) (hb : PCss X L tb o pr body xb)
    (hs : ∀ x, foldedSetIterable iter X.env x = pure x := by intro _; rfl) : PCs X L tb o pr (.For tg iter body [] pos) (.for t ci xb) := ⟨fun W tk => PSimp (ps_for hp (Lay.calm (X := X) (L := L) (tb := tb) (o := o) (k := k)) (hi.run W tk) hg.run (hb.run W tk) hs) fun D σ H h => by
  obtain ⟨e, m⟩ := h.mid
  simp only [exS] at m
  refine ⟨_, _, _, _, e, gp_s Same.refl, stb_n, m, fun J H1 items e1 Hd sth wk m1 => ?_⟩
  obtain ⟨GH, Y, w, hgh, hy⟩ := wk.ex
  let Pv : Nat → St → Hp → Prop := fun i σ' H' => ∃ e, Same pr σ σ' ∧ MidH L σ' H' e (Spl nP Hd) (GoodS L W pr σ D) (loopF (fun x e => storeT pr t x e) (fun e => exSs tb o pr xb e) (items.drop i) e)
  have sb : Stb (Spl nP Hd) := stb_n.spl sth
  refine for_it (g := tTg L pr t) w Pv ⟨e1, Same.refl, m1⟩ ?_ ?_ ?_
  · rintro i σ' H' hi ⟨e, sm, ⟨Z, S1, S2, _, _, _, ⟨Sa, Sb, _, _, _, _, hh⟩, _⟩⟩
    exact hgh _ _ _ hh
  · rintro i x σ' H2 H3 hi ⟨e, sm, m3⟩ hY
    have hget : items[i]? = some items[i] := List.getElem?_eq_getElem hi
    rw [List.drop_eq_getElem_cons hi] at m3
    simp only [loopF] at m3
    cases qt : storeT pr t items[i] e with
    | none => rw [qt] at m3; exact m3.none.elim
    | some e2 =>
    rw [qt] at m3
    dsimp only at m3
    refine MidH.yield gs_s sb m3 (fun Z S ⟨Sa, Sb, _, _, _, _, hh⟩ => hy _ _ _ i x H3 _ hh hget hY) qt fun σ2 ch np m4 => ?_
    have s2 := sm.trans (Same.chg ch np)
    refine MidH.body (f := fun f e2 => match f with
      | .nx => loopF (fun x e => storeT pr t x e) (fun e => exSs tb o pr xb e) (items.drop (i + 1)) e2
      | .ct => loopF (fun x e => storeT pr t x e) (fun e => exSs tb o pr xb e) (items.drop (i + 1)) e2
      | .bk => some (.val .nx e2)
      | .rt d => some (.val (.rt d) e2)) (ev := exSs tb o pr xb) (fun σ3 s => gp_s (s2.trans s)) sb m4 (fun σ3 H' e' s m => ⟨e', s2.trans s, m⟩) (fun σ3 H' e' s m => MidH.endN (s2.trans s) m) (fun σ3 H' e' s m => ⟨e', s2.trans s, m⟩) (fun σ3 H' e' v d s m => MidH.endR (D := D) (s2.trans s) m)
  · rintro σ' H' ⟨e, sm, m3⟩
    rw [List.drop_length] at m3
    simp only [loopF] at m3
    exact m3.endN sm⟩
theorem cs_whl {c : Expr} {cc : C} {body : List Stmt} {xb : List S} (hp : PassesOwn (model X.prog X.w) X.A X.env X.xe) (hc : PTs' X L tb o c cc) (hb : PCss X L tb o pr body xb) : PCs X L tb o pr (.While c body [] pos) (.whl cc xb) := ⟨fun W tk => PSimp (ps_while hp (hc.run W tk) (hb.run W tk)) fun D σ H h => by
  obtain ⟨e, m⟩ := h.mid
  simp only [exS] at m
  refine ⟨fun n σ' H' => ∃ e, Same pr σ σ' ∧ MidH L σ' H' e nP (GoodS L W pr σ D) (loopW (fun e => evT tb o cc e) (fun e => exSs tb o pr xb e) n e), ⟨whileMost, e, Same.refl, m⟩, ?_⟩
  rintro n σ' H' ⟨e, sm, m⟩
  cases n with
  | zero => simp only [loopW] at m; exact m.none.elim
  | succ n =>
    simp only [loopW] at m
    refine (m.bind (rep := repB) (gp_s sm) stb_n).imp fun v H1 ⟨d, e1, m1⟩ => ?_
    have ev : v = d := by
      obtain ⟨Z, S1, S2, _, _, _, ⟨_, _, _, _, _, _, z⟩, _⟩ := m1
      exact z
    subst ev
    have m2 := m1.imp (P' := nP) fun Z S _ _ => trivial
    cases v with
    | true =>
      simp only [if_true] at m2 ⊢
      refine ⟨fun σ2 H2 => ∃ e, Same pr σ σ2 ∧ MidH L σ2 H2 e nP (GoodS L W pr σ D) (loopW (fun e => evT tb o cc e) (fun e => exSs tb o pr xb e) n e), fun σ2 H2 q => ⟨n, Nat.lt_succ_self n, q⟩, ?_⟩
      refine MidH.body (f := fun f e2 => match f with
        | .nx => loopW (fun e => evT tb o cc e) (fun e => exSs tb o pr xb e) n e2
        | .ct => loopW (fun e => evT tb o cc e) (fun e => exSs tb o pr xb e) n e2
        | .bk => some (.val .nx e2)
        | .rt d => some (.val (.rt d) e2)) (ev := exSs tb o pr xb) (fun σ3 s => gp_s (sm.trans s)) stb_n m2 (fun σ3 H' e' s m => ⟨e', sm.trans s, m⟩) (fun σ3 H' e' s m => MidH.endN (sm.trans s) m) (fun σ3 H' e' s m => ⟨e', sm.trans s, m⟩) (fun σ3 H' e' v d s m => MidH.endR (D := D) (sm.trans s) m)
    | false =>
      simp only [Bool.false_eq_true, if_false] at m2 ⊢
      exact m2.endN sm⟩
end
end PL

/-! PL.Sub: statements that change an object: a[i] = v, a.f = v, setdefault. -/
namespace PL
open PySem L2
/-! ### lists of keys and of names -/
theorem keyIx_mem {κ : Type} [DecidableEq κ] : ∀ {ks : List κ} {k : κ}, keyIx ks k = none ↔ k ∉ ks
  | [], k => by simp [keyIx]
  | k' :: ks, k => by
    have ih := keyIx_mem (ks := ks) (k := k)
    simp only [keyIx]
    by_cases c : k' = k
    · rw [if_pos c]; simp [c]
    · rw [if_neg c, Option.map_eq_none_iff, ih]; simp [show ¬ k = k' from fun z => c z.symm]
theorem putD_old {κ : Type} [DecidableEq κ] : ∀ {ks : List κ} {xs : List D} {k : κ} {j : Nat} {d : D}, keyIx ks k = some j → ks.length = xs.length → putD ks xs k d = (ks, xs.set j d)
  | [], xs, k, j, d, h, _ => by simp [keyIx] at h
  | k' :: ks, [], k, j, d, h, hl => by simp at hl
  | k' :: ks, x :: xs, k, j, d, h, hl => by
    simp only [keyIx] at h
    simp only [putD]
    by_cases c : k' = k
    · rw [if_pos c] at h ⊢; cases h; rfl
    · rw [if_neg c] at h ⊢
      cases q : keyIx ks k with
      | none => rw [q] at h; cases h
      | some i =>
        rw [q] at h
        simp only [Option.map_some, Option.some.injEq] at h
        subst h
        rw [putD_old q (by simpa using hl)]
        rfl
theorem putD_new {κ : Type} [DecidableEq κ] : ∀ {ks : List κ} {xs : List D} {k : κ} {d : D}, keyIx ks k = none → ks.length = xs.length → putD ks xs k d = (ks ++ [k], xs ++ [d])
  | [], [], k, d, h, _ => rfl
  | [], x :: xs, k, d, h, hl => by simp at hl
  | k' :: ks, [], k, d, h, hl => by simp at hl
  | k' :: ks, x :: xs, k, d, h, hl => by
    simp only [keyIx] at h
    simp only [putD]
    by_cases c : k' = k
    · rw [if_pos c] at h; cases h
    · rw [if_neg c] at h ⊢
      rw [putD_new (by simpa using h) (by simpa using hl)]
      rfl
theorem any_zip {κ : Type} [DecidableEq κ] {ks : List κ} {vs : List V} {k : κ} (hl : ks.length = vs.length) : ((ks.zip vs).any fun kv => decide (kv.1 = k)) = true ↔ k ∈ ks := by
  constructor
  · intro h
    obtain ⟨kv, hm, e⟩ := List.any_eq_true.mp h
    have := List.of_mem_zip hm
    rw [← of_decide_eq_true e]; exact this.1
  · intro h
    obtain ⟨i, hi, e⟩ := List.getElem_of_mem h
    refine List.any_eq_true.mpr ⟨(ks[i], vs[i]'(by omega)), ?_, by simp [e]⟩
    exact List.mem_iff_getElem.mpr ⟨i, by simp; omega, by simp⟩
theorem map_zip_old {κ : Type} [DecidableEq κ] : ∀ {ks : List κ} {vs : List V} {k : κ} {j : Nat} {v : V}, ks.Nodup → keyIx ks k = some j → ks.length = vs.length → (ks.zip vs).map (fun kv => if kv.1 = k then (kv.1, v) else kv) = ks.zip (vs.set j v)
  | [], vs, k, j, d, _, h, _ => by simp [keyIx] at h
  | k' :: ks, [], k, j, d, _, h, hl => by simp at hl
  | k' :: ks, x :: vs, k, j, v, nd, h, hl => by
    simp only [keyIx] at h
    rw [List.nodup_cons] at nd
    by_cases c : k' = k
    · rw [if_pos c] at h; cases h
      simp only [List.zip_cons_cons, List.map_cons, if_pos c, List.set_cons_zero]
      congr 1
      rw [List.map_congr_left (g := id) (fun kv hm => ?_), List.map_id]
      have := (List.of_mem_zip (a := kv.1) (b := kv.2) hm).1
      rw [if_neg fun z => nd.1 (by rw [c, ← z]; exact this)]; rfl
    · rw [if_neg c] at h
      cases q : keyIx ks k with
      | none => rw [q] at h; cases h
      | some i =>
        rw [q] at h
        simp only [Option.map_some, Option.some.injEq] at h
        subst h
        simp only [List.zip_cons_cons, List.map_cons, if_neg c, List.set_cons_succ]
        rw [map_zip_old nd.2 q (by simpa using hl)]
theorem keyIx_lt {κ : Type} [DecidableEq κ] : ∀ {ks : List κ} {k : κ} {j : Nat}, keyIx ks k = some j → j < ks.length
  | [], k, j, h => by simp [keyIx] at h
  | k' :: ks, k, j, h => by
    simp only [keyIx] at h
    by_cases c : k' = k
    · rw [if_pos c] at h; cases h; simp
    · rw [if_neg c] at h
      cases q : keyIx ks k with
      | none => rw [q] at h; cases h
      | some i =>
        rw [q] at h
        simp only [Option.map_some, Option.some.injEq] at h
        subst h
        have := keyIx_lt q
        simp; omega
/-- a pair more, or in its place -/
theorem putK_zip {κ : Type} [DecidableEq κ] {ks : List κ} {vs : List V} {xs : List D} {k : κ} {v : V} {d : D} (nd : ks.Nodup) (hv : ks.length = vs.length) (hx : ks.length = xs.length) :
    (∃ j, keyIx ks k = some j ∧ j < xs.length ∧ putK (ks.zip vs) k v = ks.zip (vs.set j v) ∧ putD ks xs k d = (ks, xs.set j d)) ∨ (keyIx ks k = none ∧ (ks ++ [k]).Nodup ∧ putK (ks.zip vs) k v = (ks ++ [k]).zip (vs ++ [v]) ∧ putD ks xs k d = (ks ++ [k], xs ++ [d])) := by
  cases q : keyIx ks k with
  | some j =>
    refine .inl ⟨j, rfl, by have := keyIx_lt q; omega, ?_, putD_old q hx⟩
    have hm : k ∈ ks := Classical.byContradiction fun n => by rw [keyIx_mem.mpr n] at q; cases q
    unfold putK
    rw [if_pos ((any_zip hv).mpr hm), map_zip_old nd q hv]
  | none =>
    have hm := keyIx_mem.mp q
    refine .inr ⟨rfl, by rw [List.nodup_append]; exact ⟨nd, by simp, fun a ha b hb => by simp at hb; rw [hb]; exact fun z => hm (z ▸ ha)⟩, ?_, putD_new q hx⟩
    unfold putK
    rw [if_neg fun z => hm ((any_zip hv).mp z), List.zip_append hv]
    rfl
section
variable {L : Lo} {Z : AS} {H : Hp}
/-- a child exchanged, another's footprint beside -/
theorem reps_set {ds : List D} {vs : List V} {S1 S2 S : AS} {j : Nat} {v : V} {d : D} (h : Reps L Z H vs ds S1) (hj : j < ds.length) (r : Rep L Z H v d S2) (h1 : ∀ b, S1 b → S b) (h2 : ∀ b, S2 b → S b) (dj : ∀ b, S1 b → ¬ S2 b) : Reps L Z H (vs.set j v) (ds.set j d) S := by
  obtain ⟨v0, T1, T2, e, t1, t2, tj, r0, put⟩ := reps_at h (List.getElem?_eq_getElem hj)
  exact put (U := NoAS) fr_refl (fun _ _ _ z => z.elim) (fun _ _ z => z) (fun _ z => z) (fun _ _ z => z) h2 (fun b z => h1 b (t2 b z)) (fun b z y => dj b (t2 b y) z) r
end
section
variable {X : Cx} {L : Lo} {tb : Tab} {o : Orc} {k : Nat} {pr : List Nat} {pos p apos : Pos} {W : WX} {a b c : Expr} {ca cb : E}
theorem mut_go {Z S1 S2 T1 T2 Sa Sb : AS} {H : Hp} {σ : St} {e : Env} {root : Nat} {vr : V} {l : Addr} {dc dc' : D} {back : D → D} {ob : HO} {Ds : Ends} (k1 : Ok Z (OrS S1 S2) H) (dj : ∀ b, S1 b → ¬ S2 b) (re : RepE L Z H σ e S1) (hv : σ[root]? = some (some vr))
    (F : Foc L Z H (.ref l) dc T1 T2 vr back) (a1 : ∀ b, Sa b → S2 b) (a2 : ∀ b, Sb b → S2 b) (aj : ∀ b, Sa b → ¬ Sb b) (t1 : ∀ b, T1 b → Sb b) (t2 : ∀ b, T2 b → Sb b) (tj : ∀ b, T1 b → ¬ T2 b) (hl : T1 l) (mu : Mut (some ob)) (new : Rep L Z (upd H l ob) (.ref l) dc' (OrS T1 Sa))
    (g : GoodS L W pr σ Ds Z (OrS S1 S2) H (.val .nx (e.set root (some (back dc'))))) : Ds.nx σ (upd H l ob) := by
  obtain ⟨st, ok, dd, re2⟩ := mut_state (ob := ob) (U2 := NoAS) k1 dj re hv F (fun b z => a2 b (t1 b z)) (fun b z => a2 b (t2 b z)) tj hl mu new (fun b z => z.elim (fun z => a2 b (t1 b z)) (a1 b)) (fun b z y => z.elim (fun z => tj b z y) (fun z => aj b z (t2 b y))) (fun _ z => z.elim) (fun _ _ z => z) (fun _ z => z.elim)
  exact g σ _ Z _ (st.trans (Step.refl fun b z => .inl z)) (ok.mono fun b z => .inl z) re2 Same.refl
/-- a dict with a pair more -/
theorem rep_dput {Z Sa T1 : AS} {H : Hp} {l : Addr} {ks : List Key} {vs : List V} {xs : List D} {kk : Key} {v : V} {d : D} (nd : ks.Nodup) (hv : ks.length = vs.length) (rr : Reps L Z H vs xs (fun b => T1 b ∧ b ≠ l)) (rv : Rep L Z H v d Sa) (dj : ∀ b, T1 b → ¬ Sa b) (hl : T1 l) (ml : Mut (H l)) (zl : ∀ b, Z b → b ≠ l) :
    Rep L Z (upd H l (.dK (putK (ks.zip vs) kk v))) (.ref l) (.nd (.dk (putD ks xs kk d).1) true (putD ks xs kk d).2) (OrS T1 Sa) := by
  have hx : ks.length = xs.length := by rw [hv, rr.length]
  have cl : ∀ b, Sa b → b ≠ l := fun b z y => by subst y; exact dj b hl z
  have r1 : ∀ {ob : HO}, Reps L Z (upd H l ob) vs xs (fun b => T1 b ∧ b ≠ l) := reps_frW (U := fun b => b = l) (fun b o e n => by rw [upd_ne n]; exact e) (fun b o e n => by rw [n] at e; rw [e] at ml; exact ml) (fun b z => zl b z) (fun _ z => z) (fun b z => z.2) rr
  have r2 : ∀ {ob : HO}, Rep L Z (upd H l ob) v d Sa := kid_upd ml zl cl rv
  simp only [Rep]
  rcases putK_zip (v := v) (d := d) (k := kk) nd hv hx with ⟨j, q, hj, e1, e2⟩ | ⟨q, nd', e1, e2⟩
  · rw [e1, e2]
    refine ⟨l, vs.set j v, rfl, ⟨nd, by simpa using hv, upd_same, fun z => by cases z⟩, fun _ => .inl hl, ?_⟩
    exact reps_set r1 hj r2 (fun b z => ⟨.inl z.1, fun _ => z.2⟩) (fun b z => ⟨.inr z, fun _ => cl b z⟩) fun b z y => dj b z.1 y
  · rw [e1, e2]
    refine ⟨l, vs ++ [v], rfl, ⟨nd', by simp [hv], upd_same, fun z => by cases z⟩, fun _ => .inl hl, ?_⟩
    exact reps_append (S1 := fun b => T1 b ∧ b ≠ l) (S2 := Sa) (fun b z => ⟨.inl z.1, fun _ => z.2⟩) (fun b z => ⟨.inr z, fun _ => cl b z⟩) (fun b z y => dj b z.1 y) r1 (reps_cons (S1 := Sa) (S2 := NoAS) (fun _ z => z) (fun _ z => z.elim) (fun _ _ z => z) r2 reps_nil)
theorem map_zip3_old : ∀ {ks : List NK} {as : List Addr} {vs : List V} {k : NK} {j : Nat} {v : V}, ks.Nodup → keyIx ks k = some j → ks.length = vs.length → as.length = ks.length → (ks.zip (as.zip vs)).map (fun x => if x.1 = k then (x.1, x.2.1, v) else x) = ks.zip (as.zip (vs.set j v))
  | [], as, vs, k, j, d, _, h, _, _ => by simp [keyIx] at h
  | k' :: ks, [], vs, k, j, d, _, h, hl, ha => by simp at ha
  | k' :: ks, a :: as, [], k, j, d, _, h, hl, ha => by simp at hl
  | k' :: ks, a :: as, x :: vs, k, j, v, nd, h, hl, ha => by
    simp only [keyIx] at h
    rw [List.nodup_cons] at nd
    by_cases c : k' = k
    · rw [if_pos c] at h; cases h
      simp only [List.zip_cons_cons, List.map_cons, if_pos c, List.set_cons_zero]
      congr 1
      rw [List.map_congr_left (g := id) (fun kv hm => ?_), List.map_id]
      have := (List.of_mem_zip (a := kv.1) (b := kv.2) hm).1
      rw [if_neg fun z => nd.1 (by rw [c, ← z]; exact this)]; rfl
    · rw [if_neg c] at h
      cases q : keyIx ks k with
      | none => rw [q] at h; cases h
      | some i =>
        rw [q] at h
        simp only [Option.map_some, Option.some.injEq] at h
        subst h
        simp only [List.zip_cons_cons, List.map_cons, if_neg c, List.set_cons_succ]
        rw [map_zip3_old nd.2 q (by simpa using hl) (by simpa using ha)]
theorem any_zip3 {ks : List NK} {as : List Addr} {vs : List V} {k : NK} (hl : ks.length = vs.length) (ha : as.length = ks.length) : ((ks.zip (as.zip vs)).any fun x => decide (x.1 = k)) = true ↔ k ∈ ks := by
  have e : (ks.zip (as.zip vs)).map (·.1) = ks := List.map_fst_zip (by rw [List.length_zip]; omega)
  rw [List.any_eq_true]
  constructor
  · rintro ⟨x, hm, hx⟩
    rw [← of_decide_eq_true hx, ← e]
    exact List.mem_map_of_mem hm
  · intro h
    rw [← e] at h
    obtain ⟨x, hm, rfl⟩ := List.mem_map.mp h
    exact ⟨x, hm, decide_eq_true rfl⟩
theorem putA_zip {ks : List NK} {as : List Addr} {vs : List V} {xs : List D} {k : NK} {b : Addr} {v : V} {d : D} (nd : ks.Nodup) (hv : ks.length = vs.length) (ha : as.length = ks.length) (hx : ks.length = xs.length) :
    (∃ j, keyIx ks k = some j ∧ j < xs.length ∧ putA (ks.zip (as.zip vs)) k b v = ks.zip (as.zip (vs.set j v)) ∧ putD ks xs k d = (ks, xs.set j d)) ∨ (keyIx ks k = none ∧ (ks ++ [k]).Nodup ∧ putA (ks.zip (as.zip vs)) k b v = (ks ++ [k]).zip ((as ++ [b]).zip (vs ++ [v])) ∧ putD ks xs k d = (ks ++ [k], xs ++ [d])) := by
  cases q : keyIx ks k with
  | some j =>
    refine .inl ⟨j, rfl, by have := keyIx_lt q; omega, ?_, putD_old q hx⟩
    have hm : k ∈ ks := Classical.byContradiction fun n => by rw [keyIx_mem.mpr n] at q; cases q
    unfold putA
    rw [if_pos ((any_zip3 hv ha).mpr hm), map_zip3_old nd q hv ha]
  | none =>
    have hm := keyIx_mem.mp q
    refine .inr ⟨rfl, by rw [List.nodup_append]; exact ⟨nd, by simp, fun a ha b hb => by simp at hb; rw [hb]; exact fun z => hm (z ▸ ha)⟩, ?_, putD_new q hx⟩
    unfold putA
    rw [if_neg fun z => hm ((any_zip3 hv ha).mp z), List.zip_append (by omega), List.zip_append (by rw [List.length_zip]; omega)]
    rfl
theorem kreps_len : ∀ {ks : List NK} {vs : List V}, KReps L H ks vs → vs.length = ks.length
  | [], vs, h => by simp only [KReps] at h; subst h; rfl
  | k' :: ks, vs, h => by
    simp only [KReps] at h
    obtain ⟨w, ws, rfl, h1, h2⟩ := h
    simp [kreps_len h2]
theorem kreps_snoc : ∀ {ks : List NK} {vs : List V} {k : NK} {v : V}, KReps L H ks vs → KRep L H k v → KReps L H (ks ++ [k]) (vs ++ [v])
  | [], vs, k, v, h, r => by
    simp only [KReps] at h
    subst h
    simp only [List.nil_append, KReps]
    exact ⟨v, [], rfl, r, rfl⟩
  | k' :: ks, vs, k, v, h, r => by
    simp only [KReps] at h
    obtain ⟨w, ws, rfl, h1, h2⟩ := h
    simp only [List.cons_append, KReps]
    exact ⟨w, ws ++ [v], rfl, h1, kreps_snoc h2 r⟩
/-- a dict by tuples with a pair more -/
theorem rep_dputN {Z Sa T1 : AS} {H : Hp} {l b : Addr} {ks : List NK} {as : List Addr} {vs : List V} {xs : List D} {kk : NK} {v : V} {d : D} (nd : ks.Nodup) (hv : ks.length = vs.length) (ha : as.length = ks.length) (kr : KReps L H ks (as.map V.ref)) (kd : ∀ k ∈ ks, k.depth ≤ 8) (kb : KRep L H kk (.ref b)) (kbd : kk.depth ≤ 8)
    (rr : Reps L Z H vs xs (fun b => T1 b ∧ b ≠ l)) (rv : Rep L Z H v d Sa) (dj : ∀ b, T1 b → ¬ Sa b) (hl : T1 l) (ml : Mut (H l)) (zl : ∀ b, Z b → b ≠ l) :
    Rep L Z (upd H l (dN L.wd l (putA (ks.zip (as.zip vs)) kk b v))) (.ref l) (.nd (.dt (putD ks xs kk d).1) true (putD ks xs kk d).2) (OrS T1 Sa) := by
  have hx : ks.length = xs.length := by rw [hv, rr.length]
  have cl : ∀ b, Sa b → b ≠ l := fun b z y => by subst y; exact dj b hl z
  have f : ∀ {ob : HO}, Fr (fun b => b = l) H (upd H l ob) := fun b o e n => by rw [upd_ne n]; exact e
  have ow : OwnW (fun b => b = l) H := fun b o e n => by rw [n] at e; rw [e] at ml; exact ml
  have r1 : ∀ {ob : HO}, Reps L Z (upd H l ob) vs xs (fun b => T1 b ∧ b ≠ l) := reps_frW (U := fun b => b = l) f ow (fun b z => zl b z) (fun _ z => z) (fun b z => z.2) rr
  have r2 : ∀ {ob : HO}, Rep L Z (upd H l ob) v d Sa := kid_upd ml zl cl rv
  have k1 : ∀ {ob : HO}, KReps L (upd H l ob) ks (as.map V.ref) := KReps.fr f ow kr
  have k2 : ∀ {ob : HO}, KRep L (upd H l ob) kk (.ref b) := KRep.fr f ow kb
  simp only [Rep]
  rcases putA_zip (v := v) (d := d) (k := kk) (b := b) nd hv ha hx with ⟨j, q, hj, e1, e2⟩ | ⟨q, nd', e1, e2⟩
  · rw [e1, e2]
    refine ⟨l, vs.set j v, rfl, ⟨nd, by simpa using hv, ⟨as, k1, kd, upd_same⟩, fun z => by cases z⟩, fun _ => .inl hl, ?_⟩
    exact reps_set r1 hj r2 (fun b z => ⟨.inl z.1, fun _ => z.2⟩) (fun b z => ⟨.inr z, fun _ => cl b z⟩) fun b z y => dj b z.1 y
  · rw [e1, e2]
    refine ⟨l, vs ++ [v], rfl, ⟨nd', by simp [hv], ⟨as ++ [b], by rw [List.map_append]; exact kreps_snoc k1 k2, fun k hk => ?_, upd_same⟩, fun z => by cases z⟩, fun _ => .inl hl, ?_⟩
    · rcases List.mem_append.mp hk with hk | hk
      · exact kd k hk
      · simp at hk; rw [hk]; exact kbd
    · exact reps_append (S1 := fun b => T1 b ∧ b ≠ l) (S2 := Sa) (fun b z => ⟨.inl z.1, fun _ => z.2⟩) (fun b z => ⟨.inr z, fun _ => cl b z⟩) (fun b z y => dj b z.1 y) r1 (reps_cons (S1 := Sa) (S2 := NoAS) (fun _ z => z) (fun _ z => z.elim) (fun _ _ z => z) r2 reps_nil)
theorem set_dictN (hu : X.A.units + 65 < cLine) (hK : X.K = L.K) (hw : X.w = L.wd) : PSet X (fun o i v H Q => ∃ a H', o = .ref a ∧ DPutN L H a i v H' ∧ Q H') := by
  intro pins s σ H o i v ov iv u Q I ro ri rv h
  obtain ⟨a, H', eo, g, q⟩ := h
  subst eo
  cases (show ov = Value.ref a from ro)
  exact dn_setItem (by omega) I hK hw g ri rv fun s' I' => ⟨H', I', q⟩
theorem pset_or {t u : TSet} (h1 : PSet X t) (h2 : PSet X u) : PSet X (fun o i v H Q => t o i v H Q ∨ u o i v H Q) := by
  intro pins s σ H o i v ov iv w Q I ro ri rv h
  rcases h with h | h
  · exact h1 pins s σ H o i v ov iv w Q I ro ri rv h
  · exact h2 pins s σ H o i v ov iv w Q I ro ri rv h
/-- a path's end -/
theorem FocP.at {at' : Nat → Str → Bool} {vr vc : V} {d : D} {acs : List Acc} {Z S : AS} {H : Hp} {α : Type} {f : D → Option (α × D)} {r : α} {d' : D} (h : FocP L at' vr d acs vc Z H S) (hm : modD at' f acs d = some (r, d')) :
    ∃ (dc dc' : D) (back : D → D) (S1 S2 : AS), (∀ b, S1 b → S b) ∧ (∀ b, S2 b → S b) ∧ (∀ b, S1 b → ¬ S2 b) ∧ Foc L Z H vc dc S1 S2 vr back ∧ f dc = some (r, dc') ∧ d' = back dc' := by
  obtain ⟨dc, back, S1, S2, h1, h2, dj, F, hb, hwk, hm'⟩ := h
  have := hm' α f []
  rw [List.append_nil, hm] at this
  simp only [modD] at this
  cases q : f dc with
  | none => rw [q] at this; cases this
  | some p =>
    obtain ⟨r1, x⟩ := p
    rw [q] at this
    simp only [Option.map_some, Option.some.injEq, Prod.mk.injEq] at this
    exact ⟨dc, x, back, S1, S2, h1, h2, dj, F, by rw [this.1, q], this.2⟩
theorem cs_sub [Lay X L tb o k] {root : Nat} {pp : Ps} {mi : M} (ha : PEs X L tb o a ca) (hp : PPs X L tb o root b pp) (hi : PMs X L tb o root c mi)
    (has : ∀ v, assign (.Subscript b c p) X.env v = (do
      let ov ← holding [v] (eval b X.env)
      let iv ← holding [v, ov] (eval c X.env)
      standAt p
      holding [v, ov, iv] (setItem ov iv v)
      release [v, ov, iv] []) := by intro _; rfl) (hs : swapsWithSole [.Subscript b c p] a pos.line X.env = pure false := by rfl) (hw : swappedStores [.Subscript b c p] a X.env = pure none := by rfl)
    (h1 : (assignEach [.Subscript b c p] X.env).map (·.2) = [assign (.Subscript b c p) X.env] := by rfl) : PCs X L tb o pr (.Assign [.Subscript b c p] a pos) (.sub root pp mi ca) :=
  ⟨fun W tk => PSimp (ps_asg (ha.run W tk) (pg_sub (hp.run W tk) (hi.run W tk) (pset_or set_list (pset_or (set_dict (hu_of (Lay.room (X := X) (L := L) (tb := tb) (o := o) (k := k)))) (set_dictN (L := L) (units65 (Lay.room (X := X) (L := L) (tb := tb) (o := o) (k := k))) (Lay.K (X := X) (L := L) (tb := tb) (o := o) (k := k)) (Lay.wd (X := X) (L := L) (tb := tb) (o := o) (k := k))))) has) hs hw h1) fun Ds σ H h => by
  obtain ⟨e, m⟩ := h.mid
  simp only [exS] at m
  refine (m.bind (rep := Rep L) (gp_s Same.refl) stb_n).imp fun v H1 ⟨dv, e1, m1⟩ => ?_
  cases q : e1.at root with
  | none => rw [q] at m1; exact m1.none.elim
  | some d =>
    rw [q] at m1
    obtain ⟨vr, hv, m2⟩ := m1.aside (gp_s Same.refl) q
    refine ⟨_, _, _, _, _, vr, d, gp_s Same.refl, stb_n.spl stb_rep, hv, m2, fun vc H2 acs e2 m3 => ?_⟩
    refine ⟨_, _, _, _, e2, vr, d, gp_s Same.refl, (stb_n.spl stb_rep).spl stb_foc, hv, fun Z H S ⟨Sa, Sb, a1, a2, aj, q1, q2⟩ => rep_mono a2 q2.whole, m3, fun iv H3 y e3 m4 => ?_⟩
    obtain ⟨Z, S1, S2, k1, dj, re, ⟨Sab, Sc, b1, b2, bj, ⟨Sa', Sb, a1', a2, aj', ⟨Sn, Sa, n1, n2, nj, _, rv⟩, fo⟩, ri⟩, r', h', g⟩ := m4
    have a1 : ∀ b, Sa b → Sab b := fun b z => a1' b (n2 b z)
    have aj : ∀ b, Sa b → ¬ Sb b := fun b z => aj' b (n2 b z)
    split at h'
    · cases h'
    · rename_i r0 d' hm
      cases h'
      obtain ⟨dc, dc', back, T1, T2, t1, t2, tj, F, hf, rfl⟩ := fo.at hm
      simp only [Option.map_eq_some_iff, Prod.mk.injEq, true_and] at hf
      obtain ⟨x, hf, rfl⟩ := hf
      have hrep := F.rep
      cases dc with
      | nd kd ow xs =>
        cases kd with
        | lst =>
          cases ow with
          | false => cases y <;> simp only [setD, reduceCtorEq] at hf
          | true =>
            cases y <;> simp only [setD, reduceCtorEq] at hf
            rename_i i
            cases qj : ixN xs.length i with
            | none => rw [qj] at hf; cases hf
            | some j =>
              rw [qj] at hf
              simp only [Option.map_some, Option.some.injEq] at hf
              subst hf
              obtain ⟨l, vs, rfl, hl, ho, rr⟩ := shape_lst hrep
              have hT := ho rfl
              have ml : Mut (H3 l) := by rw [hl]; trivial
              have zl : ∀ b, Z b → b ≠ l := fun b z y => by subst y; exact k1.dj b (.inr (b1 b (a2 b (t1 b hT)))) z
              refine .inl ⟨l, vs, i, j, rfl, rep_int ri, hl, by rw [rr.length]; exact qj, ?_⟩
              refine mut_go (Sa := Sa) (Sb := Sb) k1 dj re hv F (fun b z => b1 b (a1 b z)) (fun b z => b1 b (a2 b z)) aj t1 t2 tj hT (by exact trivial) ?_ g
              simp only [Rep]
              refine ⟨l, _, rfl, ⟨upd_same, fun z => by cases z⟩, fun _ => .inl hT, ?_⟩
              have cl : ∀ b, Sa b → b ≠ l := fun b z y => by subst y; exact aj b z (t1 b hT)
              exact reps_set (S1 := fun b => T1 b ∧ b ≠ l) (S2 := Sa) (reps_frW (U := fun b => b = l) (fun b o e n => by rw [upd_ne n]; exact e) (fun b o e n => by rw [n] at e; rw [e] at ml; exact ml) (fun b z => zl b z) (fun _ z => z) (fun b z => z.2) (reps_mono (fun b z => ⟨z.1, z.2 rfl⟩) rr))
                (ixN_seq qj).2.1 (kid_upd ml zl cl rv) (fun b z => ⟨.inl z.1, fun _ => z.2⟩) (fun b z => ⟨.inr z, fun _ => cl b z⟩) fun b z y => aj b y (t1 b z.1)
        | dk ks =>
          cases ow with
          | false => simp only [setD, reduceCtorEq] at hf
          | true =>
            simp only [setD] at hf
            cases qk : y.key with
            | none =>
              rw [qk] at hf
              dsimp only at hf
              split at hf
              · rename_i h0
                obtain ⟨rfl, rfl⟩ := h0
                cases qt : y.tkey with
                | none => rw [qt] at hf; cases hf
                | some kk =>
                  rw [qt] at hf
                  cases hf
                  obtain ⟨l, rfl, dl, ho, _⟩ := dl_dk0 hrep
                  obtain ⟨⟨b, eb⟩, kr, kd⟩ := tkey_rep qt ri
                  have hT := ho rfl
                  have hl : H3 l = some (.dK []) := by
                    obtain ⟨_, _, ⟨as, g1, _, e0, e⟩ | ⟨_, _, e⟩⟩ := dl
                    · obtain ⟨l', vs', el, _, _, e', _⟩ := shape_dk hrep
                      cases el
                      simpa using e'
                    · exact e
                  have ml : Mut (H3 l) := by rw [hl]; trivial
                  have zl : ∀ b, Z b → b ≠ l := fun b z y => by subst y; exact k1.dj b (.inr (b1 b (a2 b (t1 b hT)))) z
                  refine .inr (.inr ⟨l, _, rfl, ⟨_, _, _, kk, b, dl, eb, kr, kd, by decide, rfl⟩, ?_⟩)
                  refine mut_go (Sa := Sa) (Sb := Sb) k1 dj re hv F (fun b z => b1 b (a1 b z)) (fun b z => b1 b (a2 b z)) aj t1 t2 tj hT (by exact trivial) ?_ g
                  exact rep_dputN (ks := []) (as := []) (vs := []) (xs := []) List.nodup_nil rfl rfl (by simp only [List.map_nil, KReps]) (fun k hk => by cases hk) (by rw [← eb]; exact kr) kd reps_nil rv (fun b z y => aj b y (t1 b z)) hT ml zl
              · cases hf
            | some kk =>
              rw [qk] at hf
              dsimp only at hf
              split at hf
              · rename_i hsz
                cases hf
                obtain ⟨l, vs, rfl, nd, hlen, hl, ho, rr⟩ := shape_dk hrep
                have hT := ho rfl
                have ml : Mut (H3 l) := by rw [hl]; trivial
                have zl : ∀ b, Z b → b ≠ l := fun b z y => by subst y; exact k1.dj b (.inr (b1 b (a2 b (t1 b hT)))) z
                refine .inr (.inl ⟨l, _, rfl, by rw [key_kV ri qk]; exact DPut.k hl (by simp; omega), ?_⟩)
                refine mut_go (Sa := Sa) (Sb := Sb) k1 dj re hv F (fun b z => b1 b (a1 b z)) (fun b z => b1 b (a2 b z)) aj t1 t2 tj hT (by exact trivial) ?_ g
                exact rep_dput nd hlen (reps_mono (fun b z => ⟨z.1, z.2 rfl⟩) rr) rv (fun b z y => aj b y (t1 b z)) hT ml zl
              · cases hf
        | dt ks =>
          cases ow with
          | false => simp only [setD, reduceCtorEq] at hf
          | true =>
            simp only [setD] at hf
            cases qk : y.tkey with
            | none => rw [qk] at hf; cases hf
            | some kk =>
              rw [qk] at hf
              simp only [Option.bind_some] at hf
              split at hf
              · rename_i hsz
                cases hf
                obtain ⟨l, vs, as, rfl, nd, hlen, kr, kd, hl, ho, rr⟩ := shape_dt hrep
                obtain ⟨⟨b, eb⟩, kr2, kd2⟩ := tkey_rep qk ri
                have hT := ho rfl
                have la : as.length = ks.length := by have := kreps_len kr; simpa using this
                have ml : Mut (H3 l) := by rw [hl]; trivial
                have zl : ∀ b, Z b → b ≠ l := fun b z y => by subst y; exact k1.dj b (.inr (b1 b (a2 b (t1 b hT)))) z
                refine .inr (.inr ⟨l, _, rfl, ⟨ks, vs, _, kk, b, ⟨nd, hlen, .inl ⟨as, kr, kd, rfl, hl⟩⟩, eb, kr2, kd2, by simp only [List.length_zip]; omega, rfl⟩, ?_⟩)
                refine mut_go (Sa := Sa) (Sb := Sb) k1 dj re hv F (fun b z => b1 b (a1 b z)) (fun b z => b1 b (a2 b z)) aj t1 t2 tj hT (by exact trivial) ?_ g
                exact rep_dputN nd hlen la kr kd (by rw [← eb]; exact kr2) kd2 (reps_mono (fun b z => ⟨z.1, z.2 rfl⟩) rr) rv (fun b z y => aj b y (t1 b z)) hT ml zl
              · cases hf
        | _ => simp only [setD, reduceCtorEq] at hf
      | _ => simp only [setD, reduceCtorEq] at hf⟩
end
end PL

/-! PL.Sda: setdefault, fields, name op= value. -/
namespace PL
open PySem L2
section
variable {L : Lo} {Z : AS} {H : Hp}
/-- what is at the path's end changes: the rest stands ready -/
theorem Foc.re {Z1 : AS} {H1 : Hp} {vc v : V} {dc dc1 : D} {T1 T2 T1' U : AS} {back : D → D} (h : Foc L Z H vc dc T1 T2 v back) (f : Fr U H H1) (o : OwnW U H) (hz : ∀ b, Z b → ¬ U b) (zz : ∀ b, Z b → Z1 b) (h2 : ∀ b, T2 b → ¬ U b) (r : Rep L Z1 H1 vc dc1 T1') : Foc L Z1 H1 vc dc1 T1' T2 v back where
  rep := r
  put := fun {Z'' H'' U' S1' S' dc'} f' o' hz' zz' n2 s1 s2 dj r => by
    refine h.put (U := OrS U U') (fun b ob e n => f' b ob (f b ob e fun z => n (.inl z)) fun z => n (.inr z)) (fun b ob e u => ?_) (fun b z y => y.elim (hz b z) (hz' b (zz b z))) (fun b z => zz' b (zz b z)) (fun b z y => y.elim (h2 b z) (n2 b z)) s1 s2 dj r
    by_cases c : U b
    · exact o b ob e c
    · exact o' b ob (f b ob e c) (u.resolve_left c)
theorem foc_kid0 {vr : V} {k : Kd} {o : Bool} {xs : List D} {back : D → D} {S1 S2 : AS} {p : Addr} {vs : List V} {j : Nat} {x : D} (dj : ∀ b, S1 b → ¬ S2 b) (F : Foc L Z H (.ref p) (.nd k o xs) S1 S2 vr back)
    (sh : shapeOk L Z H p o k vs) (ho : o = true → S1 p) (rr : Reps L Z H vs xs (fun b => S1 b ∧ (o = true → b ≠ p))) (hx : xs[j]? = some x) :
    ∃ w T1 T2, vs[j]? = some w ∧ (∀ b, T1 b → S1 b) ∧ (∀ b, T2 b → S1 b ∨ S2 b) ∧ (∀ b, T1 b → ¬ T2 b) ∧ Foc L Z H w x T1 T2 vr (fun y => back (.nd k o (xs.set j y))) := by
  obtain ⟨w, T1, T2, ew, t1, t2, tj, rw', put⟩ := reps_at rr hx
  refine ⟨w, T1, OrS S2 (OrS T2 (fun b => o = true ∧ b = p)), ew, fun b z => (t1 b z).1, fun b z => ?_, fun b z y => ?_, ⟨rw', ?_⟩⟩
  · rcases z with z | z | z
    · exact .inr z
    · exact .inl (t2 b z).1
    · rw [z.2]; exact .inl (ho z.1)
  · rcases y with y | y | y
    · exact dj b (t1 b z).1 y
    · exact tj b z y
    · exact (t1 b z).2 y.1 y.2
  · intro Z' H' U S1' S' dc' f o' hz zz n2 s1 s2 dj' r
    refine F.put (U := U) (S1' := OrS S1' (OrS T2 (fun b => o = true ∧ b = p))) f o' hz zz (fun b z => n2 b (.inl z)) (fun b z => z.elim (s1 b) fun z => s2 b (.inr z)) (fun b z => s2 b (.inl z)) (fun b z y => ?_) ?_
    · rcases z with z | z | z
      · exact dj' b z (.inl y)
      · exact dj b (t2 b z).1 y
      · rw [z.2] at y; exact dj p (ho z.1) y
    · simp only [Rep]
      refine ⟨p, vs, rfl, ?_, fun z => .inr (.inr ⟨z, rfl⟩), ?_⟩
      · have np : o = true → ¬ U p := fun z => n2 p (.inr (.inr ⟨z, rfl⟩))
        cases k with
        | tup => exact ⟨sh.1, SqU.fr f o' sh.2⟩
        | pr => exact ⟨sh.1, SqT.fr f o' sh.2⟩
        | cl => exact ⟨sh.1, FzL.fr f o' sh.2⟩
        | lst =>
          obtain ⟨g1, g2⟩ := sh
          refine ⟨f p _ g1 ?_, fun z => zz p (g2 z)⟩
          cases o with
          | true => exact np rfl
          | false => exact hz p (g2 rfl)
        | dk ks =>
          obtain ⟨g0, g1, g2, g3⟩ := sh
          refine ⟨g0, g1, f p _ g2 ?_, fun z => zz p (g3 z)⟩
          cases o with
          | true => exact np rfl
          | false => exact hz p (g3 rfl)
        | dt ks =>
          obtain ⟨g0, g1, ⟨as, g4, g5, g2⟩, g3⟩ := sh
          refine ⟨g0, g1, ⟨as, KReps.fr f o' g4, g5, f p _ g2 ?_⟩, fun z => zz p (g3 z)⟩
          cases o with
          | true => exact np rfl
          | false => exact hz p (g3 rfl)
        | ins c ns =>
          obtain ⟨g1, ⟨dx, g2⟩, g3⟩ := sh
          refine ⟨g1, ⟨dx, f p _ g2 ?_⟩, fun z => zz p (g3 z)⟩
          cases o with
          | true => exact np rfl
          | false => exact hz p (g3 rfl)
      · have q := put (S' := fun b => OrS S1' (OrS T2 (fun b => o = true ∧ b = p)) b ∧ (o = true → b ≠ p)) (S1' := S1') (v' := w) (d' := dc') f o' hz zz (fun b z => n2 b (.inr (.inl z)))
          (fun b z => ⟨.inl z, fun y e => dj' b z (.inr (.inr ⟨y, e⟩))⟩) (fun b z => ⟨.inr (.inl z), (t2 b z).2⟩) (fun b z y => dj' b z (.inr (.inl y))) r
        rw [set_self ew] at q
        exact q
/-- a focus, held -/
def HFoc (L : Lo) (vr vc : V) (dc : D) (back : D → D) : AS → Hp → AS → Prop := fun Z H S => ∃ T1 T2 : AS, (∀ b, T1 b → S b) ∧ (∀ b, T2 b → S b) ∧ (∀ b, T1 b → ¬ T2 b) ∧ Foc L Z H vc dc T1 T2 vr back
theorem stb_hfoc {vr vc : V} {dc : D} {back : D → D} : Stb (HFoc L vr vc dc back) where
  st := fun f o hz zz hs ⟨T1, T2, t1, t2, tj, F⟩ => ⟨T1, T2, t1, t2, tj, F.st f o hz zz (fun b z => hs b (t1 b z)) fun b z => hs b (t2 b z)⟩
  mo := fun hs ⟨T1, T2, t1, t2, tj, F⟩ => ⟨T1, T2, fun b z => hs b (t1 b z), fun b z => hs b (t2 b z), tj, F⟩
theorem keyIx_app : ∀ {ks : List Key} {k : Key}, keyIx ks k = none → keyIx (ks ++ [k]) k = some ks.length
  | [], k, _ => by simp [keyIx]
  | k' :: ks, k, h => by
    simp only [keyIx] at h
    by_cases c : k' = k
    · rw [if_pos c] at h; cases h
    · rw [if_neg c] at h
      simp only [List.cons_append, keyIx, if_neg c, keyIx_app (by simpa using h), Option.map_some, List.length_cons]
theorem look_ix : ∀ {ks : List Key} {xs : List D} {k : Key} {d : D}, lookD ks xs k = some d → ∃ j, keyIx ks k = some j ∧ xs[j]? = some d
  | [], xs, k, d, h => by simp [lookD] at h
  | k' :: ks, [], k, d, h => by simp [lookD] at h
  | k' :: ks, x :: xs, k, d, h => by
    simp only [lookD] at h
    simp only [keyIx]
    by_cases c : k' = k
    · rw [if_pos c] at h ⊢; cases h; exact ⟨0, rfl, rfl⟩
    · rw [if_neg c] at h ⊢
      obtain ⟨j, e1, e2⟩ := look_ix h
      exact ⟨j + 1, by rw [e1]; rfl, by simpa using e2⟩
theorem look_ix0 : ∀ {ks : List Key} {xs : List D} {k : Key}, ks.length = xs.length → lookD ks xs k = none → keyIx ks k = none
  | [], xs, k, _, h => rfl
  | k' :: ks, [], k, hl, h => by simp at hl
  | k' :: ks, x :: xs, k, hl, h => by
    simp only [lookD] at h
    simp only [keyIx]
    by_cases c : k' = k
    · rw [if_pos c] at h; cases h
    · rw [if_neg c] at h ⊢
      rw [look_ix0 (by simpa using hl) h]; rfl
theorem valV_ix : ∀ {ks : List Key} {vs : List V} {k : Key}, ks.length = vs.length → keyIx ks k = none → valV (ks.zip vs) k = none
  | [], vs, k, _, _ => by simp [valV]
  | k' :: ks, [], k, hl, _ => by simp at hl
  | k' :: ks, v :: vs, k, hl, h => by
    simp only [keyIx] at h
    by_cases c : k' = k
    · rw [if_pos c] at h; cases h
    · rw [if_neg c] at h
      rw [List.zip_cons_cons, valV_neg c]
      exact valV_ix (by simpa using hl) (by simpa using h)
end
section
variable {X : Cx} {L : Lo} {tb : Tab} {o : Orc} {k : Nat} {pr : List Nat} {pos p1 p2 p3 p4 p5 : Pos} {W : WX} {a b c : Expr} {ca cb cc : E}
theorem isD_ref {H : Hp} {l : Addr} {kvs : List (Key × V)} (h : H l = some (.dK kvs)) : IsD H l := .inl ⟨kvs, .inl h⟩
/-- a path's end is a dict of ours -/
theorem foc_dict {at' : Nat → Str → Bool} {vr vc : V} {d : D} {acs : List Acc} {Z S : AS} {H : Hp} {ks : List Key} {xs : List D} (h : FocP L at' vr d acs vc Z H S) (hw : walkD at' acs d = some (.nd (.dk ks) true xs)) :
    ∃ (l : Addr) (vs : List V) (back : D → D) (S1 S2 : AS), vc = .ref l ∧ ks.Nodup ∧ ks.length = vs.length ∧ H l = some (.dK (ks.zip vs)) ∧ (∀ b, S1 b → S b) ∧ (∀ b, S2 b → S b) ∧ (∀ b, S1 b → ¬ S2 b) ∧ S1 l ∧ Foc L Z H (.ref l) (.nd (.dk ks) true xs) S1 S2 vr back ∧ Reps L Z H vs xs (fun b => S1 b ∧ b ≠ l) ∧
      (∀ (α : Type) (f : D → Option (α × D)), modD at' f acs d = (f (.nd (.dk ks) true xs)).map fun (r, x) => (r, back x)) := by
  obtain ⟨dc, back, S1, S2, h1, h2, dj, F, hb, hwk, hm⟩ := h
  have e : dc = .nd (.dk ks) true xs := by
    have := hwk []
    rw [List.append_nil, hw] at this
    exact (Option.some.inj this).symm
  subst e
  obtain ⟨l, vs, ev, nd, hlen, hl, ho, rr⟩ := shape_dk F.rep
  subst ev
  exact ⟨l, vs, back, S1, S2, rfl, nd, hlen, hl, h1, h2, dj, ho rfl, F, reps_mono (fun b z => ⟨z.1, z.2 rfl⟩) rr, fun α f => by
    have := hm α f []
    rw [List.append_nil] at this
    exact this⟩
theorem sd_start {root : Nat} {pp : Ps} {σ : St} {e : PL.Env} {H : Hp} {Qc : VK} {Ds : Ends} {f : List Acc → D → List Key → List D → PL.Env → SR}
    (m : MidH L σ H e nP (GoodS L W pr σ Ds) (match e.at root with
      | none => none
      | some d => bnd (evPs tb o pp d root (e.set root none)) fun acs e => match walkD tb.attr acs d with
        | some (.nd (.dk ks) true xs) => f acs d ks xs e
        | _ => none))
    (k : ∀ (vr vc : V) (d : D) (acs : List Acc) (H1 : Hp) (e1 : PL.Env) (ks : List Key) (xs : List D), σ[root]? = some (some vr) → walkD tb.attr acs d = some (.nd (.dk ks) true xs) →
      MidH L σ H1 e1 (Spl nP (FocP L tb.attr vr d acs vc)) (GoodS L W pr σ Ds) (f acs d ks xs e1) → Qc vc H1) : tPth L W tb o root pp σ H Qc := by
  cases q : e.at root with
  | none => rw [q] at m; exact m.none.elim
  | some d =>
    rw [q] at m
    obtain ⟨vr, hv, m1⟩ := m.aside (gp_s Same.refl) q
    refine ⟨_, _, _, _, _, vr, d, gp_s Same.refl, stb_n, hv, m1, fun vc H' acs e' m' => ?_⟩
    cases qw : walkD tb.attr acs d with
    | none => rw [qw] at m'; exact m'.none.elim
    | some dw =>
      rw [qw] at m'
      cases dw with
      | nd kd ow xs =>
        cases kd with
        | dk ks =>
          cases ow with
          | true => exact k vr vc d acs H' e' ks xs hv qw m'
          | false => exact m'.none.elim
        | _ => exact m'.none.elim
      | _ => exact m'.none.elim
theorem mid_upd {Z S1 S2 : AS} {H : Hp} {σ : St} {e : PL.Env} {l : Addr} {ob : HO} (k : Ok Z (OrS S1 S2) H) (dj : ∀ b, S1 b → ¬ S2 b) (re : RepE L Z H σ e S1) (hl : S2 l) (mu : Mut (some ob)) : Ok Z (OrS S1 S2) (upd H l ob) ∧ RepE L Z (upd H l ob) σ e S1 ∧ Step Z (OrS S1 S2) H Z (OrS S1 S2) (upd H l ob) := by
  have ml : Mut (H l) := k.own l (.inr hl)
  have zl : ∀ b, Z b → b ≠ l := fun b z y => by subst y; exact k.dj b (.inr hl) z
  refine ⟨⟨k.dj, fun b hb => ?_, fun b z y => k.zd b z (upd_nn y)⟩, ?_, ⟨fun _ z => z, fun _ z => .inl z, fun _ z => .inl z, fun b o e n => ?_, fun b => upd_nn⟩⟩
  · by_cases c : b = l
    · subst c; rw [upd_same]; exact mu
    · rw [upd_ne c]; exact k.own b hb
  · obtain ⟨Fm, f1, f2, f3⟩ := re.ex
    refine ⟨re.len, Fm, f1, f2, fun i d hd => ?_⟩
    obtain ⟨v, ev, r⟩ := f3 i d hd
    exact ⟨v, ev, kid_upd ml zl (fun b z y => by subst y; exact dj b (f1 i b z) hl) r⟩
  · rw [upd_ne fun y => n (by rw [y]; exact .inr hl)]; exact e
/-- a list of ours gets a member more -/
theorem app_fin {σ : St} {e : PL.Env} {H : Hp} {root : Nat} {vr vc : V} {Ds : Ends} {ys : List D} {bk : D → D} {f : D → PL.Env → SR} (hv : σ[root]? = some (some vr)) (m : MidH L σ H e (HFoc L vr vc (.nd .lst true ys) bk) (GoodS L W pr σ Ds) (bnd (evE tb o cc e) f))
    (hf : ∀ dv e, f dv e = if ys.length < sizeLine then some (.val .nx (e.set root (some (bk (.nd .lst true (ys ++ [dv])))))) else none) :
    tG L W (Rep L) (evE tb o cc) σ H fun wv H1 => ∃ l vs, vc = .ref l ∧ H1 l = some (.lst vs) ∧ vs.length < sizeLine ∧ Ds.nx σ (upd H1 l (.lst (vs ++ [wv]))) := by
  refine (m.bind (rep := Rep L) (gp_s Same.refl) stb_hfoc).imp fun wv H1 ⟨dv, e1, m1⟩ => ?_
  obtain ⟨Z, S1, S2, k1, dj, re, ⟨Sb, Sa, b1, b2, bj, ⟨T1, T2, t1, t2, tj, F⟩, rv⟩, r', h', g⟩ := m1
  rw [hf] at h'
  split at h'
  · rename_i hsz
    cases h'
    obtain ⟨l, vs, rfl, hl, ho, rr⟩ := shape_lst F.rep
    have hT := ho rfl
    have ml : Mut (H1 l) := by rw [hl]; trivial
    have zl : ∀ b, Z b → b ≠ l := fun b z y => by subst y; exact k1.dj b (.inr (b1 b (t1 b hT))) z
    have cl : ∀ b, Sa b → b ≠ l := fun b z y => by subst y; exact bj b (t1 b hT) z
    refine ⟨l, vs, rfl, hl, by rw [rr.length]; exact hsz, ?_⟩
    refine mut_go (Sa := Sa) (Sb := Sb) k1 dj re hv F b2 b1 (fun b z y => bj b y z) t1 t2 tj hT (by exact trivial) ?_ g
    simp only [Rep]
    refine ⟨l, vs ++ [wv], rfl, ⟨upd_same, fun z => by cases z⟩, fun _ => .inl hT, ?_⟩
    exact reps_append (S1 := fun b => T1 b ∧ b ≠ l) (S2 := Sa) (fun b z => ⟨.inl z.1, fun _ => z.2⟩) (fun b z => ⟨.inr z, fun _ => cl b z⟩) (fun b z y => bj b (t1 b z.1) y)
      (reps_frW (U := fun b => b = l) (fun b o e n => by rw [upd_ne n]; exact e) (fun b o e n => by rw [n] at e; rw [e] at ml; exact ml) (fun b z => zl b z) (fun _ z => z) (fun b z => z.2) (reps_mono (fun b z => ⟨z.1, z.2 rfl⟩) rr))
      (reps_cons (S1 := Sa) (S2 := NoAS) (fun _ z => z) (fun _ z => z.elim) (fun _ _ z => z) (kid_upd ml zl cl rv) reps_nil)
  · cases h'
/-- a.setdefault(k, []).append(v) -/
theorem cs_sda [Lay X L tb o k] {root : Nat} {pp : Ps} {mi : M} (hp : PPs X L tb o root a pp) (hi : PMs X L tb o root b mi) (hc : PEs X L tb o c cc) (mm : M2 X a "setdefault" p1 b (.List [] p2) p3 := by exact ⟨rfl, rfl, rfl, rfl⟩)
    (hbase : attributeBase (.Call (.Attribute a "setdefault" p1) [b, .List [] p2] [] p3) "append" X.env (eval (.Call (.Attribute a "setdefault" p1) [b, .List [] p2] [] p3) X.env) = eval (.Call (.Attribute a "setdefault" p1) [b, .List [] p2] [] p3) X.env := by rfl)
    (hfew : ((backTo p5 (starEach [c] X.env)).all (fun x => !x.1) && (backToKw p5 (keywordEach [] X.env)).all (fun x => x.1.isSome)
      && decide ([c].length + ([] : List Keyword).length + (if ([] : List Keyword).isEmpty then 0 else 1) < 30)) = true := by rfl)
    (hline : (p4.endLine == p5.line) = true := by rfl) (hs : starEach [c] X.env = (false, eval c X.env) :: starEach [] X.env := by rfl) (hplain : (backTo p5 (starEach [] X.env)).any (·.1) = false := by rfl)
    (hsw : swapsWith (.Call (.Attribute (.Call (.Attribute a "setdefault" p1) [b, .List [] p2] [] p3) "append" p4) [c] [] p5) none pos.line X.env = pure false := by rfl) :
    PCs X L tb o pr (.Expr (.Call (.Attribute (.Call (.Attribute a "setdefault" p1) [b, .List [] p2] [] p3) "append" p4) [c] [] p5) pos) (.sda root pp mi cc) :=
  ⟨fun W tk => PSimp (ps_expr (pe_bm PySem.F.plainAttrs_list PySem.F.slot_list_append PySem.F.type_list_append mt_append (pe_dsetd (hp.run W tk) (hi.run W tk) (pe_lst pa_nil) mm) (pa_cons (hc.run W tk) pa_nil hs) hbase hfew hline hs hplain) hsw) fun Ds σ H h => by
  obtain ⟨e, m⟩ := h.mid
  simp only [exS] at m
  refine sd_start m fun vr vc d acs H1 e1 ks xs hv hw m1 => ?_
  -- the dict
  have isd : ∃ l kvs, vc = .ref l ∧ H1 l = some (.dK kvs) := by
    obtain ⟨Z, S1, S2, k1, dj, re, ⟨Sa, Sb, a1, a2, aj, _, fo⟩, r', h', g⟩ := m1
    obtain ⟨l, vs, back, T1, T2, ev, nd, hlen, hl, _⟩ := foc_dict fo hw
    exact ⟨l, _, ev, hl⟩
  obtain ⟨l, kvs, rfl, hl0⟩ := isd
  refine ⟨l, rfl, isD_ref hl0, _, _, _, _, e1, vr, d, gp_s Same.refl, stb_n.spl stb_foc, hv, fun Z H S ⟨Sa, Sb, a1, a2, aj, q1, q2⟩ => rep_mono a2 q2.whole, m1, fun yv H2 y e2 m2 => ?_⟩
  refine ⟨Nat.zero_le _, fun nl hnl => ?_⟩
  split at m2
  · rename_i hok
    unfold sdaOk at hok
    cases qk : y.key with
    | none => rw [qk] at hok; cases hok
    | some kk =>
    rw [qk] at hok
    dsimp only at hok
    rw [Bool.and_eq_true, decide_eq_true_eq] at hok
    obtain ⟨hsz, hlk⟩ := hok
    have m3 := m2.newAt gs_s ((stb_n.spl stb_foc).spl stb_rep) hnl (ob := .lst []) trivial
    obtain ⟨Z, S1, S2, k1, dj, re, ⟨S3, Sn, c1, c2, cj, ⟨Sab, Sc, b1, b2, bj, ⟨Sa, Sb, a1, a2, aj, _, fo⟩, ry⟩, hat⟩, r', h', g⟩ := m3
    obtain ⟨l', vs, back, T1, T2, ev, nd, hlen, hl, t1, t2, tj, hT, F, rr, hm⟩ := foc_dict fo hw
    cases ev
    have hx : ks.length = xs.length := by rw [hlen, rr.length]
    have sb : ∀ b, Sb b → S2 b := fun b z => c1 b (b1 b (a2 b z))
    refine ⟨_, kk, hl, key_kV ry qk, by simp; omega, fun v hvv => ?_, fun hvn => ?_⟩
    · -- there is a list already
      have hne : keyIx ks kk ≠ none := fun z => by rw [valV_ix hlen z] at hvv; cases hvv
      cases qd : lookD ks xs kk with
      | none => exact absurd (look_ix0 hx qd) hne
      | some dl =>
        rw [qd] at hlk
        obtain ⟨j, ej, ex⟩ := look_ix qd
        cases dl with
        | nd kd ow ys =>
          cases kd with
          | lst =>
            cases ow with
            | true =>
              obtain ⟨w, U1, U2, ew, u1, u2, uj, F2⟩ := foc_kid0 (vs := vs) tj F ⟨nd, hlen, hl, fun z => by cases z⟩ (fun _ => hT) (reps_mono (fun b z => ⟨z.1, fun _ => z.2⟩) rr) ex
              have evw : v = w := by
                rw [keyIx_look ej hlen ew] at hvv
                exact (Option.some.inj hvv).symm
              subst evw
              have hty : ∃ q qs, v = .ref q ∧ upd H2 nl (.lst []) q = some (.lst qs) := by
                obtain ⟨q, qs, eq, hq, _⟩ := shape_lst F2.rep
                exact ⟨q, qs, eq, hq⟩
              obtain ⟨q, qs, rfl, hq⟩ := hty
              refine ⟨ty_list hq, ?_⟩
              refine (app_fin (tb := tb) (o := o) (cc := cc) (ys := ys) (bk := fun y => back (.nd (.dk ks) true (xs.set j y))) hv ⟨Z, S1, S2, k1, dj, re, ⟨U1, U2, fun b z => sb b (t1 b (u1 b z)), fun b z => sb b ((u2 b z).elim (t1 b) (t2 b)), uj, F2⟩, r', h', g⟩ fun dv e => ?_).imp fun wv H4 ⟨l2, vs2, e2, h2, h3, h4⟩ => ?_
              · rw [hm]
                simp only [sdaD, qk, Option.bind_some, qd]
                by_cases hz : ys.length < sizeLine
                · rw [if_pos hz, if_pos hz, putD_old ej hx]; rfl
                · rw [if_neg hz, if_neg hz]; rfl
              · exact ⟨l2, vs2, wv, e2, rfl, h2, h3, h4⟩
            | false => cases hlk
          | _ => cases hlk
        | _ => cases hlk
    · -- a new one
      have qn : keyIx ks kk = none := by
        cases q : keyIx ks kk with
        | none => rfl
        | some j =>
          have hj := keyIx_lt q
          rw [keyIx_look q hlen (List.getElem?_eq_getElem (by omega))] at hvn
          cases hvn
      have qd : lookD ks xs kk = none := by
        cases q : lookD ks xs kk with
        | none => rfl
        | some d => obtain ⟨j, ej, _⟩ := look_ix q; rw [qn] at ej; cases ej
      have ml : Mut (upd H2 nl (.lst []) l) := by rw [hl]; trivial
      have zl : ∀ b, Z b → b ≠ l := fun b z y => by subst y; exact k1.dj b (.inr (sb b (t1 b hT))) z
      have nT : ∀ b, T1 b → ¬ (b = nl) := fun b z y => by subst y; exact cj b (b1 b (a2 b (t1 b z))) hat.1
      have nT2 : ∀ b, T2 b → ¬ (b = nl) := fun b z y => by subst y; exact cj b (b1 b (a2 b (t2 b z))) hat.1
      have rnl : Rep L Z (upd H2 nl (.lst [])) (.ref nl) (.nd .lst true []) (fun b => b = nl) := by
        simp only [Rep]
        exact ⟨nl, [], rfl, ⟨hat.2, fun z => by cases z⟩, fun _ => rfl, reps_nil⟩
      have rnew := rep_dput (kk := kk) nd hlen rr rnl (fun b z y => nT b z y) hT ml zl
      rw [putD_new qn hx] at rnew
      have F1 := F.re (U := fun b => b = l) (Z1 := Z) (fun b o e n => by rw [upd_ne n]; exact e) (fun b o e n => by rw [n] at e; rw [e] at ml; exact ml) (fun b z => zl b z) (fun _ z => z) (fun b z y => by subst y; exact tj b hT z) rnew
      have dj1 : ∀ b, OrS T1 (fun b => b = nl) b → ¬ T2 b := fun b z y => z.elim (fun z => tj b z y) fun z => nT2 b y z
      obtain ⟨l9, vs1, e9, nd1, hlen1, hl1, ho1, rr1⟩ := shape_dk F1.rep
      cases e9
      obtain ⟨w, U1, U2, ew, u1, u2, uj, F2⟩ := foc_kid0 (vs := vs1) (j := xs.length) (x := .nd .lst true []) dj1 F1 ⟨nd1, hlen1, hl1, fun z => by cases z⟩ ho1 rr1 (by simp)
      have evw : w = .ref nl := by
        have e1 : (ks ++ [kk]).zip vs1 = putK (ks.zip vs) kk (.ref nl) := by
          have := hl1.symm.trans (upd_same (H := upd H2 nl (.lst [])))
          simpa using this
        have e2 := keyIx_look (j := xs.length) (f := kk) (ks := ks ++ [kk]) (vs := vs1) (w := w) (by rw [← hx]; exact keyIx_app qn) hlen1 ew
        rw [e1, valV_put, if_pos rfl] at e2
        exact (Option.some.inj e2).symm
      subst evw
      have hnl2 : upd (upd H2 nl (.lst [])) l (.dK (putK (ks.zip vs) kk (.ref nl))) nl = some (.lst []) := by
        rw [upd_ne (fun z => nT l hT z.symm), upd_same]
      refine ⟨ty_list hnl2, ?_⟩
      obtain ⟨k2, re2, st2⟩ := mid_upd (ob := .dK (putK (ks.zip vs) kk (.ref nl))) k1 dj re (sb l (t1 l hT)) trivial
      refine (app_fin (tb := tb) (o := o) (cc := cc) (ys := []) (bk := fun y => back (.nd (.dk (ks ++ [kk])) true ((xs ++ [D.nd .lst true []]).set xs.length y))) hv ⟨Z, S1, S2, k2, dj, re2, ⟨U1, U2, fun b z => ?_, fun b z => ?_, uj, F2⟩, r', h', gs_s.step g st2⟩ fun dv e => ?_).imp fun wv H4 ⟨l2, vs2, e2, h2, h3, h4⟩ => ?_
      · exact (u1 b z).elim (fun z => sb b (t1 b z)) fun z => by subst z; exact c2 b hat.1
      · exact (u2 b z).elim (fun z => z.elim (fun z => sb b (t1 b z)) fun z => by subst z; exact c2 b hat.1) fun z => sb b (t2 b z)
      · rw [hm]
        simp only [sdaD, qk, Option.bind_some, qd]
        rw [if_pos hsz, if_pos (by decide)]
        simp
      · exact ⟨l2, vs2, wv, e2, rfl, h2, h3, h4⟩
  · exact m2.none.elim⟩
/-- a.setdefault(k, v), alone -/
theorem cs_sdf [Lay X L tb o k] {root : Nat} {pp : Ps} {mi mv : M} (hp : PPs X L tb o root a pp) (hi : PMs X L tb o root b mi) (hc : PMs X L tb o root c mv) (mm : M2 X a "setdefault" p1 b c p3 := by exact ⟨rfl, rfl, rfl, rfl⟩)
    (hsw : swapsWith (.Call (.Attribute a "setdefault" p1) [b, c] [] p3) none pos.line X.env = pure false := by rfl) :
    PCs X L tb o pr (.Expr (.Call (.Attribute a "setdefault" p1) [b, c] [] p3) pos) (.sdf root pp mi mv) :=
  ⟨fun W tk => PSimp (ps_expr (pe_dsetd (hp.run W tk) (hi.run W tk) (hc.run W tk) mm) hsw) fun Ds σ H h => by
  obtain ⟨e, m⟩ := h.mid
  simp only [exS] at m
  refine sd_start (f := fun acs d ks xs e => bnd (evM tb o mi d root e) fun k e => bnd (evM tb o mv d root e) fun v e =>
    match modD tb.attr (fun x => (sdfD x k v).map fun y => ((), y)) acs d with
    | none => none
    | some (_, d') => some (.val .nx (e.set root (some d')))) m fun vr vc d acs H1 e1 ks xs hv hw m1 => ?_
  have isd : ∃ l kvs, vc = .ref l ∧ H1 l = some (.dK kvs) := by
    obtain ⟨Z, S1, S2, k1, dj, re, ⟨Sa, Sb, a1, a2, aj, _, fo⟩, r', h', g⟩ := m1
    obtain ⟨l, vs, back, T1, T2, ev, nd, hlen, hl, _⟩ := foc_dict fo hw
    exact ⟨l, _, ev, hl⟩
  obtain ⟨l, kvs, rfl, hl0⟩ := isd
  refine ⟨l, rfl, isD_ref hl0, _, _, _, _, e1, vr, d, gp_s Same.refl, stb_n.spl stb_foc, hv, fun Z H S ⟨Sa, Sb, a1, a2, aj, q1, q2⟩ => rep_mono a2 q2.whole, m1, fun yv H2 y e2 m2 => ?_⟩
  refine ⟨_, _, _, _, e2, vr, d, gp_s Same.refl, (stb_n.spl stb_foc).spl stb_rep, hv, fun Z H S ⟨Sc, _, c1, _, _, ⟨Sa, Sb, a1, a2, aj, q1, q2⟩, _⟩ => rep_mono (fun b z => c1 b (a2 b z)) q2.whole, m2, fun zv H3 z e3 m3 => ?_⟩
  obtain ⟨Z, S1, S2, k1, dj, re, ⟨Sab, Sv, b1, b2, bj, ⟨Sc, Sk, c1, c2, cj, ⟨Sa, Sb, a1, a2, aj, _, fo⟩, ry⟩, rv⟩, r', h', g⟩ := m3
  obtain ⟨l', vs, back, T1, T2, ev, nd, hlen, hl, t1, t2, tj, hT, F, rr, hm⟩ := foc_dict fo hw
  cases ev
  have hx : ks.length = xs.length := by rw [hlen, rr.length]
  rw [hm] at h'
  simp only [sdfD] at h'
  cases qk : y.key with
  | none => rw [qk] at h'; cases h'
  | some kk =>
    rw [qk] at h'
    simp only [Option.bind_some] at h'
    have sb : ∀ b, Sb b → S2 b := fun b z => b1 b (c1 b (a2 b z))
    have ml : Mut (H3 l) := by rw [hl]; trivial
    have zl : ∀ b, Z b → b ≠ l := fun b z y => by subst y; exact k1.dj b (.inr (sb b (t1 b hT))) z
    have bj' : ∀ b, Sv b → ¬ Sb b := fun b z y => bj b (c1 b (a2 b y)) z
    by_cases hsz : ks.length < sizeLine
    · rw [if_pos hsz] at h'
      simp only [Option.map_some] at h'
      cases h'
      cases qd : lookD ks xs kk with
      | some dv =>
        rw [qd] at g
        dsimp only at g
        obtain ⟨j, ej, ex⟩ := look_ix qd
        have hj := keyIx_lt ej
        have hval := keyIx_look ej hlen (List.getElem?_eq_getElem (by omega))
        refine ⟨_, kk, hl, key_kV ry qk, by simp; omega, fun v _ => ?_, fun hn => by rw [hval] at hn; cases hn⟩
        refine g σ H3 Z (OrS S1 Sb) (Step.refl fun b z => z.elim .inl fun z => .inr (sb b z)) (k1.mono fun b z => z.elim .inl fun z => .inr (sb b z)) ?_ Same.refl
        exact (re.forget root).put hv (F.put (U := NoAS) fr_refl (fun _ _ _ z => z.elim) (fun _ _ z => z) (fun _ z => z) (fun _ _ z => z) t1 t2 tj F.rep) (fun b z => .inr z) (fun b z => .inl z) fun b z y => dj b y (sb b z)
      | none =>
        rw [qd] at g
        dsimp only at g
        have qn := look_ix0 hx qd
        refine ⟨_, kk, hl, key_kV ry qk, by simp; omega, fun v hvv => (by rw [valV_ix hlen qn] at hvv; cases hvv), fun hn => ?_⟩
        exact mut_go (Sa := Sv) (Sb := Sb) k1 dj re hv F b2 sb bj' t1 t2 tj hT (by exact trivial) (rep_dput nd hlen rr rv (fun b z y => bj' b y (t1 b z)) hT ml zl) g
    · rw [if_neg hsz] at h'; cases h'⟩
theorem strIx_put : ∀ {ns : List Str} {vs : List V} {xs : List D} {f : Str} {v : V} {d : D}, ns.length = vs.length → ns.length = xs.length →
    (∃ j, j < xs.length ∧ putF f v (ns.zip vs) = ns.zip (vs.set j v) ∧ putN ns xs f d = (ns, xs.set j d)) ∨ (putF f v (ns.zip vs) = (ns ++ [f]).zip (vs ++ [v]) ∧ putN ns xs f d = (ns ++ [f], xs ++ [d]))
  | [], [], [], f, v, d, _, _ => .inr ⟨rfl, rfl⟩
  | [], [], x :: xs, f, v, d, _, h => by simp at h
  | [], v' :: vs, xs, f, v, d, h, _ => by simp at h
  | n :: ns, [], xs, f, v, d, h, _ => by simp at h
  | n :: ns, v' :: vs, [], f, v, d, _, h => by simp at h
  | n :: ns, v' :: vs, x :: xs, f, v, d, h1, h2 => by
    simp only [List.zip_cons_cons, putF, putN]
    by_cases c : n = f
    · rw [if_pos c, if_pos c]
      exact .inl ⟨0, by simp, rfl, rfl⟩
    · rw [if_neg c, if_neg c]
      rcases strIx_put (f := f) (v := v) (d := d) (ns := ns) (vs := vs) (xs := xs) (by simpa using h1) (by simpa using h2) with ⟨j, hj, e1, e2⟩ | ⟨e1, e2⟩
      · exact .inl ⟨j + 1, by simpa using hj, by rw [e1]; rfl, by rw [e2]; rfl⟩
      · exact .inr ⟨by rw [e1]; rfl, by rw [e2]; rfl⟩
/-- a.f = v -/
theorem cs_fld [Lay X L tb o k] {root : Nat} {pp : Ps} {f : Str} (ha : PEs X L tb o a ca) (hp : PPs X L tb o root b pp) (hs : swapsWith a (some (.Attribute b f p1)) pos.line X.env = pure false := by rfl) :
    PCs X L tb o pr (.Assign [.Attribute b f p1] a pos) (.fld root pp f ca) :=
  ⟨fun W tk => PSimp (ps_fld (hp.run W tk) (ha.run W tk) hs) fun Ds σ H h => by
  obtain ⟨e, m⟩ := h.mid
  simp only [exS] at m
  refine (m.bind (rep := Rep L) (gp_s Same.refl) stb_n).imp fun v H1 ⟨dv, e1, m1⟩ => ?_
  cases q : e1.at root with
  | none => rw [q] at m1; exact m1.none.elim
  | some d =>
    rw [q] at m1
    obtain ⟨vr, hv, m2⟩ := m1.aside (gp_s Same.refl) q
    refine ⟨_, _, _, _, _, vr, d, gp_s Same.refl, stb_n.spl stb_rep, hv, m2, fun vc H2 acs e2 m3 => ?_⟩
    obtain ⟨Z, S1, S2, k1, dj, re, ⟨Sa', Sb, a1', a2, aj', ⟨Sn, Sa, n1, n2, nj, _, rv⟩, fo⟩, r', h', g⟩ := m3
    have a1 : ∀ b, Sa b → S2 b := fun b z => a1' b (n2 b z)
    have aj : ∀ b, Sa b → ¬ Sb b := fun b z => aj' b (n2 b z)
    split at h'
    · cases h'
    · rename_i r0 d' hm
      cases h'
      obtain ⟨dc, dc', back, T1, T2, t1, t2, tj, F, hf, rfl⟩ := fo.at hm
      simp only [Option.map_eq_some_iff, Prod.mk.injEq, true_and] at hf
      obtain ⟨x, hf, rfl⟩ := hf
      have hrep := F.rep
      cases dc with
      | nd kd ow xs =>
        cases kd with
        | ins c ns =>
          cases ow with
          | false => simp only [fsetD, reduceCtorEq] at hf
          | true =>
            simp only [fsetD] at hf
            split at hf
            · rename_i hc
              cases hf
              simp only [Rep, shapeOk] at hrep
              obtain ⟨l, vs, rfl, ⟨hlen, ⟨dx, hl⟩, _⟩, ho, rr⟩ := hrep
              have hT := ho trivial
              obtain ⟨hcl, hn⟩ := Lay.att (X := X) (L := L) (tb := tb) (o := o) (k := k) c f hc.2
              have ml : Mut (H2 l) := by rw [hl]; trivial
              have zl : ∀ b, Z b → b ≠ l := fun b z y => by subst y; exact k1.dj b (.inr (a2 b (t1 b hT))) z
              have cl : ∀ b, Sa b → b ≠ l := fun b z y => by subst y; exact aj b z (t1 b hT)
              have hx : ns.length = xs.length := by rw [hlen, rr.length]
              refine ⟨l, _, dx, ns.zip vs, rfl, hl, hcl, hn, by simp; omega, ?_⟩
              refine mut_go (Sa := Sa) (Sb := Sb) k1 dj re hv F a1 a2 aj t1 t2 tj hT (by exact trivial) ?_ g
              have r1 : ∀ {ob : HO}, Reps L Z (upd H2 l ob) vs xs (fun b => T1 b ∧ b ≠ l) := reps_frW (U := fun b => b = l) (fun b o e n => by rw [upd_ne n]; exact e) (fun b o e n => by rw [n] at e; rw [e] at ml; exact ml) (fun b z => zl b z) (fun _ z => z) (fun b z => z.2) (reps_mono (fun b z => ⟨z.1, z.2 trivial⟩) rr)
              have r2 : ∀ {ob : HO}, Rep L Z (upd H2 l ob) v dv Sa := kid_upd ml zl cl rv
              simp only [Rep]
              rcases strIx_put (v := v) (d := dv) (f := f) hlen hx with ⟨j, hj, e1, e2⟩ | ⟨e1, e2⟩
              · rw [e1, e2]
                refine ⟨l, vs.set j v, rfl, ⟨by simpa using hlen, ⟨dx, upd_same⟩, fun z => by cases z⟩, fun _ => .inl hT, ?_⟩
                exact reps_set r1 hj r2 (fun b z => ⟨.inl z.1, fun _ => z.2⟩) (fun b z => ⟨.inr z, fun _ => cl b z⟩) fun b z y => aj b y (t1 b z.1)
              · rw [e1, e2]
                refine ⟨l, vs ++ [v], rfl, ⟨by simp [hlen], ⟨dx, upd_same⟩, fun z => by cases z⟩, fun _ => .inl hT, ?_⟩
                exact reps_append (S1 := fun b => T1 b ∧ b ≠ l) (S2 := Sa) (fun b z => ⟨.inl z.1, fun _ => z.2⟩) (fun b z => ⟨.inr z, fun _ => cl b z⟩) (fun b z y => aj b y (t1 b z.1)) r1 (reps_cons (S1 := Sa) (S2 := NoAS) (fun _ z => z) (fun _ z => z.elim) (fun _ _ z => z) r2 reps_nil)
            · cases hf
        | _ => simp only [fsetD, reduceCtorEq] at hf
      | _ => simp only [fsetD, reduceCtorEq] at hf⟩
/-- a name op= e, ints -/
theorem aug_run {op : BOp} {fn : Int → Int → Int} (hop : ∀ x y z, binD op (.int x) y = some z → ∃ j, y = .int j ∧ z = .int (fn x j)) {i : Nat} {Ds : Ends} {σ : St} {H : Hp} (h : tS L W pr (exS tb o pr (.aug i op ca)) Ds σ H) : tAug i (tG L W (Rep L) (evE tb o ca)) (ipI fn) Ds σ H := by
  obtain ⟨e, m⟩ := h.mid
  simp only [exS] at m
  cases q : e.at i with
  | none => rw [q] at m; exact m.none.elim
  | some d =>
    rw [q] at m
    cases d with
    | int x =>
      have hv : σ[i]? = some (some (.int x)) := by
        obtain ⟨Z, S1, S2, k1, dj, re, _, _⟩ := m
        obtain ⟨v, U1, U2, ev, h1, h2, uj, rv, re2⟩ := re.at q
        rw [rep_int rv] at ev
        exact ev
      refine ⟨.int x, hv, ?_⟩
      refine (m.bind (rep := Rep L) (gp_s Same.refl) stb_n).imp fun v H1 ⟨d, e1, m1⟩ => ?_
      cases qb : binD op (.int x) d with
      | none => rw [qb] at m1; exact m1.none.elim
      | some z =>
        rw [qb] at m1
        obtain ⟨j, rfl, rfl⟩ := hop _ _ _ qb
        simp only [storeT] at m1
        by_cases np : pr.contains i = true
        · rw [if_pos np] at m1; exact m1.none.elim
        · rw [if_neg np] at m1
          obtain ⟨Z, S1, S2, k, dj, re, ⟨Sa, Sb, a1, a2, aj, q1, q2⟩, r', h', g⟩ := m1
          cases h'
          refine ⟨x, j, rfl, rep_int q2, ?_⟩
          exact g _ H1 Z S1 (Step.refl fun b z => .inl z) (k.mono fun b z => .inl z) (re.store (S1 := NoAS) (by simp only [Rep]) (fun _ z => z.elim) (fun b z => z) fun _ z => z.elim) fun j hj => by
            rw [set_get, if_neg fun z => np (by subst z; simpa using hj)]
    | _ => exact m.none.elim
theorem cs_aadd (i : Nat) {x : Str} (hN : X.N.Nodup) (ha : PEs X L tb o a ca) (hi : X.N[i]? = some x := by rfl) (hx : Loc X.env.scope x := by first | exact Or.inl rfl | exact Or.inr rfl)
    (hf : X.fn x = true ∨ X.env.scope.names.lookup x = some .local := by first | exact .inl rfl | exact .inr rfl) : PCs X L tb o pr (.AugAssign (.Name x p1) .Add a pos) (.aug i .add ca) :=
  ⟨fun W tk => PSimp (ps_aug hN hi hx (ha.run W tk) ip_add hf) fun Ds σ H h => aug_run (fun x y z hz => by
    cases y <;> simp only [binD, reduceCtorEq, Option.some.injEq] at hz
    exact ⟨_, rfl, hz.symm⟩) h⟩
theorem cs_asub (i : Nat) {x : Str} (hN : X.N.Nodup) (ha : PEs X L tb o a ca) (hi : X.N[i]? = some x := by rfl) (hx : Loc X.env.scope x := by first | exact Or.inl rfl | exact Or.inr rfl)
    (hf : X.fn x = true ∨ X.env.scope.names.lookup x = some .local := by first | exact .inl rfl | exact .inr rfl) : PCs X L tb o pr (.AugAssign (.Name x p1) .Sub a pos) (.aug i .sub ca) :=
  ⟨fun W tk => PSimp (ps_aug hN hi hx (ha.run W tk) ip_sub hf) fun Ds σ H h => aug_run (fun x y z hz => by
    cases y <;> simp only [binD, reduceCtorEq, Option.some.injEq] at hz
    exact ⟨_, rfl, hz.symm⟩) h⟩
/-- what stands in a list, to be changed -/
def rGetO : V → V → Hp → VK → Prop := fun ov iv H Q => ∃ (p : Addr) (xs : List V) (j : Int) (v : V), ov = .ref p ∧ iv = .int j ∧ 0 ≤ j ∧ H p = some (.lst xs) ∧ atI xs j = some v ∧ Q v H
theorem get_own : PGet X rGetO := by
  intro pins s σ H ov iv u w Q I ro ri hyp
  obtain ⟨p, xs, j, v, rfl, rfl, h0, hp, hv, q⟩ := hyp
  cases ro
  obtain ⟨t, rfl⟩ := ri
  obtain ⟨us, vl, pl, _⟩ := I.list (.of hp)
  obtain ⟨n, g1, g2, g3, g4, g5⟩ := atI_get hv
  obtain ⟨z, gz, rz⟩ := vl.get g2
  have ln := vl.length
  have l63 := line63
  have en : j.toNat = n := by
    rw [seqIndex_of h0 g5] at g1
    exact Option.some.inj g1
  exact wpAny_getItem_list pl.isList h0 (by omega) (by rw [en]; simpa using gz) ⟨v, H, I, rz, q⟩
theorem augOld_some {dc : Option D} {k : D} {x : Int} (h : augOld dc k = some x) : ∃ xs j, dc = some (.nd .lst true xs) ∧ k = .int j ∧ 0 ≤ j ∧ atI xs j = some (.int x) := by
  unfold augOld at h
  split at h
  · rename_i xs j
    split at h
    · rename_i h0
      split at h
      · rename_i y e
        cases h
        exact ⟨xs, j, rfl, rfl, h0, e⟩
      · cases h
    · cases h
  · cases h
theorem augS_run [Lay X L tb o k] {op : BOp} {fn : Int → Int → Int} (hop : ∀ x y z, binD op (.int x) y = some z → ∃ j, y = .int j ∧ z = .int (fn x j)) {root : Nat} {pp : Ps} {mi me : M} {Ds : Ends} {σ : St} {H : Hp} (h : tS L W pr (exS tb o pr (.subA root pp mi op me)) Ds σ H) :
    tAugS (tPth L W tb o root pp) (tMb L W tb o root mi) (tMb L W tb o root me) rGetO (ipI fn) rSetL Ds σ H := by
  obtain ⟨e, m⟩ := h.mid
  simp only [exS] at m
  cases q : e.at root with
  | none => rw [q] at m; exact m.none.elim
  | some d =>
    rw [q] at m
    obtain ⟨vr, hv, m2⟩ := m.aside (gp_s Same.refl) q
    refine ⟨_, _, _, _, _, vr, d, gp_s Same.refl, stb_n, hv, m2, fun vc H2 acs e2 m3 => ?_⟩
    refine ⟨_, _, _, _, e2, vr, d, gp_s Same.refl, stb_n.spl stb_foc, hv, fun Z H S ⟨Sa, Sb, a1, a2, aj, q1, q2⟩ => rep_mono a2 q2.whole, m3, fun iv H3 y e3 m4 => ?_⟩
    cases qo : augOld (walkD tb.attr acs d) y with
    | none => rw [qo] at m4; exact m4.none.elim
    | some x =>
      rw [qo] at m4
      dsimp only at m4
      obtain ⟨xs, j, ew, rfl, h0, ex⟩ := augOld_some qo
      have facts : ∀ {H : Hp} {Z S : AS}, FocP L tb.attr vr d acs vc Z H S → ∃ l vs, vc = .ref l ∧ H l = some (.lst vs) ∧ atI vs j = some (.int x) := fun {H Z S} fo => by
        obtain ⟨dc, back, S1, S2, _, _, _, F, _, hwk, _⟩ := fo
        have := hwk []
        rw [List.append_nil, ew] at this
        simp only [walkD, Option.some.injEq] at this
        subst this
        obtain ⟨l, vs, rfl, hl, _, rr⟩ := shape_lst F.rep
        obtain ⟨v, e1, r1⟩ := reps_atI rr ex
        rw [rep_int r1] at e1
        exact ⟨l, vs, rfl, hl, e1⟩
      obtain ⟨l, vs, rfl, hl, e1, rfl⟩ : ∃ l vs, vc = .ref l ∧ H3 l = some (.lst vs) ∧ atI vs j = some (.int x) ∧ iv = .int j := by
        obtain ⟨Z, S1, S2, _, _, _, ⟨_, _, _, _, _, ⟨_, _, _, _, _, _, fo⟩, ri⟩, _⟩ := m4
        obtain ⟨l, vs, g1, g2, g3⟩ := facts fo
        exact ⟨l, vs, g1, g2, g3, rep_int ri⟩
      refine ⟨l, vs, j, .int x, rfl, rfl, h0, hl, e1, ?_⟩
      refine ⟨_, _, _, _, e3, vr, d, gp_s Same.refl, (stb_n.spl stb_foc).spl stb_rep, hv, fun Z H S ⟨Sx, Sy, x1, x2, xj, ⟨Sa, Sb, a1, a2, aj, q1, q2⟩, q3⟩ => rep_mono (fun b z => x1 b (a2 b z)) q2.whole, m4, fun yv H4 y4 e4 m5 => ?_⟩
      cases qb : binD op (.int x) y4 with
      | none => rw [qb] at m5; exact m5.none.elim
      | some z =>
        rw [qb] at m5
        obtain ⟨j4, rfl, rfl⟩ := hop _ _ _ qb
        dsimp only at m5
        obtain ⟨Z, S1, S2, k1, dj, re, ⟨Sxy, Sv, x1, x2, xj, ⟨Sx, Sy, y1, y2, yj, ⟨Sa, Sb, a1, a2, aj, _, fo⟩, ri⟩, rv⟩, r', h', g⟩ := m5
        refine ⟨x, j4, rfl, rep_int rv, ?_⟩
        split at h'
        · cases h'
        · rename_i r0 d' hm
          cases h'
          obtain ⟨dc, back, T1, T2, t1, t2, tj, F, _, hwk, hm'⟩ := fo
          have w0 := hwk []
          rw [List.append_nil, ew] at w0
          simp only [walkD, Option.some.injEq] at w0
          subst w0
          have hf := hm' _ (fun c => (setD c (.int j) (.int (fn x j4))).map fun y => ((), y)) []
          rw [List.append_nil, hm] at hf
          simp only [modD, setD] at hf
          cases qj : ixN xs.length j with
          | none => rw [qj] at hf; cases hf
          | some n =>
            rw [qj] at hf
            simp only [Option.map_some, Option.some.injEq, Prod.mk.injEq, true_and] at hf
            subst hf
            obtain ⟨l', vs', el, hl', ho, rr⟩ := shape_lst F.rep
            cases el
            have hT := ho rfl
            have ml : Mut (H4 l) := by rw [hl']; trivial
            have s2 : ∀ b, Sb b → S2 b := fun b z => x1 b (y1 b (a2 b z))
            have zl : ∀ b, Z b → b ≠ l := fun b z y => by subst y; exact k1.dj b (.inr (s2 b (t1 b hT))) z
            refine ⟨l, vs', j, n, rfl, rfl, hl', by rw [rr.length]; exact qj, ?_⟩
            refine mut_go (Sa := NoAS) (Sb := Sb) k1 dj re hv F (fun _ z => z.elim) s2 (fun _ z => z.elim) t1 t2 tj hT (by exact trivial) ?_ g
            simp only [Rep]
            refine ⟨l, _, rfl, ⟨upd_same, fun z => by cases z⟩, fun _ => .inl hT, ?_⟩
            exact reps_set (S1 := fun b => T1 b ∧ b ≠ l) (S2 := NoAS) (reps_frW (U := fun b => b = l) (fun b o e n => by rw [upd_ne n]; exact e) (fun b o e n => by rw [n] at e; rw [e] at ml; exact ml) (fun b z => zl b z) (fun _ z => z) (fun b z => z.2) (reps_mono (fun b z => ⟨z.1, z.2 rfl⟩) rr))
              (ixN_seq qj).2.1 (by simp only [Rep]) (fun b z => ⟨.inl z.1, fun _ => z.2⟩) (fun _ z => z.elim) fun _ _ z => z
theorem cs_saadd [Lay X L tb o k] {root : Nat} {pp : Ps} {mi me : M} {tpos : Pos} (hp : PPs X L tb o root a pp) (hi : PMs X L tb o root b mi) (he : PMs X L tb o root c me)
    (ha : ∀ ov iv new, augStore b ov iv new = (do holding [new, ov, iv] (setItem ov iv new); release [new, ov, iv] []; pure .next) := by intros; rfl) : PCs X L tb o pr (.AugAssign (.Subscript a b tpos) .Add c pos) (.subA root pp mi .add me) :=
  ⟨fun W tk => PSimp (ps_augS (hp.run W tk) (hi.run W tk) get_own (he.run W tk) ip_add set_list ha) fun Ds σ H h => augS_run (X := X) (k := k) (fun x y z hz => by
    cases y <;> simp only [binD, reduceCtorEq, Option.some.injEq] at hz
    exact ⟨_, rfl, hz.symm⟩) h⟩
theorem cs_sasub [Lay X L tb o k] {root : Nat} {pp : Ps} {mi me : M} {tpos : Pos} (hp : PPs X L tb o root a pp) (hi : PMs X L tb o root b mi) (he : PMs X L tb o root c me)
    (ha : ∀ ov iv new, augStore b ov iv new = (do holding [new, ov, iv] (setItem ov iv new); release [new, ov, iv] []; pure .next) := by intros; rfl) : PCs X L tb o pr (.AugAssign (.Subscript a b tpos) .Sub c pos) (.subA root pp mi .sub me) :=
  ⟨fun W tk => PSimp (ps_augS (hp.run W tk) (hi.run W tk) get_own (he.run W tk) ip_sub set_list ha) fun Ds σ H h => augS_run (X := X) (k := k) (fun x y z hz => by
    cases y <;> simp only [binD, reduceCtorEq, Option.some.injEq] at hz
    exact ⟨_, rfl, hz.symm⟩) h⟩
end
end PL

/-! PL.Dc: dict comprehensions, keys ints, texts or tuples. -/
namespace PL
open PySem L2 PySem.Spec PyProof.Rows
/-- what may be put -/
def PutX (L : Lo) (H : Hp) (a : Addr) (y z : V) (H' : Hp) : Prop := (∃ kvs k, y = kV k ∧ H a = some (.dK kvs) ∧ kvs.length < sizeLine ∧ H' = upd H a (.dK (putK kvs k z))) ∨ DPutN L H a y z H'
theorem put_dictSet {X : Cx} {L : Lo} {pins : List (Addr × Obj)} {σ : L2.St} {H H' : Hp} {s : Shared} {E : Value → Shared → Prop} {a : Addr} {y z : V} {u r : Value} {Q : Unit → Shared → Prop} (hu : X.A.units + 65 < cLine) (I : Inv X pins σ H s) (hK : X.K = L.K) (hw : X.w = L.wd) (g : PutX L H a y z H')
    (ry : RelV y u) (rv : RelV z r) (h : ∀ s', Inv X pins σ H' s' → Q () s') : wpAny (model X.prog X.w) X.A (dictSet a u r) Q E s := by
  rcases g with ⟨kvs, k, rfl, ha, hz, rfl⟩ | ⟨ks, vs, l, k, b, g, rfl, kr, kd, hz, rfl⟩
  · exact d_dictSet I ha hz ry rv h
  · cases (show u = Value.ref b from ry)
    obtain ⟨xs, pr, kv, dd, hs, _, hlen⟩ := dl_rd I hK hw g
    have lx : xs.length ≤ sizeLine := by rw [← Paired.length pr]; omega
    refine wpAny_dictSet_heap (hsz := lx) (by show X.A.units + 8 < cLine; omega) (show (nestedKind X.prog X.w).is s.heap k b from ⟨nested_of I hK kr rfl, kd⟩) dd fun h' dd' hsb => h _ ?_
    obtain ⟨ob, es, ep, q1, q2, q3, q4, _, q5⟩ := dd'
    have mu : Mut (H a) := by
      obtain ⟨_, _, ⟨as, _, _, _, e⟩ | ⟨_, _, e⟩⟩ := g <;> (rw [e]; exact True.intro)
    refine d_write I mu hsb ⟨ob, q1⟩ ⟨⟨hs, ?_, _, pr_put pr k b rv, ob, es, ep, q1, q2, q3, ?_⟩, ⟨ob, q1⟩, ?_⟩
    · have := putA_len l k b z; omega
    · rw [q4, hw]; rfl
    · rintro g1 g2 ⟨p1, p2, xs', p3, o', es', ep', e1, e2, e3, e4⟩ kk
      exact ⟨p1, p2, xs', p3, o', es', ep', kk _ e1, e2, e3, e4⟩
def tDcX (L : Lo) (wi : TI) (g : TG) (tt : TT) (tk tv : TE) (own : List Nat) : TE := fun σ H Q => wi σ H fun J H1 => ∀ D, H1 D = none → ∃ Wn : Nat → Nat → Hp → Prop, (∃ m, Wn 0 m (upd H1 D (.dK []))) ∧ ∀ i m H, Wn i m H →
  (J.stop i H ∧ Q (.ref D) H) ∨ (J.go i H ∧ ∃ Nx : Hp → Prop, (∀ H', Nx H' → ∃ m', m' < m ∧ Wn (i + 1) m' H') ∧ ∀ x H', J.yld i H x H' → g x (wipe σ own) H' fun σ2 H2 => wipe σ2 own = wipe σ own ∧ tt σ2 H2 fun b H3 =>
    if b = true then tk σ2 H3 fun y H4 => tv σ2 H4 fun z H5 => ∃ H6, PutX L H5 D y z H6 ∧ Nx H6 else Nx H3)
theorem dc_core {X : Cx} {pins : List (Addr × Obj)} {s0 : Shared} {σ : L2.St} {H : Hp} {Q : VK} {pos' : Pos} {use : Option (Value → Sem Unit)} {Qf : Value → Shared → Prop} {L : Lo} {kx vx tg iter : Expr} {ifs : List Expr} {scope : Scope} {own : List (Str × Nat)} {pos : Pos} {wi : TI} {g : TG} {tt : TT} {tk tv : TE} (hu : X.A.units + 65 < cLine) (hK : X.K = L.K) (hwd : X.w = L.wd) (cm : X.calm = true) (nd : X.N.Nodup) (hi : PI X tg iter wi) (ok : BlkOk X.N X.env.scope scope own)
    (hg : ∀ (s : Shared) (H : Hp) (C : Addr) (cl : List (Str × Addr)) (fp : List Addr), PG (X.blk s H scope (compEnvC scope cl C X.env) fp) tg g) (ht : ∀ (s : Shared) (H : Hp) (C : Addr) (cl : List (Str × Addr)) (fp : List Addr), PTs (X.blk s H scope (compEnvC scope cl C X.env) fp) ifs tt)
    (hk : ∀ (s : Shared) (H : Hp) (C : Addr) (cl : List (Str × Addr)) (fp : List Addr), PE (X.blk s H scope (compEnvC scope cl C X.env) fp) kx tk)
    (he : ∀ (s : Shared) (H : Hp) (C : Addr) (cl : List (Str × Addr)) (fp : List Addr), PE (X.blk s H scope (compEnvC scope cl C X.env) fp) vx tv) (hs : ∀ x, foldedSetIterable iter X.env x = pure x)
    (I : Inv X pins σ H s0) (hyp : tDcX L wi g tt tk tv (own.map (·.2)) σ H Q)
    (hRR : ∀ D C t m G, Inv X pins σ G t → Q (.ref D) G → t.heap.Ns C m → FpOk X pins G C → compPost (model X.prog X.w) X.A X.xe use Qf (.ref D) C (.ok .next) t) :
    wpAny (model X.prog X.w) X.A (comprehension (.DictComp kx vx [⟨tg, iter, ifs, 0⟩] scope pos) scope X.env pos' newDict false (eval iter X.env) use) Qf X.xe s0 := by
  have fr : ∀ y ∈ scope.names, y.2 = .free → ∃ c, X.env.cells.lookup y.1 = some c := fun y hy e =>
    (ok.free y hy e).elim (fun z => I.ok.has _ (.inl z)) fun z => I.ok.has _ (.inr z)
  refine wpAny_comprehension_free (use := use) rfl hs (closure_ok fr) ok.kind (fun y hy e => by rw [ok.uniq y hy, e])
    (thn (hi.run pins s0 σ H _ I hyp) fun _ t1 m1 => thn m1 fun _ t2 m2 => ?_)
  obtain ⟨ii, fp, tn, J, G2, rfl, I2, T, tn2, ff, turn⟩ := m2
  refine wpAny_newObj_type (newEnv_comp ?_)
  generalize eD : t2.heap.objs.size = D
  have nD : G2 D = none := I2.hok.fresh (Nat.le_of_eq eD)
  obtain ⟨Wn, ⟨m0, w0⟩, turn⟩ := turn D nD
  generalize et3 : ({ t2 with heap := t2.heap.push { cls := .type "dict", data := .dict #[] } } : Shared) = t3
  have hp3 : t3.heap = t2.heap.push { cls := .type "dict", data := .dict #[] } := by rw [← et3]
  have I3 : Inv X pins σ (upd G2 D (.dK [])) t3 := by
    have q := I2.laid (t' := t2.toks) (fun b ob e => Heap.get?_push_of_some { cls := .type "dict", data := .dict #[] } e) (Nat.le_of_eq eD) (by rw [← eD]; exact dk_empty t2.heap I2.big)
    rw [← et3]
    exact q
  have low : ∀ b ∈ fp, b < t2.heap.objs.size := fun b hb => by
    obtain ⟨ob, e, _⟩ := T.obj _ _ tn2 b hb
    exact Heap.lt_size e
  have f3 : ∀ b ∈ fp, FpOk X pins (upd G2 D (.dK [])) b ∧ b < t3.heap.objs.size := fun b hb => by
    refine ⟨⟨?_, (ff b hb).2⟩, by rw [hp3, Heap.size_push]; exact Nat.lt_succ_of_lt (low b hb)⟩
    rw [upd_ne (by rw [← eD]; exact Nat.ne_of_lt (low b hb))]
    exact (ff b hb).1
  have tn3 : tn 0 t3.heap := T.keep _ _ _ tn2 fun b _ ob e => by rw [hp3]; exact Heap.get?_push_of_some _ e
  have I4 := block_start I3 ok nd f3
  let cl := cellsFrom (t3.heap.objs.size + 1) scope.names (cloFrom X.env.cells scope.names [])
  have pg := hg t3 (upd G2 D (.dK [])) t3.heap.objs.size cl fp
  have pt := ht t3 (upd G2 D (.dK [])) t3.heap.objs.size cl fp
  have pk := hk t3 (upd G2 D (.dK [])) t3.heap.objs.size cl fp
  have pv := he t3 (upd G2 D (.dK [])) t3.heap.objs.size cl fp
  show codeAny _ _ (.compStart (.DictComp kx vx [⟨tg, iter, ifs, 0⟩] scope pos) 0 (.ref ii) (.ref D) (compEnvC scope cl t3.heap.objs.size X.env)) (compPost (model X.prog X.w) X.A X.xe use Qf (.ref D) t3.heap.objs.size) { t3 with heap := pushCells (t3.heap.push { cls := .type "dict", data := .dict #[] }) scope.names }
  have nfp : ∀ b ∈ fp, (upd G2 D (.dK [])) b = none := fun b hb => (f3 b hb).1.1
  change Inv (X.blk t3 (upd G2 D (.dK [])) scope (compEnvC scope cl t3.heap.objs.size X.env) fp) _ _ _ _ at I4
  generalize ece : compEnvC scope cl t3.heap.objs.size X.env = ce at I4 pg pt pk pv ⊢
  have cL : ce.locals = t3.heap.objs.size := by subst ece; rfl
  generalize eG3 : upd G2 D (.dK []) = G3 at I3 I4 pg pt pk pv w0 nfp f3
  generalize et4 : ({ t3 with heap := pushCells (t3.heap.push { cls := .type "dict", data := .dict #[] }) scope.names } : Shared) = t4 at I4 ⊢
  have tn4 : tn 0 t4.heap := T.keep _ _ _ tn3 fun b _ ob e => by rw [← et4]; exact pushCells_keeps _ _ _ _ (Heap.get?_push_of_some _ e)
  have fixd : ∀ {τ : L2.St} {G : Hp} {t : Shared}, Inv (X.blk t3 G3 scope ce fp) [] τ G t → (∀ b ∈ fp, G b = none) → ∀ b ∈ fp, FpOk (X.blk t3 G3 scope ce fp) [] G b := fun {τ G t} J1 hn b hb =>
    ⟨hn b hb, (J1.ok.exf b hb).1, J1.ok.exfs b hb, .inl hb, fun x c e => (J1.ok.exf b hb).2 x c e, fun p hp => by cases hp⟩
  have loop : codeAny (model X.prog X.w) X.A (.compLoop (.DictComp kx vx [⟨tg, iter, ifs, 0⟩] scope pos) 0 (.ref ii) (.ref D) ce) (compPost (model X.prog X.w) X.A X.xe use Qf (.ref D) t3.heap.objs.size) t4 := by
    refine compLoop_anyD (fun n t => ∃ i G, Inv (X.blk t3 G3 scope ce fp) [] (wipe σ (own.map (·.2))) G t ∧ tn i t.heap ∧ (∀ b ∈ fp, G b = none) ∧ Wn i n G) ?_ m0 ⟨0, G3, I4, tn4, nfp, w0⟩
    rintro n t5 ⟨i, G5, I5, tn5, n5, w5⟩
    rcases turn i n G5 w5 with ⟨stop, qend⟩ | ⟨go, Nx, hNx, step⟩
    · refine thnF (T.done (X.blk t3 G3 scope ce fp) rfl rfl rfl cm i [] t5 _ G5 (fun _ _ => False) I5 (fixd I5 n5) tn5 stop) fun _ t6 ⟨er, I6⟩ => ?_
      subst er
      have I7 : Inv X pins σ G5 t6 := I3.call' (ch := fp) I6.os I6.base I6.hok I6.bare fun b hb => ⟨(f3 b hb).1.2.2.2.1, (f3 b hb).1.2.1, (f3 b hb).1.2.2.2.2.1, (f3 b hb).1.2.2.2.2.2⟩
      have nC : G5 t3.heap.objs.size = none := by
        have z : G5 ce.locals = none := I6.free
        rwa [cL] at z
      obtain ⟨mm, ns, _⟩ := I6.loc
      have ns : t6.heap.Ns ce.locals mm := ns
      rw [cL] at ns
      exact hRR D t3.heap.objs.size t6 mm G5 I7 qend ns (I3.fpOk (Nat.le_refl _) nC)
    · refine thnF (T.item (X.blk t3 G3 scope ce fp) rfl rfl rfl cm i [] t5 _ G5 (fun _ _ => False) I5 (fixd I5 n5) tn5 go) fun _ t6 ⟨u, er, m6⟩ => ?_
      subst er
      refine thnF m6 fun _ t7 ⟨x, G7, I7, r7, y7, tn7, n7⟩ => ?_
      refine thnF (pg.run _ t7 _ G7 x u _ (I7.pinned (fixd I7 n7) (T.obj _ _ tn7)) r7 (step x G7 y7)) fun _ t8 ⟨τ, G8, I8, w8, q8⟩ => ?_
      refine thnF (pt.run _ t8 τ G8 _ I8 q8) fun b t9 ⟨G9, I9, q9⟩ => ?_
      have fin : ∀ {t : Shared} {G : Hp}, Inv (X.blk t3 G3 scope ce fp) ([] ++ pinsAt fp t7.heap) τ G t → Nx G → ∃ m, m < n ∧ ∃ i G, Inv (X.blk t3 G3 scope ce fp) [] (wipe σ (own.map (·.2))) G t ∧ tn i t.heap ∧ (∀ b ∈ fp, G b = none) ∧ Wn i m G := fun {t G} J1 nx => by
        obtain ⟨m', hm, w'⟩ := hNx G nx
        have pin : ∀ b ∈ fp, ∀ ob, t7.heap.get? b = some ob → t.heap.get? b = some ob ∧ G b = none := fun b hb ob e =>
          ⟨(J1.pin (b, ob) (List.mem_append_right _ (List.mem_append_right _ (mem_pinsAt hb e)))).1, (J1.pin (b, ob) (List.mem_append_right _ (List.mem_append_right _ (mem_pinsAt hb e)))).2.1⟩
        refine ⟨m', hm, i + 1, G, (J1.unpinned (pins := [])).weak (by rw [← w8, wipe_length]) (fun j v e => by rw [← w8] at e; exact (wipe_some e).1), T.keep _ _ _ tn7 fun b hb ob e => (pin b hb ob e).1, fun b hb => ?_, w'⟩
        obtain ⟨ob, e, _⟩ := T.obj _ _ tn7 b hb
        exact (pin b hb ob e).2
      cases b with
      | false => rw [if_neg Bool.false_ne_true] at q9; exact fin I9 q9
      | true =>
        rw [if_pos rfl] at q9
        refine thnF (pk.run _ t9 τ G9 _ I9 q9) fun _ t10 ⟨yk, G10, I10, r10, q10⟩ => ?_
        refine thnF (pv.run _ t10 τ G10 _ I10 q10) fun _ t11 ⟨yv, G11, I11, r11, G12, px, nx⟩ => ?_
        exact put_dictSet (X := X.blk t3 G3 scope ce fp) (L := L) hu I11 hK hwd px r10 r11 fun t12 I12 => fin I12 nx
  exact codeAny_compStart_dict loop (T.self X.A 0 _ _ _ tn4 loop)
theorem pe_dcX {X : Cx} {L : Lo} {kx vx tg iter : Expr} {ifs : List Expr} {scope : Scope} {own : List (Str × Nat)} {pos : Pos} {wi : TI} {g : TG} {tt : TT} {tk tv : TE} (hu : X.A.units + 65 < cLine) (hK : X.K = L.K) (hwd : X.w = L.wd) (cm : X.calm = true) (nd : X.N.Nodup) (hi : PI X tg iter wi) (ok : BlkOk X.N X.env.scope scope own)
    (hg : ∀ (s : Shared) (H : Hp) (C : Addr) (cl : List (Str × Addr)) (fp : List Addr), PG (X.blk s H scope (compEnvC scope cl C X.env) fp) tg g) (ht : ∀ (s : Shared) (H : Hp) (C : Addr) (cl : List (Str × Addr)) (fp : List Addr), PTs (X.blk s H scope (compEnvC scope cl C X.env) fp) ifs tt)
    (hk : ∀ (s : Shared) (H : Hp) (C : Addr) (cl : List (Str × Addr)) (fp : List Addr), PE (X.blk s H scope (compEnvC scope cl C X.env) fp) kx tk)
    (he : ∀ (s : Shared) (H : Hp) (C : Addr) (cl : List (Str × Addr)) (fp : List Addr), PE (X.blk s H scope (compEnvC scope cl C X.env) fp) vx tv) (hs : ∀ x, foldedSetIterable iter X.env x = pure x := by intro _; rfl) :
    PE X (.DictComp kx vx [⟨tg, iter, ifs, 0⟩] scope pos) (tDcX L wi g tt tk tv (own.map (·.2))) := ⟨fun pins s0 σ H Q I hyp => by
  rw [arm_eval_DictComp]
  refine dc_core hu hK hwd cm nd hi ok hg ht hk he hs I hyp fun D C t mm G I7 q ns f => ⟨mm, ns, fun hh sb => ?_⟩
  obtain ⟨a0, a1, a2, a3, a4, a5⟩ := f
  exact ⟨.ref D, G, I7.turned (t' := t.toks) (fun b ob hb e => (sb.2 b hb).trans e) a0 a1 a3 a4 a5, rfl, q⟩⟩
/-- name = {..}, the name a local -/
theorem ps_setDc {X : Cx} {i : Nat} {y : Str} {py spos : Pos} {L : Lo} {kx vx tg iter : Expr} {ifs : List Expr} {scope : Scope} {own : List (Str × Nat)} {pos : Pos} {wi : TI} {g : TG} {tt : TT} {tk tv : TE} (hu : X.A.units + 65 < cLine) (hK : X.K = L.K) (hwd : X.w = L.wd) (cm : X.calm = true) (nd : X.N.Nodup) (hy : X.N[i]? = some y) (hyl : X.env.scope.names.lookup y = some .local) (hsw : swapsWith (.DictComp kx vx [⟨tg, iter, ifs, 0⟩] scope pos) (some (.Name y py)) spos.line X.env = pure true) (hi : PI X tg iter wi) (ok : BlkOk X.N X.env.scope scope own)
    (hg : ∀ (s : Shared) (H : Hp) (C : Addr) (cl : List (Str × Addr)) (fp : List Addr), PG (X.blk s H scope (compEnvC scope cl C X.env) fp) tg g) (ht : ∀ (s : Shared) (H : Hp) (C : Addr) (cl : List (Str × Addr)) (fp : List Addr), PTs (X.blk s H scope (compEnvC scope cl C X.env) fp) ifs tt)
    (hk : ∀ (s : Shared) (H : Hp) (C : Addr) (cl : List (Str × Addr)) (fp : List Addr), PE (X.blk s H scope (compEnvC scope cl C X.env) fp) kx tk)
    (he : ∀ (s : Shared) (H : Hp) (C : Addr) (cl : List (Str × Addr)) (fp : List Addr), PE (X.blk s H scope (compEnvC scope cl C X.env) fp) vx tv) (hs : ∀ x, foldedSetIterable iter X.env x = pure x := by intro _; rfl) :
    PS X (.Assign [.Name y py] (.DictComp kx vx [⟨tg, iter, ifs, 0⟩] scope pos) spos) (tAsg (tDcX L wi g tt tk tv (own.map (·.2))) (gName i)) := ⟨fun pins s0 σ H D I hyp => by
  rw [exec_Assign_Name_used _ _ _ _ hsw]
  refine wpAny_bind (wpAny_standAt (wpAny_bind ?_))
  show wpAny _ X.A (do let _ ← comprehension (.DictComp kx vx [⟨tg, iter, ifs, 0⟩] scope pos) scope X.env (firstIterPos [⟨tg, iter, ifs, 0⟩] pos) newDict false (eval iter X.env) (some (assign (.Name y py) X.env))) _ _ s0
  have hyp : tDcX L wi g tt tk tv (own.map (·.2)) σ H (fun x G => gName i x σ G D.nx) := hyp
  refine wpAny_bind (thn (dc_core (Qf := fun _ t => SP X pins D .next t) hu hK hwd cm nd hi ok hg ht hk he hs I hyp fun R C t mm G J q ns f => ?_) fun _ t hq => wpAny_pure (wpAny_pure hq))
  show wpAny _ _ (assign (.Name y py) X.env (.ref R)) _ _ _
  refine wpAny_assign_Name (store_ok2 (v := V.ref R) J nd hy (.inl hyl) rfl (fun t2 J2 ⟨a, sb, ha⟩ => ?_) (.inr hyl))
  obtain ⟨a0, a1, a2, a3, a4, a5⟩ := f
  have ne : C ≠ a := ha.elim (fun z => by rw [z]; exact a1) fun z e => a4 y a z e.symm
  exact ⟨mm, ns.sameBut sb ne, fun hh sb3 => ⟨_, G, J2.turned (t' := t2.toks) (fun b ob hb e => (sb3.2 b hb).trans e) a0 a1 a3 a4 a5, q⟩⟩⟩
theorem sw_dc {kx vx : Expr} {gs : List Comprehension} {scope : Scope} {pos py : Pos} {y : Str} {n : Nat} {env : PySem.Env} (hk : env.scope.kind = .function) (hy : env.scope.names.lookup y = some .local) (hl : (py.line == pos.line) = true)
    (ha : (scope.names.any fun (n, k) => n == y && (k == .local || k == .cell)) = false) : swapsWith (.DictComp kx vx gs scope pos) (some (.Name y py)) n env = pure true := by
  have h1 : env.kindOf y = some .local := hy
  have h2 : env.blockKind = .function := by unfold PySem.Env.blockKind; rw [hk] <;> rfl
  unfold swapsWith
  simp only [h1, h2, ha, Expr.pos, hl]
  rfl
end PL

/-! PL.Dcr: the small language's dict comprehension. -/
namespace PL
open PySem L2
/-- what stands at dl while a dict grows there -/
def DAccP (L : Lo) (H : Hp) (dl : Addr) (kd : Kd) (vs : List V) (ob : HO) : Prop :=
  match kd with
  | .dk ks => ks.Nodup ∧ ks.length = vs.length ∧ ob = .dK (ks.zip vs)
  | .dt ks => ks.Nodup ∧ ks.length = vs.length ∧ ∃ as : List Addr, KReps L H ks (as.map V.ref) ∧ (∀ k ∈ ks, k.depth ≤ 8) ∧ ob = dN L.wd dl (ks.zip (as.zip vs))
  | _ => False
def DHold (L : Lo) (dl : Addr) (kd : Kd) (vs : List V) (xs : List D) (ob : HO) : AS → Hp → AS → Prop := fun Z H S => Reps L Z H vs xs S ∧ DAccP L H dl kd vs ob
theorem stb_dhold {L : Lo} {dl : Addr} {kd : Kd} {vs : List V} {xs : List D} {ob : HO} : Stb (DHold L dl kd vs xs ob) where
  st := fun f o hz zz hs ⟨h1, h2⟩ => by
    refine ⟨reps_frW f o hz zz hs h1, ?_⟩
    cases kd with
    | dt ks =>
      obtain ⟨g1, g2, as, g3, g4, g5⟩ := h2
      exact ⟨g1, g2, as, KReps.fr f o g3, g4, g5⟩
    | _ => exact h2
  mo := fun hs ⟨h1, h2⟩ => ⟨reps_mono hs h1, h2⟩
theorem dacc_put {L : Lo} {Z S1 Sk Sv : AS} {H : Hp} {dl : Addr} {kd : Kd} {vs : List V} {xs : List D} {ob : HO} {yk yv : V} {dk dv acc' : D} (rr : Reps L Z H vs xs S1) (da : DAccP L H dl kd vs ob) (hat : H dl = some ob) (rk : Rep L Z H yk dk Sk) (rv : Rep L Z H yv dv Sv) (dj : ∀ b, S1 b → ¬ Sv b)
    (hs : setD (.nd kd true xs) dk dv = some acc') :
    ∃ kd' vs' xs' ob', acc' = .nd kd' true xs' ∧ (∀ S : AS, (∀ b, S1 b → S b) → (∀ b, Sv b → S b) → Reps L Z H vs' xs' S) ∧ DAccP L H dl kd' vs' ob' ∧ Mut (some ob') ∧ PutX L H dl yk yv (upd H dl ob') := by
  have snoc : ∀ S : AS, (∀ b, S1 b → S b) → (∀ b, Sv b → S b) → Reps L Z H (vs ++ [yv]) (xs ++ [dv]) S := fun S h1 h2 =>
    reps_append (S1 := S1) (S2 := Sv) h1 h2 dj rr (reps_cons (S1 := Sv) (S2 := NoAS) (fun _ z => z) (fun _ z => z.elim) (fun _ _ z => z) rv reps_nil)
  have put : ∀ {j : Nat}, j < xs.length → ∀ S : AS, (∀ b, S1 b → S b) → (∀ b, Sv b → S b) → Reps L Z H (vs.set j yv) (xs.set j dv) S := fun hj S h1 h2 => reps_set rr hj rv h1 h2 dj
  cases kd with
  | dk ks =>
    obtain ⟨nd, hl, rfl⟩ := da
    simp only [setD] at hs
    cases qk : dk.key with
    | none =>
      rw [qk] at hs
      dsimp only at hs
      split at hs
      · rename_i h0
        obtain ⟨rfl, rfl⟩ := h0
        cases qt : dk.tkey with
        | none => rw [qt] at hs; cases hs
        | some kk =>
          rw [qt] at hs
          cases hs
          have ev : vs = [] := by
            have := rr.length
            cases vs with
            | nil => rfl
            | cons _ _ => simp at this
          subst ev
          obtain ⟨⟨b, eb⟩, kr, kd⟩ := tkey_rep qt rk
          refine ⟨.dt [kk], [yv], [dv], dN L.wd dl [(kk, b, yv)], rfl, snoc, ⟨by simp, rfl, [b], ?_, fun k hk => ?_, rfl⟩, trivial, .inr ⟨[], [], [], kk, b, ⟨List.nodup_nil, rfl, .inr ⟨rfl, rfl, hat⟩⟩, eb, kr, kd, by decide, rfl⟩⟩
          · simp only [List.map_cons, List.map_nil, KReps]
            exact ⟨.ref b, [], rfl, by rw [← eb]; exact kr, rfl⟩
          · simp at hk; rw [hk]; exact kd
      · cases hs
    | some kk =>
      rw [qk] at hs
      dsimp only at hs
      split at hs
      · rename_i hz
        cases hs
        have hx : ks.length = xs.length := by rw [hl, rr.length]
        have pu : ∀ {ob' : HO}, ob' = .dK (putK (ks.zip vs) kk yv) → PutX L H dl yk yv (upd H dl ob') := fun e => .inl ⟨_, kk, key_kV rk qk, hat, by simp; omega, by rw [e]⟩
        rcases putK_zip (v := yv) (d := dv) (k := kk) nd hl hx with ⟨j, q, hj, e1, e2⟩ | ⟨q, nd', e1, e2⟩
        · exact ⟨.dk ks, vs.set j yv, xs.set j dv, _, by rw [e2], put hj, ⟨nd, by simpa using hl, rfl⟩, trivial, pu (by rw [e1])⟩
        · exact ⟨.dk (ks ++ [kk]), vs ++ [yv], xs ++ [dv], _, by rw [e2], snoc, ⟨nd', by simp [hl], rfl⟩, trivial, pu (by rw [e1])⟩
      · cases hs
  | dt ks =>
    obtain ⟨nd, hl, as, kr, kdp, rfl⟩ := da
    simp only [setD] at hs
    cases qk : dk.tkey with
    | none => rw [qk] at hs; cases hs
    | some kk =>
      rw [qk] at hs
      simp only [Option.bind_some] at hs
      split at hs
      · rename_i hz
        cases hs
        have hx : ks.length = xs.length := by rw [hl, rr.length]
        have la : as.length = ks.length := by have := kreps_len kr; simpa using this
        obtain ⟨⟨b, eb⟩, kr2, kd2⟩ := tkey_rep qk rk
        have pu : ∀ {ob' : HO}, ob' = dN L.wd dl (putA (ks.zip (as.zip vs)) kk b yv) → PutX L H dl yk yv (upd H dl ob') := fun e => .inr ⟨ks, vs, _, kk, b, ⟨nd, hl, .inl ⟨as, kr, kdp, rfl, hat⟩⟩, eb, kr2, kd2, by simp only [List.length_zip]; omega, by rw [e]⟩
        rcases putA_zip (v := yv) (d := dv) (k := kk) (b := b) nd hl la hx with ⟨j, q, hj, e1, e2⟩ | ⟨q, nd', e1, e2⟩
        · exact ⟨.dt ks, vs.set j yv, xs.set j dv, _, by rw [e2], put hj, ⟨nd, by simpa using hl, as, kr, kdp, rfl⟩, trivial, pu (by rw [e1])⟩
        · refine ⟨.dt (ks ++ [kk]), vs ++ [yv], xs ++ [dv], _, by rw [e2], snoc, ⟨nd', by simp [hl], as ++ [b], ?_, fun k hk => ?_, rfl⟩, trivial, pu (by rw [e1])⟩
          · rw [List.map_append]
            exact kreps_snoc kr (by rw [← eb]; exact kr2)
          · rcases List.mem_append.mp hk with hk | hk
            · exact kdp k hk
            · simp at hk; rw [hk]; exact kd2
      · cases hs
  | _ => exact da.elim
section
variable {X : Cx} {L : Lo} {tb : Tab} {o : Orc} {k : Nat} {pos : Pos}
theorem dc_run [Lay X L tb o k] {W : WX} {W0 W1 W2 : WX} {ek ev : E} {tg : T} {it : I} {cond : C} {own : List Nat} (hsub : ∀ i ∈ tg.sl, i ∈ own) {σ : St} {H : Hp} {Q : V → Hp → Prop} (h : tG L W (Rep L) (evE tb o (.dc ek ev tg it cond own)) σ H Q) :
    tDcX L (tIt L W tb o it) (tTg L [] tg) (tG L W0 repB (evT tb o cond)) (tG L W1 (Rep L) (evE tb o ek)) (tG L W2 (Rep L) (evE tb o ev)) own σ H Q := by
  obtain ⟨e, m⟩ := h.mid
  simp only [evE] at m
  refine ⟨_, _, _, _, e, gp_e, stb_reps, Mid.toH m, fun J H1 items e1 Hd sth wk m1 => fun dl hD => ?_⟩
  obtain ⟨GH, Y, w, hgh, hy⟩ := wk.ex
  cases q : loopD (fun x e => storeT [] tg x e) (fun e => evT tb o cond e) (fun e => evE tb o ek e) (fun e => evE tb o ev e) own items (.nd (.dk []) true []) (wipeE e1 own) with
  | none => rw [q] at m1; exact m1.none.elim
  | some p =>
  obtain ⟨d9, e9⟩ := p
  rw [q] at m1
  dsimp only at m1
  have m2 := (m1.newAt gs_e (stb_reps.spl sth) hD (ob := .dK []) trivial).wipe own
  let Base : AS → Hp → AS → Prop := Spl (fun Z H S => Reps L Z H [] [] S) Hd
  have sb : Stb Base := stb_reps.spl sth
  let Pv : Nat → Hp → Prop := fun i H' => ∃ (kd : Kd) (vs : List V) (xs : List D) (ob : HO) (e : PL.Env), MidH L (L2.wipe σ own) H' e (Spl (Spl Base (DHold L dl kd vs xs ob)) (At dl ob)) (GE L W σ (Rep L) Q) (some (.val d9 e9)) ∧
    loopD (fun x e => storeT [] tg x e) (fun e => evT tb o cond e) (fun e => evE tb o ek e) (fun e => evE tb o ev e) own (items.drop i) (.nd kd true xs) e = some (d9, e9)
  refine ⟨fun i m H => m = items.length - i ∧ i ≤ items.length ∧ Pv i H, ⟨items.length, by simp, Nat.zero_le _, ?_⟩, ?_⟩
  · refine ⟨.dk [], [], [], .dK [], _, m2.imp fun Z S _ p => ?_, q⟩
    exact p.mid fun S z => ⟨S, NoAS, fun _ z => z, fun _ z => z.elim, fun _ _ z => z, z, reps_nil, List.nodup_nil, rfl, rfl⟩
  · rintro i m H' ⟨rfl, hi, kd, vs, xs, ob, e, m3, hl⟩
    have hG : GH H' := by
      obtain ⟨Z, S1, S2, _, _, _, ⟨Sa, Sb, _, _, _, ⟨Sc, Sd, _, _, _, ⟨Se, Sf, _, _, _, _, hh⟩, _⟩, _⟩, _⟩ := id m3
      exact hgh _ _ _ hh
    by_cases hlt : i < items.length
    · refine .inr ⟨w.goes i H' hlt hG, Pv (i + 1), fun H2 p => ⟨items.length - (i + 1), by omega, rfl, hlt, p⟩, fun x H3 hY => ?_⟩
      have hY := w.yields i H' x H3 hlt hG hY
      have hget : items[i]? = some items[i] := List.getElem?_eq_getElem hlt
      rw [List.drop_eq_getElem_cons hlt] at hl
      simp only [loopD] at hl
      cases qt : storeT [] tg items[i] e with
      | none => rw [qt] at hl; cases hl
      | some e2 =>
      rw [qt] at hl
      dsimp only at hl
      refine MidH.yield (P := Spl (Spl Base (DHold L dl kd vs xs ob)) (At dl ob)) (G := GE L W σ (Rep L) Q) gs_e ((sb.spl stb_dhold).spl stb_at) m3 (fun Z S ⟨Sa, Sb, _, _, _, ⟨Sc, Sd, _, _, _, ⟨Se, Sf, _, _, _, _, hh⟩, _⟩, _⟩ => hy _ _ _ i x H3 _ hh hget hY) qt fun σ2 ch _ m4 => ?_
      have hw := wipe_chg ch hsub
      refine ⟨hw, ?_⟩
      cases qc : evT tb o cond e2 with
      | none => rw [qc] at hl; cases hl
      | some rc =>
      rw [qc] at hl
      cases rc with
      | exc x e => cases hl
      | val b e3 =>
      refine (m4.ask (rep := repB) gs_e ((sb.spl stb_dhold).spl stb_at) qc).imp fun b' H4 m5 => ?_
      have eb : b' = b := by
        obtain ⟨Z, S1, S2, _, _, _, ⟨_, _, _, _, _, _, z⟩, _⟩ := m5
        exact z
      subst eb
      have m6 := m5.imp fun Z S _ p => Spl.left ((sb.spl stb_dhold).spl stb_at) p
      cases b' with
      | false =>
        simp only [Bool.false_eq_true, if_false] at hl ⊢
        have m7 := m6.wipe own
        rw [hw] at m7
        exact ⟨kd, vs, xs, ob, _, m7, hl⟩
      | true =>
        simp only [if_true] at hl ⊢
        cases qk : evE tb o ek e3 with
        | none => rw [qk] at hl; cases hl
        | some rk =>
        rw [qk] at hl
        cases rk with
        | exc x e => cases hl
        | val yk e4 =>
        dsimp only at hl
        cases qv : evE tb o ev e4 with
        | none => rw [qv] at hl; cases hl
        | some rv =>
        rw [qv] at hl
        cases rv with
        | exc x e => cases hl
        | val yv e5 =>
        dsimp only at hl
        cases qs : setD (.nd kd true xs) yk yv with
        | none => rw [qs] at hl; cases hl
        | some acc' =>
        rw [qs] at hl
        dsimp only at hl
        refine (m6.ask (rep := Rep L) gs_e ((sb.spl stb_dhold).spl stb_at) qk).imp fun vk H5 m8 => ?_
        refine (m8.ask (rep := Rep L) gs_e (((sb.spl stb_dhold).spl stb_at).spl stb_rep) qv).imp fun vv H6 m9 => ?_
        obtain ⟨Z, S1, S2, k1, dj, re, ⟨Sx, Sv, x1, x2, xj, ⟨Sy, Sk, y1, y2, yj, ⟨Sz, Sat, z1, z2, zj, ⟨Sb, Sd, b1, b2, bj, hb, rr, da⟩, hat⟩, rk⟩, rv⟩, r', h', g⟩ := m9
        obtain ⟨kd', vs', xs', ob', rfl, hnew, da', mu', px⟩ := dacc_put rr da hat.2 rk rv (fun b z y => xj b (y1 b (z1 b (b2 b z))) y) qs
        have m10 : MidH L σ2 H6 e5 (Spl (Spl Base (DHold L dl kd' vs' xs' ob')) (At dl ob)) (GE L W σ (Rep L) Q) (some (.val d9 e9)) :=
          ⟨Z, S1, S2, k1, dj, re, ⟨OrS Sb (OrS Sd Sv), Sat, fun b z => ?_, fun b z => x1 b (y1 b (z2 b z)), fun b z y => ?_, ⟨Sb, OrS Sd Sv, fun b z => .inl z, fun b z => .inr z, fun b z y => y.elim (bj b z) (fun y => xj b (y1 b (z1 b (b1 b z))) y), hb, hnew _ (fun b z => .inl z) (fun b z => .inr z), da'⟩, hat⟩, r', h', g⟩
        · have m11 := (m10.updAt gs_e (sb.spl stb_dhold) (ob' := ob') mu').wipe own
          rw [hw] at m11
          exact ⟨_, px, kd', vs', xs', ob', _, m11, hl⟩
        · rcases z with z | z | z
          · exact x1 b (y1 b (z1 b (b1 b z)))
          · exact x1 b (y1 b (z1 b (b2 b z)))
          · exact x2 b z
        · rcases z with z | z | z
          · exact zj b (b1 b z) y
          · exact zj b (b2 b z) y
          · exact xj b (y1 b (z2 b y)) z
    · have hie : i = items.length := by omega
      subst hie
      refine .inl ⟨w.stops H' hG, ?_⟩
      rw [List.drop_length] at hl
      simp only [loopD, Option.some.injEq, Prod.mk.injEq] at hl
      obtain ⟨rfl, rfl⟩ := hl
      obtain ⟨Z, S1, S2, k1, dj, re, ⟨Sa, Sb, a1, a2, aj, ⟨Sc, Sd, b1, b2, bj, _, rr, da⟩, hat⟩, r', h', g⟩ := m3
      cases h'
      refine g (.ref dl) H' Z S1 S2 (Step.refl fun _ z => z) k1 dj re.unwipe ?_
      simp only [Rep]
      refine ⟨dl, vs, rfl, ?_, fun _ => a2 dl hat.1, reps_mono (fun b z => ⟨a1 b (b2 b z), fun _ y => aj b (b2 b z) (y ▸ hat.1)⟩) rr⟩
      cases kd with
      | dk ks =>
        obtain ⟨g1, g2, rfl⟩ := da
        exact ⟨g1, g2, hat.2, fun z => by cases z⟩
      | dt ks =>
        obtain ⟨g1, g2, as, g3, g4, rfl⟩ := da
        exact ⟨g1, g2, ⟨as, g3, g4, hat.2⟩, fun z => by cases z⟩
      | _ => exact da.elim
theorem ce_dc [Lay X L tb o k] {kx vx tg iter : Expr} {ifs : List Expr} {scope : Scope} (own : List (Str × Nat)) {ct : T} {ci : I} {cc : C} {ck cv : E} {ownI : List Nat} (hN : X.N.Nodup) (ok : BlkOk X.N X.env.scope scope own) (hi : PIs X L tb o tg iter ci)
    (hg : ∀ (s : Shared) (H : Hp) (C : Addr) (cl : List (Str × Addr)) (fp : List Addr), PTg (X.blk s H scope (compEnvC scope cl C X.env) fp) L [] tg ct) (hf : ∀ (s : Shared) (H : Hp) (C : Addr) (cl : List (Str × Addr)) (fp : List Addr), PIf (X.blk s H scope (compEnvC scope cl C X.env) fp) L tb o ifs cc)
    (hk : ∀ (s : Shared) (H : Hp) (C : Addr) (cl : List (Str × Addr)) (fp : List Addr), PEs (X.blk s H scope (compEnvC scope cl C X.env) fp) L tb o kx ck)
    (he : ∀ (s : Shared) (H : Hp) (C : Addr) (cl : List (Str × Addr)) (fp : List Addr), PEs (X.blk s H scope (compEnvC scope cl C X.env) fp) L tb o vx cv) (hw : own.map (·.2) = ownI := by rfl) (hsub : ∀ i ∈ ct.sl, i ∈ ownI := by decide) (hs : ∀ x, foldedSetIterable iter X.env x = pure x := by intro _; rfl) :
    PEs X L tb o (.DictComp kx vx [⟨tg, iter, ifs, 0⟩] scope pos) (.dc ck cv ct ci cc ownI) := by
  subst hw
  exact ⟨fun W tk => PEimp (pe_dcX (L := L) (units65 (Lay.room (X := X) (L := L) (tb := tb) (o := o) (k := k))) (Lay.K (X := X) (L := L) (tb := tb) (o := o) (k := k)) (Lay.wd (X := X) (L := L) (tb := tb) (o := o) (k := k)) (Lay.calm (X := X) (L := L) (tb := tb) (o := o) (k := k)) hN (hi.run W tk) ok (fun s H C cl fp => (hg s H C cl fp).run) (fun s H C cl fp => (hf s H C cl fp).run _ L2.takes0) (fun s H C cl fp => (hk s H C cl fp).run _ L2.takes0) (fun s H C cl fp => (he s H C cl fp).run _ L2.takes0) hs)
    fun σ H Q h => dc_run (X := X) (k := k) hsub h⟩
theorem cs_dc [Lay X L tb o k] (i : Nat) {y : Str} {py spos : Pos} {kx vx tg iter : Expr} {ifs : List Expr} {scope : Scope} (own : List (Str × Nat)) {ct : T} {ci : I} {cc : C} {ck cv : E} {ownI : List Nat} (hN : X.N.Nodup) (ok : BlkOk X.N X.env.scope scope own) (hsw : swapsWith (.DictComp kx vx [⟨tg, iter, ifs, 0⟩] scope pos) (some (.Name y py)) spos.line X.env = pure true) (hi : PIs X L tb o tg iter ci)
    (hg : ∀ (s : Shared) (H : Hp) (C : Addr) (cl : List (Str × Addr)) (fp : List Addr), PTg (X.blk s H scope (compEnvC scope cl C X.env) fp) L [] tg ct) (hf : ∀ (s : Shared) (H : Hp) (C : Addr) (cl : List (Str × Addr)) (fp : List Addr), PIf (X.blk s H scope (compEnvC scope cl C X.env) fp) L tb o ifs cc)
    (hk : ∀ (s : Shared) (H : Hp) (C : Addr) (cl : List (Str × Addr)) (fp : List Addr), PEs (X.blk s H scope (compEnvC scope cl C X.env) fp) L tb o kx ck)
    (he : ∀ (s : Shared) (H : Hp) (C : Addr) (cl : List (Str × Addr)) (fp : List Addr), PEs (X.blk s H scope (compEnvC scope cl C X.env) fp) L tb o vx cv) (hy : X.N[i]? = some y := by rfl) (hyl : X.env.scope.names.lookup y = some .local := by rfl) (hw : own.map (·.2) = ownI := by rfl) (hsub : ∀ i ∈ ct.sl, i ∈ ownI := by decide) (hs : ∀ x, foldedSetIterable iter X.env x = pure x := by intro _; rfl) :
    PCs X L tb o pr (.Assign [.Name y py] (.DictComp kx vx [⟨tg, iter, ifs, 0⟩] scope pos) spos) (.asg (.v i) (.dc ck cv ct ci cc ownI)) := by
  subst hw
  exact ⟨fun W tk => PSimp (ps_setDc (L := L) (units65 (Lay.room (X := X) (L := L) (tb := tb) (o := o) (k := k))) (Lay.K (X := X) (L := L) (tb := tb) (o := o) (k := k)) (Lay.wd (X := X) (L := L) (tb := tb) (o := o) (k := k)) (Lay.calm (X := X) (L := L) (tb := tb) (o := o) (k := k)) hN hy hyl hsw (hi.run W tk) ok (fun s H C cl fp => (hg s H C cl fp).run) (fun s H C cl fp => (hf s H C cl fp).run _ L2.takes0) (fun s H C cl fp => (hk s H C cl fp).run _ L2.takes0) (fun s H C cl fp => (he s H C cl fp).run _ L2.takes0) hs)
    fun D σ H h => by
      refine dc_run (X := X) (k := k) (W := W) hsub ?_
      obtain ⟨e, m⟩ := h.mid
      simp only [exS] at m
      refine (m.bind (rep := Rep L) (gp_s Same.refl) stb_n).imp fun v H1 ⟨d, e1, m1⟩ => ?_
      simp only [storeT] at m1
      by_cases np : pr.contains i = true
      · rw [if_pos np] at m1; exact m1.none.elim
      · rw [if_neg np] at m1
        obtain ⟨Z, S1, S2, k, dj, re, ⟨Sa, Sb, a1, a2, aj, q1, q2⟩, r', h', g⟩ := m1
        cases h'
        have sub : ∀ b, OrS S1 Sb b → OrS S1 S2 b := fun b z => z.elim .inl fun z => .inr (a2 b z)
        exact g _ H1 Z (OrS S1 Sb) (Step.refl sub) (k.mono sub) (re.store q2 (fun b z => .inr z) (fun b z => .inl z) fun b z y => dj b y (a2 b z)) fun j hj => by
          rw [set_get, if_neg fun z => np (by subst z; simpa using hj)]⟩
end
end PL

/-! PL.Fn: defs; the law. -/
namespace PL
open PySem L2
open PyProof.Rows (envOfC)
/-- what stays of the program while it runs -/
structure Fix (P : Program) (w : World) (K : PySem.W.Frag) (mg : Str → Option Value) (L : Lo) (tb : Tab) : Prop where
  kk : K = L.K
  wd : w = L.wd
  bi : ∀ x, x ∈ biNames → mg x = none
  top : ∀ f, L.ftop f = true → mg (L.fname f) = some (.ref (L.fadr f))
  ctp : ∀ c, L.ctop c = true → mg (L.cname c) = some (.ref (L.cls c))
  met : ∀ c m f, tb.meth c m = some f → Cls K (L.cls c) ∧ Meth K (L.cls c) m (L.fadr f)
  mak : ∀ c f, tb.init c = some f → Mk K (L.cls c) (L.fadr f)
  att : ∀ c f, tb.attr c f = true → Cls K (L.cls c) ∧ NoAttr K (L.cls c) f
  glb : ∀ x d, L.glb x = some d → GlbOk L mg x d
  gdc : ∀ x ks xs, L.gdc x = some (ks, xs) → GdcOk L K w mg x ks xs
  fn : ∀ f fn, tb.fns[f]? = some fn → PySem.W.keepIn K (.ref (L.fadr f)) = true ∧ Binds K (L.ffd f) (L.fps f) [] ∧ (L.fps f).length = fn.np
def FnAll (P : Program) (w : World) (K : PySem.W.Frag) (mg : Str → Option Value) (base : Heap) (L : Lo) (tb : Tab) (o : Orc) (k : Nat) : Prop :=
  ∀ f fn, tb.fns[f]? = some fn → FnOk P w K mg base (L2.CX P w) k (L.fadr f) (L.ffd f) (L.fps f) (spF L tb o f)
theorem lay_of {P : Program} {w : World} {K : PySem.W.Frag} {mg : Str → Option Value} {base : Heap} {L : Lo} {tb : Tab} {o : Orc} {k : Nat} (F : Fix P w K mg L tb) (A : FnAll P w K mg base L tb o k) {N : List Str} {qual : Str} {scope : Scope} {f : Addr} {cd : Value} {Ar : Around} {outer : List PySem.Env} {s : Shared} {H : Hp} {E : XK}
    (hr : Room (k + 1) (Ar.deeper (envOfC qual scope s.heap.objs.size f cd))) : Lay (cxOf (L2.CX P w) P w K mg base N qual scope f cd Ar outer s H E) L tb o k :=
  ⟨F.kk, F.wd, rfl, hr, F.bi, F.top, F.ctp, F.met, F.mak, F.att, F.glb, F.gdc, fun f fn h => ⟨A f fn h, F.fn f fn h⟩⟩
section
variable {L : Lo} {Z : AS} {H : Hp} {σ : St}
theorem finals_set : ∀ {io : List Nat} {e : PL.Env} {i : Nat}, i ∉ io → finals io (e.set i none) = finals io e
  | [], _, _, _ => rfl
  | j :: io, e, i, h => by
    have h1 : i ≠ j := fun z => h (by rw [z]; exact List.mem_cons_self)
    have : Env.at (e.set i none) j = e.at j := by
      unfold Env.at
      rw [set_get, if_neg h1]
    simp only [finals, this, finals_set (fun z => h (List.mem_cons_of_mem _ z))]
theorem reps_finals : ∀ {io : List Nat} {e : PL.Env} {S : AS} {vs : List V} {fs : List D}, RepE L Z H σ e S → finals io e = some fs → io.Nodup → (∀ i ∈ io, σ[i]? = some (some (vs.getD i .non))) → Reps L Z H (ioV io vs) fs S
  | [], e, S, vs, fs, re, h, _, _ => by
    simp only [finals, Option.some.injEq] at h
    subst h
    exact reps_nil
  | i :: io, e, S, vs, fs, re, h, nd, hv => by
    simp only [finals] at h
    cases q : e.at i with
    | none => rw [q] at h; cases h
    | some d =>
      rw [q] at h
      cases q2 : finals io e with
      | none => rw [q2] at h; cases h
      | some ds =>
        rw [q2] at h
        cases h
        rw [List.nodup_cons] at nd
        obtain ⟨v, S1, S2, ev, h1, h2, dj, rv, re2⟩ := re.at q
        rw [hv i List.mem_cons_self] at ev
        cases ev
        have := reps_finals re2 (by rw [finals_set nd.1]; exact q2) nd.2 fun j hj => hv j (List.mem_cons_of_mem _ hj)
        exact reps_cons h1 h2 dj rv this
theorem repE_start : ∀ {ds : List D} {vs : List V} {S : AS} {n : Nat}, Reps L Z H vs ds S → RepE L Z H (vs.map some ++ List.replicate n none) (ds.map some ++ List.replicate n none) S
  | [], vs, S, n, h => by
    simp only [Reps] at h
    subst h
    refine ⟨by simp, fun _ => NoAS, fun _ _ z => z.elim, fun _ _ _ _ z => z.elim, fun i d hd => ?_⟩
    simp only [List.map_nil, List.nil_append, List.getElem?_replicate] at hd
    split at hd <;> cases hd
  | d :: ds, vs, S, n, h => by
    have hl := h.length
    simp only [Reps] at h
    obtain ⟨v, ws, S1, S2, ev, h1, h2, dj, r1, r2⟩ := h
    subst ev
    have ih := repE_start (n := n) r2
    have e0 : RepE L Z H (some v :: (ws.map some ++ List.replicate n none)) (none :: (ds.map some ++ List.replicate n none)) S2 := by
      obtain ⟨F, f1, f2, f3⟩ := ih.ex
      refine ⟨by simpa using ih.len, fun i => match i with | 0 => NoAS | i + 1 => F i, fun i b z => ?_, fun i j b hij z => ?_, fun i d hd => ?_⟩
      · cases i with
        | zero => exact z.elim
        | succ i => exact f1 i b z
      · cases i with
        | zero => exact z.elim
        | succ i =>
          cases j with
          | zero => exact fun y => y.elim
          | succ j => exact f2 i j b (fun c => hij (by rw [c])) z
      · cases i with
        | zero => simp at hd
        | succ i =>
          simp only [List.getElem?_cons_succ] at hd ⊢
          exact f3 i d hd
    have := RepE.put (e := none :: (ds.map some ++ List.replicate n none)) (i := 0) (by simpa using e0) (v := v) (by simp) r1 h1 h2 dj
    simpa using this
end
section
variable {P : Program} {w : World} {K : PySem.W.Frag} {mg : Str → Option Value} {base : Heap} {L : Lo} {tb : Tab}
theorem spF_len {o : Orc} {f : Nat} {fn : Fn} (hf : tb.fns[f]? = some fn) {vs : List V} {H : Hp} {Q : VK} {E : XK} (h : spF L tb o f vs H Q E) : vs.length = fn.np := by
  obtain ⟨fn', Z, S, ds, r, h1, h2, k, rs, _⟩ := h
  rw [hf] at h1
  cases h1
  rw [rs.length, h2]
/-- a def by its body -/
theorem fn_ok {o : Orc} {j f : Nat} {fn : Fn} {x qual : Str} {st : Stmt} {N : List Str} (hf : tb.fns[f]? = some fn) (F : Fun K x qual st (L.fadr f) (L.ffd f)) (S : FnScope N (L.fps f) (defScope st)) (hp : (L.fps f).length = fn.np) (hN : N.length = fn.nl) (hle : fn.np ≤ fn.nl) (hnd : fn.io.Nodup) (hio : ∀ i ∈ fn.io, i < fn.np)
    (hb : ∀ (cdv : Value) (A : Around) (outer : List PySem.Env) (s : Shared) (H : Hp) (E : XK), Room (j + 1) (A.deeper (envOfC qual (defScope st) s.heap.objs.size (L.fadr f) cdv)) → PCss (cxOf (L2.CX P w) P w K mg base N qual (defScope st) (L.fadr f) cdv A outer s H E) L tb o fn.io (defBody st) fn.body) :
    FnOk P w K mg base (L2.CX P w) (j + 2) (L.fadr f) (L.ffd f) (L.fps f) (spF L tb (runFn tb o) f) := by
  refine F.okX S (fun vs H Q E h => by rw [spF_len hf h, hp]) (fun cdv A outer s H vs Q E hr hsp => ?_)
  refine ⟨_, (hb cdv A outer s H E hr).run (fun cls d _ H => E cls d H) (takes_of rfl rfl rfl rfl), ?_⟩
  have hl := spF_len hf hsp
  obtain ⟨fn', Z, S0, ds, r, h1, h2, k, rs, hrun, hgood⟩ := hsp
  rw [hf] at h1
  cases h1
  simp only [runFn, hf, if_pos h2] at hrun
  have hst : L2.start N vs = vs.map some ++ List.replicate (fn.nl - fn.np) none := by
    unfold L2.start
    rw [hN, hl]
  have hslot : ∀ i ∈ fn.io, (L2.start N vs)[i]? = some (some (vs.getD i .non)) := fun i hi => by
    have := hio i hi
    rw [hst, List.getElem?_append_left (by simp; omega), List.getElem?_map, List.getElem?_eq_getElem (by omega)]
    simp [List.getD, List.getElem?_eq_getElem (show i < vs.length by omega)]
  have re := repE_start (n := fn.nl - fn.np) rs
  rw [← hst] at re
  cases q : exSs tb o fn.io fn.body (ds.map some ++ List.replicate (fn.nl - fn.np) none) with
  | none => rw [q] at hrun; cases hrun
  | some r0 =>
    rw [q] at hrun
    refine ⟨Z, S0, _, r0, k, re, q, ?_⟩
    have fin : ∀ {σ' : St} {e : PL.Env} {S1 : AS} {Z' : AS} {H' : Hp} {fs : List D}, RepE L Z' H' σ' e S1 → Same fn.io (L2.start N vs) σ' → finals fn.io e = some fs → Reps L Z' H' (ioV fn.io vs) fs S1 := fun re' sm hfs =>
      reps_finals re' hfs hnd fun i hi => by rw [sm i hi]; exact hslot i hi
    cases r0 with
    | exc xx e =>
      dsimp only at hrun
      cases qf : finals fn.io e with
      | none => rw [qf] at hrun; cases hrun
      | some fs =>
        rw [qf] at hrun
        cases hrun
        exact fun σ' cls dd H' Z' S1 a k' re' sm rx => hgood cls dd H' Z' S1 a k' (fin re' sm qf) rx
    | val fl e =>
      cases fl with
      | nx =>
        dsimp only at hrun
        cases qf : finals fn.io e with
        | none => rw [qf] at hrun; cases hrun
        | some fs =>
          rw [qf] at hrun
          cases hrun
          exact fun σ' H' Z' S1 a k' re' sm => hgood .non H' Z' S1 NoAS (a.trans (Step.refl fun b z => z.elim id fun z => z.elim)) k'.noOr (fun _ _ z => z) (fin re' sm qf) (by simp only [Rep])
      | rt d =>
        dsimp only at hrun
        cases qf : finals fn.io e with
        | none => rw [qf] at hrun; cases hrun
        | some fs =>
          rw [qf] at hrun
          cases hrun
          exact fun σ' v H' Z' S1 S2 a k' dj re' rv sm => hgood v H' Z' S1 S2 a k' dj (fin re' sm qf) rv
      | bk => cases hrun
      | ct => cases hrun
theorem olen : ∀ k, OLen tb (callF tb k)
  | 0 => fun f fn hf ds h => by simp only [callF] at h; exact absurd rfl h
  | k + 1 => fun f fn hf ds h => by
    simp only [callF, runFn, hf] at h
    by_cases c : ds.length = fn.np
    · exact c
    · rw [if_neg c] at h; exact absurd rfl h
/-- all defs, by the depth of calls -/
theorem fn_all (F : Fix P w K mg L tb) (h : ∀ (o : Orc) (j : Nat), OLen tb o → FnAll P w K mg base L tb o j → FnAll P w K mg base L tb (runFn tb o) (j + 2)) : ∀ k, FnAll P w K mg base L tb (callF tb k) (2 * k)
  | 0 => fun f fn hf => ⟨fun vs H Q E q => by rw [spF_len hf q, (F.fn f fn hf).2.2], fun A outer s H args us vs Q E _ _ _ _ q => by
    obtain ⟨fn', Z, S0, ds, r, h1, h2, k, rs, hrun, hgood⟩ := q
    simp only [callF] at hrun
    cases hrun⟩
  | k + 1 => by
    have := h (callF tb k) (2 * k) (olen k) (fn_all F h k)
    exact this
/-- what the law is to promise -/
def spL (K : PySem.W.Frag) : Sp := fun vs H Q _ => ∃ (a : Addr) (ns : List Int), vs = [.ref a] ∧ ((∃ o, H a = some (.frz o (.lst (ns.map V.int)))) ∨ KForm K "list" a (ns.map V.int)) ∧ ns.length ≤ 63 ∧ ∀ H', Q (.bl true) H'
abbrev scriptD (ns : List Int) : D := .nd .cl false (ns.map .int)
theorem law_fn {k f : Nat} {fn : Fn} {ps : List Str} (hf : tb.fns[f]? = some fn) (hnp : fn.np = 1) (hio : fn.io = []) (hps : L.fps f = ps) (A : FnAll P w K mg base L tb (callF tb k) (2 * k)) (h : ∀ ns : List Int, ns.length ≤ 63 → callF tb k f [scriptD ns] = some (.val (.bl true) [])) :
    FnOk P w K mg base (L2.CX P w) (2 * k) (L.fadr f) (L.ffd f) ps (spL L.K) := by
  subst hps
  refine (A f fn hf).imp fun vs H Q E ⟨a, ns, e, hz, hl, q⟩ => ?_
  subst e
  refine ⟨fn, NoAS, NoAS, [scriptD ns], _, hf, by rw [hnp]; rfl, ⟨fun _ _ z => z, fun _ z => z.elim, fun _ z => z.elim⟩, ?_, h ns hl, ?_⟩
  · refine reps_cons (S1 := NoAS) (S2 := NoAS) (fun _ z => z) (fun _ z => z) (fun _ _ z => z) ?_ reps_nil
    simp only [Rep]
    exact ⟨a, _, rfl, ⟨rfl, hz⟩, fun z => (by cases z), reps_of_ints ns⟩
  · intro v H' Z' S1 S2 _ _ _ _ rv
    rw [rep_bl rv]
    exact q H'
theorem fz_of {K : PySem.W.Frag} {H : Hp} {a : Addr} {vs : List V} (ho : Only H) (h : SqL K H a vs) : (∃ o, H a = some (.frz o (.lst vs))) ∨ KForm K "list" a vs := by
  rcases h with (h | ⟨o, h⟩) | ⟨o, its, n, h1, h2, h3, h4, h5, h6⟩
  · rcases ho a with z | ⟨o, xs, z⟩
    · rw [z] at h; cases h
    · rw [z] at h; cases h
  · exact .inl ⟨o, h⟩
  · exact .inr ⟨o, its, n, h1, h2, h3, h4, h5, h6⟩
theorem cx_false {P : Program} {w : World} {outer : List PySem.Env} {H : Hp} {s s' : Shared} {e : Value} (h : L2.CX P w outer H s (fun _ _ _ => False) e s') : False := by
  obtain ⟨_, _, _, _, _, _, _, _, _, _, _, _, z⟩ := h
  exact z
end
end PL

/-! PL.Gl: constants of the module; tables of classes. -/
namespace PL
open PySem L2
theorem lookup_in {α : Type} {k : Str} {v : α} : ∀ {l : List (Str × α)}, l.lookup k = some v → (k, v) ∈ l
  | [], h => by cases h
  | (a, b) :: l, h => by
    rw [List.lookup_cons] at h
    split at h
    · rename_i c
      cases h
      rw [show k = a from beq_iff_eq.mp c]
      exact List.mem_cons_self
    · exact List.mem_cons_of_mem _ (lookup_in h)
theorem lookD_in {κ : Type} [DecidableEq κ] {k : κ} {d : D} : ∀ {ks : List κ} {xs : List D}, lookD ks xs k = some d → (k, d) ∈ ks.zip xs
  | [], _, h => by simp [lookD] at h
  | _ :: _, [], h => by simp [lookD] at h
  | a :: ks, x :: xs, h => by
    simp only [lookD] at h
    split at h
    · rename_i c
      cases h
      subst c
      exact List.mem_cons_self
    · exact List.mem_cons_of_mem _ (lookD_in h)
/-- a written tuple of texts -/
theorem rep_ktup {L : Lo} {a : Addr} {us : List Value} {n : Nat} {xs : List Str} {sl : Array (Option Value)} (h : L.K.lookup a = some ⟨.type "tuple", none, .seq us.toArray n, sl⟩) (v : Vals (xs.map V.str) us) (hz : us.length ≤ sizeLine) (Z : AS) (H : Hp) :
    Rep L Z H (.ref a) (.nd .tup false (xs.map D.str)) NoAS := by
  simp only [Rep]
  refine ⟨a, xs.map V.str, rfl, ⟨rfl, .inr ⟨_, _, _, h, rfl, rfl, by rw [List.size_toArray]; exact hz, by simpa using v⟩, .inr ⟨_, h, rfl⟩⟩, fun z => (by cases z), reps_mono (S := NoAS) (fun b z => z.elim) ?_⟩
  clear v
  induction xs with
  | nil => exact reps_nil
  | cons x xs ih => exact reps_cons (S1 := NoAS) (S2 := NoAS) (fun _ z => z.elim) (fun _ z => z.elim) (fun _ z => z.elim) (by simp only [Rep]) ih
theorem rep_kint {L : Lo} {Z : AS} {H : Hp} {i : Int} : Rep L Z H (.int i) (.int i) NoAS := by simp only [Rep]
theorem rep_kstr {L : Lo} {Z : AS} {H : Hp} {i : Str} : Rep L Z H (.str i) (.str i) NoAS := by simp only [Rep]
end PL

/-! PL.Hd: what the module's run has left, told by names. -/
namespace PL
open PySem PySem.Spec PyProof.Rows L2
/-- the text's look: facts, defs, tables, and one look of one's own -/
abbrev AlP : Type := He.AlT × Bool
def obsP (fa : List He.Fa) (fn : List He.DefD) (ts : List He.Tab) (ex : PySem.W.Frag → Bool) (K : PySem.W.Frag) : AlP := (He.obsT fa fn ts K, ex K)
def obsPG (n : Nat) (fa : List He.Fa) (fn : List He.DefD) (ts : List He.Tab) (ex : PySem.W.Frag → Bool) (g : Addr → Option Obj) : AlP := obsP fa fn ts ex (He.frG g (He.asD g n))
structure SaysP (fa : List He.Fa) (fn : List He.DefD) (ts : List He.Tab) (ex : PySem.W.Frag → Bool) (w : World) (K : PySem.W.Frag) : Prop where
  t : He.SaysT fa fn ts w K
  x : ex K = true
def hookP (n : Nat) (fa : List He.Fa) (fn : List He.DefD) (ts : List He.Tab) (ex : PySem.W.Frag → Bool) : PySem.W.Hook where
  α := AlP
  obs := fun s => obsPG n fa fn ts ex s.heap.get?
  val := fun w => (He.valT fn ts w, true)
  says := fun w h => ∃ K : PySem.W.Frag, K.In h ∧ SaysP fa fn ts ex w K
  of := fun _ _ e => ⟨_, He.frG_in, (Prod.mk.inj e).1, (Prod.mk.inj e).2⟩
  keeps := fun _ _ _ ⟨K, q, c⟩ k => ⟨K, PySem.W.Frag.In.keeps q k, c⟩
theorem obsPG_eq {n : Nat} {fa : List He.Fa} {fn : List He.DefD} {ts : List He.Tab} {ex : PySem.W.Frag → Bool} {g : Addr → Option Obj} {s : Shared} (h : ∀ a, g a = s.heap.get? a) : obsPG n fa fn ts ex g = (hookP n fa fn ts ex).obs s := by
  cases (funext h : g = s.heap.get?)
  rfl
section
variable {fa : List He.Fa} {fn : List He.DefD} {ts : List He.Tab} {ex : PySem.W.Frag → Bool} {w : World} {K : PySem.W.Frag}
/-- a def without defaults -/
theorem SaysP.df (c : SaysP fa fn ts ex w K) (i : Nat) {d : He.DefD} (h : fn[i]? = some d) (h1 : d.dfl = []) (h2 : d.kwd = []) :
    ∃ oc od sl kV dc pm an cd ct, K.lookup (He.fAd K d.at_) = some ⟨oc, od, .func (PySem.W.fnOf d.name d.qual d.params d.body d.scope .none kV dc pm an cd ct), sl⟩ ∧ PySem.W.codeIn K cd d.qual = true ∧ PySem.W.keepIn K (.ref (He.fAd K d.at_)) = true := by
  obtain ⟨fd, ⟨oc, od, dV, kV, dc, pm, an, cd, ct, sl, rfl, lk, hc, dd, _⟩, kp⟩ := c.t.d.def_ i h
  have e : dV = .none := by
    rcases dd with ⟨_, z⟩ | ⟨z, _⟩
    · exact z
    · exact absurd (by unfold He.DefD.dvs; rw [h1] <;> rfl) z
  subst e
  exact ⟨oc, od, sl, kV, dc, pm, an, cd, ct, lk, hc, kp⟩
theorem SaysP.fct (c : SaysP fa fn ts ex w K) (i : Nat) {f : He.Fa} (h : fa[i]? = some f) : f.ok K = true := c.t.d.fact i h
end
/-- the name stands for a tuple of these texts -/
def ktupB (K : PySem.W.Frag) (x : Str) (xs : List Str) : Bool := match K.lookup (He.ga K x) with
  | some ⟨.type c, none, .seq its _, _⟩ => decide (c = "tuple") && (decide (its.size ≤ sizeLine) && He.relAll (xs.map V.str) its.toList)
  | _ => false
theorem ktupB_ok {L : Lo} {x : Str} {xs : List Str} (h : ktupB L.K x xs = true) (Z : AS) (H : Hp) : Rep L Z H (.ref (He.ga L.K x)) (.nd .tup false (xs.map D.str)) NoAS := by
  unfold ktupB at h
  cases q : L.K.lookup (He.ga L.K x) with
  | none =>
    rw [q] at h
    cases h
  | some ob =>
    obtain ⟨oc, od, dt, sl⟩ := ob
    rw [q] at h
    cases oc with
    | type c =>
      cases od with
      | none =>
        cases dt with
        | seq its n =>
          obtain ⟨h1, h2⟩ := He.ba (show (decide (c = "tuple") && (decide (its.size ≤ sizeLine) && He.relAll (xs.map V.str) its.toList)) = true from h)
          obtain ⟨h3, h4⟩ := He.ba h2
          cases (of_decide_eq_true h1 : c = "tuple")
          refine rep_ktup (us := its.toList) (by simpa using q) (He.relAll_ok h4) ?_ Z H
          simpa using of_decide_eq_true h3
        | _ => cases h
      | some b => cases dt <;> cases h
    | _ => cases od <;> cases dt <;> cases h
/-- a law over such a head; what it lets out may hang on the world -/
theorem walkP {l : PySem.W.OpenLaw} {k : Nat} {q : Program} {loose : List Str} {XP : (Str → Option Value) → Heap → Prop} {YP : World → Heap → Prop} {d : DefRec}
    (hn : l.most = some 63) (hdf : d.params.defaults = []) (hr : Room k callerA)
    (F : ∀ (w : World) (mg : Str → Option Value) (fa : Addr) (h : Heap), YP w h → h.Ns mainGlobals mg → mg d.name = some (.ref fa) →
      ∃ (K : PySem.W.Frag) (fd : FuncData), K.In h ∧ (∀ (s : Shared) (u : Value), BindsTo s fd ⟨[u], []⟩ [("script", u)]) ∧
        ∀ base : Heap, K.In base → base.Ns mainGlobals mg → FnOk l.prog w K mg base (L2.CX l.prog w) k fa fd ["script"] (spL K)) :
    PySem.W.WalkO q loose XP YP l.row.toRowW d [] (fun f vs => PySem.call f vs) := by
  refine Att.attach_call hn hdf fun w s0 s1 mg mb fa ob pm cd dc a vs ns G Y ho hd hcd hmg hobj hints hlen hg => ?_
  obtain ⟨K, fd, kin, bs, run⟩ := F w mg fa _ Y G.T.g hmg
  exact law_call kin G.T.g G.T.b G.T.builtins G.T.nolimit hg hobj hints (Nat.le_trans hlen (by decide)) hr run bs (fun H hO hS => ⟨a, ns, rfl, fz_of hO hS, hlen, fun _ => rfl⟩) fun H e s' z => cx_false z
end PL

set_option autoImplicit true
set_option relaxedAutoImplicit true
/-! PL.Ev: the small language's run, equation by equation (for simp). -/
namespace PL
open PySem L2
section
variable {tb : Tab} {o : Orc} {pr : List Nat} {cond : C}
@[simp] theorem eq_evE_1 : evE tb o (.nop) e = (some (.val .non e)) := by rw [evE] <;> rfl
@[simp] theorem eq_evE_2 : evE tb o (.var i) e = (match e.at i with
    | none => none
    | some d => if d.fz then some (.val d e) else some (.val d.frz (e.set i (some d.frz)))) := by rw [evE] <;> rfl
@[simp] theorem eq_evE_3 : evE tb o (.mv i) e = (match e.at i with
    | none => none
    | some d => some (.val d (e.set i none))) := by rw [evE] <;> rfl
@[simp] theorem eq_evE_4 : evE tb o (.non) e = (some (.val .non e)) := by rw [evE] <;> rfl
@[simp] theorem eq_evE_5 : evE tb o (.bl b) e = (some (.val (.bl b) e)) := by rw [evE] <;> rfl
@[simp] theorem eq_evE_6 : evE tb o (.int i) e = (some (.val (.int i) e)) := by rw [evE] <;> rfl
@[simp] theorem eq_evE_7 : evE tb o (.str x) e = (some (.val (.str x) e)) := by rw [evE] <;> rfl
@[simp] theorem eq_evE_8 : evE tb o (.view is a) e = (viewOut (evE tb o a (viewEnv is 0 e)) e) := by rw [evE] <;> rfl
@[simp] theorem eq_evE_9 : evE tb o (.tup es) e = (bnd (evEs tb o es e) fun ds e => if ds.length ≤ sizeLine then some (.val (.nd .tup false ds) e) else none) := by rw [evE] <;> rfl
@[simp] theorem eq_evE_10 : evE tb o (.lst es) e = (bnd (evEs tb o es e) fun ds e => if ds.length ≤ sizeLine then some (.val (.nd .lst true ds) e) else none) := by rw [evE] <;> rfl
@[simp] theorem eq_evE_11 : evE tb o (.dnew) e = (some (.val (.nd (.dk []) true []) e)) := by rw [evE] <;> rfl
@[simp] theorem eq_evE_12 : evE tb o (.ddisp a b) e = (bnd (evE tb o a e) fun x e => bnd (evE tb o b e) fun y e => match x.key with
    | none => none
    | some kk => some (.val (.nd (.dk [kk]) true [y]) e)) := by rw [evE] <;> rfl
@[simp] theorem eq_evE_13 : evE tb o (.un op a) e = (bnd (evE tb o a e) fun d e => opt (unD op d) e) := by rw [evE] <;> rfl
@[simp] theorem eq_evE_14 : evE tb o (.bin op a b) e = (bnd (evE tb o a e) fun x e => bnd (evE tb o b e) fun y e => opt (binD op x y) e) := by rw [evE] <;> rfl
@[simp] theorem eq_evE_15 : evE tb o (.cmp op a b) e = (bnd (evE tb o a e) fun x e => bnd (evE tb o b e) fun y e => opt ((cmpD op x y).map .bl) e) := by rw [evE] <;> rfl
@[simp] theorem eq_evE_16 : evE tb o (.chain op op' a b c) e = (bnd (evE tb o a e) fun x e => bnd (evE tb o b e) fun y e => match cmpD op x y with
    | none => none
    | some false => some (.val (.bl false) e)
    | some true => bnd (evE tb o c e) fun z e => opt ((cmpD op' y z).map .bl) e) := by rw [evE] <;> rfl
@[simp] theorem eq_evE_17 : evE tb o (.and a b) e = (bnd (evE tb o a e) fun x e => match x with
    | .bl true => evE tb o b e
    | .bl false => some (.val (.bl false) e)
    | _ => none) := by rw [evE] <;> rfl
@[simp] theorem eq_evE_18 : evE tb o (.or a b) e = (bnd (evE tb o a e) fun x e => match x with
    | .bl false => evE tb o b e
    | .bl true => some (.val (.bl true) e)
    | _ => none) := by rw [evE] <;> rfl
@[simp] theorem eq_evE_19 : evE tb o (.ife t a b) e = (bnd (evT tb o t e) fun c e => if c then evE tb o a e else evE tb o b e) := by rw [evE] <;> rfl
@[simp] theorem eq_evE_20 : evE tb o (.sub a i) e = (bnd (evE tb o a e) fun x e => bnd (evE tb o i e) fun y e => opt (subD x y) e) := by rw [evE] <;> rfl
@[simp] theorem eq_evE_21 : evE tb o (.slc a lo hi) e = (bnd (evE tb o a e) fun x e => bnd (evE tb o lo e) fun l e => match partE lo l with
    | none => none
    | some l' => bnd (evE tb o hi e) fun h e => opt ((partE hi h).bind (cutOf x l')) e) := by rw [evE] <;> rfl
@[simp] theorem eq_evE_22 : evE tb o (.fld a f) e = (bnd (evE tb o a e) fun x e => opt (fldD tb.attr x f) e) := by rw [evE] <;> rfl
@[simp] theorem eq_evE_23 : evE tb o (.call f es) e = (bnd (evAs tb o es e) fun as e => runCall tb o f as e) := by rw [evE] <;> rfl
@[simp] theorem eq_evE_24 : evE tb o (.meth m a es) e = (bnd (evE tb o a e) fun x e => match x with
    | .nd (.ins c ns) _ _ => match tb.meth c m with
      | none => none
      | some f => if ns.contains m then none else bnd (evAs tb o es e) fun as e => runCall tb o f (.d x :: as) e
    | _ => none) := by rw [evE] <;> rfl
@[simp] theorem eq_evE_25 : evE tb o (.methR m i es) e = (match e.at i with
    | some (.nd (.ins c ns) _ _) => match tb.meth c m with
      | none => none
      | some f => if ns.contains m then none else bnd (evAs tb o es e) fun as e => runCall tb o f (.r i :: as) e
    | _ => none) := by rw [evE] <;> rfl
@[simp] theorem eq_evE_26 : evE tb o (.mk c es) e = (bnd (evEs tb o es e) fun ds e => match tb.init c with
    | none => none
    | some f => if (tb.fns[f]?).map (·.io) = some [0] then
        match o f (.nd (.ins c []) true [] :: ds.map D.frz) with
        | some (.val .non [x]) => some (.val x e)
        | some (.exc x [_]) => some (.exc x e)
        | _ => none
      else none) := by rw [evE] <;> rfl
@[simp] theorem eq_evE_27 : evE tb o (.bi b a) e = (bnd (evE tb o a e) fun x e => opt (biD b x) e) := by rw [evE] <;> rfl
@[simp] theorem eq_evE_28 : evE tb o (.bi2 mx a b) e = (bnd (evE tb o a e) fun x e => bnd (evE tb o b e) fun y e => opt (bi2D mx x y) e) := by rw [evE] <;> rfl
@[simp] theorem eq_evE_29 : evE tb o (.bm b a es) e = (bnd (evE tb o a e) fun x e => if okB b x then bnd (evEs tb o es e) fun ds e => opt (bmD b x ds) e else none) := by rw [evE] <;> rfl
@[simp] theorem eq_evE_30 : evE tb o (.mu b root p es) e = (match e.at root with
    | none => none
    | some d => bnd (evPs tb o p d root (e.set root none)) fun acs e => match walkD tb.attr acs d with
      | some (.nd .lst true _) => bnd (evMs tb o es d root e) fun ds e =>
        match modD tb.attr (fun x => muD b x ds) acs d with
        | none => none
        | some (r, d') => some (.val r (e.set root (some d')))
      | _ => none) := by rw [evE] <;> rfl
@[simp] theorem eq_evE_31 : evE tb o (.isi a ts) e = (bnd (evE tb o a e) fun x e => opt ((isD x ts).map .bl) e) := by rw [evE] <;> rfl
@[simp] theorem eq_evE_32 : evE tb o (.lc elt tg it cond own) e = (bnd (evI tb o it e) fun xs e =>
      match loopC (fun x e => storeT [] tg x e) (fun e => evT tb o cond e) (fun e => evE tb o elt e) own xs (wipeE e own) with
      | none => none
      | some (ds, e) => if ds.length ≤ sizeLine then some (.val (.nd .lst true ds) e) else none) := by rw [evE] <;> rfl
@[simp] theorem eq_evE_33 : evE tb o (.dc ek ev tg it cond own) e = (bnd (evI tb o it e) fun xs e =>
      match loopD (fun x e => storeT [] tg x e) (fun e => evT tb o cond e) (fun e => evE tb o ek e) (fun e => evE tb o ev e) own xs (.nd (.dk []) true []) (wipeE e own) with
      | none => none
      | some (d, e) => some (.val d e)) := by rw [evE] <;> rfl
@[simp] theorem eq_evE_34 : evE tb o (.cst a) e = (bnd (evE tb o a e) fun x e => opt (cstD x) e) := by rw [evE] <;> rfl
@[simp] theorem eq_evE_35 : evE tb o (.gl d) e = (some (.val d e)) := by rw [evE] <;> rfl
@[simp] theorem eq_evE_36 : evE tb o (.gsub ks xs a) e = (bnd (evE tb o a e) fun x e => match x with
    | .str z => opt (lookD ks xs (.inr z)) e
    | _ => none) := by rw [evE] <;> rfl
@[simp] theorem eq_evT_37 : evT tb o (.tt) e = (some (.val true e)) := by rw [evT] <;> rfl
@[simp] theorem eq_evT_38 : evT tb o (.and a b) e = (bnd (evT tb o a e) fun c e => if c then evT tb o b e else some (.val false e)) := by rw [evT] <;> rfl
@[simp] theorem eq_evT_39 : evT tb o (.or a b) e = (bnd (evT tb o a e) fun c e => if c then some (.val true e) else evT tb o b e) := by rw [evT] <;> rfl
@[simp] theorem eq_evT_40 : evT tb o (.not a) e = (bnd (evT tb o a e) fun c e => some (.val (!c) e)) := by rw [evT] <;> rfl
@[simp] theorem eq_evT_41 : evT tb o (.view is a) e = (match evT tb o a (viewEnv is 0 e) with
    | some (.val c _) => some (.val c e)
    | _ => none) := by rw [evT] <;> rfl
@[simp] theorem eq_evT_42 : evT tb o (.e a) e = (bnd (evE tb o a e) fun x e => opt (truth x) e) := by rw [evT] <;> rfl
@[simp] theorem eq_evEs_43 : evEs tb o (.n) e = (some (.val [] e)) := by rw [evEs] <;> rfl
@[simp] theorem eq_evEs_44 : evEs tb o (.c a es) e = (bnd (evE tb o a e) fun x e => bnd (evEs tb o es e) fun xs e => some (.val (x :: xs) e)) := by rw [evEs] <;> rfl
@[simp] theorem eq_evEs_45 : evEs tb o (.io u0 u1) x1 = (none) := by rw [evEs] <;> rfl
@[simp] theorem eq_evAs_46 : evAs tb o (.n) e = (some (.val [] e)) := by rw [evAs] <;> rfl
@[simp] theorem eq_evAs_47 : evAs tb o (.c a es) e = (bnd (evE tb o a e) fun x e => bnd (evAs tb o es e) fun xs e => some (.val (.d x :: xs) e)) := by rw [evAs] <;> rfl
@[simp] theorem eq_evAs_48 : evAs tb o (.io i es) e = (match e.at i with
    | none => none
    | some _ => bnd (evAs tb o es e) fun xs e => some (.val (.r i :: xs) e)) := by rw [evAs] <;> rfl
@[simp] theorem eq_evM_49 : evM tb o (.v is a) d root e = (viewOut (evE tb o a (viewEnv is 0 (e.set root (some d)))) e) := by rw [evM] <;> rfl
@[simp] theorem eq_evM_50 : evM tb o (.h a) x1 x2 e = (evE tb o a e) := by rw [evM] <;> rfl
@[simp] theorem eq_evMs_51 : evMs tb o (.n) x1 x2 e = (some (.val [] e)) := by rw [evMs] <;> rfl
@[simp] theorem eq_evMs_52 : evMs tb o (.c a es) d root e = (bnd (evM tb o a d root e) fun x e => bnd (evMs tb o es d root e) fun xs e => some (.val (x :: xs) e)) := by rw [evMs] <;> rfl
@[simp] theorem eq_evPs_53 : evPs tb o (.n) x1 x2 e = (some (.val [] e)) := by rw [evPs] <;> rfl
@[simp] theorem eq_evPs_54 : evPs tb o (.fld p f) d root e = (bnd (evPs tb o p d root e) fun as e => if (walkD tb.attr (as ++ [.fld f]) d).isSome then some (.val (as ++ [.fld f]) e) else none) := by rw [evPs] <;> rfl
@[simp] theorem eq_evPs_55 : evPs tb o (.ix p a) d root e = (bnd (evPs tb o p d root e) fun as e => bnd (evM tb o a d root e) fun x e => if (walkD tb.attr (as ++ [.ix x]) d).isSome then some (.val (as ++ [.ix x]) e) else none) := by rw [evPs] <;> rfl
@[simp] theorem eq_evI_56 : evI tb o (.seqL a) e = (bnd (evE tb o a e) fun x e => match seqD x.frz with
    | some xs => if isLst x then some (.val xs e) else none
    | none => none) := by rw [evI] <;> rfl
@[simp] theorem eq_evI_57 : evI tb o (.seqT a) e = (bnd (evE tb o a e) fun x e => match seqD x.frz with
    | some xs => if isLst x then none else some (.val xs e)
    | none => none) := by rw [evI] <;> rfl
@[simp] theorem eq_evI_58 : evI tb o (.rng a) e = (bnd (evE tb o a e) fun x e => match x with
    | .int j => if okR 0 j then some (.val (rangeD 0 j) e) else none
    | _ => none) := by rw [evI] <;> rfl
@[simp] theorem eq_evI_59 : evI tb o (.rng2 a b) e = (bnd (evE tb o a e) fun x e => bnd (evE tb o b e) fun y e => match x, y with
    | .int i, .int j => if okR i j then some (.val (rangeD i j) e) else none
    | _, _ => none) := by rw [evI] <;> rfl
@[simp] theorem eq_evI_60 : evI tb o (.rng3 u0 u1 u2) x1 = (none) := by rw [evI] <;> rfl
@[simp] theorem eq_evI_61 : evI tb o (.enm a) e = (bnd (evE tb o a e) fun x e => match seqD x.frz with
    | some xs => some (.val (xs.mapIdx fun i d => .nd .pr false [.int i, d]) e)
    | none => none) := by rw [evI] <;> rfl
@[simp] theorem eq_evI_62 : evI tb o (.zip a b) e = (bnd (evE tb o a e) fun x e => bnd (evE tb o b e) fun y e => match seqD x.frz, seqD y.frz with
    | some xs, some ys => if isLst x || isLst y then none else some (.val ((xs.zip ys).map fun p => .nd .pr false [p.1, p.2]) e)
    | _, _ => none
) := by rw [evI] <;> rfl
@[simp] theorem eq_exS_63 : exS tb o pr (.asg t a) e = (bnd (evE tb o a e) fun x e => nxt (storeT pr t x e)) := by rw [exS] <;> rfl
@[simp] theorem eq_exS_64 : exS tb o pr (.par i j a b) e = (bnd (evE tb o a e) fun x e => bnd (evE tb o b e) fun y e => nxt ((storeT pr (.v i) x e).bind (storeT pr (.v j) y))) := by rw [exS] <;> rfl
@[simp] theorem eq_exS_65 : exS tb o pr (.sub root p i a) e = (bnd (evE tb o a e) fun v e => match e.at root with
    | none => none
    | some d => bnd (evPs tb o p d root (e.set root none)) fun acs e => bnd (evM tb o i d root e) fun k e =>
      match modD tb.attr (fun x => (setD x k v).map fun y => ((), y)) acs d with
      | none => none
      | some (_, d') => some (.val .nx (e.set root (some d')))) := by rw [exS] <;> rfl
@[simp] theorem eq_exS_66 : exS tb o pr (.subA root p i op a) e = (match e.at root with
    | none => none
    | some d => bnd (evPs tb o p d root (e.set root none)) fun acs e => bnd (evM tb o i d root e) fun k e =>
      match augOld (walkD tb.attr acs d) k with
      | some x => bnd (evM tb o a d root e) fun y e => match binD op (.int x) y with
        | none => none
        | some z => match modD tb.attr (fun x => (setD x k z).map fun y => ((), y)) acs d with
          | none => none
          | some (_, d') => some (.val .nx (e.set root (some d')))
      | none => none) := by rw [exS] <;> rfl
@[simp] theorem eq_exS_67 : exS tb o pr (.fld root p f a) e = (bnd (evE tb o a e) fun v e => match e.at root with
    | none => none
    | some d => bnd (evPs tb o p d root (e.set root none)) fun acs e =>
      match modD tb.attr (fun x => (fsetD tb.attr x f v).map fun y => ((), y)) acs d with
      | none => none
      | some (_, d') => some (.val .nx (e.set root (some d')))) := by rw [exS] <;> rfl
@[simp] theorem eq_exS_68 : exS tb o pr (.sdf root p k a) e = (match e.at root with
    | none => none
    | some d => bnd (evPs tb o p d root (e.set root none)) fun acs e => match walkD tb.attr acs d with
      | some (.nd (.dk _) true _) => bnd (evM tb o k d root e) fun k e => bnd (evM tb o a d root e) fun v e =>
        match modD tb.attr (fun x => (sdfD x k v).map fun y => ((), y)) acs d with
        | none => none
        | some (_, d') => some (.val .nx (e.set root (some d')))
      | _ => none) := by rw [exS] <;> rfl
@[simp] theorem eq_exS_69 : exS tb o pr (.sda root p k a) e = (match e.at root with
    | none => none
    | some d => bnd (evPs tb o p d root (e.set root none)) fun acs e => match walkD tb.attr acs d with
      | some (.nd (.dk ks) true xs) => bnd (evM tb o k d root e) fun k e => if sdaOk ks xs k then bnd (evE tb o a e) fun v e =>
        match modD tb.attr (fun x => (sdaD x k v).map fun y => ((), y)) acs d with
        | none => none
        | some (_, d') => some (.val .nx (e.set root (some d')))
        else none
      | _ => none) := by rw [exS] <;> rfl
@[simp] theorem eq_exS_70 : exS tb o pr (.aug i op a) e = (match e.at i with
    | some (.int x) => bnd (evE tb o a e) fun y e => match binD op (.int x) y with
      | some z => nxt (storeT pr (.v i) z e)
      | none => none
    | _ => none) := by rw [exS] <;> rfl
@[simp] theorem eq_exS_71 : exS tb o pr (.ex a) e = (bnd (evE tb o a e) fun _ e => some (.val .nx e)) := by rw [exS] <;> rfl
@[simp] theorem eq_exS_72 : exS tb o pr (.ret a) e = (bnd (evE tb o a e) fun x e => some (.val (.rt x) e)) := by rw [exS] <;> rfl
@[simp] theorem eq_exS_73 : exS tb o pr (.retN) e = (some (.val (.rt .non) e)) := by rw [exS] <;> rfl
@[simp] theorem eq_exS_74 : exS tb o pr (.ite t a b) e = (bnd (evT tb o t e) fun c e => if c then exSs tb o pr a e else exSs tb o pr b e) := by rw [exS] <;> rfl
@[simp] theorem eq_exS_75 : exS tb o pr (.for t it body) e = (bnd (evI tb o it e) fun xs e => loopF (fun x e => storeT pr t x e) (fun e => exSs tb o pr body e) xs e) := by rw [exS] <;> rfl
@[simp] theorem eq_exS_76 : exS tb o pr (.whl t body) e = (loopW (fun e => evT tb o t e) (fun e => exSs tb o pr body e) whileMost e) := by rw [exS] <;> rfl
@[simp] theorem eq_exS_77 : exS tb o pr (.brk) e = (some (.val .bk e)) := by rw [exS] <;> rfl
@[simp] theorem eq_exS_78 : exS tb o pr (.cnt) e = (some (.val .ct e)) := by rw [exS] <;> rfl
@[simp] theorem eq_exS_79 : exS tb o pr (.pas) e = (some (.val .nx e)) := by rw [exS] <;> rfl
@[simp] theorem eq_exS_80 : exS tb o pr (.rse u0 u1) x1 = (none) := by rw [exS] <;> rfl
@[simp] theorem eq_exS_81 : exS tb o pr (.bad) x1 = (none) := by rw [exS] <;> rfl
@[simp] theorem eq_exSs_82 : exSs tb o pr [] e = (some (.val .nx e)) := by rw [exSs] <;> rfl
@[simp] theorem eq_exSs_83 : exSs tb o pr (s :: ss) e = (bnd (exS tb o pr s e) fun f e1 => match f with
    | .nx => exSs tb o pr ss e1
    | f => some (.val f e1)
) := by rw [exSs] <;> rfl
end
end PL
namespace PL
open PySem L2
@[simp] theorem at_zero (x : Option D) (e : Env) : Env.at (x :: e) 0 = x := of_eq_true (eq_self _)
@[simp] theorem at_succ (x : Option D) (e : Env) (n : Nat) : Env.at (x :: e) (n + 1) = Env.at e n := of_eq_true (eq_self _)
@[simp] theorem opt_some {α : Type} (x : α) (e : Env) : opt (some x) e = some (.val x e) := of_eq_true (eq_self _)
@[simp] theorem opt_none {α : Type} (e : Env) : opt (none : Option α) e = none := of_eq_true (eq_self _)
@[simp] theorem nxt_some (e : Env) : nxt (some e) = some (.val .nx e) := of_eq_true (eq_self _)
@[simp] theorem nxt_none : nxt none = none := of_eq_true (eq_self _)
@[simp] theorem storeT_v (i : Nat) (d : D) (e : Env) : storeT [] (.v i) d e = some (e.set i (some d)) := by simp [storeT]
@[simp] theorem storeT_t (pr : List Nat) (ts : List T) (ow : Bool) (xs : List D) (e : Env) : storeT pr (.t ts) (.nd .tup ow xs) e = storeTs pr ts xs e := by simp [storeT]
@[simp] theorem storeT_p (pr : List Nat) (ts : List T) (ow : Bool) (xs : List D) (e : Env) : storeT pr (.t ts) (.nd .pr ow xs) e = storeTs pr ts xs e := by simp [storeT]
@[simp] theorem storeTs_n (pr : List Nat) (e : Env) : storeTs pr [] [] e = some e := by simp [storeTs]
@[simp] theorem storeTs_c (pr : List Nat) (t : T) (ts : List T) (d : D) (ds : List D) (e : Env) : storeTs pr (t :: ts) (d :: ds) e = (storeT pr t d e).bind (storeTs pr ts ds) := by simp [storeTs]
@[simp] theorem loopF_n (tg : D → Env → Option Env) (b : Env → SR) (e : Env) : loopF tg b [] e = some (.val .nx e) := of_eq_true (eq_self _)
@[simp] theorem loopC_n (tg : D → Env → Option Env) (c : Env → R Bool) (b : Env → R D) (own : List Nat) (e : Env) : loopC tg c b own [] e = some ([], e) := of_eq_true (eq_self _)
@[simp] theorem wipe_n (e : Env) : wipeE e [] = e := of_eq_true (eq_self _)
@[simp] theorem wipe_c (e : Env) (v : Nat) (vs : List Nat) : wipeE e (v :: vs) = (wipeE e vs).set v none := of_eq_true (eq_self _)
@[simp] theorem fz_int (i : Int) : (D.int i).fz = true := of_eq_true (eq_self _)
@[simp] theorem fz_bl (i : Bool) : (D.bl i).fz = true := of_eq_true (eq_self _)
@[simp] theorem fz_str (i : Str) : (D.str i).fz = true := of_eq_true (eq_self _)
@[simp] theorem fz_non : (D.non).fz = true := of_eq_true (eq_self _)
@[simp] theorem fz_nd (k : Kd) (ow : Bool) (xs : List D) : (D.nd k ow xs).fz = (!ow && fzL xs) := of_eq_true (eq_self _)
@[simp] theorem fzL_n : fzL [] = true := of_eq_true (eq_self _)
@[simp] theorem fzL_c (x : D) (xs : List D) : fzL (x :: xs) = (x.fz && fzL xs) := of_eq_true (eq_self _)
@[simp] theorem frz_int (i : Int) : (D.int i).frz = .int i := of_eq_true (eq_self _)
@[simp] theorem frz_bl (i : Bool) : (D.bl i).frz = .bl i := of_eq_true (eq_self _)
@[simp] theorem frz_str (i : Str) : (D.str i).frz = .str i := of_eq_true (eq_self _)
@[simp] theorem frz_non : (D.non).frz = .non := of_eq_true (eq_self _)
@[simp] theorem frz_nd (k : Kd) (ow : Bool) (xs : List D) : (D.nd k ow xs).frz = .nd k false (frzL xs) := of_eq_true (eq_self _)
@[simp] theorem frzL_n : frzL [] = [] := of_eq_true (eq_self _)
@[simp] theorem frzL_c (x : D) (xs : List D) : frzL (x :: xs) = x.frz :: frzL xs := of_eq_true (eq_self _)
@[simp] theorem nf_int (i : Int) : (D.int i).nf = true := of_eq_true (eq_self _)
@[simp] theorem nf_bl (i : Bool) : (D.bl i).nf = true := of_eq_true (eq_self _)
@[simp] theorem nf_str (i : Str) : (D.str i).nf = true := of_eq_true (eq_self _)
@[simp] theorem nf_non : (D.non).nf = true := of_eq_true (eq_self _)
@[simp] theorem nf_tup (ow : Bool) (xs : List D) : (D.nd .tup ow xs).nf = nfL xs := of_eq_true (eq_self _)
@[simp] theorem nf_cl (ow : Bool) (xs : List D) : (D.nd .cl ow xs).nf = nfL xs := of_eq_true (eq_self _)
@[simp] theorem nf_lst (ow : Bool) (xs : List D) : (D.nd .lst ow xs).nf = (ow && nfL xs) := of_eq_true (eq_self _)
@[simp] theorem nfL_n : nfL [] = true := of_eq_true (eq_self _)
@[simp] theorem nfL_c (x : D) (xs : List D) : nfL (x :: xs) = (x.nf && nfL xs) := of_eq_true (eq_self _)
@[simp] theorem frzL_ints (l : List Int) : frzL (l.map D.int) = l.map D.int := by
  induction l with
  | nil => rfl
  | cons a l ih => simp [ih]
@[simp] theorem fzL_ints (l : List Int) : fzL (l.map D.int) = true := by
  induction l with
  | nil => rfl
  | cons a l ih => simp [ih]
@[simp] theorem frz_frz (d : D) : d.frz.frz = d.frz := frz_of_fz _ (frz_fz d)
@[simp] theorem frz_fz' (d : D) : d.frz.fz = true := frz_fz d
@[simp] theorem frzL_frzL (d : List D) : frzL (frzL d) = frzL d := frzL_of_fz _ (frzL_fz d)
@[simp] theorem frzL_fz' (d : List D) : fzL (frzL d) = true := frzL_fz d
@[simp] theorem frzL_app (a b : List D) : frzL (a ++ b) = frzL a ++ frzL b := frzL_append a b
@[simp] theorem fzL_app (a b : List D) : fzL (a ++ b) = (fzL a && fzL b) := fzL_append a b
@[simp] theorem viewOut_val (d : D) (e' e : Env) : viewOut (some (.val d e')) e = if d.nf then some (.val d e) else none := of_eq_true (eq_self _)
@[simp] theorem viewEnv_n (is : List Nat) (k : Nat) : viewEnv is k [] = [] := of_eq_true (eq_self _)
@[simp] theorem viewEnv_c (is : List Nat) (k : Nat) (x : Option D) (e : Env) : viewEnv is k (x :: e) = (if is.contains k then x.map D.frz else none) :: viewEnv is (k + 1) e := of_eq_true (eq_self _)
@[simp] theorem intsD_map (l : List Int) : intsD (l.map D.int) = some l := by
  induction l with
  | nil => rfl
  | cons a l ih => simp [intsD, ih]
theorem loopF_turn {tg : D → Env → Option Env} {b : Env → SR} {x : D} {xs : List D} {e e1 e2 : Env} (h1 : tg x e = some e1) (h2 : b e1 = some (.val .nx e2)) : loopF tg b (x :: xs) e = loopF tg b xs e2 := by simp only [loopF, h1, h2, bnd_val]
theorem loopF_ret {tg : D → Env → Option Env} {b : Env → SR} {x d : D} {xs : List D} {e e1 e2 : Env} (h1 : tg x e = some e1) (h2 : b e1 = some (.val (.rt d) e2)) : loopF tg b (x :: xs) e = some (.val (.rt d) e2) := by simp only [loopF, h1, h2, bnd_val]
theorem loopC_yes {tg : D → Env → Option Env} {c : Env → R Bool} {b : Env → R D} {own : List Nat} {x d : D} {xs : List D} {e e1 e2 e3 : Env} (h1 : tg x e = some e1) (h2 : c e1 = some (.val true e2)) (h3 : b e2 = some (.val d e3)) : loopC tg c b own (x :: xs) e = (loopC tg c b own xs (wipeE e3 own)).map fun (ds, e4) => (d :: ds, e4) := by simp only [loopC, h1, h2, h3]
theorem loopC_no {tg : D → Env → Option Env} {c : Env → R Bool} {b : Env → R D} {own : List Nat} {x : D} {xs : List D} {e e1 e2 : Env} (h1 : tg x e = some e1) (h2 : c e1 = some (.val false e2)) : loopC tg c b own (x :: xs) e = loopC tg c b own xs (wipeE e2 own) := by simp only [loopC, h1, h2]
theorem call_succ (tb : Tab) (k f : Nat) (ds : List D) : callF tb (k + 1) f ds = runFn tb (callF tb k) f ds := rfl
section
set_option autoImplicit true
set_option relaxedAutoImplicit true
@[simp] theorem op_truth_1 : truth .non = (some false) := by first | exact of_eq_true (eq_self _) | simp only [truth] | (cases a <;> rfl)
@[simp] theorem op_truth_2 : truth (.bl b) = (some b) := by first | exact of_eq_true (eq_self _) | simp only [truth] | (cases a <;> rfl)
@[simp] theorem op_truth_3 : truth (.int i) = (some (i != 0)) := by first | exact of_eq_true (eq_self _) | simp only [truth] | (cases a <;> rfl)
@[simp] theorem op_truth_4 : truth (.str x) = (if x.length ≤ sizeLine then some (x.length != 0) else none) := by first | exact of_eq_true (eq_self _) | simp only [truth] | (cases a <;> rfl)
@[simp] theorem op_truth_5 : truth (.nd .tup u0 xs) = (some (!xs.isEmpty)) := by first | exact of_eq_true (eq_self _) | simp only [truth] | (cases a <;> rfl)
@[simp] theorem op_truth_6 : truth (.nd .lst u0 xs) = (some (!xs.isEmpty)) := by first | exact of_eq_true (eq_self _) | simp only [truth] | (cases a <;> rfl)
@[simp] theorem op_truth_7 : truth (.nd .cl u0 xs) = (some (!xs.isEmpty)) := by first | exact of_eq_true (eq_self _) | simp only [truth] | (cases a <;> rfl)
@[simp] theorem op_truth_8 : truth (.nd (.dk ks) u0 u1) = (some (!ks.isEmpty)) := by first | exact of_eq_true (eq_self _) | simp only [truth] | (cases a <;> rfl)
@[simp] theorem op_D_key_9 : D.key (.int i) = (some (.inl i)) := by first | exact of_eq_true (eq_self _) | simp only [D.key] | (cases a <;> rfl)
@[simp] theorem op_D_key_10 : D.key (.str x) = (some (.inr x)) := by first | exact of_eq_true (eq_self _) | simp only [D.key] | (cases a <;> rfl)
@[simp] theorem op_unD_11 : unD .neg (.int i) = (some (.int (-i))) := by first | exact of_eq_true (eq_self _) | simp only [unD] | (cases a <;> rfl)
@[simp] theorem op_unD_12 : unD .not (.bl b) = (some (.bl (!b))) := by first | exact of_eq_true (eq_self _) | simp only [unD] | (cases a <;> rfl)
@[simp] theorem op_binD_13 : binD .add (.int i) (.int j) = (some (.int (i + j))) := by first | exact of_eq_true (eq_self _) | simp only [binD] | (cases a <;> rfl)
@[simp] theorem op_binD_14 : binD .sub (.int i) (.int j) = (some (.int (i - j))) := by first | exact of_eq_true (eq_self _) | simp only [binD] | (cases a <;> rfl)
@[simp] theorem op_binD_15 : binD .mul (.int i) (.int j) = (if mulOk i j then some (.int (i * j)) else none) := by first | exact of_eq_true (eq_self _) | simp only [binD] | (cases a <;> rfl)
@[simp] theorem op_binD_16 : binD .fdiv (.int i) (.int j) = (if 0 < j ∧ j < 1073741824 then some (.int (i / j)) else none) := by first | exact of_eq_true (eq_self _) | simp only [binD] | (cases a <;> rfl)
@[simp] theorem op_binD_17 : binD .mod (.int i) (.int j) = (if 0 < j then some (.int (i % j)) else none) := by first | exact of_eq_true (eq_self _) | simp only [binD] | (cases a <;> rfl)
@[simp] theorem op_binD_18 : binD .pow (.int i) (.int j) = (if 0 ≤ j ∧ j ≤ 1000000 ∧ i.natAbs < 2 ^ 64 then some (.int (i ^ j.toNat)) else none) := by first | exact of_eq_true (eq_self _) | simp only [binD] | (cases a <;> rfl)
@[simp] theorem op_binD_19 : binD .add (.str x) (.str y) = (if x.length + y.length ≤ sizeLine then some (.str (x ++ y)) else none) := by first | exact of_eq_true (eq_self _) | simp only [binD] | (cases a <;> rfl)
@[simp] theorem op_binD_20 : binD .add (.nd .lst u0 xs) (.nd .lst u1 ys) = (if xs.length + ys.length ≤ sizeLine then some (.nd .lst true (xs ++ ys)) else none) := by first | exact of_eq_true (eq_self _) | simp only [binD] | (cases a <;> rfl)
@[simp] theorem op_binD_21 : binD .add (.nd .tup u0 xs) (.nd .tup u1 ys) = (if xs.length + ys.length ≤ sizeLine then some (.nd .tup false (xs ++ ys)) else none) := by first | exact of_eq_true (eq_self _) | simp only [binD] | (cases a <;> rfl)
@[simp] theorem op_binD_22 : binD .mul (.nd .tup u0 xs) (.int k) = (if fzL xs = true ∧ xs.isEmpty = false ∧ -(2 ^ 63) ≤ k ∧ k ≤ 1000 ∧ xs.length ≤ 1000 then some (.nd .tup false (List.replicate k.toNat xs).flatten) else none) := by first | exact of_eq_true (eq_self _) | simp only [binD] | (cases a <;> rfl)
@[simp] theorem op_binD_23 : binD .mul (.nd .lst u0 xs) (.int k) = (if fzL xs = true ∧ -(2 ^ 63) ≤ k ∧ k < 2 ^ 63 ∧ xs.length * k.toNat ≤ sizeLine then some (.nd .lst true (List.replicate k.toNat xs).flatten) else none) := by first | exact of_eq_true (eq_self _) | simp only [binD] | (cases a <;> rfl)
@[simp] theorem op_cmpD_24 : cmpD .lt (.int i) (.int j) = (some (decide (i < j))) := by first | exact of_eq_true (eq_self _) | simp only [cmpD] | (cases a <;> rfl)
@[simp] theorem op_cmpD_25 : cmpD .le (.int i) (.int j) = (some (decide (i ≤ j))) := by first | exact of_eq_true (eq_self _) | simp only [cmpD] | (cases a <;> rfl)
@[simp] theorem op_cmpD_26 : cmpD .gt (.int i) (.int j) = (some (decide (j < i))) := by first | exact of_eq_true (eq_self _) | simp only [cmpD] | (cases a <;> rfl)
@[simp] theorem op_cmpD_27 : cmpD .ge (.int i) (.int j) = (some (decide (j ≤ i))) := by first | exact of_eq_true (eq_self _) | simp only [cmpD] | (cases a <;> rfl)
@[simp] theorem op_cmpD_28 : cmpD .eq a b = (eqD a b) := by first | exact of_eq_true (eq_self _) | simp only [cmpD] | (cases a <;> rfl)
@[simp] theorem op_cmpD_29 : cmpD .ne a b = ((eqD a b).map (!·)) := by first | exact of_eq_true (eq_self _) | simp only [cmpD] | (cases a <;> rfl)
@[simp] theorem op_cmpD_30 : cmpD .isN a .non = (some a.isN) := by first | exact of_eq_true (eq_self _) | simp only [cmpD] | (cases a <;> rfl)
@[simp] theorem op_cmpD_31 : cmpD .notN a .non = (some (!a.isN)) := by first | exact of_eq_true (eq_self _) | simp only [cmpD] | (cases a <;> rfl)
@[simp] theorem op_cmpD_32 : cmpD .isB (.bl b) (.bl c) = (some (decide (b = c))) := by first | exact of_eq_true (eq_self _) | simp only [cmpD] | (cases a <;> rfl)
@[simp] theorem op_cmpD_33 : cmpD .notB (.bl b) (.bl c) = (some (!decide (b = c))) := by first | exact of_eq_true (eq_self _) | simp only [cmpD] | (cases a <;> rfl)
@[simp] theorem op_cmpD_34 : cmpD .isin a b = (inD a b) := by first | exact of_eq_true (eq_self _) | simp only [cmpD] | (cases a <;> rfl)
@[simp] theorem op_cmpD_35 : cmpD .notin a b = ((inD a b).map (!·)) := by first | exact of_eq_true (eq_self _) | simp only [cmpD] | (cases a <;> rfl)
@[simp] theorem op_subD_36 : subD (.nd .tup u0 xs) (.int i) = (atI xs i) := by first | exact of_eq_true (eq_self _) | simp only [subD] | (cases a <;> rfl)
@[simp] theorem op_subD_37 : subD (.nd .lst u0 xs) (.int i) = (atI xs i) := by first | exact of_eq_true (eq_self _) | simp only [subD] | (cases a <;> rfl)
@[simp] theorem op_subD_38 : subD (.nd .cl u0 xs) (.int i) = (atI xs i) := by first | exact of_eq_true (eq_self _) | simp only [subD] | (cases a <;> rfl)
@[simp] theorem op_subD_39 : subD (.nd (.dk ks) u0 xs) d = (d.key.bind (lookD ks xs)) := by first | exact of_eq_true (eq_self _) | simp only [subD] | (cases a <;> rfl)
@[simp] theorem op_subD_40 : subD (.nd (.dt ks) u0 xs) d = (d.tkey.bind (lookD ks xs)) := by first | exact of_eq_true (eq_self _) | simp only [subD] | (cases a <;> rfl)
@[simp] theorem op_cutOf_41 : cutOf (.nd .lst u0 xs) l h = (some (.nd .lst true (cutD xs l h))) := by first | exact of_eq_true (eq_self _) | simp only [cutOf] | (cases a <;> rfl)
@[simp] theorem op_cutOf_42 : cutOf (.nd .cl u0 xs) l h = (some (.nd .lst true (cutD xs l h))) := by first | exact of_eq_true (eq_self _) | simp only [cutOf] | (cases a <;> rfl)
@[simp] theorem op_cutOf_43 : cutOf (.nd .tup u0 xs) l h = (some (.nd .tup false (cutD xs l h))) := by first | exact of_eq_true (eq_self _) | simp only [cutOf] | (cases a <;> rfl)
@[simp] theorem op_seqD_44 : seqD (.nd .tup u0 xs) = (some xs) := by first | exact of_eq_true (eq_self _) | simp only [seqD] | (cases a <;> rfl)
@[simp] theorem op_seqD_45 : seqD (.nd .lst u0 xs) = (some xs) := by first | exact of_eq_true (eq_self _) | simp only [seqD] | (cases a <;> rfl)
@[simp] theorem op_seqD_46 : seqD (.nd .cl u0 xs) = (some xs) := by first | exact of_eq_true (eq_self _) | simp only [seqD] | (cases a <;> rfl)
@[simp] theorem op_cstD_47 : cstD (.nd .lst true xs) = (if fzL xs then some (.nd .cl false xs) else none) := by first | exact of_eq_true (eq_self _) | simp only [cstD] | (cases a <;> rfl)
@[simp] theorem op_isLst_48 : isLst (.nd .lst u0 u1) = (true) := by first | exact of_eq_true (eq_self _) | simp only [isLst] | (cases a <;> rfl)
@[simp] theorem op_isLst_49 : isLst (.nd .cl u0 u1) = (true) := by first | exact of_eq_true (eq_self _) | simp only [isLst] | (cases a <;> rfl)
@[simp] theorem op_biD_50 : biD .len (.nd .tup u0 xs) = (some (.int xs.length)) := by first | exact of_eq_true (eq_self _) | simp only [biD] | (cases a <;> rfl)
@[simp] theorem op_biD_51 : biD .len (.nd .lst u0 xs) = (some (.int xs.length)) := by first | exact of_eq_true (eq_self _) | simp only [biD] | (cases a <;> rfl)
@[simp] theorem op_biD_52 : biD .len (.nd .cl u0 xs) = (some (.int xs.length)) := by first | exact of_eq_true (eq_self _) | simp only [biD] | (cases a <;> rfl)
@[simp] theorem op_biD_53 : biD .len (.nd (.dk ks) u0 u1) = (some (.int ks.length)) := by first | exact of_eq_true (eq_self _) | simp only [biD] | (cases a <;> rfl)
@[simp] theorem op_biD_54 : biD .len (.nd (.dt ks) u0 u1) = (some (.int ks.length)) := by first | exact of_eq_true (eq_self _) | simp only [biD] | (cases a <;> rfl)
@[simp] theorem op_biD_55 : biD .len (.str x) = (if x.length ≤ sizeLine then some (.int x.length) else none) := by first | exact of_eq_true (eq_self _) | simp only [biD] | (cases a <;> rfl)
@[simp] theorem op_biD_56 : biD .int (.int i) = (some (.int i)) := by first | exact of_eq_true (eq_self _) | simp only [biD] | (cases a <;> rfl)
@[simp] theorem op_biD_57 : biD .int (.bl b) = (some (.int (if b then 1 else 0))) := by first | exact of_eq_true (eq_self _) | simp only [biD] | (cases a <;> rfl)
@[simp] theorem op_biD_58 : biD .abs (.int i) = (some (.int (if i < 0 then -i else i))) := by first | exact of_eq_true (eq_self _) | simp only [biD] | (cases a <;> rfl)
@[simp] theorem op_biD_59 : biD .list (.nd .tup u0 xs) = (some (.nd .lst true xs)) := by first | exact of_eq_true (eq_self _) | simp only [biD] | (cases a <;> rfl)
@[simp] theorem op_biD_60 : biD .list (.nd .lst u0 xs) = (some (.nd .lst true xs)) := by first | exact of_eq_true (eq_self _) | simp only [biD] | (cases a <;> rfl)
@[simp] theorem op_biD_61 : biD .list (.nd .cl u0 xs) = (some (.nd .lst true xs)) := by first | exact of_eq_true (eq_self _) | simp only [biD] | (cases a <;> rfl)
@[simp] theorem op_biD_62 : biD .tuple (.nd .lst u0 xs) = (some (.nd .tup false xs)) := by first | exact of_eq_true (eq_self _) | simp only [biD] | (cases a <;> rfl)
@[simp] theorem op_biD_63 : biD .tuple (.nd .cl u0 xs) = (some (.nd .tup false xs)) := by first | exact of_eq_true (eq_self _) | simp only [biD] | (cases a <;> rfl)
@[simp] theorem op_biD_64 : biD .tuple (.nd .tup u0 xs) = (some (.nd .tup false xs)) := by first | exact of_eq_true (eq_self _) | simp only [biD] | (cases a <;> rfl)
@[simp] theorem op_biD_65 : biD .sorted (.nd .lst u0 xs) = (match intsD xs with
    | some l => if l.length ≤ sizeLine then some (.nd .lst true ((sortI l).map .int)) else none
    | none => (nkeyL xs).bind fun ks => if sortOk ks then some (.nd .lst true (keyNL (sortN ks))) else none) := by first | exact of_eq_true (eq_self _) | simp only [biD] | (cases a <;> rfl)
@[simp] theorem op_biD_66 : biD .sorted (.nd (.dt ks) u0 u1) = (if sortOk ks then some (.nd .lst true (keyNL (sortN ks))) else none) := by first | exact of_eq_true (eq_self _) | simp only [biD] | (cases a <;> rfl)
@[simp] theorem op_biD_67 : biD .sorted (.nd (.dk ks) u0 u1) = ((intsD (ks.map keyD)).bind fun l => if l.length < 64 then some (.nd .lst true ((sortI l).map .int)) else none) := by first | exact of_eq_true (eq_self _) | simp only [biD] | (cases a <;> rfl)
@[simp] theorem op_biD_68 : biD .list (.nd (.dk ks) u0 u1) = (some (.nd .lst true (ks.map keyD))) := by first | exact of_eq_true (eq_self _) | simp only [biD] | (cases a <;> rfl)
@[simp] theorem op_biD_69 : biD .list (.nd (.dt ks) u0 u1) = (some (.nd .lst true (keyNL ks))) := by first | exact of_eq_true (eq_self _) | simp only [biD] | (cases a <;> rfl)
@[simp] theorem op_biD_70 : biD .sum (.nd .lst u0 xs) = ((intsD xs).map fun l => .int l.sum) := by first | exact of_eq_true (eq_self _) | simp only [biD] | (cases a <;> rfl)
@[simp] theorem op_biD_71 : biD .sum (.nd .tup u0 xs) = ((intsD xs).map fun l => .int l.sum) := by first | exact of_eq_true (eq_self _) | simp only [biD] | (cases a <;> rfl)
@[simp] theorem op_biD_72 : biD .min (.nd .lst u0 xs) = ((intsD xs).bind fun l => if l.isEmpty then none else some (.int (leastI l))) := by first | exact of_eq_true (eq_self _) | simp only [biD] | (cases a <;> rfl)
@[simp] theorem op_biD_73 : biD .max (.nd .lst u0 xs) = ((intsD xs).bind fun l => if l.isEmpty then none else some (.int (mostI l))) := by first | exact of_eq_true (eq_self _) | simp only [biD] | (cases a <;> rfl)
@[simp] theorem op_biD_74 : biD .all (.nd .lst u0 xs) = ((blsD xs).map fun l => .bl (l.all id)) := by first | exact of_eq_true (eq_self _) | simp only [biD] | (cases a <;> rfl)
@[simp] theorem op_biD_75 : biD .any (.nd .lst u0 xs) = ((blsD xs).map fun l => .bl (l.any id)) := by first | exact of_eq_true (eq_self _) | simp only [biD] | (cases a <;> rfl)
@[simp] theorem op_tyD_76 : tyD .non = (some .none) := by first | exact of_eq_true (eq_self _) | simp only [tyD] | (cases a <;> rfl)
@[simp] theorem op_tyD_77 : tyD (.bl u0) = (some .bool) := by first | exact of_eq_true (eq_self _) | simp only [tyD] | (cases a <;> rfl)
@[simp] theorem op_tyD_78 : tyD (.int u0) = (some .int) := by first | exact of_eq_true (eq_self _) | simp only [tyD] | (cases a <;> rfl)
@[simp] theorem op_tyD_79 : tyD (.str u0) = (some .str) := by first | exact of_eq_true (eq_self _) | simp only [tyD] | (cases a <;> rfl)
@[simp] theorem op_tyD_80 : tyD (.nd .tup u0 u1) = (some .tuple) := by first | exact of_eq_true (eq_self _) | simp only [tyD] | (cases a <;> rfl)
@[simp] theorem op_tyD_81 : tyD (.nd .lst u0 u1) = (some .list) := by first | exact of_eq_true (eq_self _) | simp only [tyD] | (cases a <;> rfl)
@[simp] theorem op_tyD_82 : tyD (.nd .cl u0 u1) = (some .list) := by first | exact of_eq_true (eq_self _) | simp only [tyD] | (cases a <;> rfl)
@[simp] theorem op_tyD_83 : tyD (.nd (.dk u0) u1 u2) = (some .dict) := by first | exact of_eq_true (eq_self _) | simp only [tyD] | (cases a <;> rfl)
@[simp] theorem op_isT_84 : isT .bool .int = (some true) := by first | exact of_eq_true (eq_self _) | simp only [isT] | (cases a <;> rfl)
@[simp] theorem op_okB_85 : okB .get (.nd (.dk u0) u1 u2) = (true) := by first | exact of_eq_true (eq_self _) | simp only [okB] | (cases a <;> rfl)
@[simp] theorem op_okB_86 : okB .get2 (.nd (.dk u0) u1 u2) = (true) := by first | exact of_eq_true (eq_self _) | simp only [okB] | (cases a <;> rfl)
@[simp] theorem op_okB_87 : okB .get (.nd (.dt u0) u1 u2) = (true) := by first | exact of_eq_true (eq_self _) | simp only [okB] | (cases a <;> rfl)
@[simp] theorem op_okB_88 : okB .get2 (.nd (.dt u0) u1 u2) = (true) := by first | exact of_eq_true (eq_self _) | simp only [okB] | (cases a <;> rfl)
@[simp] theorem op_okB_89 : okB .count (.nd .tup u0 u1) = (true) := by first | exact of_eq_true (eq_self _) | simp only [okB] | (cases a <;> rfl)
@[simp] theorem op_bmD_90 : bmD .get (.nd (.dk ks) u0 xs) [k] = (k.key.map fun k => (lookD ks xs k).getD .non) := by first | exact of_eq_true (eq_self _) | simp only [bmD] | (cases a <;> rfl)
@[simp] theorem op_bmD_91 : bmD .get2 (.nd (.dk ks) u0 xs) ([k, d]) = (k.key.map fun k => (lookD ks xs k).getD d) := by first | exact of_eq_true (eq_self _) | simp only [bmD] | (cases a <;> rfl)
@[simp] theorem op_bmD_92 : bmD .get (.nd (.dt ks) u0 xs) [k] = (k.tkey.map fun k => (lookD ks xs k).getD .non) := by first | exact of_eq_true (eq_self _) | simp only [bmD] | (cases a <;> rfl)
@[simp] theorem op_bmD_93 : bmD .get2 (.nd (.dt ks) u0 xs) ([k, d]) = (k.tkey.map fun k => (lookD ks xs k).getD d) := by first | exact of_eq_true (eq_self _) | simp only [bmD] | (cases a <;> rfl)
@[simp] theorem op_bmD_94 : bmD .count (.nd .tup u0 xs) ([.int i]) = ((intsD xs).map fun l => .int (l.count i : Nat)) := by first | exact of_eq_true (eq_self _) | simp only [bmD] | (cases a <;> rfl)
@[simp] theorem op_muD_95 : muD .append (.nd .lst true xs) [y] = (if xs.length < sizeLine then some (.non, .nd .lst true (xs ++ [y])) else none) := by first | exact of_eq_true (eq_self _) | simp only [muD] | (cases a <;> rfl)
@[simp] theorem op_muD_96 : muD .pop (.nd .lst true xs) [] = ((xs[xs.length - 1]?).map fun y => (y, .nd .lst true xs.dropLast)) := by first | exact of_eq_true (eq_self _) | simp only [muD] | (cases a <;> rfl)
@[simp] theorem op_muD_97 : muD .reverse (.nd .lst true xs) [] = (some (.non, .nd .lst true xs.reverse)) := by first | exact of_eq_true (eq_self _) | simp only [muD] | (cases a <;> rfl)
@[simp] theorem op_muD_98 : muD .clear (.nd .lst true u0) [] = (some (.non, .nd .lst true [])) := by first | exact of_eq_true (eq_self _) | simp only [muD] | (cases a <;> rfl)
@[simp] theorem op_muD_99 : muD .extend (.nd .lst true xs) ([.nd .lst u0 ys]) = (if xs.length + ys.length ≤ sizeLine then some (.non, .nd .lst true (xs ++ ys)) else none) := by first | exact of_eq_true (eq_self _) | simp only [muD] | (cases a <;> rfl)
@[simp] theorem op_setD_100 : setD (.nd .lst true xs) (.int i) v = ((ixN xs.length i).map fun j => .nd .lst true (xs.set j v)) := by first | exact of_eq_true (eq_self _) | simp only [setD] | (cases a <;> rfl)
@[simp] theorem op_inD_105 : inD a (.nd .lst u0 xs) = (inPy a.py (pyL xs)) := by first | exact of_eq_true (eq_self _) | simp only [inD] | (cases a <;> rfl)
@[simp] theorem op_inD_106 : inD a (.nd .cl u0 xs) = (inPy a.py (pyL xs)) := by first | exact of_eq_true (eq_self _) | simp only [inD] | (cases a <;> rfl)
@[simp] theorem op_inD_107 : inD (.int i) (.nd .tup u0 xs) = ((intsD xs).map fun l => l.any fun z => decide (z = i)) := by first | exact of_eq_true (eq_self _) | simp only [inD] | (cases a <;> rfl)
@[simp] theorem op_inD_108 : inD a (.nd (.dt ks) u0 u1) = (a.tkey.map fun k => hasK ks k) := by first | exact of_eq_true (eq_self _) | simp only [inD] | (cases a <;> rfl)
@[simp] theorem op_inD_109 : inD (.str x) (.nd .tup u0 xs) = ((strsD xs).map fun l => l.any fun z => decide (z = x)) := by first | exact of_eq_true (eq_self _) | simp only [inD] | (cases a <;> rfl)
@[simp] theorem op_partE_110 : partE .nop u0 = (some none) := by first | exact of_eq_true (eq_self _) | simp only [partE] | (cases a <;> rfl)
end
section
variable {at' : Nat → Str → Bool}
@[simp] theorem bi2D_int (mx : Bool) (i j : Int) : bi2D mx (.int i) (.int j) = some (.int (if mx then (if j > i then j else i) else (if j < i then j else i))) := of_eq_true (eq_self _)
@[simp] theorem modD_n {α : Type} (f : D → Option (α × D)) (d : D) : modD at' f [] d = f d := of_eq_true (eq_self _)
@[simp] theorem walkD_n (d : D) : walkD at' [] d = some d := of_eq_true (eq_self _)
theorem eqD_int (i j : Int) : eqD (.int i) (.int j) = some (decide (i = j)) := by
  simp only [eqD, D.py, PyData.eqv]
  rw [if_pos ⟨rfl, rfl⟩]
  by_cases c : i = j <;> simp [c]
@[simp] theorem mulOk_l (i j : Int) (h : -(2 ^ 64) < i ∧ i < 2 ^ 64) : mulOk i j = true := by simp [mulOk]; omega
@[simp] theorem mulOk_r (i j : Int) (h : -(2 ^ 64) < j ∧ j < 2 ^ 64) : mulOk i j = true := by simp [mulOk]; omega
end
end PL

/-! PL.Kit: data of laws: pairs of ints, dicts by ints. -/
namespace PL
open PySem L2
theorem small (n : Nat) (h : n ≤ 1000) : n < sizeLine := Nat.lt_of_le_of_lt h (by decide)
@[simp] theorem sz_le {n : Nat} (h : n ≤ 1000) : n ≤ sizeLine := Nat.le_of_lt (small n h)
@[simp] theorem sz_lt {n : Nat} (h : n ≤ 1000) : n < sizeLine := small n h
@[simp] theorem isLst_tup (o : Bool) (xs : List D) : isLst (.nd .tup o xs) = false := of_eq_true (eq_self _)
abbrev iL (l : List Int) : List D := l.map D.int
abbrev pD (p : Int × Int) : D := .nd .tup false [.int p.1, .int p.2]
section
variable {β : Type}
def lk : List (Int × β) → Int → Option β
  | [], _ => none
  | p :: l, k => if p.1 = k then some p.2 else lk l k
def pt : List (Int × β) → Int → β → List (Int × β)
  | [], k, v => [(k, v)]
  | p :: l, k, v => if p.1 = k then (p.1, v) :: l else p :: pt l k v
def kD (l : List (Int × β)) : List Key := l.map fun p => Sum.inl p.1
def vD (f : β → D) (l : List (Int × β)) : List D := l.map fun p => f p.2
@[simp] theorem kD_len (l : List (Int × β)) : (kD l).length = l.length := by simp [kD]
@[simp] theorem vD_len (f : β → D) (l : List (Int × β)) : (vD f l).length = l.length := by simp [vD]
@[simp] theorem lookD_k (f : β → D) : ∀ (l : List (Int × β)) (k : Int), lookD (kD l) (vD f l) (.inl k) = (lk l k).map f
  | [], k => rfl
  | p :: l, k => by
    have ih := lookD_k f l k
    simp only [kD, vD] at ih
    simp only [kD, vD, List.map_cons, lookD, lk, Sum.inl.injEq, ih]
    split <;> rfl
@[simp] theorem hasK_k : ∀ (l : List (Int × β)) (k : Int), hasK (kD l) (.inl k) = (lk l k).isSome
  | [], k => rfl
  | p :: l, k => by
    have ih := hasK_k l k
    simp only [kD, hasK] at ih
    simp only [kD, hasK, List.map_cons, List.any_cons, lk, Sum.inl.injEq, ih]
    by_cases c : p.1 = k <;> simp [c]
@[simp] theorem putD_k (f : β → D) : ∀ (l : List (Int × β)) (k : Int) (v : β), putD (kD l) (vD f l) (.inl k) (f v) = (kD (pt l k v), vD f (pt l k v))
  | [], k, v => rfl
  | p :: l, k, v => by
    have ih := putD_k f l k v
    simp only [kD, vD] at ih
    simp only [kD, vD, List.map_cons, putD, pt, Sum.inl.injEq, ih]
    by_cases c : p.1 = k <;> simp [c]
theorem kD_frz (f g : β → D) (h : ∀ v, (f v).frz = g v) : ∀ l : List (Int × β), frzL (vD f l) = vD g l
  | [] => rfl
  | p :: l => by
    have ih := kD_frz f g h l
    simp only [vD] at ih
    simp only [vD, List.map_cons, frzL, h, ih]
theorem lk_pt (l : List (Int × β)) (k j : Int) (v : β) : lk (pt l k v) j = if j = k then some v else lk l j := by
  induction l with
  | nil =>
    simp only [pt, lk]
    by_cases c : j = k
    · simp [c]
    · rw [if_neg (fun z => c z.symm), if_neg c]
  | cons p l ih =>
    simp only [pt]
    by_cases c : p.1 = k
    · rw [if_pos c]
      simp only [lk]
      by_cases d : j = k
      · simp [d, c]
      · rw [if_neg (fun z => d (z.symm.trans c)), if_neg d, if_neg (fun z => d (z.symm.trans c))]
    · rw [if_neg c]
      simp only [lk, ih]
      by_cases d : p.1 = j
      · rw [if_pos d, if_pos d, if_neg (fun z => c (d.trans z))]
      · rw [if_neg d, if_neg d]
theorem pt_new {l : List (Int × β)} {k : Int} (v : β) (h : lk l k = none) : pt l k v = l ++ [(k, v)] := by
  induction l with
  | nil => rfl
  | cons p l ih =>
    simp only [lk] at h
    by_cases c : p.1 = k
    · rw [if_pos c] at h; cases h
    · rw [if_neg c] at h
      simp only [pt, if_neg c, ih h, List.cons_append]
theorem pt_len_le (l : List (Int × β)) (k : Int) (v : β) : (pt l k v).length ≤ l.length + 1 := by
  induction l with
  | nil => simp [pt]
  | cons p l ih =>
    simp only [pt]
    split
    · simp
    · simp; omega
theorem lk_none {l : List (Int × β)} {k : Int} : lk l k = none ↔ k ∉ l.map (·.1) := by
  induction l with
  | nil => simp [lk]
  | cons p l ih =>
    simp only [lk, List.map_cons, List.mem_cons, not_or]
    by_cases c : p.1 = k
    · simp [c]
    · rw [if_neg c, ih]; simp [show ¬ k = p.1 from fun z => c z.symm]
theorem lk_some_mem {l : List (Int × β)} {k : Int} {v : β} (h : lk l k = some v) : (k, v) ∈ l := by
  induction l with
  | nil => simp [lk] at h
  | cons p l ih =>
    simp only [lk] at h
    by_cases c : p.1 = k
    · rw [if_pos c] at h; cases h; rw [← c]; exact List.mem_cons_self
    · rw [if_neg c] at h; exact List.mem_cons_of_mem _ (ih h)
end
@[simp] theorem atI_neg1 {α : Type} (l : List α) (x : α) : atI (l ++ [x]) (-1) = some x := by
  unfold atI ixN
  simp only [List.length_append, List.length_singleton, show ¬ (0 : Int) ≤ -1 by omega, if_false]
  rw [if_pos (by omega)]
  simp only [Option.bind_some]
  rw [show ((-1 : Int) + ((l.length + 1 : Nat) : Int)).toNat = l.length by omega]
  simp
theorem atI_nat {α : Type} (l : List α) (i : Nat) : atI l (i : Int) = l[i]? := by
  unfold atI ixN
  by_cases c : (i : Int) < l.length
  · simp [c]
  · have : l.length ≤ i := by omega
    simp [c, this]
@[simp] theorem frzL_pD (l : List (Int × Int)) : frzL (l.map pD) = l.map pD := by
  induction l with
  | nil => rfl
  | cons p l ih => simp [ih]
@[simp] theorem fzL_pD (l : List (Int × Int)) : fzL (l.map pD) = true := by
  induction l with
  | nil => rfl
  | cons p l ih => simp [ih]
section
variable {tb : Tab} {o : Orc} {f : Nat} {fn : Fn} {e : Env} {a b c r : D}
theorem call1 (h : tb.fns[f]? = some fn) (hio : fn.io = []) (ho : o f [a.frz] = some (.val r [])) : runCall tb o f [.d a] e = some (.val r e) := by
  simp [runCall, takeArgs, ioOf, putBack, h, hio, ho]
theorem call2 (h : tb.fns[f]? = some fn) (hio : fn.io = []) (ho : o f [a.frz, b.frz] = some (.val r [])) : runCall tb o f [.d a, .d b] e = some (.val r e) := by
  simp [runCall, takeArgs, ioOf, putBack, h, hio, ho]
theorem call3 (h : tb.fns[f]? = some fn) (hio : fn.io = []) (ho : o f [a.frz, b.frz, c.frz] = some (.val r [])) : runCall tb o f [.d a, .d b, .d c] e = some (.val r e) := by
  simp [runCall, takeArgs, ioOf, putBack, h, hio, ho]
end
@[simp] theorem inD_dk (i : Int) (ks : List Key) (ow : Bool) (xs : List D) : inD (.int i) (.nd (.dk ks) ow xs) = some (hasK ks (.inl i)) := by simp only [inD, inDk, D.key]
theorem setD_k {β : Type} (f : β → D) (l : List (Int × β)) (k : Int) (v : β) (h : l.length ≤ 1000) : setD (.nd (.dk (kD l)) true (vD f l)) (.int k) (f v) = some (.nd (.dk (kD (pt l k v))) true (vD f (pt l k v))) := by
  simp only [setD, D.key, Option.bind_some, kD_len, small _ h, if_true, putD_k]
/-- a def that answers; the frame env is the parameters, then nothing -/
theorem run_rt {tb : Tab} {o : Orc} {f : Nat} {fn : Fn} {ds : List D} {env e : Env} {d : D} (h : tb.fns[f]? = some fn) (hl : ds.length = fn.np) (hio : fn.io = []) (he : ds.map some ++ List.replicate (fn.nl - fn.np) none = env) (hx : exSs tb o [] fn.body env = some (.val (.rt d) e)) : runFn tb o f ds = some (.val d []) := by
  subst he
  simp only [runFn, h, hl, if_true, hio, hx, finals, Option.map_some]
@[simp] theorem atI_2_0 {α : Type} (a b : α) : atI [a, b] 0 = some a := of_eq_true (eq_self _)
@[simp] theorem atI_2_1 {α : Type} (a b : α) : atI [a, b] 1 = some b := of_eq_true (eq_self _)
theorem atI_ints (l : List Int) (i : Nat) (h : i < l.length) : atI (iL l) (i : Int) = some (.int l[i]) := by
  rw [atI_nat]
  simp [iL, h]
end PL

/-! PL.Kit2: loops by what they have done; dicts as sets; tuples of ints as keys. -/
namespace PL
open PySem L2
/-- a for loop: E by the items done -/
theorem loopF_pre {α : Type} {tg : D → PL.Env → Option PL.Env} {b : PL.Env → SR} (d : α → D) (E : List α → PL.Env → Prop) : ∀ (xs pre : List α) (e : PL.Env), E pre e →
    (∀ p x q, pre ++ xs = p ++ x :: q → ∀ e, E p e → ∃ e1 e2, tg (d x) e = some e1 ∧ (b e1 = some (.val .nx e2) ∨ b e1 = some (.val .ct e2)) ∧ E (p ++ [x]) e2) → ∃ e', loopF tg b (xs.map d) e = some (.val .nx e') ∧ E (pre ++ xs) e'
  | [], pre, e, h, _ => ⟨e, rfl, by simpa using h⟩
  | x :: xs, pre, e, h, H => by
    obtain ⟨e1, e2, h1, h2, h3⟩ := H pre x xs rfl e h
    obtain ⟨e', h4, h5⟩ := loopF_pre d E xs (pre ++ [x]) e2 h3 fun p y q hp => H p y q (by simpa using hp)
    refine ⟨e', ?_, by simpa using h5⟩
    rcases h2 with h2 | h2 <;> simp only [List.map_cons, loopF, h1, h2, bnd_val, h4]
theorem loopF_do {α : Type} {tg : D → PL.Env → Option PL.Env} {b : PL.Env → SR} (d : α → D) (E : List α → PL.Env → Prop) (xs : List α) (e : PL.Env) (h0 : E [] e)
    (H : ∀ p x q, xs = p ++ x :: q → ∀ e, E p e → ∃ e1 e2, tg (d x) e = some e1 ∧ b e1 = some (.val .nx e2) ∧ E (p ++ [x]) e2) : ∃ e', loopF tg b (xs.map d) e = some (.val .nx e') ∧ E xs e' := by
  obtain ⟨e', h1, h2⟩ := loopF_pre d E xs [] e h0 fun p x q hp e he => by
    obtain ⟨e1, e2, h1, h2, h3⟩ := H p x q hp e he
    exact ⟨e1, e2, h1, .inl h2, h3⟩
  exact ⟨e', h1, h2⟩
/-- a comprehension with a test -/
theorem loopC_flt {α : Type} {tg : D → PL.Env → Option PL.Env} {cond : PL.Env → R Bool} {elt : PL.Env → R D} {own : List Nat} (d : α → D) (t : α → Bool) (g : α → D) (P : PL.Env → Prop) : ∀ (xs : List α) (e : PL.Env), P e →
    (∀ x ∈ xs, ∀ e, P e → ∃ e1 e2, tg (d x) e = some e1 ∧ cond e1 = some (.val (t x) e2) ∧ (t x = false → P (wipeE e2 own)) ∧ (t x = true → ∃ e3, elt e2 = some (.val (g x) e3) ∧ P (wipeE e3 own))) →
    ∃ e', P e' ∧ loopC tg cond elt own (xs.map d) e = some ((xs.filter t).map g, e')
  | [], e, h, _ => ⟨e, h, rfl⟩
  | x :: xs, e, h, H => by
    obtain ⟨e1, e2, h1, h2, h3, h4⟩ := H x (by simp) e h
    cases q : t x with
    | false =>
      obtain ⟨e', h5, ih⟩ := loopC_flt d t g P xs _ (h3 q) fun y hy => H y (by simp [hy])
      rw [q] at h2
      exact ⟨e', h5, by simp only [List.map_cons, loopC, h1, h2, ih, List.filter_cons, q, Bool.false_eq_true, if_false]⟩
    | true =>
      obtain ⟨e3, h6, h7⟩ := h4 q
      obtain ⟨e', h5, ih⟩ := loopC_flt d t g P xs _ h7 fun y hy => H y (by simp [hy])
      rw [q] at h2
      exact ⟨e', h5, by simp only [List.map_cons, loopC, h1, h2, h6, ih, List.filter_cons, q, if_true, Option.map_some]⟩
/-- .. without one -/
theorem loopC_all {α : Type} {tg : D → PL.Env → Option PL.Env} {cond : PL.Env → R Bool} {elt : PL.Env → R D} {own : List Nat} (d : α → D) (g : α → D) (P : PL.Env → Prop) (xs : List α) (e : PL.Env) (h : P e)
    (H : ∀ x ∈ xs, ∀ e, P e → ∃ e1 e2 e3, tg (d x) e = some e1 ∧ cond e1 = some (.val true e2) ∧ elt e2 = some (.val (g x) e3) ∧ P (wipeE e3 own)) :
    ∃ e', P e' ∧ loopC tg cond elt own (xs.map d) e = some (xs.map g, e') := by
  obtain ⟨e', h1, h2⟩ := loopC_flt (tg := tg) (cond := cond) (elt := elt) (own := own) d (fun _ => true) g P xs e h fun x hx e he => by
    obtain ⟨e1, e2, e3, a, b, c, f⟩ := H x hx e he
    exact ⟨e1, e2, a, b, fun z => (by cases z), fun _ => ⟨e3, c, f⟩⟩
  have hf : xs.filter (fun _ => true) = xs := List.filter_eq_self.mpr fun _ _ => rfl
  rw [hf] at h2
  exact ⟨e', h1, h2⟩
/-- a dict comprehension without a test -/
theorem loopD_pre {α : Type} {tg : D → PL.Env → Option PL.Env} {cond : PL.Env → R Bool} {ek ev : PL.Env → R D} {own : List Nat} (d : α → D) (E : List α → D → PL.Env → Prop) : ∀ (xs pre : List α) (acc : D) (e : PL.Env), E pre acc e →
    (∀ p x q, pre ++ xs = p ++ x :: q → ∀ acc e, E p acc e → ∃ e1 e2 e3 e4 k v acc', tg (d x) e = some e1 ∧ cond e1 = some (.val true e2) ∧ ek e2 = some (.val k e3) ∧ ev e3 = some (.val v e4) ∧ setD acc k v = some acc' ∧ E (p ++ [x]) acc' (wipeE e4 own)) →
    ∃ acc' e', loopD tg cond ek ev own (xs.map d) acc e = some (acc', e') ∧ E (pre ++ xs) acc' e'
  | [], pre, acc, e, h, _ => ⟨acc, e, rfl, by simpa using h⟩
  | x :: xs, pre, acc, e, h, H => by
    obtain ⟨e1, e2, e3, e4, k, v, acc', h1, h2, h3, h4, h5, h6⟩ := H pre x xs rfl acc e h
    obtain ⟨acc'', e', h7, h8⟩ := loopD_pre d E xs (pre ++ [x]) acc' _ h6 fun p y q hp => H p y q (by simpa using hp)
    exact ⟨acc'', e', by simp only [List.map_cons, loopD, h1, h2, h3, h4, h5, h7], by simpa using h8⟩
theorem loopD_do {α : Type} {tg : D → PL.Env → Option PL.Env} {cond : PL.Env → R Bool} {ek ev : PL.Env → R D} {own : List Nat} (d : α → D) (E : List α → D → PL.Env → Prop) (xs : List α) (acc : D) (e : PL.Env) (h0 : E [] acc e)
    (H : ∀ p x q, xs = p ++ x :: q → ∀ acc e, E p acc e → ∃ e1 e2 e3 e4 k v acc', tg (d x) e = some e1 ∧ cond e1 = some (.val true e2) ∧ ek e2 = some (.val k e3) ∧ ev e3 = some (.val v e4) ∧ setD acc k v = some acc' ∧ E (p ++ [x]) acc' (wipeE e4 own)) :
    ∃ acc' e', loopD tg cond ek ev own (xs.map d) acc e = some (acc', e') ∧ E xs acc' e' := loopD_pre d E xs [] acc e h0 H
/-! ### keys as a set -/
section
variable {κ : Type} [DecidableEq κ]
def ins (ks : List κ) (k : κ) : List κ := if k ∈ ks then ks else ks ++ [k]
def insL (ks : List κ) (l : List κ) : List κ := l.foldl ins ks
theorem mem_ins {ks : List κ} {k x : κ} : x ∈ ins ks k ↔ x ∈ ks ∨ x = k := by
  unfold ins
  split
  · rename_i h
    exact ⟨.inl, fun z => z.elim id fun e => e ▸ h⟩
  · simp
theorem mem_insL {l ks : List κ} {x : κ} : x ∈ insL ks l ↔ x ∈ ks ∨ x ∈ l := by
  induction l generalizing ks with
  | nil => simp [insL]
  | cons k l ih =>
    have : insL ks (k :: l) = insL (ins ks k) l := rfl
    rw [this, ih, mem_ins, List.mem_cons, or_assoc]
theorem nodup_ins {ks : List κ} {k : κ} (h : ks.Nodup) : (ins ks k).Nodup := by
  unfold ins
  split
  · exact h
  · rename_i c
    rw [List.nodup_append]
    exact ⟨h, by simp, fun a ha b hb => by
      simp at hb
      subst hb
      exact fun e => c (e ▸ ha)⟩
theorem nodup_insL {l ks : List κ} (h : ks.Nodup) : (insL ks l).Nodup := by
  induction l generalizing ks with
  | nil => exact h
  | cons k l ih => exact ih (nodup_ins h)
theorem ins_len (ks : List κ) (k : κ) : (ins ks k).length ≤ ks.length + 1 := by
  unfold ins
  split <;> simp
theorem insL_len (l ks : List κ) : (insL ks l).length ≤ ks.length + l.length := by
  induction l generalizing ks with
  | nil => simp [insL]
  | cons k l ih =>
    have a := ih (ks := ins ks k)
    have b := ins_len ks k
    have : insL ks (k :: l) = insL (ins ks k) l := rfl
    rw [this]
    simp
    omega
theorem insL_app (ks l m : List κ) : insL ks (l ++ m) = insL (insL ks l) m := by simp [insL]
theorem putD_const (v : D) : ∀ (ks : List κ) (k : κ), putD ks (ks.map fun _ => v) k v = (ins ks k, (ins ks k).map fun _ => v)
  | [], k => by simp [putD, ins]
  | a :: ks, k => by
    have ih := putD_const v ks k
    simp only [List.map_cons, putD]
    by_cases c : a = k
    · rw [if_pos c]
      simp [ins, c]
    · rw [if_neg c, ih]
      unfold ins
      by_cases m : k ∈ ks
      · simp [m]
      · simp [m, show ¬ k = a from fun z => c z.symm]
end
/-! ### tuples of ints -/
abbrev tI (l : List Int) : D := .nd .tup false (iL l)
abbrev kI (l : List Int) : NK := .tup (l.map .num)
theorem nkeyL_ints : ∀ l : List Int, nkeyL (iL l) = some (l.map .num)
  | [] => rfl
  | i :: l => by
    have ih := nkeyL_ints l
    simp only [iL] at ih
    simp [iL, nkeyL, D.nkey, ih]
theorem depth_nums : ∀ l : List Int, NestedKey.depthAll (l.map .num) = 0
  | [] => rfl
  | i :: l => by
    have ih := depth_nums l
    simp [NestedKey.depthAll, NestedKey.depth, ih]
@[simp] theorem nkey_tI (l : List Int) : (tI l).nkey = some (kI l) := by
  simp only [tI, D.nkey, nkeyL_ints, Option.map_some]
theorem depth_kI (l : List Int) : (kI l).depth = 1 := by
  simp [kI, NestedKey.depth, depth_nums]
@[simp] theorem tkey_tI (l : List Int) : (tI l).tkey = some (kI l) := by
  have h := nkey_tI l
  have d := depth_kI l
  simp only [tI] at h
  simp only [tI, D.tkey, h, Option.bind_some, d]
  rfl
theorem keyNL_nums : ∀ l : List Int, keyNL (l.map .num) = iL l
  | [] => rfl
  | i :: l => by
    have ih := keyNL_nums l
    simp [keyNL, keyN, ih, iL]
@[simp] theorem keyN_kI (l : List Int) : keyN (kI l) = tI l := by simp only [keyN, keyNL_nums]
theorem keyNL_map : ∀ ks : List NK, keyNL ks = ks.map keyN
  | [] => rfl
  | k :: ks => by simp [keyNL, keyNL_map ks]
theorem keyNL_kI (l : List (List Int)) : keyNL (l.map kI) = l.map tI := by
  rw [keyNL_map, List.map_map]
  exact List.map_congr_left fun x _ => keyN_kI x
/-- a dict of tuples, all True -/
abbrev tT (o : Bool) (ks : List NK) : D := match ks with
  | [] => .nd (.dk []) o []
  | k :: l => .nd (.dt (k :: l)) o ((k :: l).map fun _ => .bl true)
theorem setD_tT {ks : List NK} {d : D} {k : NK} (hk : d.tkey = some k) (hn : d.key = none) (hz : ks.length < sizeLine) : setD (tT true ks) d (.bl true) = some (tT true (ins ks k)) := by
  cases ks with
  | nil => simp only [tT, setD, hn, hk, ins, List.not_mem_nil, if_false, List.nil_append, and_self, if_true, Option.map_some, List.map_cons, List.map_nil]
  | cons a l =>
    have h := putD_const (D.bl true) (a :: l) k
    have e : ∃ b m, ins (a :: l) k = b :: m := by
      unfold ins
      split
      · exact ⟨_, _, rfl⟩
      · exact ⟨_, _, rfl⟩
    obtain ⟨b, m, e⟩ := e
    simp only [tT, setD, hk, Option.bind_some, hz, if_true, h]
    rw [e]
theorem list_tT (o : Bool) (ks : List NK) : biD .list (tT o ks) = some (.nd .lst true (keyNL ks)) := by
  cases ks with
  | nil => rfl
  | cons a l => rfl
/-- a dict of ints, all True -/
abbrev tB (o : Bool) (ks : List Int) : D := .nd (.dk (ks.map Sum.inl)) o (ks.map fun _ => .bl true)
theorem ins_inl (ks : List Int) (k : Int) : ins (ks.map (Sum.inl : Int → Key)) (Sum.inl k) = (ins ks k).map Sum.inl := by
  unfold ins
  by_cases c : k ∈ ks
  · simp [c]
  · simp [c]
theorem setD_tB {ks : List Int} {k : Int} (hz : ks.length < sizeLine) : setD (tB true ks) (.int k) (.bl true) = some (tB true (ins ks k)) := by
  have h := putD_const (D.bl true) (ks.map (Sum.inl : Int → Key)) (Sum.inl k)
  rw [ins_inl] at h
  simp only [List.map_map] at h
  simp only [tB, setD, D.key, List.length_map, hz, if_true]
  rw [show (fun x => D.bl true) ∘ (Sum.inl : Int → Key) = fun _ => D.bl true from rfl] at h
  rw [h]
theorem atI_map {α β : Type} (f : α → β) (l : List α) (i : Int) : atI (l.map f) i = (atI l i).map f := by
  unfold atI ixN
  simp only [List.length_map]
  split <;> split <;> simp
@[simp] theorem frz_tI (l : List Int) : (tI l).frz = tI l := by simp [tI, iL]
end PL

/-! PL.Str: written texts, for simp. -/
namespace PL
open PySem L2
theorem chars_inj : ∀ {a b : List Char}, a.map Char.toNat = b.map Char.toNat → a = b
  | [], [], _ => rfl
  | [], _ :: _, h => by simp at h
  | _ :: _, [], h => by simp at h
  | x :: a, y :: b, h => by
    simp only [List.map_cons, List.cons.injEq] at h
    have e : x = y := Char.ext (UInt32.toNat_inj.mp h.1)
    rw [e, chars_inj h.2]
@[simp] theorem ofString_inj {a b : String} : Str.ofString a = Str.ofString b ↔ a = b := by
  constructor
  · intro h
    rw [Str.ofString_eq_toList, Str.ofString_eq_toList] at h
    have := congrArg (fun s => s.cps.toList) h
    exact String.toList_inj.mp (chars_inj (by simpa using this))
  · rintro rfl
    rfl
@[simp] theorem ofString_beq {a b : String} : (Str.ofString a == Str.ofString b) = decide (a = b) := by
  by_cases c : a = b
  · subst c; simp
  · simp [c]
@[simp] theorem ofString_len (a : String) : (Str.ofString a).length = a.length := by
  rw [Str.ofString_eq_toList, ← String.length_toList]
  simp [Str.length]
example : (Str.ofString "rows" = Str.ofString "many") = False := by simp
example : (["rows", "many"] : List Str).contains "lines" = false := by simp
example : (Str.ofString "rows").length = 4 := by simp; rfl
/-! ### equality of data, by a way to write it -/
structure EqBy {α : Type} [DecidableEq α] (f : α → D) (n : Nat) : Prop where
  py : ∀ a, ∃ x, (f a).py = some x ∧ x.canLay0 = true ∧ x.depth ≤ n
  eq : ∀ a b x y, (f a).py = some x → (f b).py = some y → PyData.eqv x y = decide (a = b)
section
variable {α : Type} [DecidableEq α] {f : α → D} {n : Nat}
theorem EqBy.eqD (h : EqBy f n) (hn : n ≤ 64) (a b : α) : PL.eqD (f a) (f b) = some (decide (a = b)) := by
  obtain ⟨x, h1, h2, h3⟩ := h.py a
  obtain ⟨y, g1, g2, g3⟩ := h.py b
  have sx : SeqAt.shaped x = true := by simp only [SeqAt.shaped, h2, Bool.true_and, decide_eq_true_eq]; omega
  have sy : SeqAt.shaped y = true := by simp only [SeqAt.shaped, g2, Bool.true_and, decide_eq_true_eq]; omega
  simp only [PL.eqD, h1, g1]
  rw [if_pos ⟨sx, sy⟩, h.eq a b x y h1 g1]
theorem EqBy.ints : EqBy D.int 0 := ⟨fun a => ⟨.int a, rfl, rfl, Nat.le_refl 0⟩, fun a b x y ha hb => by
  cases ha
  cases hb
  simp only [PyData.eqv]
  by_cases c : a = b <;> simp [c]⟩
theorem ofString_ok (a : String) : PyData.canLay0 (.str (Str.ofString a)) = true := by
  simp only [PyData.canLay0]
  rw [Str.ofString_eq_toList]
  simp only [PySem.PyData.strOk]
  simp only [List.all_toArray', List.all_map, List.all_eq_true, Function.comp_apply, decide_eq_true_eq]
  intro c _
  have h := c.valid
  simp only [UInt32.isValidChar, Nat.isValidChar] at h
  have e : c.toNat = c.val.toNat := rfl
  omega
theorem EqBy.strs : EqBy (fun s : String => D.str (Str.ofString s)) 0 := ⟨fun a => ⟨.str a, rfl, ofString_ok a, Nat.le_refl 0⟩, fun a b x y ha hb => by
  cases ha
  cases hb
  simp only [PyData.eqv, ofString_beq]⟩
theorem pyL_all (h : EqBy f n) : ∀ l : List α, ∃ xs, pyL (l.map f) = some xs ∧ PyData.canLayAll0 xs = true ∧ PyData.depthAll xs ≤ n
  | [] => ⟨[], rfl, rfl, Nat.zero_le _⟩
  | a :: l => by
    obtain ⟨x, h1, h2, h3⟩ := h.py a
    obtain ⟨xs, g1, g2, g3⟩ := pyL_all h l
    exact ⟨x :: xs, by simp only [List.map_cons, pyL, h1, g1], by simp only [PyData.canLayAll0, h2, g2, Bool.and_self], by simp only [PyData.depthAll]; omega⟩
theorem pyL_eq (h : EqBy f n) : ∀ (l m : List α) xs ys, pyL (l.map f) = some xs → pyL (m.map f) = some ys → PyData.eqvAll xs ys = decide (l = m)
  | [], [], _, _, ha, hb => by cases ha; cases hb; simp [PyData.eqvAll]
  | [], b :: m, _, ys, ha, hb => by
    obtain ⟨y, h1, _⟩ := h.py b
    obtain ⟨ys', g1, _⟩ := pyL_all h m
    simp only [List.map_cons, pyL, h1, g1] at hb
    cases ha; cases hb; simp [PyData.eqvAll]
  | a :: l, [], xs, _, ha, hb => by
    obtain ⟨y, h1, _⟩ := h.py a
    obtain ⟨ys', g1, _⟩ := pyL_all h l
    simp only [List.map_cons, pyL, h1, g1] at ha
    cases ha; cases hb; simp [PyData.eqvAll]
  | a :: l, b :: m, xs, ys, ha, hb => by
    obtain ⟨x, h1, _⟩ := h.py a
    obtain ⟨xs', g1, _⟩ := pyL_all h l
    obtain ⟨y, k1, _⟩ := h.py b
    obtain ⟨ys', j1, _⟩ := pyL_all h m
    simp only [List.map_cons, pyL, h1, g1] at ha
    simp only [List.map_cons, pyL, k1, j1] at hb
    cases ha; cases hb
    have e1 := h.eq a b x y h1 k1
    have e2 := pyL_eq h l m xs' ys' g1 j1
    simp only [PyData.eqvAll, e1, e2, List.cons.injEq]
    by_cases c : a = b <;> by_cases d : l = m <;> simp [c, d]
theorem EqBy.tup (h : EqBy f n) : EqBy (fun l : List α => D.nd .tup false (l.map f)) (n + 1) := ⟨fun l => by
  obtain ⟨xs, g1, g2, g3⟩ := pyL_all h l
  exact ⟨.tuple xs, by simp only [D.py, g1, Option.map_some], by simp only [PyData.canLay0, g2], by simp only [PyData.depth]; omega⟩, fun l m x y ha hb => by
  obtain ⟨xs, g1, g2, g3⟩ := pyL_all h l
  obtain ⟨ys, k1, k2, k3⟩ := pyL_all h m
  simp only [D.py, g1, k1, Option.map_some, Option.some.injEq] at ha hb
  subst ha hb
  simp only [PyData.eqv, pyL_eq h l m xs ys g1 k1]⟩
theorem EqBy.lst (h : EqBy f n) (o : Bool) : EqBy (fun l : List α => D.nd .lst o (l.map f)) (n + 1) := ⟨fun l => by
  obtain ⟨xs, g1, g2, g3⟩ := pyL_all h l
  exact ⟨.list xs, by simp only [D.py, g1, Option.map_some], by simp only [PyData.canLay0, g2], by simp only [PyData.depth]; omega⟩, fun l m x y ha hb => by
  obtain ⟨xs, g1, g2, g3⟩ := pyL_all h l
  obtain ⟨ys, k1, k2, k3⟩ := pyL_all h m
  simp only [D.py, g1, k1, Option.map_some, Option.some.injEq] at ha hb
  subst ha hb
  simp only [PyData.eqv, pyL_eq h l m xs ys g1 k1]⟩
end
theorem eqD_lit (a b : String) : eqD (.str (Str.ofString a)) (.str (Str.ofString b)) = some (decide (a = b)) := EqBy.strs.eqD (by decide) a b
theorem eqD_tI (a b : List Int) : eqD (tI a) (tI b) = some (decide (a = b)) := EqBy.ints.tup.eqD (by decide) a b
theorem eqD_tII (a b : List (List Int)) : eqD (.nd .tup false (a.map tI)) (.nd .tup false (b.map tI)) = some (decide (a = b)) := EqBy.ints.tup.tup.eqD (by decide) a b
section
variable {op : BOp} {a b : E} {j : Nat} {i n : Int} {is : List Nat} {f : Str} {es : Es} {x : Bi}
@[simp] theorem partE_bin : partE (.bin op a b) (.int i) = some (some i) := rfl
@[simp] theorem partE_var : partE (.var j) (.int i) = some (some i) := rfl
@[simp] theorem partE_lit : partE (.int n) (.int i) = some (some i) := rfl
@[simp] theorem partE_view : partE (.view is a) (.int i) = some (some i) := rfl
@[simp] theorem partE_fld : partE (.fld a f) (.int i) = some (some i) := rfl
@[simp] theorem partE_sub : partE (.sub a b) (.int i) = some (some i) := rfl
@[simp] theorem partE_call : partE (.call j es) (.int i) = some (some i) := rfl
@[simp] theorem partE_bi : partE (.bi x a) (.int i) = some (some i) := rfl
end
@[simp 500] theorem storeT_w (pr : List Nat) (i : Nat) (d : D) (e : Env) : storeT pr (.v i) d e = if pr.contains i then none else some (e.set i (some d)) := by simp [storeT]
@[simp] theorem nfL_ints (l : List Int) : nfL (l.map D.int) = true := by
  induction l with
  | nil => rfl
  | cons a l ih => simp [nfL, ih, D.nf]
theorem exSs_app {tb : Tab} {o : Orc} {pr : List Nat} : ∀ (a b : List S) (e : Env), exSs tb o pr (a ++ b) e = bnd (exSs tb o pr a e) fun f e1 => match f with
    | .nx => exSs tb o pr b e1
    | f => some (.val f e1)
  | [], b, e => by simp
  | s :: a, b, e => by
    have ih := exSs_app (tb := tb) (o := o) (pr := pr) a b
    simp only [List.cons_append, eq_exSs_83, bnd_assoc]
    congr 1
    funext f e1
    cases f <;> simp [ih]
theorem exSs_nx {tb : Tab} {o : Orc} {pr : List Nat} {a b : List S} {e e1 : Env} (h : exSs tb o pr a e = some (.val .nx e1)) : exSs tb o pr (a ++ b) e = exSs tb o pr b e1 := by rw [exSs_app, h, bnd_val]
section
variable {α : Type} (a b c d e : α) (l : List α)
@[simp] theorem atI_l2 : atI (a :: b :: c :: l) 2 = some c := by
  rw [show (2 : Int) = ((2 : Nat) : Int) from rfl, PL.atI_nat]
  rfl
@[simp] theorem atI_l3 : atI (a :: b :: c :: d :: l) 3 = some d := by
  rw [show (3 : Int) = ((3 : Nat) : Int) from rfl, PL.atI_nat]
  rfl
@[simp] theorem atI_l4 : atI (a :: b :: c :: d :: e :: l) 4 = some e := by
  rw [show (4 : Int) = ((4 : Nat) : Int) from rfl, PL.atI_nat]
  rfl
end
theorem ixN_nat' {n i : Nat} (h : i < n) : ixN n (i : Int) = some i := by
  unfold ixN
  simp
  omega
section
variable {at' : Nat → Str → Bool} {xs ys : List D} {j : Nat} {o1 : Bool} {y : D}
theorem walk_ix {d : D} (h : xs[j]? = some d) : walkD at' [.ix (.int (j : Nat))] (.nd .lst o1 xs) = some d := by
  have hj := (List.getElem?_eq_some_iff.mp h).1
  simp only [walkD, stepD, ixN_nat' hj, Option.bind_some, D.kids, h]
theorem append_ix (h : xs[j]? = some (.nd .lst true ys)) (hz : ys.length < sizeLine) : modD at' (fun x => muD .append x [y]) [.ix (.int (j : Nat))] (.nd .lst true xs) = some (.non, .nd .lst true (xs.set j (.nd .lst true (ys ++ [y])))) := by
  have hj := (List.getElem?_eq_some_iff.mp h).1
  simp only [modD, stepD, ixN_nat' hj, Option.bind_some, D.kids, h, muD, hz, if_true, Option.map_some, D.withKid]
end
section
variable {tb : Tab} {o : Orc} {f : Nat} {fn : Fn} {e : Env} {i : Nat} {x x' r a : D}
theorem callR0 (h : tb.fns[f]? = some fn) (hio : fn.io = [0]) (he : e.at i = some x) (ho : o f [x] = some (.val r [x'])) : runCall tb o f [.r i] e = some (.val r ((e.set i none).set i (some x'))) := by
  simp [runCall, takeArgs, ioOf, putBack, h, hio, he, ho]
theorem callR1 (h : tb.fns[f]? = some fn) (hio : fn.io = [0]) (he : e.at i = some x) (ho : o f [x, a.frz] = some (.val r [x'])) : runCall tb o f [.r i, .d a] e = some (.val r ((e.set i none).set i (some x'))) := by
  simp [runCall, takeArgs, ioOf, putBack, h, hio, he, ho]
end
end PL

namespace K71
open PySem L2 PL
def top (i : Nat) : Stmt := PySem.Challenge.pw_keptinstep_k71_all_orders_of_one_memory.main.body.getD i (.Pass ⟨0, 0, 0, 0⟩)
/-- is_integer: 0 value -/
def b0 : List S := [(.ret (.and (.isi (.var 0) [.int]) (.un .not (.isi (.var 0) [.bool]))))]
abbrev f0 : Fn := ⟨1, 1, [], b0⟩
/-- is_number: 0 value -/
def b1 : List S := [(.ret (.and (.call 0 (.c (.var 0) .n)) (.cmp .ge (.var 0) (.int 0))))]
abbrev f1 : Fn := ⟨1, 1, [], b1⟩
/-- lines_of: 0 program, 1 told, 2 row, 3 deed -/
def b2_1 : List S := [(.ite (.e (.cmp .eq (.bi .len (.var 3)) (.int 2))) [(.sub 1 .n (.h (.sub (.var 3) (.int 1))) (.bl true))] [])]
def b2_2 : List S := [(.for (.v 3) (.seqT (.var 2)) b2_1)]
def b2 : List S := [(.asg (.v 1) .dnew), (.for (.v 2) (.seqT (.var 0)) b2_2), (.ret (.bi .tuple (.bi .sorted (.var 1))))]
abbrev f2 : Fn := ⟨1, 4, [], b2⟩
/-- write_numbers: 0 program, 1 rows, 2 last, 3 row, 4 numbers, 5 deed -/
def b3_1 : List S := [(.ite (.e (.cmp .eq (.sub (.var 5) (.int 0)) (.str "write"))) [(.aug 2 .add (.int 1)), (.ex (.mu .append 4 .n (.c (.h (.var 2)) .n)))] [(.ex (.mu .append 4 .n (.c (.h (.int 0)) .n)))])]
def b3_2 : List S := [(.asg (.v 4) (.lst .n)), (.for (.v 5) (.seqT (.var 3)) b3_1), (.ex (.mu .append 1 .n (.c (.h (.bi .tuple (.var 4))) .n)))]
def b3 : List S := [(.asg (.v 1) (.lst .n)), (.asg (.v 2) (.int 0)), (.for (.v 3) (.seqT (.var 0)) b3_2), (.ret (.bi .tuple (.var 1)))]
abbrev f3 : Fn := ⟨1, 6, [], b3⟩
/-- read_counts: 0 program, 1 row, 2 deed -/
def b4_1 : E := (.var 2)
def b4_2 : C := (.e (.cmp .eq (.sub (.var 2) (.int 0)) (.str "read")))
def b4_3 : E := (.bi .len (.lc b4_1 (.v 2) (.seqT (.var 1)) b4_2 [2]))
def b4 : List S := [(.ret (.bi .tuple (.lc b4_3 (.v 1) (.seqT (.var 0)) .tt [1])))]
abbrev f4 : Fn := ⟨1, 3, [], b4⟩
/-- deed_count: 0 program, 1 row -/
def b5_1 : E := (.bi .len (.var 1))
def b5 : List S := [(.ret (.bi .sum (.lc b5_1 (.v 1) (.seqT (.var 0)) .tt [1])))]
abbrev f5 : Fn := ⟨1, 2, [], b5⟩
/-- numbered: 0 program, 1 places, 2 writes, 3 rows, 4 reads, 5 row, 6 numbers, 7 made, 8 deed, 9 number, 10 at, 11 line, 12 kind -/
def b6_1 : List S := [(.asg (.v 12) (.gsub [Sum.inr "read", Sum.inr "write", Sum.inr "fence"] [(.int 0), (.int 1), (.int 2)] (.sub (.var 8) (.int 0)))), (.ite (.e (.cmp .eq (.var 12) (.gl (.int 2)))) [(.ex (.mu .append 7 .n (.c (.h (.tup (.c (.var 12) (.c (.un .neg (.int 1)) (.c (.un .neg (.int 1)) .n))))) .n)))] [(.ite (.e (.cmp .eq (.var 12) (.gl (.int 1)))) [(.ex (.mu .append 7 .n (.c (.h (.tup (.c (.var 12) (.c (.sub (.var 1) (.sub (.var 8) (.int 1))) (.c (.var 9) .n))))) .n)))] [(.ex (.mu .append 7 .n (.c (.h (.tup (.c (.var 12) (.c (.sub (.var 1) (.sub (.var 8) (.int 1))) (.c (.var 4) .n))))) .n))), (.aug 4 .add (.int 1))])])]
def b6_2 : List S := [(.asg (.v 7) (.lst .n)), (.for (.t [(.v 8), (.v 9)]) (.zip (.var 5) (.var 6)) b6_1), (.ex (.mu .append 3 .n (.c (.h (.bi .tuple (.var 7))) .n)))]
def b6_3 : E := (.var 11)
def b6_4 : E := (.var 10)
def b6 : List S := [(.asg (.v 1) (.dc b6_3 b6_4 (.t [(.v 10), (.v 11)]) (.enm (.call 2 (.c (.var 0) .n))) .tt [10, 11])), (.asg (.v 2) (.call 3 (.c (.var 0) .n))), (.asg (.v 3) (.lst .n)), (.asg (.v 4) (.int 0)), (.for (.t [(.v 5), (.v 6)]) (.zip (.var 0) (.var 2)) b6_2), (.ret (.bi .tuple (.var 3)))]
abbrev f6 : Fn := ⟨1, 13, [], b6⟩
/-- rows_of: 0 counts, 1 answers, 2 rows, 3 at, 4 many -/
def b7_1 : List S := [(.ex (.mu .append 2 .n (.c (.h (.bi .tuple (.slc (.var 1) (.var 3) (.bin .add (.var 3) (.var 4))))) .n))), (.aug 3 .add (.var 4))]
def b7 : List S := [(.asg (.v 2) (.lst .n)), (.asg (.v 3) (.int 0)), (.for (.v 4) (.seqT (.var 0)) b7_1), (.ret (.bi .tuple (.var 2)))]
abbrev f7 : Fn := ⟨2, 5, [], b7⟩
/-- PlainPlan.__init__: 0 self, 1 program -/
def b8 : List S := [(.fld 0 .n "rows" (.call 6 (.c (.var 1) .n))), (.fld 0 .n "many" (.view [0] (.bi .len (.fld (.var 0) "rows")))), (.fld 0 .n "lines" (.bi .len (.call 2 (.c (.var 1) .n)))), (.fld 0 .n "reads" (.bi .sum (.call 4 (.c (.var 1) .n)))), (.fld 0 .n "length" (.call 5 (.c (.var 1) .n)))]
abbrev f8 : Fn := ⟨2, 2, [0], b8⟩
/-- PlainPlan.first_stand: 0 self -/
def b9 : List S := [(.ret (.bin .mul (.tup (.c (.int 0) .n)) (.bin .add (.fld (.var 0) "many") (.fld (.var 0) "lines"))))]
abbrev f9 : Fn := ⟨1, 1, [], b9⟩
/-- PlainPlan.can_go_on: 0 self, 1 stand, 2 processor -/
def b10 : List S := [(.ret (.cmp .lt (.sub (.var 1) (.var 2)) (.bi .len (.sub (.fld (.var 0) "rows") (.var 2)))))]
abbrev f10 : Fn := ⟨3, 3, [], b10⟩
/-- PlainPlan.next_deed: 0 self, 1 stand, 2 processor -/
def b11 : List S := [(.ret (.sub (.sub (.fld (.var 0) "rows") (.var 2)) (.sub (.var 1) (.var 2))))]
abbrev f11 : Fn := ⟨3, 3, [], b11⟩
/-- PlainPlan.memory_has: 0 self, 1 stand, 2 line -/
def b12 : List S := [(.ret (.sub (.var 1) (.bin .add (.fld (.var 0) "many") (.var 2))))]
abbrev f12 : Fn := ⟨3, 3, [], b12⟩
/-- PlainPlan.behind: 0 self, 1 stand, 2 processor, 3 kind, 4 line, 5 number, 6 made, 7 at -/
def b13 : List S := [(.asg (.t [(.v 3), (.v 4), (.v 5)]) (.meth "next_deed" (.var 0) (.c (.var 1) (.c (.var 2) .n)))), (.asg (.v 6) (.bi .list (.var 1))), (.subA 6 .n (.h (.var 2)) .add (.h (.int 1))), (.ite (.e (.cmp .eq (.var 3) (.gl (.int 1)))) [(.sub 6 .n (.h (.bin .add (.fld (.var 0) "many") (.var 4))) (.var 5))] []), (.asg (.v 7) (.bin .add (.bin .add (.fld (.var 0) "many") (.fld (.var 0) "lines")) (.var 5))), (.ite (.view [3, 6, 7] (.and (.e (.cmp .eq (.var 3) (.gl (.int 0)))) (.e (.cmp .lt (.var 7) (.bi .len (.var 6)))))) [(.sub 6 .n (.h (.var 7)) (.meth "memory_has" (.var 0) (.c (.var 1) (.c (.var 4) .n))))] []), (.ret (.bi .tuple (.var 6)))]
abbrev f13 : Fn := ⟨3, 8, [], b13⟩
/-- plain_answers: 0 program, 1 plan, 2 stands, 3 _, 4 told, 5 ahead, 6 stand, 7 processor -/
def b14_1 : E := (.slc (.var 6) (.bin .add (.fld (.var 1) "many") (.fld (.var 1) "lines")) .nop)
def b14_2 : E := (.bl true)
def b14_3 : List S := [(.ite (.e (.meth "can_go_on" (.var 1) (.c (.var 6) (.c (.var 7) .n)))) [(.sub 5 .n (.h (.meth "behind" (.var 1) (.c (.var 6) (.c (.var 7) .n)))) (.bl true))] [])]
def b14_4 : List S := [(.for (.v 7) (.rng (.fld (.var 1) "many")) b14_3)]
def b14_5 : List S := [(.asg (.v 5) .dnew), (.for (.v 6) (.seqL (.var 2)) b14_4), (.asg (.v 2) (.bi .list (.var 5)))]
def b14 : List S := [(.asg (.v 1) (.mk 0 (.c (.var 0) .n))), (.asg (.v 2) (.lst (.c (.bin .add (.meth "first_stand" (.var 1) .n) (.bin .mul (.tup (.c (.un .neg (.int 1)) .n)) (.fld (.var 1) "reads"))) .n))), (.for (.v 3) (.rng (.fld (.var 1) "length")) b14_5), (.asg (.v 4) (.dc b14_1 b14_2 (.v 6) (.seqL (.var 2)) .tt [6])), (.ret (.bi .sorted (.var 4)))]
abbrev f14 : Fn := ⟨1, 8, [], b14⟩
/-- is_deed_of_program: 0 value -/
def b15 : List S := [(.ite (.or (.not (.e (.isi (.var 0) [.tuple]))) (.e (.cmp .notin (.bi .len (.var 0)) (.tup (.c (.int 1) (.c (.int 2) .n)))))) [(.ret (.bl false))] []), (.ite (.not (.e (.isi (.sub (.var 0) (.int 0)) [.str]))) [(.ret (.bl false))] []), (.ite (.e (.cmp .eq (.bi .len (.var 0)) (.int 1))) [(.ret (.cmp .eq (.sub (.var 0) (.int 0)) (.str "fence")))] []), (.ret (.and (.cmp .isin (.sub (.var 0) (.int 0)) (.gl (.nd .tup false ((["read", "write"] : List Str).map D.str)))) (.call 1 (.c (.sub (.var 0) (.int 1)) .n))))]
abbrev f15 : Fn := ⟨1, 1, [], b15⟩
/-- is_program: 0 value, 1 row, 2 deed -/
def b16_1 : E := (.call 15 (.c (.var 2) .n))
def b16_2 : List S := [(.ite (.not (.e (.isi (.var 1) [.tuple]))) [(.ret (.bl false))] []), (.ite (.not (.e (.bi .all (.lc b16_1 (.v 2) (.seqT (.var 1)) .tt [2])))) [(.ret (.bl false))] [])]
def b16 : List S := [(.ite (.not (.e (.isi (.var 0) [.tuple]))) [(.ret (.bl false))] []), (.for (.v 1) (.seqT (.var 0)) b16_2), (.ret (.bl true))]
abbrev f16 : Fn := ⟨1, 3, [], b16⟩
/-- check_program: 0 program -/
def b17 : List S := [(.ite (.not (.e (.call 16 (.c (.var 0) .n)))) [.bad] [])]
abbrev f17 : Fn := ⟨1, 1, [], b17⟩
/-- plain_outcomes: 0 program, 1 counts, 2 answers -/
def b18_1 : E := (.call 7 (.c (.var 1) (.c (.var 2) .n)))
def b18 : List S := [(.ex (.call 17 (.c (.var 0) .n))), (.asg (.v 1) (.call 4 (.c (.var 0) .n))), (.ret (.bi .tuple (.lc b18_1 (.v 2) (.seqL (.call 14 (.c (.var 0) .n))) .tt [2])))]
abbrev f18 : Fn := ⟨1, 3, [], b18⟩
/-- _law_draw: 0 pile, 1 many, 2 cells, 3 at, 4 cell, 5 seed, 6 part -/
def b19 : List S := [(.asg (.v 2) (.view [0] (.sub (.var 0) (.int 0)))), (.asg (.v 3) (.view [0] (.bin .fdiv (.sub (.var 0) (.int 1)) (.int 8)))), (.asg (.v 4) (.int 12)), (.ite (.e (.cmp .gt (.bi .len (.var 2)) (.int 0))) [(.asg (.v 4) (.bi .int (.sub (.var 2) (.bin .mod (.var 3) (.bi .len (.var 2))))))] []), (.ite (.view [0] (.e (.cmp .eq (.bin .mod (.sub (.var 0) (.int 1)) (.int 8)) (.int 0)))) [(.sub 0 .n (.h (.int 2)) (.var 4))] []), (.sub 0 .n (.h (.int 1)) (.view [0] (.bin .add (.sub (.var 0) (.int 1)) (.int 1)))), (.ite (.and (.e (.cmp .ge (.var 4) (.bin .pow (.int 10) (.int 18)))) (.e (.cmp .lt (.var 3) (.bi .len (.var 2))))) [(.asg (.v 6) (.view [0, 1] (.bin .mod (.bi .int (.sub (.var 0) (.int 2))) (.var 1)))), (.sub 0 .n (.h (.int 2)) (.view [0, 1] (.bin .fdiv (.bi .int (.sub (.var 0) (.int 2))) (.var 1)))), (.ret (.mv 6))] []), (.asg (.v 5) (.view [0, 4] (.bin .mod (.bin .add (.bin .add (.bin .mul (.bin .mod (.bi .int (.var 4)) (.int 1000193)) (.int 16807)) (.bin .mul (.sub (.var 0) (.int 1)) (.int 69621))) (.int 5)) (.int 2147483647)))), (.ret (.view [0, 1, 5] (.bin .mod (.bin .mod (.bin .add (.bin .mul (.var 5) (.int 39373)) (.bin .mul (.bin .mul (.sub (.var 0) (.int 1)) (.sub (.var 0) (.int 1))) (.int 31))) (.int 2147483647)) (.var 1))))]
abbrev f19 : Fn := ⟨2, 7, [0], b19⟩
/-- _law_program: 0 pile, 1 many, 2 size, 3 words, 4 rows, 5 k, 6 word, 7 deed, 8 row -/
def b20_1 : E := (.bi .tuple (.var 8))
def b20_2 : List S := [(.asg (.v 6) (.sub (.var 3) (.call 19 (.io 0 (.c (.bi .len (.var 3)) .n))))), (.asg (.v 7) (.tup (.c (.var 6) (.c (.call 19 (.io 0 (.c (.int 2) .n))) .n)))), (.ite (.e (.cmp .eq (.var 6) (.str "fence"))) [(.asg (.v 7) (.tup (.c (.str "fence") .n)))] []), (.ex (.mu .append 4 (.ix .n (.h (.call 19 (.io 0 (.c (.var 1) .n))))) (.c (.h (.var 7)) .n)))]
def b20_3 : E := (.lst .n)
def b20 : List S := [(.asg (.v 1) (.bin .add (.int 1) (.call 19 (.io 0 (.c (.int 3) .n))))), (.asg (.v 2) (.call 19 (.io 0 (.c (.int 7) .n)))), (.asg (.v 3) (.lst (.c (.str "read") (.c (.str "write") (.c (.str "read") (.c (.str "write") (.c (.str "read") (.c (.str "write") .n)))))))), (.ite (.e (.cmp .eq (.call 19 (.io 0 (.c (.int 3) .n))) (.int 0))) [(.asg (.v 3) (.lst (.c (.str "read") (.c (.str "write") (.c (.str "fence") .n)))))] []), (.asg (.v 4) (.lc b20_3 (.v 5) (.rng (.var 1)) .tt [5])), (.for (.v 5) (.rng (.var 2)) b20_2), (.ret (.bi .tuple (.lc b20_1 (.v 8) (.seqL (.var 4)) .tt [8])))]
abbrev f20 : Fn := ⟨1, 9, [0], b20⟩
/-- _law_orders: 0 program, 1 rows, 2 turn, 3 news, 4 row, 5 p -/
def b21_1 : E := (.bi .len (.var 4))
def b21_2 : E := (.bin .add (.var 4) (.tup (.c (.var 5) .n)))
def b21_3 : C := (.e (.cmp .lt (.bm .count (.var 4) (.c (.var 5) .n)) (.bi .len (.sub (.var 0) (.var 5)))))
def b21_4 : List S := [(.asg (.v 3) (.bin .add (.var 3) (.lc b21_2 (.v 5) (.rng (.bi .len (.var 0))) b21_3 [5])))]
def b21_5 : List S := [(.asg (.v 3) (.lst .n)), (.for (.v 4) (.seqL (.var 1)) b21_4), (.asg (.v 1) (.mv 3))]
def b21 : List S := [(.asg (.v 1) (.lst (.c (.tup .n) .n))), (.for (.v 2) (.rng (.bi .sum (.lc b21_1 (.v 4) (.seqT (.var 0)) .tt [4]))) b21_5), (.ret (.mv 1))]
abbrev f21 : Fn := ⟨1, 6, [], b21⟩
/-- _law_done: 0 program, 1 order, 2 first, 3 number, 4 row, 5 at, 6 answers, 7 cells, 8 p, 9 deed -/
def b22_1 : List S := [(.asg (.v 9) (.view [0, 5, 8] (.sub (.sub (.var 0) (.var 8)) (.sub (.var 5) (.var 8))))), (.sub 5 .n (.h (.var 8)) (.view [5, 8] (.bin .add (.sub (.var 5) (.var 8)) (.int 1)))), (.ite (.e (.cmp .eq (.sub (.var 9) (.int 0)) (.str "write"))) [(.sub 2 .n (.h (.var 8)) (.view [2, 8] (.bin .add (.sub (.var 2) (.var 8)) (.int 1)))), (.sub 7 .n (.h (.sub (.var 9) (.int 1))) (.view [2, 8] (.sub (.var 2) (.var 8))))] [(.ite (.e (.cmp .eq (.sub (.var 9) (.int 0)) (.str "read"))) [(.sub 6 .n (.h (.var 8)) (.view [6, 7, 8, 9] (.bin .add (.sub (.var 6) (.var 8)) (.tup (.c (.sub (.var 7) (.sub (.var 9) (.int 1))) .n)))))] [])])]
def b22_2 : E := (.tup .n)
def b22_3 : E := (.int 0)
def b22_4 : E := (.var 9)
def b22_5 : C := (.e (.cmp .eq (.sub (.var 9) (.int 0)) (.str "write")))
def b22_6 : List S := [(.ex (.mu .append 2 .n (.c (.h (.var 3)) .n))), (.asg (.v 3) (.bin .add (.var 3) (.bi .len (.lc b22_4 (.v 9) (.seqT (.var 4)) b22_5 [9]))))]
def b22 : List S := [(.asg (.v 2) (.lst .n)), (.asg (.v 3) (.int 0)), (.for (.v 4) (.seqT (.var 0)) b22_6), (.asg (.v 5) (.lc b22_3 (.v 4) (.seqT (.var 0)) .tt [4])), (.asg (.v 6) (.lc b22_2 (.v 4) (.seqT (.var 0)) .tt [4])), (.asg (.v 7) (.lst (.c (.int 0) (.c (.int 0) .n)))), (.for (.v 8) (.seqT (.var 1)) b22_1), (.ret (.bi .tuple (.var 6)))]
abbrev f22 : Fn := ⟨2, 10, [], b22⟩
/-- _law_due: 0 program, 1 found, 2 order -/
def b23_1 : List S := [(.sub 1 .n (.h (.call 22 (.c (.var 0) (.c (.var 2) .n)))) (.bl true))]
def b23 : List S := [(.asg (.v 1) .dnew), (.for (.v 2) (.seqL (.call 21 (.c (.var 0) .n))) b23_1), (.ret (.bi .sorted (.bi .list (.var 1))))]
abbrev f23 : Fn := ⟨1, 3, [], b23⟩
/-- _law_holds: 0 told, 1 due, 2 k, 3 row, 4 x -/
def b24_1 : E := (.var 4)
def b24_2 : C := (.or (.e (.isi (.var 4) [.bool])) (.not (.e (.isi (.var 4) [.int]))))
def b24_3 : List S := [(.ite (.or (.not (.e (.isi (.var 3) [.tuple]))) (.e (.cmp .gt (.bi .len (.lc b24_1 (.v 4) (.seqT (.var 3)) b24_2 [4])) (.int 0)))) [(.ret (.bl false))] [])]
def b24_4 : List S := [(.ite (.or (.not (.e (.isi (.sub (.var 0) (.var 2)) [.tuple]))) (.e (.cmp .ne (.sub (.var 0) (.var 2)) (.sub (.var 1) (.var 2))))) [(.ret (.bl false))] []), (.for (.v 3) (.seqT (.sub (.var 0) (.var 2))) b24_3)]
def b24 : List S := [(.ite (.or (.not (.e (.isi (.var 0) [.tuple]))) (.e (.cmp .ne (.bi .len (.var 0)) (.bi .len (.var 1))))) [(.ret (.bl false))] []), (.for (.v 2) (.rng (.bi .len (.var 1))) b24_4), (.ret (.bl true))]
abbrev f24 : Fn := ⟨2, 5, [], b24⟩
/-- law: 0 script, 1 pile, 2 program, 3 other, 4 due -/
def b25 : List S := [(.asg (.v 1) (.lst (.c (.cst (.bi .list (.var 0))) (.c (.int 0) (.c (.int 0) .n))))), (.asg (.v 2) (.call 20 (.io 1 .n))), (.asg (.v 3) (.call 20 (.io 1 .n))), (.asg (.v 4) (.call 23 (.c (.var 2) .n))), (.ite (.or (.e (.cmp .notB (.call 16 (.c (.var 2) .n)) (.bl true))) (.not (.e (.call 24 (.c (.call 18 (.c (.var 2) .n)) (.c (.var 4) .n)))))) [(.ret (.bl false))] []), (.ite (.not (.e (.call 24 (.c (.call 18 (.c (.slc (.var 3) .nop (.int 2)) .n)) (.c (.call 23 (.c (.slc (.var 3) .nop (.int 2)) .n)) .n))))) [(.ret (.bl false))] []), (.ret (.call 24 (.c (.call 18 (.c (.var 2) .n)) (.c (.var 4) .n))))]
abbrev f25 : Fn := ⟨1, 5, [], b25⟩
def mths : List (List (Str × Nat)) := [[("__init__", 8), ("first_stand", 9), ("can_go_on", 10), ("next_deed", 11), ("memory_has", 12), ("behind", 13)]]
def inits : List (Option Nat) := [some 8]
def flds : List (List Str) := [["length", "lines", "many", "reads", "rows"]]
def tb : Tab := ⟨[f0, f1, f2, f3, f4, f5, f6, f7, f8, f9, f10, f11, f12, f13, f14, f15, f16, f17, f18, f19, f20, f21, f22, f23, f24, f25], fun c m => (mths.getD c []).lookup m, fun c => inits.getD c none, fun _ => [], fun c f => (flds.getD c []).contains f⟩
def glbs : List (Str × D) := [("READ", (.int 0)), ("WRITE", (.int 1)), ("FENCE", (.int 2)), ("WITH_LINE", (.nd .tup false ((["read", "write"] : List Str).map D.str)))]
def gdcs : List (Str × (List Key × List D)) := [("KINDS", ([Sum.inr "read", Sum.inr "write", Sum.inr "fence"], [(.int 0), (.int 1), (.int 2)]))]
def cnames : List Str := ["PlainPlan"]
def fnames : List Str := ["is_integer", "is_number", "lines_of", "write_numbers", "read_counts", "deed_count", "numbered", "rows_of", "PlainPlan.__init__", "PlainPlan.first_stand", "PlainPlan.can_go_on", "PlainPlan.next_deed", "PlainPlan.memory_has", "PlainPlan.behind", "plain_answers", "is_deed_of_program", "is_program", "check_program", "plain_outcomes", "_law_draw", "_law_program", "_law_orders", "_law_done", "_law_due", "_law_holds", "law"]
def ftops : List Nat := [0, 1, 2, 3, 4, 5, 6, 7, 14, 15, 16, 17, 18, 19, 20, 21, 22, 23, 24, 25]
def fpars : List (List Str) := [["value"], ["value"], ["program"], ["program"], ["program"], ["program"], ["program"], ["counts", "answers"], ["self", "program"], ["self"], ["self", "stand", "processor"], ["self", "stand", "processor"], ["self", "stand", "line"], ["self", "stand", "processor"], ["program"], ["value"], ["value"], ["program"], ["program"], ["pile", "many"], ["pile"], ["program"], ["program", "order"], ["program"], ["told", "due"], ["script"]]
def lo (K : PySem.W.Frag) (w : World) (ca : Nat → Addr) (fa : Nat → Addr) (fd : Nat → FuncData) : Lo := ⟨K, w, ca, fun i => cnames.getD i "", fun i => fnames.getD i "", fa, fd, fun i => fpars.getD i [], fun i => (ftops.contains i), fun i => decide (i < 1), fun x => glbs.lookup x, fun x => gdcs.lookup x⟩
section
variable {P : Program} {w : World} {K : PySem.W.Frag} {mg : Str → Option Value} {base : Heap} {ca fa : Nat → Addr} {fd : Nat → FuncData} {o : Orc} {j : Nat}
theorem s0 : FnScope ["value"] ["value"] (defScope (top 1)) := ⟨rfl, rfl, rfl, by decide +kernel, rfl, by decide +kernel, by decide +kernel⟩
theorem d0 (F : Fix P w K mg (lo K w ca fa fd) tb) (ol : OLen tb o) (A : FnAll P w K mg base (lo K w ca fa fd) tb o j) (G : Fun K "is_integer" "is_integer" (top 1) (fa 0) (fd 0)) : FnOk P w K mg base (L2.CX P w) (j + 2) (fa 0) (fd 0) ["value"] (spF (lo K w ca fa fd) tb (runFn tb o) 0) := by
  refine fn_ok (L := lo K w ca fa fd) (fn := f0) rfl G s0 rfl rfl (by decide) (by decide) (by decide) fun cdv Ar outer s H E hr => ?_
  haveI := lay_of (N := ["value"]) (outer := outer) (H := H) (E := E) F A hr
  have nd : List.Nodup (["value"] : List Str) := s0.nd
  have pp := passes_of (X := cxOf (L2.CX P w) P w K mg base ["value"] "is_integer" (defScope (top 1)) (fa 0) cdv Ar outer s H E) rfl
  have bk : ∀ {scope : Scope} {own : List (Str × Nat)}, blkC ["value"] (defScope (top 1)) scope own = true → BlkOk (cxOf (L2.CX P w) P w K mg base ["value"] "is_integer" (defScope (top 1)) (fa 0) cdv Ar outer s H E).N (cxOf (L2.CX P w) P w K mg base ["value"] "is_integer" (defScope (top 1)) (fa 0) cdv Ar outer s H E).env.scope scope own := fun h => blkOk_by h
  exact (css_cons (cs_ret (ce_and (ce_isi .int (ce_var 0) (pe_ty rfl rfl)) (ce_one (ce_not (ce_isi .bool (ce_var 0) (pe_ty rfl rfl))))))
    (css_nil))
theorem s1 : FnScope ["value"] ["value"] (defScope (top 2)) := ⟨rfl, rfl, rfl, by decide +kernel, rfl, by decide +kernel, by decide +kernel⟩
theorem d1 (F : Fix P w K mg (lo K w ca fa fd) tb) (ol : OLen tb o) (A : FnAll P w K mg base (lo K w ca fa fd) tb o j) (G : Fun K "is_number" "is_number" (top 2) (fa 1) (fd 1)) : FnOk P w K mg base (L2.CX P w) (j + 2) (fa 1) (fd 1) ["value"] (spF (lo K w ca fa fd) tb (runFn tb o) 1) := by
  refine fn_ok (L := lo K w ca fa fd) (fn := f1) rfl G s1 rfl rfl (by decide) (by decide) (by decide) fun cdv Ar outer s H E hr => ?_
  haveI := lay_of (N := ["value"]) (outer := outer) (H := H) (E := E) F A hr
  have nd : List.Nodup (["value"] : List Str) := s1.nd
  have pp := passes_of (X := cxOf (L2.CX P w) P w K mg base ["value"] "is_number" (defScope (top 2)) (fa 1) cdv Ar outer s H E) rfl
  have bk : ∀ {scope : Scope} {own : List (Str × Nat)}, blkC ["value"] (defScope (top 2)) scope own = true → BlkOk (cxOf (L2.CX P w) P w K mg base ["value"] "is_number" (defScope (top 2)) (fa 1) cdv Ar outer s H E).N (cxOf (L2.CX P w) P w K mg base ["value"] "is_number" (defScope (top 2)) (fa 1) cdv Ar outer s H E).env.scope scope own := fun h => blkOk_by h
  exact (css_cons (cs_ret (ce_and (ce_call 0 ol (cg_cons (ce_var 0) cg_nil)) (ce_one (ce_cmp cmp_ge (ce_var 0) ce_int))))
    (css_nil))
theorem s2 : FnScope ["program", "told", "row", "deed"] ["program"] (defScope (top 11)) := ⟨rfl, rfl, rfl, by decide +kernel, rfl, by decide +kernel, by decide +kernel⟩
theorem d2 (F : Fix P w K mg (lo K w ca fa fd) tb) (ol : OLen tb o) (A : FnAll P w K mg base (lo K w ca fa fd) tb o j) (G : Fun K "lines_of" "lines_of" (top 11) (fa 2) (fd 2)) : FnOk P w K mg base (L2.CX P w) (j + 2) (fa 2) (fd 2) ["program"] (spF (lo K w ca fa fd) tb (runFn tb o) 2) := by
  refine fn_ok (L := lo K w ca fa fd) (fn := f2) rfl G s2 rfl rfl (by decide) (by decide) (by decide) fun cdv Ar outer s H E hr => ?_
  haveI := lay_of (N := ["program", "told", "row", "deed"]) (outer := outer) (H := H) (E := E) F A hr
  have nd : List.Nodup (["program", "told", "row", "deed"] : List Str) := s2.nd
  have pp := passes_of (X := cxOf (L2.CX P w) P w K mg base ["program", "told", "row", "deed"] "lines_of" (defScope (top 11)) (fa 2) cdv Ar outer s H E) rfl
  have bk : ∀ {scope : Scope} {own : List (Str × Nat)}, blkC ["program", "told", "row", "deed"] (defScope (top 11)) scope own = true → BlkOk (cxOf (L2.CX P w) P w K mg base ["program", "told", "row", "deed"] "lines_of" (defScope (top 11)) (fa 2) cdv Ar outer s H E).N (cxOf (L2.CX P w) P w K mg base ["program", "told", "row", "deed"] "lines_of" (defScope (top 11)) (fa 2) cdv Ar outer s H E).env.scope scope own := fun h => blkOk_by h
  exact (css_cons (cs_set 1 nd ce_dnew)
    (css_cons (cs_for pp (ci_tup (ce_var 0)) (tg_v 2 nd) (css_cons (cs_for pp (ci_tup (ce_var 2)) (tg_v 3 nd) (css_cons (cs_ite (ct_cmp cmp_eq (ce_len (ce_var 3)) ce_int) (css_cons (cs_sub ce_bl (cp_n 1) (cm_h (ce_sub (ce_var 3) ce_int)))
    (css_nil)) (css_nil))
    (css_nil)))
    (css_nil)))
    (css_cons (cs_ret (ce_tuple (ce_sorted (ce_var 1))))
    (css_nil))))
theorem s3 : FnScope ["program", "rows", "last", "row", "numbers", "deed"] ["program"] (defScope (top 12)) := ⟨rfl, rfl, rfl, by decide +kernel, rfl, by decide +kernel, by decide +kernel⟩
theorem d3 (F : Fix P w K mg (lo K w ca fa fd) tb) (ol : OLen tb o) (A : FnAll P w K mg base (lo K w ca fa fd) tb o j) (G : Fun K "write_numbers" "write_numbers" (top 12) (fa 3) (fd 3)) : FnOk P w K mg base (L2.CX P w) (j + 2) (fa 3) (fd 3) ["program"] (spF (lo K w ca fa fd) tb (runFn tb o) 3) := by
  refine fn_ok (L := lo K w ca fa fd) (fn := f3) rfl G s3 rfl rfl (by decide) (by decide) (by decide) fun cdv Ar outer s H E hr => ?_
  haveI := lay_of (N := ["program", "rows", "last", "row", "numbers", "deed"]) (outer := outer) (H := H) (E := E) F A hr
  have nd : List.Nodup (["program", "rows", "last", "row", "numbers", "deed"] : List Str) := s3.nd
  have pp := passes_of (X := cxOf (L2.CX P w) P w K mg base ["program", "rows", "last", "row", "numbers", "deed"] "write_numbers" (defScope (top 12)) (fa 3) cdv Ar outer s H E) rfl
  have bk : ∀ {scope : Scope} {own : List (Str × Nat)}, blkC ["program", "rows", "last", "row", "numbers", "deed"] (defScope (top 12)) scope own = true → BlkOk (cxOf (L2.CX P w) P w K mg base ["program", "rows", "last", "row", "numbers", "deed"] "write_numbers" (defScope (top 12)) (fa 3) cdv Ar outer s H E).N (cxOf (L2.CX P w) P w K mg base ["program", "rows", "last", "row", "numbers", "deed"] "write_numbers" (defScope (top 12)) (fa 3) cdv Ar outer s H E).env.scope scope own := fun h => blkOk_by h
  exact (css_cons (cs_set 1 nd (ce_lst ca_nil))
    (css_cons (cs_set 2 nd ce_int)
    (css_cons (cs_for pp (ci_tup (ce_var 0)) (tg_v 3 nd) (css_cons (cs_set 4 nd (ce_lst ca_nil))
    (css_cons (cs_for pp (ci_tup (ce_var 3)) (tg_v 5 nd) (css_cons (cs_ite (ct_cmp cmp_eq (ce_sub (ce_var 5) ce_int) ce_str) (css_cons (cs_aadd 2 nd ce_int)
    (css_cons (cs_ex (ce_append (cp_n 4) (cm_h (ce_var 2))))
    (css_nil))) (css_cons (cs_ex (ce_append (cp_n 4) (cm_h ce_int)))
    (css_nil)))
    (css_nil)))
    (css_cons (cs_ex (ce_append (cp_n 1) (cm_h (ce_tuple (ce_var 4)))))
    (css_nil)))))
    (css_cons (cs_ret (ce_tuple (ce_var 1)))
    (css_nil)))))
theorem s4 : FnScope ["program", "row", "deed"] ["program"] (defScope (top 13)) := ⟨rfl, rfl, rfl, by decide +kernel, rfl, by decide +kernel, by decide +kernel⟩
theorem d4 (F : Fix P w K mg (lo K w ca fa fd) tb) (ol : OLen tb o) (A : FnAll P w K mg base (lo K w ca fa fd) tb o j) (G : Fun K "read_counts" "read_counts" (top 13) (fa 4) (fd 4)) : FnOk P w K mg base (L2.CX P w) (j + 2) (fa 4) (fd 4) ["program"] (spF (lo K w ca fa fd) tb (runFn tb o) 4) := by
  refine fn_ok (L := lo K w ca fa fd) (fn := f4) rfl G s4 rfl rfl (by decide) (by decide) (by decide) fun cdv Ar outer s H E hr => ?_
  haveI := lay_of (N := ["program", "row", "deed"]) (outer := outer) (H := H) (E := E) F A hr
  have nd : List.Nodup (["program", "row", "deed"] : List Str) := s4.nd
  have pp := passes_of (X := cxOf (L2.CX P w) P w K mg base ["program", "row", "deed"] "read_counts" (defScope (top 13)) (fa 4) cdv Ar outer s H E) rfl
  have bk : ∀ {scope : Scope} {own : List (Str × Nat)}, blkC ["program", "row", "deed"] (defScope (top 13)) scope own = true → BlkOk (cxOf (L2.CX P w) P w K mg base ["program", "row", "deed"] "read_counts" (defScope (top 13)) (fa 4) cdv Ar outer s H E).N (cxOf (L2.CX P w) P w K mg base ["program", "row", "deed"] "read_counts" (defScope (top 13)) (fa 4) cdv Ar outer s H E).env.scope scope own := fun h => blkOk_by h
  exact (css_cons (cs_ret (ce_tuple (ce_lc [("row", 1)] nd (bk (own := [("row", 1)]) (by decide +kernel)) (ci_tup (ce_var 0)) (fun _ _ _ _ _ => (tg_v 1 nd)) (fun _ _ _ _ _ => cf_n) (fun _ _ _ _ _ => (ce_len (ce_lc [("deed", 2)] nd (blkOk_by (own := [("deed", 2)]) (by kernel_rfl)) (ci_tup (ce_var 1)) (fun _ _ _ _ _ => (tg_v 2 nd)) (fun _ _ _ _ _ => (cf_1 (ct_cmp cmp_eq (ce_sub (ce_var 2) ce_int) ce_str))) (fun _ _ _ _ _ => (ce_var 2))))))))
    (css_nil))
theorem s5 : FnScope ["program", "row"] ["program"] (defScope (top 14)) := ⟨rfl, rfl, rfl, by decide +kernel, rfl, by decide +kernel, by decide +kernel⟩
theorem d5 (F : Fix P w K mg (lo K w ca fa fd) tb) (ol : OLen tb o) (A : FnAll P w K mg base (lo K w ca fa fd) tb o j) (G : Fun K "deed_count" "deed_count" (top 14) (fa 5) (fd 5)) : FnOk P w K mg base (L2.CX P w) (j + 2) (fa 5) (fd 5) ["program"] (spF (lo K w ca fa fd) tb (runFn tb o) 5) := by
  refine fn_ok (L := lo K w ca fa fd) (fn := f5) rfl G s5 rfl rfl (by decide) (by decide) (by decide) fun cdv Ar outer s H E hr => ?_
  haveI := lay_of (N := ["program", "row"]) (outer := outer) (H := H) (E := E) F A hr
  have nd : List.Nodup (["program", "row"] : List Str) := s5.nd
  have pp := passes_of (X := cxOf (L2.CX P w) P w K mg base ["program", "row"] "deed_count" (defScope (top 14)) (fa 5) cdv Ar outer s H E) rfl
  have bk : ∀ {scope : Scope} {own : List (Str × Nat)}, blkC ["program", "row"] (defScope (top 14)) scope own = true → BlkOk (cxOf (L2.CX P w) P w K mg base ["program", "row"] "deed_count" (defScope (top 14)) (fa 5) cdv Ar outer s H E).N (cxOf (L2.CX P w) P w K mg base ["program", "row"] "deed_count" (defScope (top 14)) (fa 5) cdv Ar outer s H E).env.scope scope own := fun h => blkOk_by h
  exact (css_cons (cs_ret (ce_sum (ce_lc [("row", 1)] nd (bk (own := [("row", 1)]) (by decide +kernel)) (ci_tup (ce_var 0)) (fun _ _ _ _ _ => (tg_v 1 nd)) (fun _ _ _ _ _ => cf_n) (fun _ _ _ _ _ => (ce_len (ce_var 1))))))
    (css_nil))
theorem s6 : FnScope ["program", "places", "writes", "rows", "reads", "row", "numbers", "made", "deed", "number", "at", "line", "kind"] ["program"] (defScope (top 15)) := ⟨rfl, rfl, rfl, by decide +kernel, rfl, by decide +kernel, by decide +kernel⟩
theorem d6 (F : Fix P w K mg (lo K w ca fa fd) tb) (ol : OLen tb o) (A : FnAll P w K mg base (lo K w ca fa fd) tb o j) (G : Fun K "numbered" "numbered" (top 15) (fa 6) (fd 6)) : FnOk P w K mg base (L2.CX P w) (j + 2) (fa 6) (fd 6) ["program"] (spF (lo K w ca fa fd) tb (runFn tb o) 6) := by
  refine fn_ok (L := lo K w ca fa fd) (fn := f6) rfl G s6 rfl rfl (by decide) (by decide) (by decide) fun cdv Ar outer s H E hr => ?_
  haveI := lay_of (N := ["program", "places", "writes", "rows", "reads", "row", "numbers", "made", "deed", "number", "at", "line", "kind"]) (outer := outer) (H := H) (E := E) F A hr
  have nd : List.Nodup (["program", "places", "writes", "rows", "reads", "row", "numbers", "made", "deed", "number", "at", "line", "kind"] : List Str) := s6.nd
  have pp := passes_of (X := cxOf (L2.CX P w) P w K mg base ["program", "places", "writes", "rows", "reads", "row", "numbers", "made", "deed", "number", "at", "line", "kind"] "numbered" (defScope (top 15)) (fa 6) cdv Ar outer s H E) rfl
  have bk : ∀ {scope : Scope} {own : List (Str × Nat)}, blkC ["program", "places", "writes", "rows", "reads", "row", "numbers", "made", "deed", "number", "at", "line", "kind"] (defScope (top 15)) scope own = true → BlkOk (cxOf (L2.CX P w) P w K mg base ["program", "places", "writes", "rows", "reads", "row", "numbers", "made", "deed", "number", "at", "line", "kind"] "numbered" (defScope (top 15)) (fa 6) cdv Ar outer s H E).N (cxOf (L2.CX P w) P w K mg base ["program", "places", "writes", "rows", "reads", "row", "numbers", "made", "deed", "number", "at", "line", "kind"] "numbered" (defScope (top 15)) (fa 6) cdv Ar outer s H E).env.scope scope own := fun h => blkOk_by h
  exact (css_cons (cs_dc 1 [("at", 10), ("line", 11)] nd (bk (own := [("at", 10), ("line", 11)]) (by decide +kernel)) (sw_dc rfl rfl rfl (by decide +kernel)) (ci_enm (ce_call 2 ol (cg_cons (ce_var 0) cg_nil))) (fun _ _ _ _ _ => (tg_t (tgs_cons (tg_v 10 nd) (tgs_cons (tg_v 11 nd) tgs_nil)))) (fun _ _ _ _ _ => cf_n) (fun _ _ _ _ _ => (ce_var 11)) (fun _ _ _ _ _ => (ce_var 10)))
    (css_cons (cs_set 2 nd (ce_call 3 ol (cg_cons (ce_var 0) cg_nil)))
    (css_cons (cs_set 3 nd (ce_lst ca_nil))
    (css_cons (cs_set 4 nd ce_int)
    (css_cons (cs_for pp (ci_zip (ce_var 0) (ce_var 2)) (tg_t (tgs_cons (tg_v 5 nd) (tgs_cons (tg_v 6 nd) tgs_nil))) (css_cons (cs_set 7 nd (ce_lst ca_nil))
    (css_cons (cs_for pp (ci_zip (ce_var 5) (ce_var 6)) (tg_t (tgs_cons (tg_v 8 nd) (tgs_cons (tg_v 9 nd) tgs_nil))) (css_cons (cs_set 12 nd (ce_gsub rfl (ce_sub (ce_var 8) ce_int)))
    (css_cons (cs_ite (ct_cmp cmp_eq (ce_var 12) (ce_gl rfl)) (css_cons (cs_ex (ce_append (cp_n 7) (cm_h (ce_tup (ca_cons (ce_var 12) (ca_cons (ce_neg ce_int) (ca_cons (ce_neg ce_int) ca_nil)))))))
    (css_nil)) (css_cons (cs_ite (ct_cmp cmp_eq (ce_var 12) (ce_gl rfl)) (css_cons (cs_ex (ce_append (cp_n 7) (cm_h (ce_tup (ca_cons (ce_var 12) (ca_cons (ce_sub (ce_var 1) (ce_sub (ce_var 8) ce_int)) (ca_cons (ce_var 9) ca_nil)))))))
    (css_nil)) (css_cons (cs_ex (ce_append (cp_n 7) (cm_h (ce_tup (ca_cons (ce_var 12) (ca_cons (ce_sub (ce_var 1) (ce_sub (ce_var 8) ce_int)) (ca_cons (ce_var 4) ca_nil)))))))
    (css_cons (cs_aadd 4 nd ce_int)
    (css_nil))))
    (css_nil)))
    (css_nil))))
    (css_cons (cs_ex (ce_append (cp_n 3) (cm_h (ce_tuple (ce_var 7)))))
    (css_nil)))))
    (css_cons (cs_ret (ce_tuple (ce_var 3)))
    (css_nil)))))))
theorem s7 : FnScope ["counts", "answers", "rows", "at", "many"] ["counts", "answers"] (defScope (top 16)) := ⟨rfl, rfl, rfl, by decide +kernel, rfl, by decide +kernel, by decide +kernel⟩
theorem d7 (F : Fix P w K mg (lo K w ca fa fd) tb) (ol : OLen tb o) (A : FnAll P w K mg base (lo K w ca fa fd) tb o j) (G : Fun K "rows_of" "rows_of" (top 16) (fa 7) (fd 7)) : FnOk P w K mg base (L2.CX P w) (j + 2) (fa 7) (fd 7) ["counts", "answers"] (spF (lo K w ca fa fd) tb (runFn tb o) 7) := by
  refine fn_ok (L := lo K w ca fa fd) (fn := f7) rfl G s7 rfl rfl (by decide) (by decide) (by decide) fun cdv Ar outer s H E hr => ?_
  haveI := lay_of (N := ["counts", "answers", "rows", "at", "many"]) (outer := outer) (H := H) (E := E) F A hr
  have nd : List.Nodup (["counts", "answers", "rows", "at", "many"] : List Str) := s7.nd
  have pp := passes_of (X := cxOf (L2.CX P w) P w K mg base ["counts", "answers", "rows", "at", "many"] "rows_of" (defScope (top 16)) (fa 7) cdv Ar outer s H E) rfl
  have bk : ∀ {scope : Scope} {own : List (Str × Nat)}, blkC ["counts", "answers", "rows", "at", "many"] (defScope (top 16)) scope own = true → BlkOk (cxOf (L2.CX P w) P w K mg base ["counts", "answers", "rows", "at", "many"] "rows_of" (defScope (top 16)) (fa 7) cdv Ar outer s H E).N (cxOf (L2.CX P w) P w K mg base ["counts", "answers", "rows", "at", "many"] "rows_of" (defScope (top 16)) (fa 7) cdv Ar outer s H E).env.scope scope own := fun h => blkOk_by h
  exact (css_cons (cs_set 2 nd (ce_lst ca_nil))
    (css_cons (cs_set 3 nd ce_int)
    (css_cons (cs_for pp (ci_tup (ce_var 0)) (tg_v 4 nd) (css_cons (cs_ex (ce_append (cp_n 2) (cm_h (ce_tuple (ce_slc (ce_var 1) (co_some (ce_var 3)) (co_some (ce_add (ce_var 3) (ce_var 4))))))))
    (css_cons (cs_aadd 3 nd (ce_var 4))
    (css_nil))))
    (css_cons (cs_ret (ce_tuple (ce_var 2)))
    (css_nil)))))
theorem s8 : FnScope ["self", "program"] ["self", "program"] (defScope (inClass (top 18) 0)) := ⟨rfl, rfl, rfl, by decide +kernel, rfl, by decide +kernel, by decide +kernel⟩
theorem d8 (F : Fix P w K mg (lo K w ca fa fd) tb) (ol : OLen tb o) (A : FnAll P w K mg base (lo K w ca fa fd) tb o j) (G : Fun K "__init__" "PlainPlan.__init__" (inClass (top 18) 0) (fa 8) (fd 8)) : FnOk P w K mg base (L2.CX P w) (j + 2) (fa 8) (fd 8) ["self", "program"] (spF (lo K w ca fa fd) tb (runFn tb o) 8) := by
  refine fn_ok (L := lo K w ca fa fd) (fn := f8) rfl G s8 rfl rfl (by decide) (by decide) (by decide) fun cdv Ar outer s H E hr => ?_
  haveI := lay_of (N := ["self", "program"]) (outer := outer) (H := H) (E := E) F A hr
  have nd : List.Nodup (["self", "program"] : List Str) := s8.nd
  have pp := passes_of (X := cxOf (L2.CX P w) P w K mg base ["self", "program"] "PlainPlan.__init__" (defScope (inClass (top 18) 0)) (fa 8) cdv Ar outer s H E) rfl
  have bk : ∀ {scope : Scope} {own : List (Str × Nat)}, blkC ["self", "program"] (defScope (inClass (top 18) 0)) scope own = true → BlkOk (cxOf (L2.CX P w) P w K mg base ["self", "program"] "PlainPlan.__init__" (defScope (inClass (top 18) 0)) (fa 8) cdv Ar outer s H E).N (cxOf (L2.CX P w) P w K mg base ["self", "program"] "PlainPlan.__init__" (defScope (inClass (top 18) 0)) (fa 8) cdv Ar outer s H E).env.scope scope own := fun h => blkOk_by h
  exact (css_cons (cs_fld (ce_call 6 ol (cg_cons (ce_var 1) cg_nil)) (cp_n 0))
    (css_cons (cs_fld (ce_view (ce_len (ce_fld (ce_var 0)))) (cp_n 0))
    (css_cons (cs_fld (ce_len (ce_call 2 ol (cg_cons (ce_var 1) cg_nil))) (cp_n 0))
    (css_cons (cs_fld (ce_sum (ce_call 4 ol (cg_cons (ce_var 1) cg_nil))) (cp_n 0))
    (css_cons (cs_fld (ce_call 5 ol (cg_cons (ce_var 1) cg_nil)) (cp_n 0))
    (css_nil))))))
theorem s9 : FnScope ["self"] ["self"] (defScope (inClass (top 18) 1)) := ⟨rfl, rfl, rfl, by decide +kernel, rfl, by decide +kernel, by decide +kernel⟩
theorem d9 (F : Fix P w K mg (lo K w ca fa fd) tb) (ol : OLen tb o) (A : FnAll P w K mg base (lo K w ca fa fd) tb o j) (G : Fun K "first_stand" "PlainPlan.first_stand" (inClass (top 18) 1) (fa 9) (fd 9)) : FnOk P w K mg base (L2.CX P w) (j + 2) (fa 9) (fd 9) ["self"] (spF (lo K w ca fa fd) tb (runFn tb o) 9) := by
  refine fn_ok (L := lo K w ca fa fd) (fn := f9) rfl G s9 rfl rfl (by decide) (by decide) (by decide) fun cdv Ar outer s H E hr => ?_
  haveI := lay_of (N := ["self"]) (outer := outer) (H := H) (E := E) F A hr
  have nd : List.Nodup (["self"] : List Str) := s9.nd
  have pp := passes_of (X := cxOf (L2.CX P w) P w K mg base ["self"] "PlainPlan.first_stand" (defScope (inClass (top 18) 1)) (fa 9) cdv Ar outer s H E) rfl
  have bk : ∀ {scope : Scope} {own : List (Str × Nat)}, blkC ["self"] (defScope (inClass (top 18) 1)) scope own = true → BlkOk (cxOf (L2.CX P w) P w K mg base ["self"] "PlainPlan.first_stand" (defScope (inClass (top 18) 1)) (fa 9) cdv Ar outer s H E).N (cxOf (L2.CX P w) P w K mg base ["self"] "PlainPlan.first_stand" (defScope (inClass (top 18) 1)) (fa 9) cdv Ar outer s H E).env.scope scope own := fun h => blkOk_by h
  exact (css_cons (cs_ret (ce_mul (ce_tup (ca_cons ce_int ca_nil)) (ce_add (ce_fld (ce_var 0)) (ce_fld (ce_var 0)))))
    (css_nil))
theorem s10 : FnScope ["self", "stand", "processor"] ["self", "stand", "processor"] (defScope (inClass (top 18) 2)) := ⟨rfl, rfl, rfl, by decide +kernel, rfl, by decide +kernel, by decide +kernel⟩
theorem d10 (F : Fix P w K mg (lo K w ca fa fd) tb) (ol : OLen tb o) (A : FnAll P w K mg base (lo K w ca fa fd) tb o j) (G : Fun K "can_go_on" "PlainPlan.can_go_on" (inClass (top 18) 2) (fa 10) (fd 10)) : FnOk P w K mg base (L2.CX P w) (j + 2) (fa 10) (fd 10) ["self", "stand", "processor"] (spF (lo K w ca fa fd) tb (runFn tb o) 10) := by
  refine fn_ok (L := lo K w ca fa fd) (fn := f10) rfl G s10 rfl rfl (by decide) (by decide) (by decide) fun cdv Ar outer s H E hr => ?_
  haveI := lay_of (N := ["self", "stand", "processor"]) (outer := outer) (H := H) (E := E) F A hr
  have nd : List.Nodup (["self", "stand", "processor"] : List Str) := s10.nd
  have pp := passes_of (X := cxOf (L2.CX P w) P w K mg base ["self", "stand", "processor"] "PlainPlan.can_go_on" (defScope (inClass (top 18) 2)) (fa 10) cdv Ar outer s H E) rfl
  have bk : ∀ {scope : Scope} {own : List (Str × Nat)}, blkC ["self", "stand", "processor"] (defScope (inClass (top 18) 2)) scope own = true → BlkOk (cxOf (L2.CX P w) P w K mg base ["self", "stand", "processor"] "PlainPlan.can_go_on" (defScope (inClass (top 18) 2)) (fa 10) cdv Ar outer s H E).N (cxOf (L2.CX P w) P w K mg base ["self", "stand", "processor"] "PlainPlan.can_go_on" (defScope (inClass (top 18) 2)) (fa 10) cdv Ar outer s H E).env.scope scope own := fun h => blkOk_by h
  exact (css_cons (cs_ret (ce_cmp cmp_lt (ce_sub (ce_var 1) (ce_var 2)) (ce_len (ce_sub (ce_fld (ce_var 0)) (ce_var 2)))))
    (css_nil))
theorem s11 : FnScope ["self", "stand", "processor"] ["self", "stand", "processor"] (defScope (inClass (top 18) 3)) := ⟨rfl, rfl, rfl, by decide +kernel, rfl, by decide +kernel, by decide +kernel⟩
theorem d11 (F : Fix P w K mg (lo K w ca fa fd) tb) (ol : OLen tb o) (A : FnAll P w K mg base (lo K w ca fa fd) tb o j) (G : Fun K "next_deed" "PlainPlan.next_deed" (inClass (top 18) 3) (fa 11) (fd 11)) : FnOk P w K mg base (L2.CX P w) (j + 2) (fa 11) (fd 11) ["self", "stand", "processor"] (spF (lo K w ca fa fd) tb (runFn tb o) 11) := by
  refine fn_ok (L := lo K w ca fa fd) (fn := f11) rfl G s11 rfl rfl (by decide) (by decide) (by decide) fun cdv Ar outer s H E hr => ?_
  haveI := lay_of (N := ["self", "stand", "processor"]) (outer := outer) (H := H) (E := E) F A hr
  have nd : List.Nodup (["self", "stand", "processor"] : List Str) := s11.nd
  have pp := passes_of (X := cxOf (L2.CX P w) P w K mg base ["self", "stand", "processor"] "PlainPlan.next_deed" (defScope (inClass (top 18) 3)) (fa 11) cdv Ar outer s H E) rfl
  have bk : ∀ {scope : Scope} {own : List (Str × Nat)}, blkC ["self", "stand", "processor"] (defScope (inClass (top 18) 3)) scope own = true → BlkOk (cxOf (L2.CX P w) P w K mg base ["self", "stand", "processor"] "PlainPlan.next_deed" (defScope (inClass (top 18) 3)) (fa 11) cdv Ar outer s H E).N (cxOf (L2.CX P w) P w K mg base ["self", "stand", "processor"] "PlainPlan.next_deed" (defScope (inClass (top 18) 3)) (fa 11) cdv Ar outer s H E).env.scope scope own := fun h => blkOk_by h
  exact (css_cons (cs_ret (ce_sub (ce_sub (ce_fld (ce_var 0)) (ce_var 2)) (ce_sub (ce_var 1) (ce_var 2))))
    (css_nil))
theorem s12 : FnScope ["self", "stand", "line"] ["self", "stand", "line"] (defScope (inClass (top 18) 4)) := ⟨rfl, rfl, rfl, by decide +kernel, rfl, by decide +kernel, by decide +kernel⟩
theorem d12 (F : Fix P w K mg (lo K w ca fa fd) tb) (ol : OLen tb o) (A : FnAll P w K mg base (lo K w ca fa fd) tb o j) (G : Fun K "memory_has" "PlainPlan.memory_has" (inClass (top 18) 4) (fa 12) (fd 12)) : FnOk P w K mg base (L2.CX P w) (j + 2) (fa 12) (fd 12) ["self", "stand", "line"] (spF (lo K w ca fa fd) tb (runFn tb o) 12) := by
  refine fn_ok (L := lo K w ca fa fd) (fn := f12) rfl G s12 rfl rfl (by decide) (by decide) (by decide) fun cdv Ar outer s H E hr => ?_
  haveI := lay_of (N := ["self", "stand", "line"]) (outer := outer) (H := H) (E := E) F A hr
  have nd : List.Nodup (["self", "stand", "line"] : List Str) := s12.nd
  have pp := passes_of (X := cxOf (L2.CX P w) P w K mg base ["self", "stand", "line"] "PlainPlan.memory_has" (defScope (inClass (top 18) 4)) (fa 12) cdv Ar outer s H E) rfl
  have bk : ∀ {scope : Scope} {own : List (Str × Nat)}, blkC ["self", "stand", "line"] (defScope (inClass (top 18) 4)) scope own = true → BlkOk (cxOf (L2.CX P w) P w K mg base ["self", "stand", "line"] "PlainPlan.memory_has" (defScope (inClass (top 18) 4)) (fa 12) cdv Ar outer s H E).N (cxOf (L2.CX P w) P w K mg base ["self", "stand", "line"] "PlainPlan.memory_has" (defScope (inClass (top 18) 4)) (fa 12) cdv Ar outer s H E).env.scope scope own := fun h => blkOk_by h
  exact (css_cons (cs_ret (ce_sub (ce_var 1) (ce_add (ce_fld (ce_var 0)) (ce_var 2))))
    (css_nil))
theorem s13 : FnScope ["self", "stand", "processor", "kind", "line", "number", "made", "at"] ["self", "stand", "processor"] (defScope (inClass (top 18) 5)) := ⟨rfl, rfl, rfl, by decide +kernel, rfl, by decide +kernel, by decide +kernel⟩
theorem d13 (F : Fix P w K mg (lo K w ca fa fd) tb) (ol : OLen tb o) (A : FnAll P w K mg base (lo K w ca fa fd) tb o j) (G : Fun K "behind" "PlainPlan.behind" (inClass (top 18) 5) (fa 13) (fd 13)) : FnOk P w K mg base (L2.CX P w) (j + 2) (fa 13) (fd 13) ["self", "stand", "processor"] (spF (lo K w ca fa fd) tb (runFn tb o) 13) := by
  refine fn_ok (L := lo K w ca fa fd) (fn := f13) rfl G s13 rfl rfl (by decide) (by decide) (by decide) fun cdv Ar outer s H E hr => ?_
  haveI := lay_of (N := ["self", "stand", "processor", "kind", "line", "number", "made", "at"]) (outer := outer) (H := H) (E := E) F A hr
  have nd : List.Nodup (["self", "stand", "processor", "kind", "line", "number", "made", "at"] : List Str) := s13.nd
  have pp := passes_of (X := cxOf (L2.CX P w) P w K mg base ["self", "stand", "processor", "kind", "line", "number", "made", "at"] "PlainPlan.behind" (defScope (inClass (top 18) 5)) (fa 13) cdv Ar outer s H E) rfl
  have bk : ∀ {scope : Scope} {own : List (Str × Nat)}, blkC ["self", "stand", "processor", "kind", "line", "number", "made", "at"] (defScope (inClass (top 18) 5)) scope own = true → BlkOk (cxOf (L2.CX P w) P w K mg base ["self", "stand", "processor", "kind", "line", "number", "made", "at"] "PlainPlan.behind" (defScope (inClass (top 18) 5)) (fa 13) cdv Ar outer s H E).N (cxOf (L2.CX P w) P w K mg base ["self", "stand", "processor", "kind", "line", "number", "made", "at"] "PlainPlan.behind" (defScope (inClass (top 18) 5)) (fa 13) cdv Ar outer s H E).env.scope scope own := fun h => blkOk_by h
  exact (css_cons (cs_asg (ce_meth ol (ce_var 0) (cg_cons (ce_var 1) (cg_cons (ce_var 2) cg_nil))) (tg_t (tgs_cons (tg_v 3 nd) (tgs_cons (tg_v 4 nd) (tgs_cons (tg_v 5 nd) tgs_nil)))))
    (css_cons (cs_set 6 nd (ce_list (ce_var 1)))
    (css_cons (cs_saadd (cp_n 6) (cm_h (ce_var 2)) (cm_h ce_int))
    (css_cons (cs_ite (ct_cmp cmp_eq (ce_var 3) (ce_gl rfl)) (css_cons (cs_sub (ce_var 5) (cp_n 6) (cm_h (ce_add (ce_fld (ce_var 0)) (ce_var 4))))
    (css_nil)) (css_nil))
    (css_cons (cs_set 7 nd (ce_add (ce_add (ce_fld (ce_var 0)) (ce_fld (ce_var 0))) (ce_var 5)))
    (css_cons (cs_ite (ct_view (ct_w (cw_and (ct_cmp cmp_eq (ce_var 3) (ce_gl rfl)) (cw_one (ct_cmp cmp_lt (ce_var 7) (ce_len (ce_var 6))))))) (css_cons (cs_sub (ce_meth ol (ce_var 0) (cg_cons (ce_var 1) (cg_cons (ce_var 4) cg_nil))) (cp_n 6) (cm_h (ce_var 7)))
    (css_nil)) (css_nil))
    (css_cons (cs_ret (ce_tuple (ce_var 6)))
    (css_nil))))))))
theorem s14 : FnScope ["program", "plan", "stands", "_", "told", "ahead", "stand", "processor"] ["program"] (defScope (top 19)) := ⟨rfl, rfl, rfl, by decide +kernel, rfl, by decide +kernel, by decide +kernel⟩
theorem d14 (F : Fix P w K mg (lo K w ca fa fd) tb) (ol : OLen tb o) (A : FnAll P w K mg base (lo K w ca fa fd) tb o j) (G : Fun K "plain_answers" "plain_answers" (top 19) (fa 14) (fd 14)) : FnOk P w K mg base (L2.CX P w) (j + 2) (fa 14) (fd 14) ["program"] (spF (lo K w ca fa fd) tb (runFn tb o) 14) := by
  refine fn_ok (L := lo K w ca fa fd) (fn := f14) rfl G s14 rfl rfl (by decide) (by decide) (by decide) fun cdv Ar outer s H E hr => ?_
  haveI := lay_of (N := ["program", "plan", "stands", "_", "told", "ahead", "stand", "processor"]) (outer := outer) (H := H) (E := E) F A hr
  have nd : List.Nodup (["program", "plan", "stands", "_", "told", "ahead", "stand", "processor"] : List Str) := s14.nd
  have pp := passes_of (X := cxOf (L2.CX P w) P w K mg base ["program", "plan", "stands", "_", "told", "ahead", "stand", "processor"] "plain_answers" (defScope (top 19)) (fa 14) cdv Ar outer s H E) rfl
  have bk : ∀ {scope : Scope} {own : List (Str × Nat)}, blkC ["program", "plan", "stands", "_", "told", "ahead", "stand", "processor"] (defScope (top 19)) scope own = true → BlkOk (cxOf (L2.CX P w) P w K mg base ["program", "plan", "stands", "_", "told", "ahead", "stand", "processor"] "plain_answers" (defScope (top 19)) (fa 14) cdv Ar outer s H E).N (cxOf (L2.CX P w) P w K mg base ["program", "plan", "stands", "_", "told", "ahead", "stand", "processor"] "plain_answers" (defScope (top 19)) (fa 14) cdv Ar outer s H E).env.scope scope own := fun h => blkOk_by h
  exact (css_cons (cs_set 1 nd (ce_mk 0 ol (ca_cons (ce_var 0) ca_nil)))
    (css_cons (cs_set 2 nd (ce_lst (ca_cons (ce_add (ce_meth0 ol (ce_var 1)) (ce_mul (ce_tup (ca_cons (ce_neg ce_int) ca_nil)) (ce_fld (ce_var 1)))) ca_nil)))
    (css_cons (cs_for pp (ci_rng (ce_fld (ce_var 1))) (tg_v 3 nd) (css_cons (cs_set 5 nd ce_dnew)
    (css_cons (cs_for pp (ci_lst (ce_var 2)) (tg_v 6 nd) (css_cons (cs_for pp (ci_rng (ce_fld (ce_var 1))) (tg_v 7 nd) (css_cons (cs_ite (ct_e (ce_meth ol (ce_var 1) (cg_cons (ce_var 6) (cg_cons (ce_var 7) cg_nil)))) (css_cons (cs_sub ce_bl (cp_n 5) (cm_h (ce_meth ol (ce_var 1) (cg_cons (ce_var 6) (cg_cons (ce_var 7) cg_nil)))))
    (css_nil)) (css_nil))
    (css_nil)))
    (css_nil)))
    (css_cons (cs_set 2 nd (ce_list (ce_var 5)))
    (css_nil)))))
    (css_cons (cs_dc 4 [("stand", 6)] nd (bk (own := [("stand", 6)]) (by decide +kernel)) (sw_dc rfl rfl rfl (by decide +kernel)) (ci_lst (ce_var 2)) (fun _ _ _ _ _ => (tg_v 6 nd)) (fun _ _ _ _ _ => cf_n) (fun _ _ _ _ _ => (ce_slc (ce_var 6) (co_some (ce_add (ce_fld (ce_var 1)) (ce_fld (ce_var 1)))) co_none)) (fun _ _ _ _ _ => ce_bl))
    (css_cons (cs_ret (ce_sorted (ce_var 4)))
    (css_nil))))))
theorem s15 : FnScope ["value"] ["value"] (defScope (top 22)) := ⟨rfl, rfl, rfl, by decide +kernel, rfl, by decide +kernel, by decide +kernel⟩
theorem d15 (F : Fix P w K mg (lo K w ca fa fd) tb) (ol : OLen tb o) (A : FnAll P w K mg base (lo K w ca fa fd) tb o j) (G : Fun K "is_deed_of_program" "is_deed_of_program" (top 22) (fa 15) (fd 15)) : FnOk P w K mg base (L2.CX P w) (j + 2) (fa 15) (fd 15) ["value"] (spF (lo K w ca fa fd) tb (runFn tb o) 15) := by
  refine fn_ok (L := lo K w ca fa fd) (fn := f15) rfl G s15 rfl rfl (by decide) (by decide) (by decide) fun cdv Ar outer s H E hr => ?_
  haveI := lay_of (N := ["value"]) (outer := outer) (H := H) (E := E) F A hr
  have nd : List.Nodup (["value"] : List Str) := s15.nd
  have pp := passes_of (X := cxOf (L2.CX P w) P w K mg base ["value"] "is_deed_of_program" (defScope (top 22)) (fa 15) cdv Ar outer s H E) rfl
  have bk : ∀ {scope : Scope} {own : List (Str × Nat)}, blkC ["value"] (defScope (top 22)) scope own = true → BlkOk (cxOf (L2.CX P w) P w K mg base ["value"] "is_deed_of_program" (defScope (top 22)) (fa 15) cdv Ar outer s H E).N (cxOf (L2.CX P w) P w K mg base ["value"] "is_deed_of_program" (defScope (top 22)) (fa 15) cdv Ar outer s H E).env.scope scope own := fun h => blkOk_by h
  exact (css_cons (cs_ite (ct_w (cw_or (ct_not (ct_e (ce_isi .tuple (ce_var 0) (pe_ty rfl rfl)))) (cw_oneO (ct_cmp cmp_notin (ce_len (ce_var 0)) (ce_tup (ca_cons ce_int (ca_cons ce_int ca_nil))))))) (css_cons (cs_ret ce_bl)
    (css_nil)) (css_nil))
    (css_cons (cs_ite (ct_not (ct_e (ce_isi .str (ce_sub (ce_var 0) ce_int) (pe_ty rfl rfl)))) (css_cons (cs_ret ce_bl)
    (css_nil)) (css_nil))
    (css_cons (cs_ite (ct_cmp cmp_eq (ce_len (ce_var 0)) ce_int) (css_cons (cs_ret (ce_cmp cmp_eq (ce_sub (ce_var 0) ce_int) ce_str))
    (css_nil)) (css_nil))
    (css_cons (cs_ret (ce_and (ce_cmp cmp_in (ce_sub (ce_var 0) ce_int) (ce_gl rfl)) (ce_one (ce_call 1 ol (cg_cons (ce_sub (ce_var 0) ce_int) cg_nil)))))
    (css_nil)))))
theorem s16 : FnScope ["value", "row", "deed"] ["value"] (defScope (top 23)) := ⟨rfl, rfl, rfl, by decide +kernel, rfl, by decide +kernel, by decide +kernel⟩
theorem d16 (F : Fix P w K mg (lo K w ca fa fd) tb) (ol : OLen tb o) (A : FnAll P w K mg base (lo K w ca fa fd) tb o j) (G : Fun K "is_program" "is_program" (top 23) (fa 16) (fd 16)) : FnOk P w K mg base (L2.CX P w) (j + 2) (fa 16) (fd 16) ["value"] (spF (lo K w ca fa fd) tb (runFn tb o) 16) := by
  refine fn_ok (L := lo K w ca fa fd) (fn := f16) rfl G s16 rfl rfl (by decide) (by decide) (by decide) fun cdv Ar outer s H E hr => ?_
  haveI := lay_of (N := ["value", "row", "deed"]) (outer := outer) (H := H) (E := E) F A hr
  have nd : List.Nodup (["value", "row", "deed"] : List Str) := s16.nd
  have pp := passes_of (X := cxOf (L2.CX P w) P w K mg base ["value", "row", "deed"] "is_program" (defScope (top 23)) (fa 16) cdv Ar outer s H E) rfl
  have bk : ∀ {scope : Scope} {own : List (Str × Nat)}, blkC ["value", "row", "deed"] (defScope (top 23)) scope own = true → BlkOk (cxOf (L2.CX P w) P w K mg base ["value", "row", "deed"] "is_program" (defScope (top 23)) (fa 16) cdv Ar outer s H E).N (cxOf (L2.CX P w) P w K mg base ["value", "row", "deed"] "is_program" (defScope (top 23)) (fa 16) cdv Ar outer s H E).env.scope scope own := fun h => blkOk_by h
  exact (css_cons (cs_ite (ct_not (ct_e (ce_isi .tuple (ce_var 0) (pe_ty rfl rfl)))) (css_cons (cs_ret ce_bl)
    (css_nil)) (css_nil))
    (css_cons (cs_for pp (ci_tup (ce_var 0)) (tg_v 1 nd) (css_cons (cs_ite (ct_not (ct_e (ce_isi .tuple (ce_var 1) (pe_ty rfl rfl)))) (css_cons (cs_ret ce_bl)
    (css_nil)) (css_nil))
    (css_cons (cs_ite (ct_not (ct_e (ce_all (ce_lc [("deed", 2)] nd (bk (own := [("deed", 2)]) (by decide +kernel)) (ci_tup (ce_var 1)) (fun _ _ _ _ _ => (tg_v 2 nd)) (fun _ _ _ _ _ => cf_n) (fun _ _ _ _ _ => (ce_call 15 ol (cg_cons (ce_var 2) cg_nil))))))) (css_cons (cs_ret ce_bl)
    (css_nil)) (css_nil))
    (css_nil))))
    (css_cons (cs_ret ce_bl)
    (css_nil))))
theorem s17 : FnScope ["program"] ["program"] (defScope (top 24)) := ⟨rfl, rfl, rfl, by decide +kernel, rfl, by decide +kernel, by decide +kernel⟩
theorem d17 (F : Fix P w K mg (lo K w ca fa fd) tb) (ol : OLen tb o) (A : FnAll P w K mg base (lo K w ca fa fd) tb o j) (G : Fun K "check_program" "check_program" (top 24) (fa 17) (fd 17)) : FnOk P w K mg base (L2.CX P w) (j + 2) (fa 17) (fd 17) ["program"] (spF (lo K w ca fa fd) tb (runFn tb o) 17) := by
  refine fn_ok (L := lo K w ca fa fd) (fn := f17) rfl G s17 rfl rfl (by decide) (by decide) (by decide) fun cdv Ar outer s H E hr => ?_
  haveI := lay_of (N := ["program"]) (outer := outer) (H := H) (E := E) F A hr
  have nd : List.Nodup (["program"] : List Str) := s17.nd
  have pp := passes_of (X := cxOf (L2.CX P w) P w K mg base ["program"] "check_program" (defScope (top 24)) (fa 17) cdv Ar outer s H E) rfl
  have bk : ∀ {scope : Scope} {own : List (Str × Nat)}, blkC ["program"] (defScope (top 24)) scope own = true → BlkOk (cxOf (L2.CX P w) P w K mg base ["program"] "check_program" (defScope (top 24)) (fa 17) cdv Ar outer s H E).N (cxOf (L2.CX P w) P w K mg base ["program"] "check_program" (defScope (top 24)) (fa 17) cdv Ar outer s H E).env.scope scope own := fun h => blkOk_by h
  exact (css_cons (cs_ite (ct_not (ct_e (ce_call 16 ol (cg_cons (ce_var 0) cg_nil)))) (css_cons cs_bad
    (css_nil)) (css_nil))
    (css_nil))
theorem s18 : FnScope ["program", "counts", "answers"] ["program"] (defScope (top 25)) := ⟨rfl, rfl, rfl, by decide +kernel, rfl, by decide +kernel, by decide +kernel⟩
theorem d18 (F : Fix P w K mg (lo K w ca fa fd) tb) (ol : OLen tb o) (A : FnAll P w K mg base (lo K w ca fa fd) tb o j) (G : Fun K "plain_outcomes" "plain_outcomes" (top 25) (fa 18) (fd 18)) : FnOk P w K mg base (L2.CX P w) (j + 2) (fa 18) (fd 18) ["program"] (spF (lo K w ca fa fd) tb (runFn tb o) 18) := by
  refine fn_ok (L := lo K w ca fa fd) (fn := f18) rfl G s18 rfl rfl (by decide) (by decide) (by decide) fun cdv Ar outer s H E hr => ?_
  haveI := lay_of (N := ["program", "counts", "answers"]) (outer := outer) (H := H) (E := E) F A hr
  have nd : List.Nodup (["program", "counts", "answers"] : List Str) := s18.nd
  have pp := passes_of (X := cxOf (L2.CX P w) P w K mg base ["program", "counts", "answers"] "plain_outcomes" (defScope (top 25)) (fa 18) cdv Ar outer s H E) rfl
  have bk : ∀ {scope : Scope} {own : List (Str × Nat)}, blkC ["program", "counts", "answers"] (defScope (top 25)) scope own = true → BlkOk (cxOf (L2.CX P w) P w K mg base ["program", "counts", "answers"] "plain_outcomes" (defScope (top 25)) (fa 18) cdv Ar outer s H E).N (cxOf (L2.CX P w) P w K mg base ["program", "counts", "answers"] "plain_outcomes" (defScope (top 25)) (fa 18) cdv Ar outer s H E).env.scope scope own := fun h => blkOk_by h
  exact (css_cons (cs_ex (ce_call 17 ol (cg_cons (ce_var 0) cg_nil)))
    (css_cons (cs_set 1 nd (ce_call 4 ol (cg_cons (ce_var 0) cg_nil)))
    (css_cons (cs_ret (ce_tuple (ce_lc [("answers", 2)] nd (bk (own := [("answers", 2)]) (by decide +kernel)) (ci_lst (ce_call 14 ol (cg_cons (ce_var 0) cg_nil))) (fun _ _ _ _ _ => (tg_v 2 nd)) (fun _ _ _ _ _ => cf_n) (fun _ _ _ _ _ => (ce_call 7 ol (cg_cons (ce_var 1) (cg_cons (ce_var 2) cg_nil)))))))
    (css_nil))))
theorem s19 : FnScope ["pile", "many", "cells", "at", "cell", "seed", "part"] ["pile", "many"] (defScope (top 27)) := ⟨rfl, rfl, rfl, by decide +kernel, rfl, by decide +kernel, by decide +kernel⟩
theorem d19 (F : Fix P w K mg (lo K w ca fa fd) tb) (ol : OLen tb o) (A : FnAll P w K mg base (lo K w ca fa fd) tb o j) (G : Fun K "_law_draw" "_law_draw" (top 27) (fa 19) (fd 19)) : FnOk P w K mg base (L2.CX P w) (j + 2) (fa 19) (fd 19) ["pile", "many"] (spF (lo K w ca fa fd) tb (runFn tb o) 19) := by
  refine fn_ok (L := lo K w ca fa fd) (fn := f19) rfl G s19 rfl rfl (by decide) (by decide) (by decide) fun cdv Ar outer s H E hr => ?_
  haveI := lay_of (N := ["pile", "many", "cells", "at", "cell", "seed", "part"]) (outer := outer) (H := H) (E := E) F A hr
  have nd : List.Nodup (["pile", "many", "cells", "at", "cell", "seed", "part"] : List Str) := s19.nd
  have pp := passes_of (X := cxOf (L2.CX P w) P w K mg base ["pile", "many", "cells", "at", "cell", "seed", "part"] "_law_draw" (defScope (top 27)) (fa 19) cdv Ar outer s H E) rfl
  have bk : ∀ {scope : Scope} {own : List (Str × Nat)}, blkC ["pile", "many", "cells", "at", "cell", "seed", "part"] (defScope (top 27)) scope own = true → BlkOk (cxOf (L2.CX P w) P w K mg base ["pile", "many", "cells", "at", "cell", "seed", "part"] "_law_draw" (defScope (top 27)) (fa 19) cdv Ar outer s H E).N (cxOf (L2.CX P w) P w K mg base ["pile", "many", "cells", "at", "cell", "seed", "part"] "_law_draw" (defScope (top 27)) (fa 19) cdv Ar outer s H E).env.scope scope own := fun h => blkOk_by h
  exact (css_cons (cs_set 2 nd (ce_view (ce_sub (ce_var 0) ce_int)))
    (css_cons (cs_set 3 nd (ce_view (ce_fdiv (ce_sub (ce_var 0) ce_int) ce_int)))
    (css_cons (cs_set 4 nd ce_int)
    (css_cons (cs_ite (ct_cmp cmp_gt (ce_len (ce_var 2)) ce_int) (css_cons (cs_set 4 nd (ce_int1 (ce_sub (ce_var 2) (ce_mod (ce_var 3) (ce_len (ce_var 2))))))
    (css_nil)) (css_nil))
    (css_cons (cs_ite (ct_view (ct_cmp cmp_eq (ce_mod (ce_sub (ce_var 0) ce_int) ce_int) ce_int)) (css_cons (cs_sub (ce_var 4) (cp_n 0) (cm_h ce_int))
    (css_nil)) (css_nil))
    (css_cons (cs_sub (ce_view (ce_add (ce_sub (ce_var 0) ce_int) ce_int)) (cp_n 0) (cm_h ce_int))
    (css_cons (cs_ite (ct_w (cw_and (ct_cmp cmp_ge (ce_var 4) (ce_pow ce_int ce_int)) (cw_one (ct_cmp cmp_lt (ce_var 3) (ce_len (ce_var 2)))))) (css_cons (cs_set 6 nd (ce_view (ce_mod (ce_int1 (ce_sub (ce_var 0) ce_int)) (ce_var 1))))
    (css_cons (cs_sub (ce_view (ce_fdiv (ce_int1 (ce_sub (ce_var 0) ce_int)) (ce_var 1))) (cp_n 0) (cm_h ce_int))
    (css_cons (cs_ret (ce_mv 6))
    (css_nil)))) (css_nil))
    (css_cons (cs_set 5 nd (ce_view (ce_mod (ce_add (ce_add (ce_mul (ce_mod (ce_int1 (ce_var 4)) ce_int) ce_int) (ce_mul (ce_sub (ce_var 0) ce_int) ce_int)) ce_int) ce_int)))
    (css_cons (cs_ret (ce_view (ce_mod (ce_mod (ce_add (ce_mul (ce_var 5) ce_int) (ce_mul (ce_mul (ce_sub (ce_var 0) ce_int) (ce_sub (ce_var 0) ce_int)) ce_int)) ce_int) (ce_var 1))))
    (css_nil))))))))))
theorem s20 : FnScope ["pile", "many", "size", "words", "rows", "k", "word", "deed", "row"] ["pile"] (defScope (top 28)) := ⟨rfl, rfl, rfl, by decide +kernel, rfl, by decide +kernel, by decide +kernel⟩
theorem d20 (F : Fix P w K mg (lo K w ca fa fd) tb) (ol : OLen tb o) (A : FnAll P w K mg base (lo K w ca fa fd) tb o j) (G : Fun K "_law_program" "_law_program" (top 28) (fa 20) (fd 20)) : FnOk P w K mg base (L2.CX P w) (j + 2) (fa 20) (fd 20) ["pile"] (spF (lo K w ca fa fd) tb (runFn tb o) 20) := by
  refine fn_ok (L := lo K w ca fa fd) (fn := f20) rfl G s20 rfl rfl (by decide) (by decide) (by decide) fun cdv Ar outer s H E hr => ?_
  haveI := lay_of (N := ["pile", "many", "size", "words", "rows", "k", "word", "deed", "row"]) (outer := outer) (H := H) (E := E) F A hr
  have nd : List.Nodup (["pile", "many", "size", "words", "rows", "k", "word", "deed", "row"] : List Str) := s20.nd
  have pp := passes_of (X := cxOf (L2.CX P w) P w K mg base ["pile", "many", "size", "words", "rows", "k", "word", "deed", "row"] "_law_program" (defScope (top 28)) (fa 20) cdv Ar outer s H E) rfl
  have bk : ∀ {scope : Scope} {own : List (Str × Nat)}, blkC ["pile", "many", "size", "words", "rows", "k", "word", "deed", "row"] (defScope (top 28)) scope own = true → BlkOk (cxOf (L2.CX P w) P w K mg base ["pile", "many", "size", "words", "rows", "k", "word", "deed", "row"] "_law_program" (defScope (top 28)) (fa 20) cdv Ar outer s H E).N (cxOf (L2.CX P w) P w K mg base ["pile", "many", "size", "words", "rows", "k", "word", "deed", "row"] "_law_program" (defScope (top 28)) (fa 20) cdv Ar outer s H E).env.scope scope own := fun h => blkOk_by h
  exact (css_cons (cs_set 1 nd (ce_add ce_int (ce_call 19 ol (cg_io 0 (cg_cons ce_int cg_nil)))))
    (css_cons (cs_set 2 nd (ce_call 19 ol (cg_io 0 (cg_cons ce_int cg_nil))))
    (css_cons (cs_set 3 nd (ce_lst (ca_cons ce_str (ca_cons ce_str (ca_cons ce_str (ca_cons ce_str (ca_cons ce_str (ca_cons ce_str ca_nil))))))))
    (css_cons (cs_ite (ct_cmp cmp_eq (ce_call 19 ol (cg_io 0 (cg_cons ce_int cg_nil))) ce_int) (css_cons (cs_set 3 nd (ce_lst (ca_cons ce_str (ca_cons ce_str (ca_cons ce_str ca_nil)))))
    (css_nil)) (css_nil))
    (css_cons (cs_lc 4 [("k", 5)] nd (bk (own := [("k", 5)]) (by decide +kernel)) (sw_true rfl rfl rfl (by decide +kernel)) (ci_rng (ce_var 1)) (fun _ _ _ _ _ => (tg_v 5 nd)) (fun _ _ _ _ _ => cf_n) (fun _ _ _ _ _ => (ce_lst ca_nil)))
    (css_cons (cs_for pp (ci_rng (ce_var 2)) (tg_v 5 nd) (css_cons (cs_set 6 nd (ce_sub (ce_var 3) (ce_call 19 ol (cg_io 0 (cg_cons (ce_len (ce_var 3)) cg_nil)))))
    (css_cons (cs_set 7 nd (ce_tup (ca_cons (ce_var 6) (ca_cons (ce_call 19 ol (cg_io 0 (cg_cons ce_int cg_nil))) ca_nil))))
    (css_cons (cs_ite (ct_cmp cmp_eq (ce_var 6) ce_str) (css_cons (cs_set 7 nd (ce_tup (ca_cons ce_str ca_nil)))
    (css_nil)) (css_nil))
    (css_cons (cs_ex (ce_append (cp_ix (cp_n 4) (cm_h (ce_call 19 ol (cg_io 0 (cg_cons (ce_var 1) cg_nil))))) (cm_h (ce_var 7))))
    (css_nil))))))
    (css_cons (cs_ret (ce_tuple (ce_lc [("row", 8)] nd (bk (own := [("row", 8)]) (by decide +kernel)) (ci_lst (ce_var 4)) (fun _ _ _ _ _ => (tg_v 8 nd)) (fun _ _ _ _ _ => cf_n) (fun _ _ _ _ _ => (ce_tuple (ce_var 8))))))
    (css_nil))))))))
theorem s21 : FnScope ["program", "rows", "turn", "news", "row", "p"] ["program"] (defScope (top 29)) := ⟨rfl, rfl, rfl, by decide +kernel, rfl, by decide +kernel, by decide +kernel⟩
theorem d21 (F : Fix P w K mg (lo K w ca fa fd) tb) (ol : OLen tb o) (A : FnAll P w K mg base (lo K w ca fa fd) tb o j) (G : Fun K "_law_orders" "_law_orders" (top 29) (fa 21) (fd 21)) : FnOk P w K mg base (L2.CX P w) (j + 2) (fa 21) (fd 21) ["program"] (spF (lo K w ca fa fd) tb (runFn tb o) 21) := by
  refine fn_ok (L := lo K w ca fa fd) (fn := f21) rfl G s21 rfl rfl (by decide) (by decide) (by decide) fun cdv Ar outer s H E hr => ?_
  haveI := lay_of (N := ["program", "rows", "turn", "news", "row", "p"]) (outer := outer) (H := H) (E := E) F A hr
  have nd : List.Nodup (["program", "rows", "turn", "news", "row", "p"] : List Str) := s21.nd
  have pp := passes_of (X := cxOf (L2.CX P w) P w K mg base ["program", "rows", "turn", "news", "row", "p"] "_law_orders" (defScope (top 29)) (fa 21) cdv Ar outer s H E) rfl
  have bk : ∀ {scope : Scope} {own : List (Str × Nat)}, blkC ["program", "rows", "turn", "news", "row", "p"] (defScope (top 29)) scope own = true → BlkOk (cxOf (L2.CX P w) P w K mg base ["program", "rows", "turn", "news", "row", "p"] "_law_orders" (defScope (top 29)) (fa 21) cdv Ar outer s H E).N (cxOf (L2.CX P w) P w K mg base ["program", "rows", "turn", "news", "row", "p"] "_law_orders" (defScope (top 29)) (fa 21) cdv Ar outer s H E).env.scope scope own := fun h => blkOk_by h
  exact (css_cons (cs_set 1 nd (ce_lst (ca_cons (ce_tup ca_nil) ca_nil)))
    (css_cons (cs_for pp (ci_rng (ce_sum (ce_lc [("row", 4)] nd (bk (own := [("row", 4)]) (by decide +kernel)) (ci_tup (ce_var 0)) (fun _ _ _ _ _ => (tg_v 4 nd)) (fun _ _ _ _ _ => cf_n) (fun _ _ _ _ _ => (ce_len (ce_var 4)))))) (tg_v 2 nd) (css_cons (cs_set 3 nd (ce_lst ca_nil))
    (css_cons (cs_for pp (ci_lst (ce_var 1)) (tg_v 4 nd) (css_cons (cs_set 3 nd (ce_add (ce_var 3) (ce_lc [("p", 5)] nd (bk (own := [("p", 5)]) (by decide +kernel)) (ci_rng (ce_len (ce_var 0))) (fun _ _ _ _ _ => (tg_v 5 nd)) (fun _ _ _ _ _ => (cf_1 (ct_cmp cmp_lt (ce_tcount (ce_var 4) (ce_var 5)) (ce_len (ce_sub (ce_var 0) (ce_var 5)))))) (fun _ _ _ _ _ => (ce_add (ce_var 4) (ce_tup (ca_cons (ce_var 5) ca_nil)))))))
    (css_nil)))
    (css_cons (cs_set 1 nd (ce_mv 3))
    (css_nil)))))
    (css_cons (cs_ret (ce_mv 1))
    (css_nil))))
theorem s22 : FnScope ["program", "order", "first", "number", "row", "at", "answers", "cells", "p", "deed"] ["program", "order"] (defScope (top 30)) := ⟨rfl, rfl, rfl, by decide +kernel, rfl, by decide +kernel, by decide +kernel⟩
theorem d22 (F : Fix P w K mg (lo K w ca fa fd) tb) (ol : OLen tb o) (A : FnAll P w K mg base (lo K w ca fa fd) tb o j) (G : Fun K "_law_done" "_law_done" (top 30) (fa 22) (fd 22)) : FnOk P w K mg base (L2.CX P w) (j + 2) (fa 22) (fd 22) ["program", "order"] (spF (lo K w ca fa fd) tb (runFn tb o) 22) := by
  refine fn_ok (L := lo K w ca fa fd) (fn := f22) rfl G s22 rfl rfl (by decide) (by decide) (by decide) fun cdv Ar outer s H E hr => ?_
  haveI := lay_of (N := ["program", "order", "first", "number", "row", "at", "answers", "cells", "p", "deed"]) (outer := outer) (H := H) (E := E) F A hr
  have nd : List.Nodup (["program", "order", "first", "number", "row", "at", "answers", "cells", "p", "deed"] : List Str) := s22.nd
  have pp := passes_of (X := cxOf (L2.CX P w) P w K mg base ["program", "order", "first", "number", "row", "at", "answers", "cells", "p", "deed"] "_law_done" (defScope (top 30)) (fa 22) cdv Ar outer s H E) rfl
  have bk : ∀ {scope : Scope} {own : List (Str × Nat)}, blkC ["program", "order", "first", "number", "row", "at", "answers", "cells", "p", "deed"] (defScope (top 30)) scope own = true → BlkOk (cxOf (L2.CX P w) P w K mg base ["program", "order", "first", "number", "row", "at", "answers", "cells", "p", "deed"] "_law_done" (defScope (top 30)) (fa 22) cdv Ar outer s H E).N (cxOf (L2.CX P w) P w K mg base ["program", "order", "first", "number", "row", "at", "answers", "cells", "p", "deed"] "_law_done" (defScope (top 30)) (fa 22) cdv Ar outer s H E).env.scope scope own := fun h => blkOk_by h
  exact (css_cons (cs_set 2 nd (ce_lst ca_nil))
    (css_cons (cs_set 3 nd ce_int)
    (css_cons (cs_for pp (ci_tup (ce_var 0)) (tg_v 4 nd) (css_cons (cs_ex (ce_append (cp_n 2) (cm_h (ce_var 3))))
    (css_cons (cs_set 3 nd (ce_add (ce_var 3) (ce_len (ce_lc [("deed", 9)] nd (bk (own := [("deed", 9)]) (by decide +kernel)) (ci_tup (ce_var 4)) (fun _ _ _ _ _ => (tg_v 9 nd)) (fun _ _ _ _ _ => (cf_1 (ct_cmp cmp_eq (ce_sub (ce_var 9) ce_int) ce_str))) (fun _ _ _ _ _ => (ce_var 9))))))
    (css_nil))))
    (css_cons (cs_lc 5 [("row", 4)] nd (bk (own := [("row", 4)]) (by decide +kernel)) (sw_true rfl rfl rfl (by decide +kernel)) (ci_tup (ce_var 0)) (fun _ _ _ _ _ => (tg_v 4 nd)) (fun _ _ _ _ _ => cf_n) (fun _ _ _ _ _ => ce_int))
    (css_cons (cs_lc 6 [("row", 4)] nd (bk (own := [("row", 4)]) (by decide +kernel)) (sw_true rfl rfl rfl (by decide +kernel)) (ci_tup (ce_var 0)) (fun _ _ _ _ _ => (tg_v 4 nd)) (fun _ _ _ _ _ => cf_n) (fun _ _ _ _ _ => (ce_tup ca_nil)))
    (css_cons (cs_set 7 nd (ce_lst (ca_cons ce_int (ca_cons ce_int ca_nil))))
    (css_cons (cs_for pp (ci_tup (ce_var 1)) (tg_v 8 nd) (css_cons (cs_set 9 nd (ce_view (ce_sub (ce_sub (ce_var 0) (ce_var 8)) (ce_sub (ce_var 5) (ce_var 8)))))
    (css_cons (cs_sub (ce_view (ce_add (ce_sub (ce_var 5) (ce_var 8)) ce_int)) (cp_n 5) (cm_h (ce_var 8)))
    (css_cons (cs_ite (ct_cmp cmp_eq (ce_sub (ce_var 9) ce_int) ce_str) (css_cons (cs_sub (ce_view (ce_add (ce_sub (ce_var 2) (ce_var 8)) ce_int)) (cp_n 2) (cm_h (ce_var 8)))
    (css_cons (cs_sub (ce_view (ce_sub (ce_var 2) (ce_var 8))) (cp_n 7) (cm_h (ce_sub (ce_var 9) ce_int)))
    (css_nil))) (css_cons (cs_ite (ct_cmp cmp_eq (ce_sub (ce_var 9) ce_int) ce_str) (css_cons (cs_sub (ce_view (ce_add (ce_sub (ce_var 6) (ce_var 8)) (ce_tup (ca_cons (ce_sub (ce_var 7) (ce_sub (ce_var 9) ce_int)) ca_nil)))) (cp_n 6) (cm_h (ce_var 8)))
    (css_nil)) (css_nil))
    (css_nil)))
    (css_nil)))))
    (css_cons (cs_ret (ce_tuple (ce_var 6)))
    (css_nil)))))))))
theorem s23 : FnScope ["program", "found", "order"] ["program"] (defScope (top 31)) := ⟨rfl, rfl, rfl, by decide +kernel, rfl, by decide +kernel, by decide +kernel⟩
theorem d23 (F : Fix P w K mg (lo K w ca fa fd) tb) (ol : OLen tb o) (A : FnAll P w K mg base (lo K w ca fa fd) tb o j) (G : Fun K "_law_due" "_law_due" (top 31) (fa 23) (fd 23)) : FnOk P w K mg base (L2.CX P w) (j + 2) (fa 23) (fd 23) ["program"] (spF (lo K w ca fa fd) tb (runFn tb o) 23) := by
  refine fn_ok (L := lo K w ca fa fd) (fn := f23) rfl G s23 rfl rfl (by decide) (by decide) (by decide) fun cdv Ar outer s H E hr => ?_
  haveI := lay_of (N := ["program", "found", "order"]) (outer := outer) (H := H) (E := E) F A hr
  have nd : List.Nodup (["program", "found", "order"] : List Str) := s23.nd
  have pp := passes_of (X := cxOf (L2.CX P w) P w K mg base ["program", "found", "order"] "_law_due" (defScope (top 31)) (fa 23) cdv Ar outer s H E) rfl
  have bk : ∀ {scope : Scope} {own : List (Str × Nat)}, blkC ["program", "found", "order"] (defScope (top 31)) scope own = true → BlkOk (cxOf (L2.CX P w) P w K mg base ["program", "found", "order"] "_law_due" (defScope (top 31)) (fa 23) cdv Ar outer s H E).N (cxOf (L2.CX P w) P w K mg base ["program", "found", "order"] "_law_due" (defScope (top 31)) (fa 23) cdv Ar outer s H E).env.scope scope own := fun h => blkOk_by h
  exact (css_cons (cs_set 1 nd ce_dnew)
    (css_cons (cs_for pp (ci_lst (ce_call 21 ol (cg_cons (ce_var 0) cg_nil))) (tg_v 2 nd) (css_cons (cs_sub ce_bl (cp_n 1) (cm_h (ce_call 22 ol (cg_cons (ce_var 0) (cg_cons (ce_var 2) cg_nil)))))
    (css_nil)))
    (css_cons (cs_ret (ce_sorted (ce_list (ce_var 1))))
    (css_nil))))
theorem s24 : FnScope ["told", "due", "k", "row", "x"] ["told", "due"] (defScope (top 32)) := ⟨rfl, rfl, rfl, by decide +kernel, rfl, by decide +kernel, by decide +kernel⟩
theorem d24 (F : Fix P w K mg (lo K w ca fa fd) tb) (ol : OLen tb o) (A : FnAll P w K mg base (lo K w ca fa fd) tb o j) (G : Fun K "_law_holds" "_law_holds" (top 32) (fa 24) (fd 24)) : FnOk P w K mg base (L2.CX P w) (j + 2) (fa 24) (fd 24) ["told", "due"] (spF (lo K w ca fa fd) tb (runFn tb o) 24) := by
  refine fn_ok (L := lo K w ca fa fd) (fn := f24) rfl G s24 rfl rfl (by decide) (by decide) (by decide) fun cdv Ar outer s H E hr => ?_
  haveI := lay_of (N := ["told", "due", "k", "row", "x"]) (outer := outer) (H := H) (E := E) F A hr
  have nd : List.Nodup (["told", "due", "k", "row", "x"] : List Str) := s24.nd
  have pp := passes_of (X := cxOf (L2.CX P w) P w K mg base ["told", "due", "k", "row", "x"] "_law_holds" (defScope (top 32)) (fa 24) cdv Ar outer s H E) rfl
  have bk : ∀ {scope : Scope} {own : List (Str × Nat)}, blkC ["told", "due", "k", "row", "x"] (defScope (top 32)) scope own = true → BlkOk (cxOf (L2.CX P w) P w K mg base ["told", "due", "k", "row", "x"] "_law_holds" (defScope (top 32)) (fa 24) cdv Ar outer s H E).N (cxOf (L2.CX P w) P w K mg base ["told", "due", "k", "row", "x"] "_law_holds" (defScope (top 32)) (fa 24) cdv Ar outer s H E).env.scope scope own := fun h => blkOk_by h
  exact (css_cons (cs_ite (ct_w (cw_or (ct_not (ct_e (ce_isi .tuple (ce_var 0) (pe_ty rfl rfl)))) (cw_oneO (ct_cmp cmp_ne (ce_len (ce_var 0)) (ce_len (ce_var 1)))))) (css_cons (cs_ret ce_bl)
    (css_nil)) (css_nil))
    (css_cons (cs_for pp (ci_rng (ce_len (ce_var 1))) (tg_v 2 nd) (css_cons (cs_ite (ct_w (cw_or (ct_not (ct_e (ce_isi .tuple (ce_sub (ce_var 0) (ce_var 2)) (pe_ty rfl rfl)))) (cw_oneO (ct_cmp cmp_ne (ce_sub (ce_var 0) (ce_var 2)) (ce_sub (ce_var 1) (ce_var 2)))))) (css_cons (cs_ret ce_bl)
    (css_nil)) (css_nil))
    (css_cons (cs_for pp (ci_tup (ce_sub (ce_var 0) (ce_var 2))) (tg_v 3 nd) (css_cons (cs_ite (ct_w (cw_or (ct_not (ct_e (ce_isi .tuple (ce_var 3) (pe_ty rfl rfl)))) (cw_oneO (ct_cmp cmp_gt (ce_len (ce_lc [("x", 4)] nd (bk (own := [("x", 4)]) (by decide +kernel)) (ci_tup (ce_var 3)) (fun _ _ _ _ _ => (tg_v 4 nd)) (fun _ _ _ _ _ => (cf_1 (ct_w (cw_or (ct_e (ce_isi .bool (ce_var 4) (pe_ty rfl rfl))) (cw_oneO (ct_not (ct_e (ce_isi .int (ce_var 4) (pe_ty rfl rfl))))))))) (fun _ _ _ _ _ => (ce_var 4)))) ce_int)))) (css_cons (cs_ret ce_bl)
    (css_nil)) (css_nil))
    (css_nil)))
    (css_nil))))
    (css_cons (cs_ret ce_bl)
    (css_nil))))
theorem s25 : FnScope ["script", "pile", "program", "other", "due"] ["script"] (defScope (top 33)) := ⟨rfl, rfl, rfl, by decide +kernel, rfl, by decide +kernel, by decide +kernel⟩
theorem d25 (F : Fix P w K mg (lo K w ca fa fd) tb) (ol : OLen tb o) (A : FnAll P w K mg base (lo K w ca fa fd) tb o j) (G : Fun K "law" "law" (top 33) (fa 25) (fd 25)) : FnOk P w K mg base (L2.CX P w) (j + 2) (fa 25) (fd 25) ["script"] (spF (lo K w ca fa fd) tb (runFn tb o) 25) := by
  refine fn_ok (L := lo K w ca fa fd) (fn := f25) rfl G s25 rfl rfl (by decide) (by decide) (by decide) fun cdv Ar outer s H E hr => ?_
  haveI := lay_of (N := ["script", "pile", "program", "other", "due"]) (outer := outer) (H := H) (E := E) F A hr
  have nd : List.Nodup (["script", "pile", "program", "other", "due"] : List Str) := s25.nd
  have pp := passes_of (X := cxOf (L2.CX P w) P w K mg base ["script", "pile", "program", "other", "due"] "law" (defScope (top 33)) (fa 25) cdv Ar outer s H E) rfl
  have bk : ∀ {scope : Scope} {own : List (Str × Nat)}, blkC ["script", "pile", "program", "other", "due"] (defScope (top 33)) scope own = true → BlkOk (cxOf (L2.CX P w) P w K mg base ["script", "pile", "program", "other", "due"] "law" (defScope (top 33)) (fa 25) cdv Ar outer s H E).N (cxOf (L2.CX P w) P w K mg base ["script", "pile", "program", "other", "due"] "law" (defScope (top 33)) (fa 25) cdv Ar outer s H E).env.scope scope own := fun h => blkOk_by h
  exact (css_cons (cs_set 1 nd (ce_lst (ca_cons (ce_cst (ce_list (ce_var 0))) (ca_cons ce_int (ca_cons ce_int ca_nil)))))
    (css_cons (cs_set 2 nd (ce_call 20 ol (cg_io 1 cg_nil)))
    (css_cons (cs_set 3 nd (ce_call 20 ol (cg_io 1 cg_nil)))
    (css_cons (cs_set 4 nd (ce_call 23 ol (cg_cons (ce_var 2) cg_nil)))
    (css_cons (cs_ite (ct_w (cw_or (ct_cmp cmp_notB (ce_call 16 ol (cg_cons (ce_var 2) cg_nil)) ce_bl) (cw_oneO (ct_not (ct_e (ce_call 24 ol (cg_cons (ce_call 18 ol (cg_cons (ce_var 2) cg_nil)) (cg_cons (ce_var 4) cg_nil)))))))) (css_cons (cs_ret ce_bl)
    (css_nil)) (css_nil))
    (css_cons (cs_ite (ct_not (ct_e (ce_call 24 ol (cg_cons (ce_call 18 ol (cg_cons (ce_slc (ce_var 3) co_none (co_some ce_int)) cg_nil)) (cg_cons (ce_call 23 ol (cg_cons (ce_slc (ce_var 3) co_none (co_some ce_int)) cg_nil)) cg_nil))))) (css_cons (cs_ret ce_bl)
    (css_nil)) (css_nil))
    (css_cons (cs_ret (ce_call 24 ol (cg_cons (ce_call 18 ol (cg_cons (ce_var 2) cg_nil)) (cg_cons (ce_var 4) cg_nil))))
    (css_nil))))))))
theorem dAll (F : Fix P w K mg (lo K w ca fa fd) tb) (G0 : Fun K "is_integer" "is_integer" (top 1) (fa 0) (fd 0)) (G1 : Fun K "is_number" "is_number" (top 2) (fa 1) (fd 1)) (G2 : Fun K "lines_of" "lines_of" (top 11) (fa 2) (fd 2)) (G3 : Fun K "write_numbers" "write_numbers" (top 12) (fa 3) (fd 3)) (G4 : Fun K "read_counts" "read_counts" (top 13) (fa 4) (fd 4)) (G5 : Fun K "deed_count" "deed_count" (top 14) (fa 5) (fd 5)) (G6 : Fun K "numbered" "numbered" (top 15) (fa 6) (fd 6)) (G7 : Fun K "rows_of" "rows_of" (top 16) (fa 7) (fd 7)) (G8 : Fun K "__init__" "PlainPlan.__init__" (inClass (top 18) 0) (fa 8) (fd 8)) (G9 : Fun K "first_stand" "PlainPlan.first_stand" (inClass (top 18) 1) (fa 9) (fd 9)) (G10 : Fun K "can_go_on" "PlainPlan.can_go_on" (inClass (top 18) 2) (fa 10) (fd 10)) (G11 : Fun K "next_deed" "PlainPlan.next_deed" (inClass (top 18) 3) (fa 11) (fd 11)) (G12 : Fun K "memory_has" "PlainPlan.memory_has" (inClass (top 18) 4) (fa 12) (fd 12)) (G13 : Fun K "behind" "PlainPlan.behind" (inClass (top 18) 5) (fa 13) (fd 13)) (G14 : Fun K "plain_answers" "plain_answers" (top 19) (fa 14) (fd 14)) (G15 : Fun K "is_deed_of_program" "is_deed_of_program" (top 22) (fa 15) (fd 15)) (G16 : Fun K "is_program" "is_program" (top 23) (fa 16) (fd 16)) (G17 : Fun K "check_program" "check_program" (top 24) (fa 17) (fd 17)) (G18 : Fun K "plain_outcomes" "plain_outcomes" (top 25) (fa 18) (fd 18)) (G19 : Fun K "_law_draw" "_law_draw" (top 27) (fa 19) (fd 19)) (G20 : Fun K "_law_program" "_law_program" (top 28) (fa 20) (fd 20)) (G21 : Fun K "_law_orders" "_law_orders" (top 29) (fa 21) (fd 21)) (G22 : Fun K "_law_done" "_law_done" (top 30) (fa 22) (fd 22)) (G23 : Fun K "_law_due" "_law_due" (top 31) (fa 23) (fd 23)) (G24 : Fun K "_law_holds" "_law_holds" (top 32) (fa 24) (fd 24)) (G25 : Fun K "law" "law" (top 33) (fa 25) (fd 25)) (o : Orc) (j : Nat) (ol : OLen tb o) (A : FnAll P w K mg base (lo K w ca fa fd) tb o j) : FnAll P w K mg base (lo K w ca fa fd) tb (runFn tb o) (j + 2)
  | 0, _, hf => by cases Option.some.inj hf; exact d0 F ol A G0
  | 1, _, hf => by cases Option.some.inj hf; exact d1 F ol A G1
  | 2, _, hf => by cases Option.some.inj hf; exact d2 F ol A G2
  | 3, _, hf => by cases Option.some.inj hf; exact d3 F ol A G3
  | 4, _, hf => by cases Option.some.inj hf; exact d4 F ol A G4
  | 5, _, hf => by cases Option.some.inj hf; exact d5 F ol A G5
  | 6, _, hf => by cases Option.some.inj hf; exact d6 F ol A G6
  | 7, _, hf => by cases Option.some.inj hf; exact d7 F ol A G7
  | 8, _, hf => by cases Option.some.inj hf; exact d8 F ol A G8
  | 9, _, hf => by cases Option.some.inj hf; exact d9 F ol A G9
  | 10, _, hf => by cases Option.some.inj hf; exact d10 F ol A G10
  | 11, _, hf => by cases Option.some.inj hf; exact d11 F ol A G11
  | 12, _, hf => by cases Option.some.inj hf; exact d12 F ol A G12
  | 13, _, hf => by cases Option.some.inj hf; exact d13 F ol A G13
  | 14, _, hf => by cases Option.some.inj hf; exact d14 F ol A G14
  | 15, _, hf => by cases Option.some.inj hf; exact d15 F ol A G15
  | 16, _, hf => by cases Option.some.inj hf; exact d16 F ol A G16
  | 17, _, hf => by cases Option.some.inj hf; exact d17 F ol A G17
  | 18, _, hf => by cases Option.some.inj hf; exact d18 F ol A G18
  | 19, _, hf => by cases Option.some.inj hf; exact d19 F ol A G19
  | 20, _, hf => by cases Option.some.inj hf; exact d20 F ol A G20
  | 21, _, hf => by cases Option.some.inj hf; exact d21 F ol A G21
  | 22, _, hf => by cases Option.some.inj hf; exact d22 F ol A G22
  | 23, _, hf => by cases Option.some.inj hf; exact d23 F ol A G23
  | 24, _, hf => by cases Option.some.inj hf; exact d24 F ol A G24
  | 25, _, hf => by cases Option.some.inj hf; exact d25 F ol A G25
  | _ + 26, _, hf => by cases hf
end
set_option maxHeartbeats 0 in
theorem all_mk {l : PySem.W.OpenLaw} {w : World} {K : PySem.W.Frag} {h : Heap} {mg : Str → Option Value} {fa a0 a1 a2 a3 a4 a5 a6 a7 a8 a9 a10 a11 a12 a13 a14 a15 a16 a17 a18 a19 a20 a21 a22 a23 a24 a25 C0 : Addr} (X : K.In h) (G : h.Ns mainGlobals mg) (hfa : mg "law" = some (.ref fa))
    {od0 an0 od1 an1 od2 an2 od3 an3 od4 an4 od5 an5 od6 an6 od7 an7 od8 an8 od9 an9 od10 an10 od11 an11 od12 an12 od13 an13 od14 an14 od15 an15 od16 an16 od17 an17 od18 an18 od19 an19 od20 an20 od21 an21 od22 an22 od23 an23 od24 an24 od25 an25 : Option Addr} {sl0 sl1 sl2 sl3 sl4 sl5 sl6 sl7 sl8 sl9 sl10 sl11 sl12 sl13 sl14 sl15 sl16 sl17 sl18 sl19 sl20 sl21 sl22 sl23 sl24 sl25 : Array (Option Value)} {oc0 kV0 dc0 pm0 cd0 ct0 oc1 kV1 dc1 pm1 cd1 ct1 oc2 kV2 dc2 pm2 cd2 ct2 oc3 kV3 dc3 pm3 cd3 ct3 oc4 kV4 dc4 pm4 cd4 ct4 oc5 kV5 dc5 pm5 cd5 ct5 oc6 kV6 dc6 pm6 cd6 ct6 oc7 kV7 dc7 pm7 cd7 ct7 oc8 kV8 dc8 pm8 cd8 ct8 oc9 kV9 dc9 pm9 cd9 ct9 oc10 kV10 dc10 pm10 cd10 ct10 oc11 kV11 dc11 pm11 cd11 ct11 oc12 kV12 dc12 pm12 cd12 ct12 oc13 kV13 dc13 pm13 cd13 ct13 oc14 kV14 dc14 pm14 cd14 ct14 oc15 kV15 dc15 pm15 cd15 ct15 oc16 kV16 dc16 pm16 cd16 ct16 oc17 kV17 dc17 pm17 cd17 ct17 oc18 kV18 dc18 pm18 cd18 ct18 oc19 kV19 dc19 pm19 cd19 ct19 oc20 kV20 dc20 pm20 cd20 ct20 oc21 kV21 dc21 pm21 cd21 ct21 oc22 kV22 dc22 pm22 cd22 ct22 oc23 kV23 dc23 pm23 cd23 ct23 oc24 kV24 dc24 pm24 cd24 ct24 oc25 kV25 dc25 pm25 cd25 ct25 : Value}
    (aC0 : PySem.W.nsIn K mainGlobals "PlainPlan" = some (some (.ref C0)))
    (pg0 : PySem.W.plainGet K C0 Str.empty = true)
    (hd0 : PySem.W.hasDictIn K C0 = true)
    (po0 : PySem.W.plainOver K C0 = true)
    (sa0 : PySem.W.findIn K (.ref C0) "__setattr__" = some (some (.builtin "object.__setattr__")))
    (mk0 : PySem.W.makesIn K C0 = true)
    (kc0 : PySem.W.keepIn K (.ref C0) = true)
    (nf0_0 : PySem.W.findIn K (.ref C0) "length" = some none)
    (nf0_1 : PySem.W.findIn K (.ref C0) "lines" = some none)
    (nf0_2 : PySem.W.findIn K (.ref C0) "many" = some none)
    (nf0_3 : PySem.W.findIn K (.ref C0) "reads" = some none)
    (nf0_4 : PySem.W.findIn K (.ref C0) "rows" = some none)
    (n0 : PySem.W.nsIn K mainGlobals "is_integer" = some (some (.ref a0)))
    (l0 : K.lookup a0 = some ⟨oc0, od0, .func (PySem.W.fnOf "is_integer" "is_integer" (defArgs (top 1)) (defBody (top 1)) (defScope (top 1)) .none kV0 dc0 pm0 an0 cd0 ct0), sl0⟩)
    (c0 : PySem.W.codeIn K cd0 "is_integer" = true)
    (k0 : PySem.W.keepIn K (.ref a0) = true)
    (n1 : PySem.W.nsIn K mainGlobals "is_number" = some (some (.ref a1)))
    (l1 : K.lookup a1 = some ⟨oc1, od1, .func (PySem.W.fnOf "is_number" "is_number" (defArgs (top 2)) (defBody (top 2)) (defScope (top 2)) .none kV1 dc1 pm1 an1 cd1 ct1), sl1⟩)
    (c1 : PySem.W.codeIn K cd1 "is_number" = true)
    (k1 : PySem.W.keepIn K (.ref a1) = true)
    (n2 : PySem.W.nsIn K mainGlobals "lines_of" = some (some (.ref a2)))
    (l2 : K.lookup a2 = some ⟨oc2, od2, .func (PySem.W.fnOf "lines_of" "lines_of" (defArgs (top 11)) (defBody (top 11)) (defScope (top 11)) .none kV2 dc2 pm2 an2 cd2 ct2), sl2⟩)
    (c2 : PySem.W.codeIn K cd2 "lines_of" = true)
    (k2 : PySem.W.keepIn K (.ref a2) = true)
    (n3 : PySem.W.nsIn K mainGlobals "write_numbers" = some (some (.ref a3)))
    (l3 : K.lookup a3 = some ⟨oc3, od3, .func (PySem.W.fnOf "write_numbers" "write_numbers" (defArgs (top 12)) (defBody (top 12)) (defScope (top 12)) .none kV3 dc3 pm3 an3 cd3 ct3), sl3⟩)
    (c3 : PySem.W.codeIn K cd3 "write_numbers" = true)
    (k3 : PySem.W.keepIn K (.ref a3) = true)
    (n4 : PySem.W.nsIn K mainGlobals "read_counts" = some (some (.ref a4)))
    (l4 : K.lookup a4 = some ⟨oc4, od4, .func (PySem.W.fnOf "read_counts" "read_counts" (defArgs (top 13)) (defBody (top 13)) (defScope (top 13)) .none kV4 dc4 pm4 an4 cd4 ct4), sl4⟩)
    (c4 : PySem.W.codeIn K cd4 "read_counts" = true)
    (k4 : PySem.W.keepIn K (.ref a4) = true)
    (n5 : PySem.W.nsIn K mainGlobals "deed_count" = some (some (.ref a5)))
    (l5 : K.lookup a5 = some ⟨oc5, od5, .func (PySem.W.fnOf "deed_count" "deed_count" (defArgs (top 14)) (defBody (top 14)) (defScope (top 14)) .none kV5 dc5 pm5 an5 cd5 ct5), sl5⟩)
    (c5 : PySem.W.codeIn K cd5 "deed_count" = true)
    (k5 : PySem.W.keepIn K (.ref a5) = true)
    (n6 : PySem.W.nsIn K mainGlobals "numbered" = some (some (.ref a6)))
    (l6 : K.lookup a6 = some ⟨oc6, od6, .func (PySem.W.fnOf "numbered" "numbered" (defArgs (top 15)) (defBody (top 15)) (defScope (top 15)) .none kV6 dc6 pm6 an6 cd6 ct6), sl6⟩)
    (c6 : PySem.W.codeIn K cd6 "numbered" = true)
    (k6 : PySem.W.keepIn K (.ref a6) = true)
    (n7 : PySem.W.nsIn K mainGlobals "rows_of" = some (some (.ref a7)))
    (l7 : K.lookup a7 = some ⟨oc7, od7, .func (PySem.W.fnOf "rows_of" "rows_of" (defArgs (top 16)) (defBody (top 16)) (defScope (top 16)) .none kV7 dc7 pm7 an7 cd7 ct7), sl7⟩)
    (c7 : PySem.W.codeIn K cd7 "rows_of" = true)
    (k7 : PySem.W.keepIn K (.ref a7) = true)
    (n8 : PySem.W.findIn K (.ref C0) "__init__" = some (some (.ref a8)))
    (i8 : PySem.W.isFn K (.ref a8) = true)
    (l8 : K.lookup a8 = some ⟨oc8, od8, .func (PySem.W.fnOf "__init__" "PlainPlan.__init__" (defArgs (inClass (top 18) 0)) (defBody (inClass (top 18) 0)) (defScope (inClass (top 18) 0)) .none kV8 dc8 pm8 an8 cd8 ct8), sl8⟩)
    (c8 : PySem.W.codeIn K cd8 "PlainPlan.__init__" = true)
    (k8 : PySem.W.keepIn K (.ref a8) = true)
    (n9 : PySem.W.findIn K (.ref C0) "first_stand" = some (some (.ref a9)))
    (i9 : PySem.W.isFn K (.ref a9) = true)
    (l9 : K.lookup a9 = some ⟨oc9, od9, .func (PySem.W.fnOf "first_stand" "PlainPlan.first_stand" (defArgs (inClass (top 18) 1)) (defBody (inClass (top 18) 1)) (defScope (inClass (top 18) 1)) .none kV9 dc9 pm9 an9 cd9 ct9), sl9⟩)
    (c9 : PySem.W.codeIn K cd9 "PlainPlan.first_stand" = true)
    (k9 : PySem.W.keepIn K (.ref a9) = true)
    (n10 : PySem.W.findIn K (.ref C0) "can_go_on" = some (some (.ref a10)))
    (i10 : PySem.W.isFn K (.ref a10) = true)
    (l10 : K.lookup a10 = some ⟨oc10, od10, .func (PySem.W.fnOf "can_go_on" "PlainPlan.can_go_on" (defArgs (inClass (top 18) 2)) (defBody (inClass (top 18) 2)) (defScope (inClass (top 18) 2)) .none kV10 dc10 pm10 an10 cd10 ct10), sl10⟩)
    (c10 : PySem.W.codeIn K cd10 "PlainPlan.can_go_on" = true)
    (k10 : PySem.W.keepIn K (.ref a10) = true)
    (n11 : PySem.W.findIn K (.ref C0) "next_deed" = some (some (.ref a11)))
    (i11 : PySem.W.isFn K (.ref a11) = true)
    (l11 : K.lookup a11 = some ⟨oc11, od11, .func (PySem.W.fnOf "next_deed" "PlainPlan.next_deed" (defArgs (inClass (top 18) 3)) (defBody (inClass (top 18) 3)) (defScope (inClass (top 18) 3)) .none kV11 dc11 pm11 an11 cd11 ct11), sl11⟩)
    (c11 : PySem.W.codeIn K cd11 "PlainPlan.next_deed" = true)
    (k11 : PySem.W.keepIn K (.ref a11) = true)
    (n12 : PySem.W.findIn K (.ref C0) "memory_has" = some (some (.ref a12)))
    (i12 : PySem.W.isFn K (.ref a12) = true)
    (l12 : K.lookup a12 = some ⟨oc12, od12, .func (PySem.W.fnOf "memory_has" "PlainPlan.memory_has" (defArgs (inClass (top 18) 4)) (defBody (inClass (top 18) 4)) (defScope (inClass (top 18) 4)) .none kV12 dc12 pm12 an12 cd12 ct12), sl12⟩)
    (c12 : PySem.W.codeIn K cd12 "PlainPlan.memory_has" = true)
    (k12 : PySem.W.keepIn K (.ref a12) = true)
    (n13 : PySem.W.findIn K (.ref C0) "behind" = some (some (.ref a13)))
    (i13 : PySem.W.isFn K (.ref a13) = true)
    (l13 : K.lookup a13 = some ⟨oc13, od13, .func (PySem.W.fnOf "behind" "PlainPlan.behind" (defArgs (inClass (top 18) 5)) (defBody (inClass (top 18) 5)) (defScope (inClass (top 18) 5)) .none kV13 dc13 pm13 an13 cd13 ct13), sl13⟩)
    (c13 : PySem.W.codeIn K cd13 "PlainPlan.behind" = true)
    (k13 : PySem.W.keepIn K (.ref a13) = true)
    (n14 : PySem.W.nsIn K mainGlobals "plain_answers" = some (some (.ref a14)))
    (l14 : K.lookup a14 = some ⟨oc14, od14, .func (PySem.W.fnOf "plain_answers" "plain_answers" (defArgs (top 19)) (defBody (top 19)) (defScope (top 19)) .none kV14 dc14 pm14 an14 cd14 ct14), sl14⟩)
    (c14 : PySem.W.codeIn K cd14 "plain_answers" = true)
    (k14 : PySem.W.keepIn K (.ref a14) = true)
    (n15 : PySem.W.nsIn K mainGlobals "is_deed_of_program" = some (some (.ref a15)))
    (l15 : K.lookup a15 = some ⟨oc15, od15, .func (PySem.W.fnOf "is_deed_of_program" "is_deed_of_program" (defArgs (top 22)) (defBody (top 22)) (defScope (top 22)) .none kV15 dc15 pm15 an15 cd15 ct15), sl15⟩)
    (c15 : PySem.W.codeIn K cd15 "is_deed_of_program" = true)
    (k15 : PySem.W.keepIn K (.ref a15) = true)
    (n16 : PySem.W.nsIn K mainGlobals "is_program" = some (some (.ref a16)))
    (l16 : K.lookup a16 = some ⟨oc16, od16, .func (PySem.W.fnOf "is_program" "is_program" (defArgs (top 23)) (defBody (top 23)) (defScope (top 23)) .none kV16 dc16 pm16 an16 cd16 ct16), sl16⟩)
    (c16 : PySem.W.codeIn K cd16 "is_program" = true)
    (k16 : PySem.W.keepIn K (.ref a16) = true)
    (n17 : PySem.W.nsIn K mainGlobals "check_program" = some (some (.ref a17)))
    (l17 : K.lookup a17 = some ⟨oc17, od17, .func (PySem.W.fnOf "check_program" "check_program" (defArgs (top 24)) (defBody (top 24)) (defScope (top 24)) .none kV17 dc17 pm17 an17 cd17 ct17), sl17⟩)
    (c17 : PySem.W.codeIn K cd17 "check_program" = true)
    (k17 : PySem.W.keepIn K (.ref a17) = true)
    (n18 : PySem.W.nsIn K mainGlobals "plain_outcomes" = some (some (.ref a18)))
    (l18 : K.lookup a18 = some ⟨oc18, od18, .func (PySem.W.fnOf "plain_outcomes" "plain_outcomes" (defArgs (top 25)) (defBody (top 25)) (defScope (top 25)) .none kV18 dc18 pm18 an18 cd18 ct18), sl18⟩)
    (c18 : PySem.W.codeIn K cd18 "plain_outcomes" = true)
    (k18 : PySem.W.keepIn K (.ref a18) = true)
    (n19 : PySem.W.nsIn K mainGlobals "_law_draw" = some (some (.ref a19)))
    (l19 : K.lookup a19 = some ⟨oc19, od19, .func (PySem.W.fnOf "_law_draw" "_law_draw" (defArgs (top 27)) (defBody (top 27)) (defScope (top 27)) .none kV19 dc19 pm19 an19 cd19 ct19), sl19⟩)
    (c19 : PySem.W.codeIn K cd19 "_law_draw" = true)
    (k19 : PySem.W.keepIn K (.ref a19) = true)
    (n20 : PySem.W.nsIn K mainGlobals "_law_program" = some (some (.ref a20)))
    (l20 : K.lookup a20 = some ⟨oc20, od20, .func (PySem.W.fnOf "_law_program" "_law_program" (defArgs (top 28)) (defBody (top 28)) (defScope (top 28)) .none kV20 dc20 pm20 an20 cd20 ct20), sl20⟩)
    (c20 : PySem.W.codeIn K cd20 "_law_program" = true)
    (k20 : PySem.W.keepIn K (.ref a20) = true)
    (n21 : PySem.W.nsIn K mainGlobals "_law_orders" = some (some (.ref a21)))
    (l21 : K.lookup a21 = some ⟨oc21, od21, .func (PySem.W.fnOf "_law_orders" "_law_orders" (defArgs (top 29)) (defBody (top 29)) (defScope (top 29)) .none kV21 dc21 pm21 an21 cd21 ct21), sl21⟩)
    (c21 : PySem.W.codeIn K cd21 "_law_orders" = true)
    (k21 : PySem.W.keepIn K (.ref a21) = true)
    (n22 : PySem.W.nsIn K mainGlobals "_law_done" = some (some (.ref a22)))
    (l22 : K.lookup a22 = some ⟨oc22, od22, .func (PySem.W.fnOf "_law_done" "_law_done" (defArgs (top 30)) (defBody (top 30)) (defScope (top 30)) .none kV22 dc22 pm22 an22 cd22 ct22), sl22⟩)
    (c22 : PySem.W.codeIn K cd22 "_law_done" = true)
    (k22 : PySem.W.keepIn K (.ref a22) = true)
    (n23 : PySem.W.nsIn K mainGlobals "_law_due" = some (some (.ref a23)))
    (l23 : K.lookup a23 = some ⟨oc23, od23, .func (PySem.W.fnOf "_law_due" "_law_due" (defArgs (top 31)) (defBody (top 31)) (defScope (top 31)) .none kV23 dc23 pm23 an23 cd23 ct23), sl23⟩)
    (c23 : PySem.W.codeIn K cd23 "_law_due" = true)
    (k23 : PySem.W.keepIn K (.ref a23) = true)
    (n24 : PySem.W.nsIn K mainGlobals "_law_holds" = some (some (.ref a24)))
    (l24 : K.lookup a24 = some ⟨oc24, od24, .func (PySem.W.fnOf "_law_holds" "_law_holds" (defArgs (top 32)) (defBody (top 32)) (defScope (top 32)) .none kV24 dc24 pm24 an24 cd24 ct24), sl24⟩)
    (c24 : PySem.W.codeIn K cd24 "_law_holds" = true)
    (k24 : PySem.W.keepIn K (.ref a24) = true)
    (n25 : PySem.W.nsIn K mainGlobals "law" = some (some (.ref a25)))
    (l25 : K.lookup a25 = some ⟨oc25, od25, .func (PySem.W.fnOf "law" "law" (defArgs (top 33)) (defBody (top 33)) (defScope (top 33)) .none kV25 dc25 pm25 an25 cd25 ct25), sl25⟩)
    (c25 : PySem.W.codeIn K cd25 "law" = true)
    (k25 : PySem.W.keepIn K (.ref a25) = true)
    (g0 : ∃ t, mg "READ" = some (.int 0 t))
    (g1 : ∃ t, mg "WRITE" = some (.int 1 t))
    (g2 : ∃ t, mg "FENCE" = some (.int 2 t))
    (g3 : mg "WITH_LINE" = some (.ref (He.ga K "WITH_LINE")))
    (gl3 : ktupB K "WITH_LINE" ["read", "write"] = true)
    (d0 : mg "KINDS" = some (.ref (He.ga K "KINDS")))
    (dk0 : ∃ es nn, KDict K w (He.ga K "KINDS") es nn)
    (dv0 : He.valsB K (He.ga K "KINDS") [("read", He.Dv.int 0), ("write", He.Dv.int 1), ("fence", He.Dv.int 2)] = true)
    (z0 : PySem.W.nsIn K mainGlobals "len" = some none) (z1 : PySem.W.nsIn K mainGlobals "range" = some none) (z2 : PySem.W.nsIn K mainGlobals "int" = some none) (z3 : PySem.W.nsIn K mainGlobals "abs" = some none) (z4 : PySem.W.nsIn K mainGlobals "list" = some none) (z5 : PySem.W.nsIn K mainGlobals "tuple" = some none) (z6 : PySem.W.nsIn K mainGlobals "sorted" = some none) (z7 : PySem.W.nsIn K mainGlobals "sum" = some none) (z8 : PySem.W.nsIn K mainGlobals "all" = some none) (z9 : PySem.W.nsIn K mainGlobals "any" = some none) (z10 : PySem.W.nsIn K mainGlobals "min" = some none) (z11 : PySem.W.nsIn K mainGlobals "max" = some none) (z12 : PySem.W.nsIn K mainGlobals "str" = some none) (z13 : PySem.W.nsIn K mainGlobals "bool" = some none) (z14 : PySem.W.nsIn K mainGlobals "isinstance" = some none) (z15 : PySem.W.nsIn K mainGlobals "enumerate" = some none) (z16 : PySem.W.nsIn K mainGlobals "zip" = some none) (z17 : PySem.W.nsIn K mainGlobals "reversed" = some none) (z18 : PySem.W.nsIn K mainGlobals "dict" = some none) (z19 : PySem.W.nsIn K mainGlobals "repr" = some none) (z20 : PySem.W.nsIn K mainGlobals "set" = some none) (z21 : PySem.W.nsIn K mainGlobals "super" = some none) (z22 : PySem.W.nsIn K mainGlobals "type" = some none)
    {d : Nat} (hl : ∀ ns : List Int, ns.length ≤ 63 → callF tb d 25 [scriptD ns] = some (.val (.bl true) [])) :
    ∃ fd : FuncData, (∀ (s : Shared) (v : Value), BindsTo s fd ⟨[v], []⟩ [("script", v)]) ∧ ∀ base : Heap, K.In base → base.Ns mainGlobals mg → FnOk l.prog w K mg base (L2.CX l.prog w) (2 * d) fa fd ["script"] (spL K) := by
  cases hfa.symm.trans (PySem.W.mg_of X G n25)
  have F0 := fun_mk (st := (top 1)) l0 c0 k0
  have F1 := fun_mk (st := (top 2)) l1 c1 k1
  have F2 := fun_mk (st := (top 11)) l2 c2 k2
  have F3 := fun_mk (st := (top 12)) l3 c3 k3
  have F4 := fun_mk (st := (top 13)) l4 c4 k4
  have F5 := fun_mk (st := (top 14)) l5 c5 k5
  have F6 := fun_mk (st := (top 15)) l6 c6 k6
  have F7 := fun_mk (st := (top 16)) l7 c7 k7
  have F8 := fun_mk (st := (inClass (top 18) 0)) l8 c8 k8
  have F9 := fun_mk (st := (inClass (top 18) 1)) l9 c9 k9
  have F10 := fun_mk (st := (inClass (top 18) 2)) l10 c10 k10
  have F11 := fun_mk (st := (inClass (top 18) 3)) l11 c11 k11
  have F12 := fun_mk (st := (inClass (top 18) 4)) l12 c12 k12
  have F13 := fun_mk (st := (inClass (top 18) 5)) l13 c13 k13
  have F14 := fun_mk (st := (top 19)) l14 c14 k14
  have F15 := fun_mk (st := (top 22)) l15 c15 k15
  have F16 := fun_mk (st := (top 23)) l16 c16 k16
  have F17 := fun_mk (st := (top 24)) l17 c17 k17
  have F18 := fun_mk (st := (top 25)) l18 c18 k18
  have F19 := fun_mk (st := (top 27)) l19 c19 k19
  have F20 := fun_mk (st := (top 28)) l20 c20 k20
  have F21 := fun_mk (st := (top 29)) l21 c21 k21
  have F22 := fun_mk (st := (top 30)) l22 c22 k22
  have F23 := fun_mk (st := (top 31)) l23 c23 k23
  have F24 := fun_mk (st := (top 32)) l24 c24 k24
  have F25 := fun_mk (st := (top 33)) l25 c25 k25
  let fad : Nat → Addr := fun i => match i with | 0 => a0 | 1 => a1 | 2 => a2 | 3 => a3 | 4 => a4 | 5 => a5 | 6 => a6 | 7 => a7 | 8 => a8 | 9 => a9 | 10 => a10 | 11 => a11 | 12 => a12 | 13 => a13 | 14 => a14 | 15 => a15 | 16 => a16 | 17 => a17 | 18 => a18 | 19 => a19 | 20 => a20 | 21 => a21 | 22 => a22 | 23 => a23 | 24 => a24 | _ => fa
  let ffd : Nat → FuncData := fun i => match i with | 0 => (PySem.W.fnOf "is_integer" "is_integer" (defArgs (top 1)) (defBody (top 1)) (defScope (top 1)) .none kV0 dc0 pm0 an0 cd0 ct0) | 1 => (PySem.W.fnOf "is_number" "is_number" (defArgs (top 2)) (defBody (top 2)) (defScope (top 2)) .none kV1 dc1 pm1 an1 cd1 ct1) | 2 => (PySem.W.fnOf "lines_of" "lines_of" (defArgs (top 11)) (defBody (top 11)) (defScope (top 11)) .none kV2 dc2 pm2 an2 cd2 ct2) | 3 => (PySem.W.fnOf "write_numbers" "write_numbers" (defArgs (top 12)) (defBody (top 12)) (defScope (top 12)) .none kV3 dc3 pm3 an3 cd3 ct3) | 4 => (PySem.W.fnOf "read_counts" "read_counts" (defArgs (top 13)) (defBody (top 13)) (defScope (top 13)) .none kV4 dc4 pm4 an4 cd4 ct4) | 5 => (PySem.W.fnOf "deed_count" "deed_count" (defArgs (top 14)) (defBody (top 14)) (defScope (top 14)) .none kV5 dc5 pm5 an5 cd5 ct5) | 6 => (PySem.W.fnOf "numbered" "numbered" (defArgs (top 15)) (defBody (top 15)) (defScope (top 15)) .none kV6 dc6 pm6 an6 cd6 ct6) | 7 => (PySem.W.fnOf "rows_of" "rows_of" (defArgs (top 16)) (defBody (top 16)) (defScope (top 16)) .none kV7 dc7 pm7 an7 cd7 ct7) | 8 => (PySem.W.fnOf "__init__" "PlainPlan.__init__" (defArgs (inClass (top 18) 0)) (defBody (inClass (top 18) 0)) (defScope (inClass (top 18) 0)) .none kV8 dc8 pm8 an8 cd8 ct8) | 9 => (PySem.W.fnOf "first_stand" "PlainPlan.first_stand" (defArgs (inClass (top 18) 1)) (defBody (inClass (top 18) 1)) (defScope (inClass (top 18) 1)) .none kV9 dc9 pm9 an9 cd9 ct9) | 10 => (PySem.W.fnOf "can_go_on" "PlainPlan.can_go_on" (defArgs (inClass (top 18) 2)) (defBody (inClass (top 18) 2)) (defScope (inClass (top 18) 2)) .none kV10 dc10 pm10 an10 cd10 ct10) | 11 => (PySem.W.fnOf "next_deed" "PlainPlan.next_deed" (defArgs (inClass (top 18) 3)) (defBody (inClass (top 18) 3)) (defScope (inClass (top 18) 3)) .none kV11 dc11 pm11 an11 cd11 ct11) | 12 => (PySem.W.fnOf "memory_has" "PlainPlan.memory_has" (defArgs (inClass (top 18) 4)) (defBody (inClass (top 18) 4)) (defScope (inClass (top 18) 4)) .none kV12 dc12 pm12 an12 cd12 ct12) | 13 => (PySem.W.fnOf "behind" "PlainPlan.behind" (defArgs (inClass (top 18) 5)) (defBody (inClass (top 18) 5)) (defScope (inClass (top 18) 5)) .none kV13 dc13 pm13 an13 cd13 ct13) | 14 => (PySem.W.fnOf "plain_answers" "plain_answers" (defArgs (top 19)) (defBody (top 19)) (defScope (top 19)) .none kV14 dc14 pm14 an14 cd14 ct14) | 15 => (PySem.W.fnOf "is_deed_of_program" "is_deed_of_program" (defArgs (top 22)) (defBody (top 22)) (defScope (top 22)) .none kV15 dc15 pm15 an15 cd15 ct15) | 16 => (PySem.W.fnOf "is_program" "is_program" (defArgs (top 23)) (defBody (top 23)) (defScope (top 23)) .none kV16 dc16 pm16 an16 cd16 ct16) | 17 => (PySem.W.fnOf "check_program" "check_program" (defArgs (top 24)) (defBody (top 24)) (defScope (top 24)) .none kV17 dc17 pm17 an17 cd17 ct17) | 18 => (PySem.W.fnOf "plain_outcomes" "plain_outcomes" (defArgs (top 25)) (defBody (top 25)) (defScope (top 25)) .none kV18 dc18 pm18 an18 cd18 ct18) | 19 => (PySem.W.fnOf "_law_draw" "_law_draw" (defArgs (top 27)) (defBody (top 27)) (defScope (top 27)) .none kV19 dc19 pm19 an19 cd19 ct19) | 20 => (PySem.W.fnOf "_law_program" "_law_program" (defArgs (top 28)) (defBody (top 28)) (defScope (top 28)) .none kV20 dc20 pm20 an20 cd20 ct20) | 21 => (PySem.W.fnOf "_law_orders" "_law_orders" (defArgs (top 29)) (defBody (top 29)) (defScope (top 29)) .none kV21 dc21 pm21 an21 cd21 ct21) | 22 => (PySem.W.fnOf "_law_done" "_law_done" (defArgs (top 30)) (defBody (top 30)) (defScope (top 30)) .none kV22 dc22 pm22 an22 cd22 ct22) | 23 => (PySem.W.fnOf "_law_due" "_law_due" (defArgs (top 31)) (defBody (top 31)) (defScope (top 31)) .none kV23 dc23 pm23 an23 cd23 ct23) | 24 => (PySem.W.fnOf "_law_holds" "_law_holds" (defArgs (top 32)) (defBody (top 32)) (defScope (top 32)) .none kV24 dc24 pm24 an24 cd24 ct24) | _ => (PySem.W.fnOf "law" "law" (defArgs (top 33)) (defBody (top 33)) (defScope (top 33)) .none kV25 dc25 pm25 an25 cd25 ct25)
  let cad : Nat → Addr := fun i => match i with | 0 => C0 | _ => 0
  have FX : Fix l.prog w K mg (lo K w cad fad ffd) tb := by
    refine ⟨rfl, rfl, fun x hx => ?_, fun f hf => ?_, fun c hc => ?_, fun c m f h => ?_, fun c f h => ?_, fun c f h => ?_, fun x d h => ?_, fun x ks xs h => ?_, fun f fn hf => ?_⟩
    · simp only [biNames, List.mem_cons, List.not_mem_nil, or_false] at hx
      rcases hx with rfl | rfl | rfl | rfl | rfl | rfl | rfl | rfl | rfl | rfl | rfl | rfl | rfl | rfl | rfl | rfl | rfl | rfl | rfl | rfl | rfl | rfl | rfl
      · exact PySem.W.mg_none_of X G z0
      · exact PySem.W.mg_none_of X G z1
      · exact PySem.W.mg_none_of X G z2
      · exact PySem.W.mg_none_of X G z3
      · exact PySem.W.mg_none_of X G z4
      · exact PySem.W.mg_none_of X G z5
      · exact PySem.W.mg_none_of X G z6
      · exact PySem.W.mg_none_of X G z7
      · exact PySem.W.mg_none_of X G z8
      · exact PySem.W.mg_none_of X G z9
      · exact PySem.W.mg_none_of X G z10
      · exact PySem.W.mg_none_of X G z11
      · exact PySem.W.mg_none_of X G z12
      · exact PySem.W.mg_none_of X G z13
      · exact PySem.W.mg_none_of X G z14
      · exact PySem.W.mg_none_of X G z15
      · exact PySem.W.mg_none_of X G z16
      · exact PySem.W.mg_none_of X G z17
      · exact PySem.W.mg_none_of X G z18
      · exact PySem.W.mg_none_of X G z19
      · exact PySem.W.mg_none_of X G z20
      · exact PySem.W.mg_none_of X G z21
      · exact PySem.W.mg_none_of X G z22
    · have h2 : f ∈ ftops := List.contains_iff_mem.mp hf
      simp only [ftops, List.mem_cons, List.not_mem_nil, or_false] at h2
      rcases h2 with rfl | rfl | rfl | rfl | rfl | rfl | rfl | rfl | rfl | rfl | rfl | rfl | rfl | rfl | rfl | rfl | rfl | rfl | rfl | rfl
      · exact (PySem.W.mg_of X G n0 :)
      · exact (PySem.W.mg_of X G n1 :)
      · exact (PySem.W.mg_of X G n2 :)
      · exact (PySem.W.mg_of X G n3 :)
      · exact (PySem.W.mg_of X G n4 :)
      · exact (PySem.W.mg_of X G n5 :)
      · exact (PySem.W.mg_of X G n6 :)
      · exact (PySem.W.mg_of X G n7 :)
      · exact (PySem.W.mg_of X G n14 :)
      · exact (PySem.W.mg_of X G n15 :)
      · exact (PySem.W.mg_of X G n16 :)
      · exact (PySem.W.mg_of X G n17 :)
      · exact (PySem.W.mg_of X G n18 :)
      · exact (PySem.W.mg_of X G n19 :)
      · exact (PySem.W.mg_of X G n20 :)
      · exact (PySem.W.mg_of X G n21 :)
      · exact (PySem.W.mg_of X G n22 :)
      · exact (PySem.W.mg_of X G n23 :)
      · exact (PySem.W.mg_of X G n24 :)
      · exact (PySem.W.mg_of X G n25 :)
    · match c, hc with
      | 0, _ => exact (PySem.W.mg_of X G aC0 :)
      | i + 1, hc => exact absurd (of_decide_eq_true (show decide (i + 1 < 1) = true from hc)) (by omega)
    · match c, h with
      | 0, h =>
        have h2 := lookup_in (l := [("__init__", 8), ("first_stand", 9), ("can_go_on", 10), ("next_deed", 11), ("memory_has", 12), ("behind", 13)]) h
        simp only [List.mem_cons, List.not_mem_nil, or_false, Prod.mk.injEq] at h2
        rcases h2 with ⟨rfl, rfl⟩ | ⟨rfl, rfl⟩ | ⟨rfl, rfl⟩ | ⟨rfl, rfl⟩ | ⟨rfl, rfl⟩ | ⟨rfl, rfl⟩
        · exact ⟨⟨pg0, hd0, po0, sa0⟩, ⟨n8, i8, k8⟩⟩
        · exact ⟨⟨pg0, hd0, po0, sa0⟩, ⟨n9, i9, k9⟩⟩
        · exact ⟨⟨pg0, hd0, po0, sa0⟩, ⟨n10, i10, k10⟩⟩
        · exact ⟨⟨pg0, hd0, po0, sa0⟩, ⟨n11, i11, k11⟩⟩
        · exact ⟨⟨pg0, hd0, po0, sa0⟩, ⟨n12, i12, k12⟩⟩
        · exact ⟨⟨pg0, hd0, po0, sa0⟩, ⟨n13, i13, k13⟩⟩
      | i + 1, h => cases h
    · match c, h with
      | 0, h => cases Option.some.inj h; exact ⟨mk0, n8, i8, kc0⟩
      | i + 1, h => cases h
    · match c, h with
      | 0, h =>
        have h2 : f ∈ (["length", "lines", "many", "reads", "rows"] : List Str) := List.contains_iff_mem.mp h
        simp only [List.mem_cons, List.not_mem_nil, or_false] at h2
        rcases h2 with rfl | rfl | rfl | rfl | rfl
        · exact ⟨⟨pg0, hd0, po0, sa0⟩, nf0_0⟩
        · exact ⟨⟨pg0, hd0, po0, sa0⟩, nf0_1⟩
        · exact ⟨⟨pg0, hd0, po0, sa0⟩, nf0_2⟩
        · exact ⟨⟨pg0, hd0, po0, sa0⟩, nf0_3⟩
        · exact ⟨⟨pg0, hd0, po0, sa0⟩, nf0_4⟩
      | i + 1, h => cases h
    · have h2 : (x, d) ∈ glbs := lookup_in h
      simp only [glbs, List.mem_cons, List.not_mem_nil, or_false, Prod.mk.injEq] at h2
      rcases h2 with ⟨rfl, rfl⟩ | ⟨rfl, rfl⟩ | ⟨rfl, rfl⟩ | ⟨rfl, rfl⟩
      · obtain ⟨t, g⟩ := g0; exact ⟨_, V.int 0, g, ⟨t, rfl⟩, fun Z H => rep_kint⟩
      · obtain ⟨t, g⟩ := g1; exact ⟨_, V.int 1, g, ⟨t, rfl⟩, fun Z H => rep_kint⟩
      · obtain ⟨t, g⟩ := g2; exact ⟨_, V.int 2, g, ⟨t, rfl⟩, fun Z H => rep_kint⟩
      · exact ⟨_, .ref (He.ga K "WITH_LINE"), g3, rfl, ktupB_ok (L := lo K w cad fad ffd) gl3⟩
    · have h2 : (x, (ks, xs)) ∈ gdcs := lookup_in h
      simp only [gdcs, List.mem_cons, List.not_mem_nil, or_false, Prod.mk.injEq] at h2
      rcases h2 with ⟨rfl, rfl, rfl⟩
      · obtain ⟨es, nn, kd⟩ := dk0
        refine ⟨_, es, nn, d0, kd, fun z d hz => ?_⟩
        have h3 := lookD_in hz
        simp only [List.zip_cons_cons, List.zip_nil_left, List.zip_nil_right, List.mem_cons, List.not_mem_nil, or_false, Prod.mk.injEq, Sum.inr.injEq] at h3
        rcases h3 with ⟨rfl, rfl⟩ | ⟨rfl, rfl⟩ | ⟨rfl, rfl⟩
        · obtain ⟨u, e1, e2⟩ := He.valsB_ok dv0 (q := ("read", He.Dv.int 0)) (by simp)
          exact ⟨u, V.int 0, e1, e2, fun Z H => rep_kint⟩
        · obtain ⟨u, e1, e2⟩ := He.valsB_ok dv0 (q := ("write", He.Dv.int 1)) (by simp)
          exact ⟨u, V.int 1, e1, e2, fun Z H => rep_kint⟩
        · obtain ⟨u, e1, e2⟩ := He.valsB_ok dv0 (q := ("fence", He.Dv.int 2)) (by simp)
          exact ⟨u, V.int 2, e1, e2, fun Z H => rep_kint⟩
    · match f, hf with
      | 0, hf => cases Option.some.inj hf; exact ⟨k0, F0.binds (ps := ["value"]) (fun _ _ _ _ _ _ us hl => match us, hl with | [_], _ => rfl), rfl⟩
      | 1, hf => cases Option.some.inj hf; exact ⟨k1, F1.binds (ps := ["value"]) (fun _ _ _ _ _ _ us hl => match us, hl with | [_], _ => rfl), rfl⟩
      | 2, hf => cases Option.some.inj hf; exact ⟨k2, F2.binds (ps := ["program"]) (fun _ _ _ _ _ _ us hl => match us, hl with | [_], _ => rfl), rfl⟩
      | 3, hf => cases Option.some.inj hf; exact ⟨k3, F3.binds (ps := ["program"]) (fun _ _ _ _ _ _ us hl => match us, hl with | [_], _ => rfl), rfl⟩
      | 4, hf => cases Option.some.inj hf; exact ⟨k4, F4.binds (ps := ["program"]) (fun _ _ _ _ _ _ us hl => match us, hl with | [_], _ => rfl), rfl⟩
      | 5, hf => cases Option.some.inj hf; exact ⟨k5, F5.binds (ps := ["program"]) (fun _ _ _ _ _ _ us hl => match us, hl with | [_], _ => rfl), rfl⟩
      | 6, hf => cases Option.some.inj hf; exact ⟨k6, F6.binds (ps := ["program"]) (fun _ _ _ _ _ _ us hl => match us, hl with | [_], _ => rfl), rfl⟩
      | 7, hf => cases Option.some.inj hf; exact ⟨k7, F7.binds (ps := ["counts", "answers"]) (fun _ _ _ _ _ _ us hl => match us, hl with | [_, _], _ => rfl), rfl⟩
      | 8, hf => cases Option.some.inj hf; exact ⟨k8, F8.binds (ps := ["self", "program"]) (fun _ _ _ _ _ _ us hl => match us, hl with | [_, _], _ => rfl), rfl⟩
      | 9, hf => cases Option.some.inj hf; exact ⟨k9, F9.binds (ps := ["self"]) (fun _ _ _ _ _ _ us hl => match us, hl with | [_], _ => rfl), rfl⟩
      | 10, hf => cases Option.some.inj hf; exact ⟨k10, F10.binds (ps := ["self", "stand", "processor"]) (fun _ _ _ _ _ _ us hl => match us, hl with | [_, _, _], _ => rfl), rfl⟩
      | 11, hf => cases Option.some.inj hf; exact ⟨k11, F11.binds (ps := ["self", "stand", "processor"]) (fun _ _ _ _ _ _ us hl => match us, hl with | [_, _, _], _ => rfl), rfl⟩
      | 12, hf => cases Option.some.inj hf; exact ⟨k12, F12.binds (ps := ["self", "stand", "line"]) (fun _ _ _ _ _ _ us hl => match us, hl with | [_, _, _], _ => rfl), rfl⟩
      | 13, hf => cases Option.some.inj hf; exact ⟨k13, F13.binds (ps := ["self", "stand", "processor"]) (fun _ _ _ _ _ _ us hl => match us, hl with | [_, _, _], _ => rfl), rfl⟩
      | 14, hf => cases Option.some.inj hf; exact ⟨k14, F14.binds (ps := ["program"]) (fun _ _ _ _ _ _ us hl => match us, hl with | [_], _ => rfl), rfl⟩
      | 15, hf => cases Option.some.inj hf; exact ⟨k15, F15.binds (ps := ["value"]) (fun _ _ _ _ _ _ us hl => match us, hl with | [_], _ => rfl), rfl⟩
      | 16, hf => cases Option.some.inj hf; exact ⟨k16, F16.binds (ps := ["value"]) (fun _ _ _ _ _ _ us hl => match us, hl with | [_], _ => rfl), rfl⟩
      | 17, hf => cases Option.some.inj hf; exact ⟨k17, F17.binds (ps := ["program"]) (fun _ _ _ _ _ _ us hl => match us, hl with | [_], _ => rfl), rfl⟩
      | 18, hf => cases Option.some.inj hf; exact ⟨k18, F18.binds (ps := ["program"]) (fun _ _ _ _ _ _ us hl => match us, hl with | [_], _ => rfl), rfl⟩
      | 19, hf => cases Option.some.inj hf; exact ⟨k19, F19.binds (ps := ["pile", "many"]) (fun _ _ _ _ _ _ us hl => match us, hl with | [_, _], _ => rfl), rfl⟩
      | 20, hf => cases Option.some.inj hf; exact ⟨k20, F20.binds (ps := ["pile"]) (fun _ _ _ _ _ _ us hl => match us, hl with | [_], _ => rfl), rfl⟩
      | 21, hf => cases Option.some.inj hf; exact ⟨k21, F21.binds (ps := ["program"]) (fun _ _ _ _ _ _ us hl => match us, hl with | [_], _ => rfl), rfl⟩
      | 22, hf => cases Option.some.inj hf; exact ⟨k22, F22.binds (ps := ["program", "order"]) (fun _ _ _ _ _ _ us hl => match us, hl with | [_, _], _ => rfl), rfl⟩
      | 23, hf => cases Option.some.inj hf; exact ⟨k23, F23.binds (ps := ["program"]) (fun _ _ _ _ _ _ us hl => match us, hl with | [_], _ => rfl), rfl⟩
      | 24, hf => cases Option.some.inj hf; exact ⟨k24, F24.binds (ps := ["told", "due"]) (fun _ _ _ _ _ _ us hl => match us, hl with | [_, _], _ => rfl), rfl⟩
      | 25, hf => cases Option.some.inj hf; exact ⟨k25, F25.binds (ps := ["script"]) (fun _ _ _ _ _ _ us hl => match us, hl with | [_], _ => rfl), rfl⟩
      | _ + 26, hf => cases hf
  refine ⟨ffd 25, fun s v => .of_eq rfl, fun base _ _ => ?_⟩
  exact law_fn (L := lo K w cad fad ffd) (tb := tb) (f := 25) (fn := f25) rfl rfl rfl rfl (fn_all FX (dAll FX F0 F1 F2 F3 F4 F5 F6 F7 F8 F9 F10 F11 F12 F13 F14 F15 F16 F17 F18 F19 F20 F21 F22 F23 F24 F25) d) hl
end K71

namespace K71
open PySem L2 PL
def fns_0 : List He.DefD := [⟨("is_integer", none), "is_integer", "is_integer", defArgs (top 1), defBody (top 1), defScope (top 1), [], []⟩,
  ⟨("is_number", none), "is_number", "is_number", defArgs (top 2), defBody (top 2), defScope (top 2), [], []⟩,
  ⟨("lines_of", none), "lines_of", "lines_of", defArgs (top 11), defBody (top 11), defScope (top 11), [], []⟩,
  ⟨("write_numbers", none), "write_numbers", "write_numbers", defArgs (top 12), defBody (top 12), defScope (top 12), [], []⟩,
  ⟨("read_counts", none), "read_counts", "read_counts", defArgs (top 13), defBody (top 13), defScope (top 13), [], []⟩,
  ⟨("deed_count", none), "deed_count", "deed_count", defArgs (top 14), defBody (top 14), defScope (top 14), [], []⟩,
  ⟨("numbered", none), "numbered", "numbered", defArgs (top 15), defBody (top 15), defScope (top 15), [], []⟩,
  ⟨("rows_of", none), "rows_of", "rows_of", defArgs (top 16), defBody (top 16), defScope (top 16), [], []⟩,
  ⟨("PlainPlan", some "__init__"), "__init__", "PlainPlan.__init__", defArgs (inClass (top 18) 0), defBody (inClass (top 18) 0), defScope (inClass (top 18) 0), [], []⟩,
  ⟨("PlainPlan", some "first_stand"), "first_stand", "PlainPlan.first_stand", defArgs (inClass (top 18) 1), defBody (inClass (top 18) 1), defScope (inClass (top 18) 1), [], []⟩,
  ⟨("PlainPlan", some "can_go_on"), "can_go_on", "PlainPlan.can_go_on", defArgs (inClass (top 18) 2), defBody (inClass (top 18) 2), defScope (inClass (top 18) 2), [], []⟩,
  ⟨("PlainPlan", some "next_deed"), "next_deed", "PlainPlan.next_deed", defArgs (inClass (top 18) 3), defBody (inClass (top 18) 3), defScope (inClass (top 18) 3), [], []⟩,
  ⟨("PlainPlan", some "memory_has"), "memory_has", "PlainPlan.memory_has", defArgs (inClass (top 18) 4), defBody (inClass (top 18) 4), defScope (inClass (top 18) 4), [], []⟩,
  ⟨("PlainPlan", some "behind"), "behind", "PlainPlan.behind", defArgs (inClass (top 18) 5), defBody (inClass (top 18) 5), defScope (inClass (top 18) 5), [], []⟩,
  ⟨("plain_answers", none), "plain_answers", "plain_answers", defArgs (top 19), defBody (top 19), defScope (top 19), [], []⟩,
  ⟨("is_deed_of_program", none), "is_deed_of_program", "is_deed_of_program", defArgs (top 22), defBody (top 22), defScope (top 22), [], []⟩,
  ⟨("is_program", none), "is_program", "is_program", defArgs (top 23), defBody (top 23), defScope (top 23), [], []⟩,
  ⟨("check_program", none), "check_program", "check_program", defArgs (top 24), defBody (top 24), defScope (top 24), [], []⟩,
  ⟨("plain_outcomes", none), "plain_outcomes", "plain_outcomes", defArgs (top 25), defBody (top 25), defScope (top 25), [], []⟩,
  ⟨("_law_draw", none), "_law_draw", "_law_draw", defArgs (top 27), defBody (top 27), defScope (top 27), [], []⟩,
  ⟨("_law_program", none), "_law_program", "_law_program", defArgs (top 28), defBody (top 28), defScope (top 28), [], []⟩,
  ⟨("_law_orders", none), "_law_orders", "_law_orders", defArgs (top 29), defBody (top 29), defScope (top 29), [], []⟩,
  ⟨("_law_done", none), "_law_done", "_law_done", defArgs (top 30), defBody (top 30), defScope (top 30), [], []⟩,
  ⟨("_law_due", none), "_law_due", "_law_due", defArgs (top 31), defBody (top 31), defScope (top 31), [], []⟩,
  ⟨("_law_holds", none), "_law_holds", "_law_holds", defArgs (top 32), defBody (top 32), defScope (top 32), [], []⟩,
  ⟨("law", none), "law", "law", defArgs (top 33), defBody (top 33), defScope (top 33), [], []⟩]
def fns : List He.DefD := fns_0
def fas_0 : List He.Fa := [.glo "PlainPlan",
  .cls "PlainPlan",
  .mkr "PlainPlan",
  .noat "PlainPlan" "length",
  .noat "PlainPlan" "lines",
  .noat "PlainPlan" "many",
  .noat "PlainPlan" "reads",
  .noat "PlainPlan" "rows",
  .glo "is_integer",
  .glo "is_number",
  .glo "lines_of",
  .glo "write_numbers",
  .glo "read_counts",
  .glo "deed_count",
  .glo "numbered",
  .glo "rows_of",
  .meth "PlainPlan" "__init__",
  .meth "PlainPlan" "first_stand",
  .meth "PlainPlan" "can_go_on",
  .meth "PlainPlan" "next_deed",
  .meth "PlainPlan" "memory_has",
  .meth "PlainPlan" "behind",
  .glo "plain_answers",
  .glo "is_deed_of_program",
  .glo "is_program",
  .glo "check_program",
  .glo "plain_outcomes",
  .glo "_law_draw",
  .glo "_law_program",
  .glo "_law_orders"]
def fas_1 : List He.Fa := [.glo "_law_done",
  .glo "_law_due",
  .glo "_law_holds",
  .glo "law",
  .int "READ" 0,
  .int "WRITE" 1,
  .int "FENCE" 2,
  .glo "WITH_LINE",
  .glo "KINDS",
  .free "len",
  .free "range",
  .free "int",
  .free "abs",
  .free "list",
  .free "tuple",
  .free "sorted",
  .free "sum",
  .free "all",
  .free "any",
  .free "min",
  .free "max",
  .free "str",
  .free "bool",
  .free "isinstance",
  .free "enumerate",
  .free "zip",
  .free "reversed",
  .free "dict",
  .free "repr",
  .free "set"]
def fas_2 : List He.Fa := [.free "super",
  .free "type"]
def fas : List He.Fa := fas_0 ++ fas_1 ++ fas_2
def tbs : List He.Tab := [(fun K => He.ga K "KINDS", ["read", "write", "fence"])]
def exs (K : PySem.W.Frag) : Bool := (ktupB K "WITH_LINE" ["read", "write"] && (He.valsB K (He.ga K "KINDS") [("read", He.Dv.int 0), ("write", He.Dv.int 1), ("fence", He.Dv.int 2)] && true))
def names_0 : List Str := ["is_integer",
  "is_number",
  "StepError",
  "InvalidProgram",
  "READ",
  "WRITE",
  "FENCE",
  "KINDS",
  "lines_of",
  "write_numbers",
  "read_counts",
  "deed_count",
  "numbered",
  "rows_of",
  "PlainPlan",
  "plain_answers",
  "WITH_LINE",
  "is_deed_of_program",
  "is_program",
  "check_program",
  "plain_outcomes",
  "_law_draw",
  "_law_program",
  "_law_orders",
  "_law_done",
  "_law_due",
  "_law_holds"]
def names : List Str := names_0
abbrev Rw : PySem.W.OpenRow := PySem.W.OpenLaw.row PySem.Challenge.rw_keptinstep_k71_all_orders_of_one_memory
abbrev qv : Program := PySem.W.view Rw.prog [33]
abbrev hk : PySem.W.Hook := hookP 6 fas fns tbs exs
def ob (s : PySem.W.SharedT) : AlP := obsPG 6 fas fns tbs exs (HandSHeadRun.getT s)
theorem ob_eq (s : PySem.W.SharedT) : ob s = hk.obs s.abs := obsPG_eq (HandSHeadRun.getT_eq s)
set_option maxHeartbeats 0 in
theorem hd_run (w : World) : HandSHeadRun.RunEq Rw qv hk ob 3000 names w :=
  PySem.W.byRow2 "special-get-raises" (P := fun w => HandSHeadRun.RunEq Rw qv hk ob 3000 names w) (fun w os => by kernel_rfl) (fun w os => by kernel_rfl) w
theorem facts {l : PySem.W.OpenLaw} {w : World} {K : PySem.W.Frag} {h : Heap} {mg : Str → Option Value} {fa : Addr} (X : K.In h) (G : h.Ns mainGlobals mg) (hfa : mg "law" = some (.ref fa)) (c : SaysP fas fns tbs exs w K)
    {d : Nat} (hl : ∀ ns : List Int, ns.length ≤ 63 → callF tb d 25 [scriptD ns] = some (.val (.bl true) [])) :
    ∃ fd : FuncData, (∀ (s : Shared) (v : Value), BindsTo s fd ⟨[v], []⟩ [("script", v)]) ∧ ∀ base : Heap, K.In base → base.Ns mainGlobals mg → FnOk l.prog w K mg base (L2.CX l.prog w) (2 * d) fa fd ["script"] (spL K) := by
  obtain ⟨_, _, _, _, _, _, _, _, _, l0, c0, k0⟩ := c.df 0 rfl rfl rfl
  obtain ⟨_, _, _, _, _, _, _, _, _, l1, c1, k1⟩ := c.df 1 rfl rfl rfl
  obtain ⟨_, _, _, _, _, _, _, _, _, l2, c2, k2⟩ := c.df 2 rfl rfl rfl
  obtain ⟨_, _, _, _, _, _, _, _, _, l3, c3, k3⟩ := c.df 3 rfl rfl rfl
  obtain ⟨_, _, _, _, _, _, _, _, _, l4, c4, k4⟩ := c.df 4 rfl rfl rfl
  obtain ⟨_, _, _, _, _, _, _, _, _, l5, c5, k5⟩ := c.df 5 rfl rfl rfl
  obtain ⟨_, _, _, _, _, _, _, _, _, l6, c6, k6⟩ := c.df 6 rfl rfl rfl
  obtain ⟨_, _, _, _, _, _, _, _, _, l7, c7, k7⟩ := c.df 7 rfl rfl rfl
  obtain ⟨_, _, _, _, _, _, _, _, _, l8, c8, k8⟩ := c.df 8 rfl rfl rfl
  obtain ⟨_, _, _, _, _, _, _, _, _, l9, c9, k9⟩ := c.df 9 rfl rfl rfl
  obtain ⟨_, _, _, _, _, _, _, _, _, l10, c10, k10⟩ := c.df 10 rfl rfl rfl
  obtain ⟨_, _, _, _, _, _, _, _, _, l11, c11, k11⟩ := c.df 11 rfl rfl rfl
  obtain ⟨_, _, _, _, _, _, _, _, _, l12, c12, k12⟩ := c.df 12 rfl rfl rfl
  obtain ⟨_, _, _, _, _, _, _, _, _, l13, c13, k13⟩ := c.df 13 rfl rfl rfl
  obtain ⟨_, _, _, _, _, _, _, _, _, l14, c14, k14⟩ := c.df 14 rfl rfl rfl
  obtain ⟨_, _, _, _, _, _, _, _, _, l15, c15, k15⟩ := c.df 15 rfl rfl rfl
  obtain ⟨_, _, _, _, _, _, _, _, _, l16, c16, k16⟩ := c.df 16 rfl rfl rfl
  obtain ⟨_, _, _, _, _, _, _, _, _, l17, c17, k17⟩ := c.df 17 rfl rfl rfl
  obtain ⟨_, _, _, _, _, _, _, _, _, l18, c18, k18⟩ := c.df 18 rfl rfl rfl
  obtain ⟨_, _, _, _, _, _, _, _, _, l19, c19, k19⟩ := c.df 19 rfl rfl rfl
  obtain ⟨_, _, _, _, _, _, _, _, _, l20, c20, k20⟩ := c.df 20 rfl rfl rfl
  obtain ⟨_, _, _, _, _, _, _, _, _, l21, c21, k21⟩ := c.df 21 rfl rfl rfl
  obtain ⟨_, _, _, _, _, _, _, _, _, l22, c22, k22⟩ := c.df 22 rfl rfl rfl
  obtain ⟨_, _, _, _, _, _, _, _, _, l23, c23, k23⟩ := c.df 23 rfl rfl rfl
  obtain ⟨_, _, _, _, _, _, _, _, _, l24, c24, k24⟩ := c.df 24 rfl rfl rfl
  obtain ⟨_, _, _, _, _, _, _, _, _, l25, c25, k25⟩ := c.df 25 rfl rfl rfl
  have E0 := (He.ba c.x)
  have E1 := (He.ba E0.2)
  exact all_mk X G hfa (He.eqO_ok (c.fct 0 rfl)) (He.cls_ok (c.fct 1 rfl)).pg (He.cls_ok (c.fct 1 rfl)).hd (He.cls_ok (c.fct 1 rfl)).po (He.cls_ok (c.fct 1 rfl)).sa (He.mkr_ok (c.fct 2 rfl)).makes (He.mkr_ok (c.fct 2 rfl)).kp (He.noat_ok (c.fct 3 rfl)) (He.noat_ok (c.fct 4 rfl)) (He.noat_ok (c.fct 5 rfl)) (He.noat_ok (c.fct 6 rfl)) (He.noat_ok (c.fct 7 rfl)) (He.eqO_ok (c.fct 8 rfl)) l0 c0 k0 (He.eqO_ok (c.fct 9 rfl)) l1 c1 k1 (He.eqO_ok (c.fct 10 rfl)) l2 c2 k2 (He.eqO_ok (c.fct 11 rfl)) l3 c3 k3 (He.eqO_ok (c.fct 12 rfl)) l4 c4 k4 (He.eqO_ok (c.fct 13 rfl)) l5 c5 k5 (He.eqO_ok (c.fct 14 rfl)) l6 c6 k6 (He.eqO_ok (c.fct 15 rfl)) l7 c7 k7 (He.meth_ok (c.fct 16 rfl)).at_ (He.meth_ok (c.fct 16 rfl)).fn l8 c8 k8 (He.meth_ok (c.fct 17 rfl)).at_ (He.meth_ok (c.fct 17 rfl)).fn l9 c9 k9 (He.meth_ok (c.fct 18 rfl)).at_ (He.meth_ok (c.fct 18 rfl)).fn l10 c10 k10 (He.meth_ok (c.fct 19 rfl)).at_ (He.meth_ok (c.fct 19 rfl)).fn l11 c11 k11 (He.meth_ok (c.fct 20 rfl)).at_ (He.meth_ok (c.fct 20 rfl)).fn l12 c12 k12 (He.meth_ok (c.fct 21 rfl)).at_ (He.meth_ok (c.fct 21 rfl)).fn l13 c13 k13 (He.eqO_ok (c.fct 22 rfl)) l14 c14 k14 (He.eqO_ok (c.fct 23 rfl)) l15 c15 k15 (He.eqO_ok (c.fct 24 rfl)) l16 c16 k16 (He.eqO_ok (c.fct 25 rfl)) l17 c17 k17 (He.eqO_ok (c.fct 26 rfl)) l18 c18 k18 (He.eqO_ok (c.fct 27 rfl)) l19 c19 k19 (He.eqO_ok (c.fct 28 rfl)) l20 c20 k20 (He.eqO_ok (c.fct 29 rfl)) l21 c21 k21 (He.eqO_ok (c.fct 30 rfl)) l22 c22 k22 (He.eqO_ok (c.fct 31 rfl)) l23 c23 k23 (He.eqO_ok (c.fct 32 rfl)) l24 c24 k24 (He.eqO_ok (c.fct 33 rfl)) l25 c25 k25 (He.int_ok X G (c.fct 34 rfl)) (He.int_ok X G (c.fct 35 rfl)) (He.int_ok X G (c.fct 36 rfl)) (He.glo_ok X G (c.fct 37 rfl)) E0.1 (He.glo_ok X G (c.fct 38 rfl)) (c.t.tab 0 rfl) E1.1 (He.eqO_ok (c.fct 39 rfl)) (He.eqO_ok (c.fct 40 rfl)) (He.eqO_ok (c.fct 41 rfl)) (He.eqO_ok (c.fct 42 rfl)) (He.eqO_ok (c.fct 43 rfl)) (He.eqO_ok (c.fct 44 rfl)) (He.eqO_ok (c.fct 45 rfl)) (He.eqO_ok (c.fct 46 rfl)) (He.eqO_ok (c.fct 47 rfl)) (He.eqO_ok (c.fct 48 rfl)) (He.eqO_ok (c.fct 49 rfl)) (He.eqO_ok (c.fct 50 rfl)) (He.eqO_ok (c.fct 51 rfl)) (He.eqO_ok (c.fct 52 rfl)) (He.eqO_ok (c.fct 53 rfl)) (He.eqO_ok (c.fct 54 rfl)) (He.eqO_ok (c.fct 55 rfl)) (He.eqO_ok (c.fct 56 rfl)) (He.eqO_ok (c.fct 57 rfl)) (He.eqO_ok (c.fct 58 rfl)) (He.eqO_ok (c.fct 59 rfl)) (He.eqO_ok (c.fct 60 rfl)) (He.eqO_ok (c.fct 61 rfl)) hl
end K71

namespace K71
open PySem L2 PL
/-- a deed -/
inductive Dd where
  | rd (l : Int) | wr (l : Int) | fc
def nm : Dd → Str
  | .rd _ => "read"
  | .wr _ => "write"
  | .fc => "fence"
def isR : Dd → Bool
  | .rd _ => true
  | _ => false
def isW : Dd → Bool
  | .wr _ => true
  | _ => false
def lnD : Dd → List D
  | .rd l => [.int l]
  | .wr l => [.int l]
  | .fc => []
abbrev dD (d : Dd) : D := .nd .tup false (.str (nm d) :: lnD d)
abbrev Row := List Dd
abbrev Prog := List Row
abbrev rowD (r : Row) : D := .nd .tup false (r.map dD)
abbrev progD (P : Prog) : D := .nd .tup false (P.map rowD)
def okD : Dd → Prop
  | .rd l => l = 0 ∨ l = 1
  | .wr l => l = 0 ∨ l = 1
  | .fc => True
def cr (r : Row) : Nat := (r.filter isR).length
def cw (r : Row) : Nat := (r.filter isW).length
def tot (P : Prog) : Nat := (P.map List.length).sum
structure OkP (P : Prog) : Prop where
  pos : 1 ≤ P.length
  few : P.length ≤ 3
  all : tot P ≤ 6
  dd : ∀ r ∈ P, ∀ d ∈ r, okD d
theorem len_tot : ∀ {P : Prog} {r : Row}, r ∈ P → r.length ≤ tot P
  | [], _, h => by simp at h
  | a :: P, r, h => by
    simp only [tot, List.map_cons, List.sum_cons]
    rcases List.mem_cons.mp h with rfl | h
    · omega
    · have := len_tot h
      simp only [tot] at this
      omega
theorem OkP.row {P : Prog} (h : OkP P) {r : Row} (hr : r ∈ P) : r.length ≤ 6 := Nat.le_trans (len_tot hr) h.all
@[simp] theorem frz_dD (d : Dd) : (dD d).frz = dD d := by cases d <;> simp [lnD]
@[simp] theorem frzL_row (r : Row) : frzL (r.map dD) = r.map dD := by
  induction r with
  | nil => rfl
  | cons d r ih => rw [List.map_cons, frzL_c, ih, frz_dD]
@[simp] theorem frz_rowD (r : Row) : (rowD r).frz = rowD r := by simp
@[simp] theorem frzL_prog (P : Prog) : frzL (P.map rowD) = P.map rowD := by
  induction P with
  | nil => rfl
  | cons d r ih => rw [List.map_cons, frzL_c, ih, frz_rowD]
@[simp] theorem frz_progD (P : Prog) : (progD P).frz = progD P := by simp
@[simp] theorem fzL_row (r : Row) : fzL (r.map dD) = true := by rw [← frzL_row, frzL_fz]
@[simp] theorem fzL_prog (P : Prog) : fzL (P.map rowD) = true := by rw [← frzL_prog, frzL_fz]
theorem fz_dD (d : Dd) : (dD d).fz = true := by cases d <;> simp [lnD]
@[simp] theorem nf_dD (d : Dd) : (dD d).nf = true := by cases d <;> simp [lnD]
theorem eqD_str {a b : Str} (ha : SeqAt.shaped (.str a) = true) (hb : SeqAt.shaped (.str b) = true) : eqD (.str a) (.str b) = some (decide (a = b)) := by
  simp only [eqD, D.py]
  rw [if_pos ⟨ha, hb⟩]
  simp only [PyData.eqv]
  by_cases c : a = b <;> simp [c]
theorem sh_r : SeqAt.shaped (.str "read") = true := by decide +kernel
theorem sh_w : SeqAt.shaped (.str "write") = true := by decide +kernel
theorem sh_f : SeqAt.shaped (.str "fence") = true := by decide +kernel
theorem d_rw : decide (("read" : Str) = "write") = false := by decide +kernel
theorem d_wr : decide (("write" : Str) = "read") = false := by decide +kernel
theorem d_rf : decide (("read" : Str) = "fence") = false := by decide +kernel
theorem d_wf : decide (("write" : Str) = "fence") = false := by decide +kernel
theorem d_fr : decide (("fence" : Str) = "read") = false := by decide +kernel
theorem d_fw : decide (("fence" : Str) = "write") = false := by decide +kernel
theorem nm_w : ∀ d : Dd, eqD (.str (nm d)) (.str "write") = some (isW d)
  | .rd _ => by rw [nm, eqD_str sh_r sh_w, d_rw] <;> rfl
  | .wr _ => by rw [nm, eqD_str sh_w sh_w] <;> simp [isW]
  | .fc => by rw [nm, eqD_str sh_f sh_w, d_fw] <;> rfl
theorem nm_r : ∀ d : Dd, eqD (.str (nm d)) (.str "read") = some (isR d)
  | .rd _ => by rw [nm, eqD_str sh_r sh_r] <;> simp [isR]
  | .wr _ => by rw [nm, eqD_str sh_w sh_r, d_wr] <;> rfl
  | .fc => by rw [nm, eqD_str sh_f sh_r, d_fr] <;> rfl
theorem nm_f : ∀ d : Dd, eqD (.str (nm d)) (.str "fence") = some (!isR d && !isW d)
  | .rd _ => by rw [nm, eqD_str sh_r sh_f, d_rf] <;> rfl
  | .wr _ => by rw [nm, eqD_str sh_w sh_f, d_wf] <;> rfl
  | .fc => by rw [nm, eqD_str sh_f sh_f] <;> simp [isR, isW]
@[simp] theorem atI_0 {α : Type} (a : α) (l : List α) : atI (a :: l) 0 = some a := by simp [atI, ixN]
@[simp] theorem atI_1 {α : Type} (a b : α) (l : List α) : atI (a :: b :: l) 1 = some b := by
  have : (1 : Int) < ((a :: b :: l).length : Int) := by simp; omega
  simp only [atI, ixN, this, if_true]
  rfl
theorem e0 : tb.fns[0]? = some f0 := rfl
theorem e1 : tb.fns[1]? = some f1 := rfl
theorem e15 : tb.fns[15]? = some f15 := rfl
theorem e16 : tb.fns[16]? = some f16 := rfl
theorem e17 : tb.fns[17]? = some f17 := rfl
/-- is_integer -/
theorem run0 (k : Nat) (i : Int) : callF tb (k + 1) 0 [.int i] = some (.val (.bl true) []) := by
  refine run_rt (e := [some (.int i)]) e0 rfl rfl rfl ?_
  simp -implicitDefEqProofs [b0, isD, tyD, isTs, isT]
/-- is_number -/
theorem run1 (k : Nat) (i : Int) (h : 0 ≤ i) : callF tb (k + 2) 1 [.int i] = some (.val (.bl true) []) := by
  refine run_rt (e := [some (.int i)]) e1 rfl rfl rfl ?_
  have C : ∀ e, runCall tb (callF tb (k + 1)) 0 [.d (.int i)] e = some (.val (.bl true) e) := fun e => call1 e0 rfl (run0 k i)
  simp -implicitDefEqProofs [b1, C, h]
theorem inD_12 (n : Nat) (h : n = 1 ∨ n = 2) : inD (.int (n : Nat)) (.nd .tup false [.int 1, .int 2]) = some true := by
  rcases h with rfl | rfl <;> simp [intsD]
theorem any_wl (d : Dd) (h : isR d = true ∨ isW d = true) : (decide (("read" : Str) = nm d) || decide (("write" : Str) = nm d)) = true := by
  cases d with
  | rd l => simp [nm]
  | wr l => simp [nm]
  | fc => simp [isR, isW] at h
/-- is_deed_of_program -/
theorem run15 (k : Nat) (d : Dd) (h : okD d) : callF tb (k + 3) 15 [dD d] = some (.val (.bl true) []) := by
  refine run_rt (e := [some (dD d)]) e15 rfl rfl rfl ?_
  have hw := any_wl d
  have hf := nm_f d
  have i1 := inD_12 1 (.inl rfl)
  have i2 := inD_12 2 (.inr rfl)
  have t1 : isD (dD d) [.tuple] = some true := rfl
  have t2 : isD (.str (nm d)) [.str] = some true := rfl
  cases d with
  | fc =>
    simp only [isR, isW] at hf
    have e : dD .fc = .nd .tup false [.str (nm .fc)] := rfl
    rw [e] at t1 ⊢
    generalize nm .fc = x at hf t1 t2 ⊢
    simp -implicitDefEqProofs [b15, t1, t2, hf, eqD_int, intsD]
  | rd l =>
    have hw := hw (.inl rfl)
    have C : ∀ e, runCall tb (callF tb (k + 2)) 1 [.d (.int l)] e = some (.val (.bl true) e) := fun e => call1 e1 rfl (run1 k l (by simp only [okD] at h; omega))
    have e : dD (.rd l) = .nd .tup false [.str (nm (.rd l)), .int l] := rfl
    rw [e] at t1 ⊢
    generalize nm (.rd l) = x at hw t1 t2 ⊢
    simp -implicitDefEqProofs [b15, t1, t2, intsD, strsD, eqD_int, hw, C]
  | wr l =>
    have hw := hw (.inr rfl)
    have C : ∀ e, runCall tb (callF tb (k + 2)) 1 [.d (.int l)] e = some (.val (.bl true) e) := fun e => call1 e1 rfl (run1 k l (by simp only [okD] at h; omega))
    have e : dD (.wr l) = .nd .tup false [.str (nm (.wr l)), .int l] := rfl
    rw [e] at t1 ⊢
    generalize nm (.wr l) = x at hw t1 t2 ⊢
    simp -implicitDefEqProofs [b15, t1, t2, intsD, strsD, eqD_int, hw, C]
/-- is_program -/
theorem blsD_rep (n : Nat) : blsD (List.replicate n (.bl true)) = some (List.replicate n true) := by
  induction n with
  | zero => rfl
  | succ n ih => simp [List.replicate_succ, blsD, ih]
theorem blsD_const {α : Type} (l : List α) : blsD (l.map fun _ => D.bl true) = some (l.map fun _ => true) := by
  rw [List.map_const', List.map_const', blsD_rep]
theorem run16 (k : Nat) (P : Prog) (h : OkP P) : callF tb (k + 4) 16 [progD P] = some (.val (.bl true) []) := by
  let E : List Row → PL.Env → Prop := fun _ e => ∃ a, e = [some (progD P), a, none]
  obtain ⟨e', h1, a, rfl⟩ := loopF_do (tg := fun x e => some (e.set 1 (some x))) (b := fun e => exSs tb (callF tb (k + 3)) [] b16_2 e) rowD E P [some (progD P), none, none] ⟨none, rfl⟩ (by
    rintro p r q hp _ ⟨a, rfl⟩
    have hr : r ∈ P := by rw [hp]; simp
    refine ⟨_, [some (progD P), some (rowD r), none], rfl, ?_, some (rowD r), rfl⟩
    obtain ⟨e', rfl, hc⟩ := loopC_all (tg := fun x e => some (e.set 2 (some x))) (cond := fun e => evT tb (callF tb (k + 3)) .tt e) (elt := fun e => evE tb (callF tb (k + 3)) b16_1 e) (own := [2]) dD (fun _ => D.bl true)
      (fun e => e = [some (progD P), some (rowD r), none]) r _ rfl (by
        rintro d hd _ rfl
        have C : ∀ e, runCall tb (callF tb (k + 3)) 15 [.d (dD d)] e = some (.val (.bl true) e) := fun e => call1 e15 rfl (by rw [frz_dD]; exact run15 k d (h.dd r hr d hd))
        refine ⟨_, [some (progD P), some (rowD r), some (dD d)], [some (progD P), some (rowD r), some (dD d)], rfl, by simp, ?_, by simp⟩
        have fz := fz_dD d
        generalize dD d = x at C fz ⊢
        simp -implicitDefEqProofs [b16_1, C, fz])
    have B := blsD_const r
    have hz : r.length ≤ sizeLine := sz_le (by have := h.row hr; omega)
    have t1 : isD (rowD r) [.tuple] = some true := rfl
    have fr := frzL_row r
    have ff : fzL (r.map dD) = true := by rw [← fr, frzL_fz]
    simp -implicitDefEqProofs at hc t1 fr ff ⊢
    simp -implicitDefEqProofs [b16_2, t1, fr, ff, hc, hz, B])
  refine run_rt (e := [some (progD P), a, none]) e16 rfl rfl rfl ?_
  have t1 : isD (progD P) [.tuple] = some true := rfl
  have fr := frzL_prog P
  have ff : fzL (P.map rowD) = true := by rw [← fr, frzL_fz]
  simp -implicitDefEqProofs at h1 t1 fr ff ⊢
  simp -implicitDefEqProofs [b16, t1, fr, ff, h1]
/-- a def that ends without an answer -/
theorem run_nx {tb : Tab} {o : Orc} {f : Nat} {fn : Fn} {ds : List D} {env e : PL.Env} (h : tb.fns[f]? = some fn) (hl : ds.length = fn.np) (hio : fn.io = []) (he : ds.map some ++ List.replicate (fn.nl - fn.np) none = env) (hx : exSs tb o [] fn.body env = some (.val .nx e)) : runFn tb o f ds = some (.val .non []) := by
  subst he
  simp only [runFn, h, hl, if_true, hio, hx, finals, Option.map_some]
/-- check_program -/
theorem run17 (k : Nat) (P : Prog) (h : OkP P) : callF tb (k + 5) 17 [progD P] = some (.val .non []) := by
  refine run_nx (e := [some (progD P)]) e17 rfl rfl rfl ?_
  have C : ∀ e, runCall tb (callF tb (k + 4)) 16 [.d (progD P)] e = some (.val (.bl true) e) := fun e => call1 e16 rfl (by rw [frz_progD]; exact run16 k P h)
  have ff : (progD P).fz = true := by rw [← frz_progD, frz_fz]
  generalize progD P = x at C ff ⊢
  simp -implicitDefEqProofs [b17, C, ff]
end K71

namespace K71
open PySem L2 PL
def lnL : Dd → List Int
  | .rd l => [l]
  | .wr l => [l]
  | .fc => []
theorem lnD_eq (d : Dd) : lnD d = (lnL d).map .int := by cases d <;> rfl
theorem step2 {o : Orc} (pd rx : Option D) (K : List Int) (d : Dd) (hz : K.length ≤ 900) :
    exSs tb o [] b2_1 [pd, some (tB true K), rx, some (dD d)] = some (.val .nx [pd, some (tB true (insL K (lnL d))), rx, some (dD d)]) := by
  have fz := fz_dD d
  have go : ∀ l : Int, lnL d = [l] → exSs tb o [] b2_1 [pd, some (tB true K), rx, some (dD d)] = some (.val .nx [pd, some (tB true (insL K (lnL d))), rx, some (dD d)]) := fun l hl => by
    have e : dD d = .nd .tup false [.str (nm d), .int l] := by simp only [dD, lnD_eq, hl, List.map_cons, List.map_nil]
    have S := setD_tB (ks := K) (k := l) (small _ (by omega))
    rw [hl, show insL K [l] = ins K l from rfl]
    rw [e] at fz ⊢
    generalize nm d = x at fz ⊢
    generalize tB true K = u at S ⊢
    generalize tB true (ins K l) = v at S ⊢
    simp -implicitDefEqProofs [b2_1, eqD_int, S]
  cases d with
  | rd l => exact go l rfl
  | wr l => exact go l rfl
  | fc =>
    have e : dD .fc = .nd .tup false [.str (nm .fc)] := rfl
    rw [e] at fz ⊢
    generalize nm .fc = x at fz ⊢
    rw [show insL K (lnL .fc) = K from rfl]
    generalize tB true K = u
    simp -implicitDefEqProofs [b2_1, eqD_int]
theorem flat_len {α : Type} (f : Dd → List α) (h : ∀ d, (f d).length ≤ 1) : ∀ r : Row, (r.flatMap f).length ≤ r.length
  | [] => by simp
  | d :: r => by
    have a := h d
    have b := flat_len f h r
    simp only [List.flatMap_cons, List.length_append, List.length_cons]
    omega
theorem lnL_len (d : Dd) : (lnL d).length ≤ 1 := by cases d <;> simp [lnL]
theorem in2 {o : Orc} (pd : Option D) (K : List Int) (r : Row) (x : Option D) (hz : K.length + r.length ≤ 900) :
    ∃ x', loopF (fun x e => some (e.set 3 (some x))) (fun e => exSs tb o [] b2_1 e) (r.map dD) [pd, some (tB true K), some (rowD r), x] = some (.val .nx [pd, some (tB true (insL K (r.flatMap lnL))), some (rowD r), x']) := by
  obtain ⟨e', h1, x', rfl⟩ := loopF_do (tg := fun x e => some (e.set 3 (some x))) (b := fun e => exSs tb o [] b2_1 e) dD (fun p e => ∃ x, e = [pd, some (tB true (insL K (p.flatMap lnL))), some (rowD r), x]) r [pd, some (tB true K), some (rowD r), x] ⟨x, rfl⟩ (by
    rintro p d q hp _ ⟨y, rfl⟩
    refine ⟨_, _, rfl, step2 pd (some (rowD r)) (insL K (p.flatMap lnL)) d ?_, some (dD d), ?_⟩
    · have a := insL_len (p.flatMap lnL) K
      have b := flat_len lnL lnL_len p
      have c : p.length ≤ r.length := by rw [hp]; simp
      omega
    · rw [List.flatMap_append, insL_app]
      simp)
  exact ⟨x', h1⟩
def LN (P : Prog) : List Int := sortI (insL [] (P.flatMap fun r => r.flatMap lnL))
theorem e2 : tb.fns[2]? = some f2 := rfl
theorem key_ints (K : List Int) : intsD ((K.map (Sum.inl : Int → Key)).map keyD) = some K := by
  rw [List.map_map]
  exact intsD_map K
theorem LN0_len (P : Prog) : (insL [] (P.flatMap fun r => r.flatMap lnL)).length ≤ tot P := by
  have a := insL_len (P.flatMap fun r => r.flatMap lnL) ([] : List Int)
  have b : ∀ P : Prog, (P.flatMap fun r => r.flatMap lnL).length ≤ tot P := fun P => by
    induction P with
    | nil => simp
    | cons r P ih =>
      have c := flat_len lnL lnL_len r
      simp only [tot] at ih
      simp only [tot, List.flatMap_cons, List.length_append, List.map_cons, List.sum_cons]
      omega
  have := b P
  simp only [List.length_nil] at a
  omega
/-- lines_of -/
theorem run2 (k : Nat) (P : Prog) (h : OkP P) : callF tb (k + 1) 2 [progD P] = some (.val (tI (LN P)) []) := by
  obtain ⟨e', h1, a, b, rfl⟩ := loopF_do (tg := fun x e => some (e.set 2 (some x))) (b := fun e => exSs tb (callF tb k) [] b2_2 e) rowD
    (fun p e => ∃ a b, e = [some (progD P), some (tB true (insL [] (p.flatMap fun r => r.flatMap lnL))), a, b]) P [some (progD P), some (.nd (.dk []) true []), none, none] ⟨none, none, rfl⟩ (by
    rintro p r q hp _ ⟨a, b, rfl⟩
    have hr : r ∈ P := by rw [hp]; simp
    have l1 : (insL [] (p.flatMap fun r => r.flatMap lnL)).length ≤ 6 := by
      have a := LN0_len p
      have b := h.all
      rw [hp] at b
      simp only [tot, List.map_append, List.sum_append] at a b
      omega
    obtain ⟨x', hx⟩ := in2 (o := callF tb k) (some (progD P)) (insL [] (p.flatMap fun r => r.flatMap lnL)) r b (by have := h.row hr; omega)
    refine ⟨_, _, rfl, ?_, some (rowD r), x', by rw [List.flatMap_append, insL_app]⟩
    have fr := frzL_row r
    have ff : fzL (r.map dD) = true := by rw [← fr, frzL_fz]
    rw [show ([r].flatMap fun r => r.flatMap lnL) = r.flatMap lnL by simp]
    generalize tB true (insL (insL [] (p.flatMap fun r => r.flatMap lnL)) (r.flatMap lnL)) = v at hx ⊢
    generalize tB true (insL [] (p.flatMap fun r => r.flatMap lnL)) = u at hx ⊢
    generalize progD P = pp at hx ⊢
    try simp -implicitDefEqProofs at hx
    simp -implicitDefEqProofs [b2_2, fr, ff, hx])
  have kz : (insL [] (P.flatMap fun r => r.flatMap lnL)).length < 64 := by
    have := LN0_len P
    have := h.all
    omega
  have ki := key_ints (insL [] (P.flatMap fun r => r.flatMap lnL))
  have B : biD .sorted ((tB true (insL [] (P.flatMap fun r => r.flatMap lnL))).frz) = some (.nd .lst true (iL (LN P))) := by
    simp only [PL.tB, frz_nd, biD, ki, Option.bind_some, kz, if_true, LN]
  have nz : (tB true (insL [] (P.flatMap fun r => r.flatMap lnL))).fz = false := rfl
  refine run_rt (e := [some (progD P), some ((tB true (insL [] (P.flatMap fun r => r.flatMap lnL))).frz), a, b]) e2 rfl rfl rfl ?_
  have fr := frzL_prog P
  have ff : fzL (P.map rowD) = true := by rw [← fr, frzL_fz]
  generalize tB true (insL [] (P.flatMap fun r => r.flatMap lnL)) = v at h1 B nz ⊢
  try simp -implicitDefEqProofs at h1
  simp -implicitDefEqProofs [b2, fr, ff, h1, B, nz]
end K71

namespace K71
open PySem L2 PL
def cwI (r : Row) : Int := (cw r : Nat)
def crI (r : Row) : Int := (cr r : Nat)
def cwP (P : Prog) : Int := (P.map cwI).sum
def crP (P : Prog) : Int := (P.map crI).sum
@[simp] theorem cwI_nil : cwI [] = 0 := rfl
@[simp] theorem crI_nil : crI [] = 0 := rfl
theorem cwI_app (p q : Row) : cwI (p ++ q) = cwI p + cwI q := by simp [cwI, cw]
theorem crI_app (p q : Row) : crI (p ++ q) = crI p + crI q := by simp [crI, cr]
theorem cwP_app (p q : Prog) : cwP (p ++ q) = cwP p + cwP q := by simp [cwP]
theorem crP_app (p q : Prog) : crP (p ++ q) = crP p + crP q := by simp [crP]
theorem cwI_1 (d : Dd) : cwI [d] = if isW d then 1 else 0 := by cases d <;> rfl
theorem crI_1 (d : Dd) : crI [d] = if isR d then 1 else 0 := by cases d <;> rfl
theorem cwP_1 (r : Row) : cwP [r] = cwI r := by simp [cwP]
theorem crP_1 (r : Row) : crP [r] = crI r := by simp [crP]
/-- the numbers of a row's writes, w behind those ahead -/
def wnR : Int → Row → List Int
  | _, [] => []
  | w, d :: r => (if isW d then w + 1 else 0) :: wnR (w + cwI [d]) r
def wnP : Int → Prog → List (List Int)
  | _, [] => []
  | w, r :: P => wnR w r :: wnP (w + cwI r) P
theorem wnR_app (w : Int) (p q : Row) : wnR w (p ++ q) = wnR w p ++ wnR (w + cwI p) q := by
  induction p generalizing w with
  | nil => simp [wnR]
  | cons d p ih =>
    have e : cwI (d :: p) = cwI [d] + cwI p := cwI_app [d] p
    simp [wnR, ih, e, Int.add_assoc]
theorem wnP_app (w : Int) (p q : Prog) : wnP w (p ++ q) = wnP w p ++ wnP (w + cwP p) q := by
  induction p generalizing w with
  | nil => simp [wnP, cwP]
  | cons d p ih =>
    have e : cwP (d :: p) = cwI d + cwP p := by simp [cwP]
    simp [wnP, ih, e, Int.add_assoc]
theorem wnR_len (w : Int) (r : Row) : (wnR w r).length = r.length := by
  induction r generalizing w with
  | nil => rfl
  | cons d r ih => simp [wnR, ih]
theorem wnP_len (w : Int) (P : Prog) : (wnP w P).length = P.length := by
  induction P generalizing w with
  | nil => rfl
  | cons d r ih => simp [wnP, ih]
theorem step3 {o : Orc} (pd rs rx : Option D) (w : Int) (ns : List Int) (d : Dd) (hz : ns.length ≤ 900) :
    exSs tb o [] b3_1 [pd, rs, some (.int w), rx, some (.nd .lst true (iL ns)), some (dD d)] = some (.val .nx [pd, rs, some (.int (w + cwI [d])), rx, some (.nd .lst true (iL (ns ++ [if isW d then w + 1 else 0]))), some (dD d)]) := by
  have fz := fz_dD d
  have hw := nm_w d
  have z : (iL ns).length < sizeLine := small _ (by simp; omega)
  have e : dD d = .nd .tup false (.str (nm d) :: lnD d) := rfl
  rw [cwI_1]
  rw [e] at fz ⊢
  generalize lnD d = ls at fz ⊢
  generalize nm d = x at hw fz ⊢
  simp only [iL, List.length_map] at z
  simp at fz
  cases q : isW d <;> rw [q] at hw <;> simp -implicitDefEqProofs [b3_1, hw, z, fz]
theorem in3 {o : Orc} (pd rs : Option D) (w : Int) (r : Row) (x : Option D) (hz : r.length ≤ 900) :
    ∃ x', loopF (fun x e => some (e.set 5 (some x))) (fun e => exSs tb o [] b3_1 e) (r.map dD) [pd, rs, some (.int w), some (rowD r), some (.nd .lst true []), x] = some (.val .nx [pd, rs, some (.int (w + cwI r)), some (rowD r), some (.nd .lst true (iL (wnR w r))), x']) := by
  obtain ⟨e', h1, x', rfl⟩ := loopF_do (tg := fun x e => some (e.set 5 (some x))) (b := fun e => exSs tb o [] b3_1 e) dD (fun p e => ∃ x, e = [pd, rs, some (.int (w + cwI p)), some (rowD r), some (.nd .lst true (iL (wnR w p))), x]) r
    [pd, rs, some (.int w), some (rowD r), some (.nd .lst true []), x] ⟨x, by simp [wnR]⟩ (by
    rintro p d q hp _ ⟨y, rfl⟩
    refine ⟨_, _, rfl, step3 pd rs (some (rowD r)) (w + cwI p) (wnR w p) d ?_, some (dD d), ?_⟩
    · rw [wnR_len]
      have : p.length ≤ r.length := by rw [hp]; simp
      omega
    · rw [wnR_app, cwI_app, Int.add_assoc]
      rfl)
  exact ⟨x', h1⟩
theorem e3 : tb.fns[3]? = some f3 := rfl
theorem e4 : tb.fns[4]? = some f4 := rfl
theorem e5 : tb.fns[5]? = some f5 := rfl
abbrev tII (l : List (List Int)) : D := .nd .tup false (l.map tI)
@[simp] theorem frzL_tI (l : List (List Int)) : frzL (l.map tI) = l.map tI := by
  induction l with
  | nil => rfl
  | cons p l ih => simp [ih]
@[simp] theorem fzL_tI (l : List (List Int)) : fzL (l.map tI) = true := by rw [← frzL_tI, frzL_fz]
/-- write_numbers -/
theorem run3 (k : Nat) (P : Prog) (h : OkP P) : callF tb (k + 1) 3 [progD P] = some (.val (tII (wnP 0 P)) []) := by
  obtain ⟨e', h1, a, b, c, rfl⟩ := loopF_do (tg := fun x e => some (e.set 3 (some x))) (b := fun e => exSs tb (callF tb k) [] b3_2 e) rowD
    (fun p e => ∃ a b c, e = [some (progD P), some (.nd .lst true ((wnP 0 p).map tI)), some (.int (0 + cwP p)), a, b, c]) P [some (progD P), some (.nd .lst true []), some (.int 0), none, none, none] ⟨none, none, none, by simp [wnP, cwP]⟩ (by
    rintro p r q hp _ ⟨a, b, c, rfl⟩
    have hr : r ∈ P := by rw [hp]; simp
    have hl : p.length ≤ 3 := by have := h.few; rw [hp] at this; simp at this; omega
    obtain ⟨x', hx⟩ := in3 (o := callF tb k) (some (progD P)) (some (.nd .lst true ((wnP 0 p).map tI))) (0 + cwP p) r c (by have := h.row hr; omega)
    refine ⟨_, _, rfl, ?_, some (rowD r), some (.nd .lst false (iL (wnR (0 + cwP p) r))), x', by rw [wnP_app, cwP_app, cwP_1, ← Int.add_assoc]⟩
    have z : ((wnP 0 p).map tI).length < sizeLine := small _ (by simp [wnP_len]; omega)
    rw [show (wnP 0 p ++ wnP (0 + cwP p) [r]).map tI = (wnP 0 p).map tI ++ [tI (wnR (0 + cwP p) r)] by simp [wnP]]
    generalize (wnP 0 p).map tI = u at hx z ⊢
    generalize wnR (0 + cwP p) r = v at hx ⊢
    generalize 0 + cwP p = n at hx ⊢
    generalize progD P = pp at hx ⊢
    simp only [tI, iL] at hx ⊢
    have nf : (D.nd .lst true (v.map .int)).fz = false := rfl
    simp -implicitDefEqProofs [b3_2, hx, z])
  refine run_rt (e := [some (progD P), some (.nd .lst false ((wnP 0 P).map tI)), some (.int (0 + cwP P)), a, b, c]) e3 rfl rfl rfl ?_
  have fr := frzL_tI (wnP 0 P)
  simp only [tII]
  generalize (wnP 0 P).map tI = v at h1 fr ⊢
  generalize 0 + cwP P = n at h1 ⊢
  try simp -implicitDefEqProofs at h1
  simp -implicitDefEqProofs [b3, fr, h1]
end K71

namespace K71
open PySem L2 PL
theorem elt4 {o : Orc} (P : Prog) (r : Row) (hz : r.length ≤ 900) : evE tb o b4_3 [some (progD P), some (rowD r), none] = some (.val (.int (cr r : Nat)) [some (progD P), some (rowD r), none]) := by
  obtain ⟨e', rfl, hc⟩ := loopC_flt (tg := fun x e => some (e.set 2 (some x))) (cond := fun e => evT tb o b4_2 e) (elt := fun e => evE tb o b4_1 e) (own := [2]) dD isR dD
    (fun e => e = [some (progD P), some (rowD r), none]) r _ rfl (by
      rintro d hd _ rfl
      have fz := fz_dD d
      have hr := nm_r d
      refine ⟨_, [some (progD P), some (rowD r), some (dD d)], rfl, ?_, fun _ => by simp, fun _ => ⟨[some (progD P), some (rowD r), some (dD d)], ?_, by simp⟩⟩
      · have e : dD d = .nd .tup false (.str (nm d) :: lnD d) := rfl
        rw [e] at fz ⊢
        generalize lnD d = ls at fz ⊢
        generalize nm d = x at hr fz ⊢
        simp at fz
        simp -implicitDefEqProofs [b4_2, hr, fz]
      · generalize dD d = x at fz ⊢
        simp -implicitDefEqProofs [b4_1, fz])
  have z : ((r.filter isR).map dD).length ≤ sizeLine := sz_le (by
    have := List.length_filter_le isR r
    simp; omega)
  generalize hv : (r.filter isR).map dD = v at hc z
  have hl : v.length = cr r := by rw [← hv]; simp [cr]
  have z2 : cr r ≤ sizeLine := by rw [← hl]; exact z
  try simp -implicitDefEqProofs at hc
  simp -implicitDefEqProofs [b4_3, hc, z2, hl]
/-- read_counts -/
theorem run4 (k : Nat) (P : Prog) (h : OkP P) : callF tb (k + 1) 4 [progD P] = some (.val (tI (P.map crI)) []) := by
  obtain ⟨e', rfl, hc⟩ := loopC_all (tg := fun x e => some (e.set 1 (some x))) (cond := fun e => evT tb (callF tb k) .tt e) (elt := fun e => evE tb (callF tb k) b4_3 e) (own := [1]) rowD (fun r => D.int (crI r))
    (fun e => e = [some (progD P), none, none]) P _ rfl (by
      rintro r hr _ rfl
      exact ⟨_, _, _, rfl, by simp, elt4 P r (by have := h.row hr; omega), by simp⟩)
  have z : P.length ≤ sizeLine := sz_le (by have := h.few; omega)
  refine run_rt (e := [some (progD P), none, none]) e4 rfl rfl rfl ?_
  rw [show tI (P.map crI) = .nd .tup false (P.map fun r => D.int (crI r)) by simp [tI, iL]]
  try simp -implicitDefEqProofs at hc
  simp -implicitDefEqProofs [b4, hc, z]
theorem sum_tot (P : Prog) : (P.map fun r => ((r.length : Nat) : Int)).sum = ((tot P : Nat) : Int) := by
  induction P with
  | nil => rfl
  | cons r P ih =>
    simp only [tot] at ih
    simp only [tot, List.map_cons, List.sum_cons, ih]
    omega
/-- deed_count -/
theorem run5 (k : Nat) (P : Prog) (h : OkP P) : callF tb (k + 1) 5 [progD P] = some (.val (.int (tot P : Nat)) []) := by
  obtain ⟨e', rfl, hc⟩ := loopC_all (tg := fun x e => some (e.set 1 (some x))) (cond := fun e => evT tb (callF tb k) .tt e) (elt := fun e => evE tb (callF tb k) b5_1 e) (own := [1]) rowD (fun r => D.int (r.length : Nat))
    (fun e => e = [some (progD P), none]) P _ rfl (by
      rintro r hr _ rfl
      refine ⟨_, [some (progD P), some (rowD r)], [some (progD P), some (rowD r)], rfl, by simp, ?_, by simp⟩
      simp -implicitDefEqProofs [b5_1])
  have z : P.length ≤ sizeLine := sz_le (by have := h.few; omega)
  refine run_rt (e := [some (progD P), none]) e5 rfl rfl rfl ?_
  have I : intsD (P.map fun r => D.int (r.length : Nat)) = some (P.map fun r => ((r.length : Nat) : Int)) := by
    have := intsD_map (P.map fun r => ((r.length : Nat) : Int))
    rw [List.map_map] at this
    exact this
  have st := sum_tot P
  try simp -implicitDefEqProofs at hc
  simp -implicitDefEqProofs [b5, hc, z, I, st]
end K71

namespace K71
open PySem L2 PL
/-- the place of a line -/
def ix (L : List Int) (l : Int) : Int := (L.idxOf l : Nat)
abbrev plD (o : Bool) (L : List Int) : D := .nd (.dk (L.map Sum.inl)) o ((List.range L.length).map fun i => .int (i : Nat))
theorem look_ix (l : Int) : ∀ (L : List Int) (s : Nat), l ∈ L → lookD (L.map (Sum.inl : Int → Key)) ((List.range' s L.length).map fun i => D.int (i : Nat)) (.inl l) = some (.int ((s + L.idxOf l : Nat) : Int))
  | [], s, h => by simp at h
  | a :: L, s, h => by
    simp only [List.map_cons, List.length_cons, List.range'_succ, lookD]
    by_cases c : a = l
    · subst c
      simp
    · have h2 : l ∈ L := by
        rcases List.mem_cons.mp h with z | z
        · exact absurd z.symm c
        · exact z
      rw [if_neg (fun z => c (Sum.inl.inj z)), look_ix l L (s + 1) h2]
      congr 2
      have : (a == l) = false := by simpa using c
      rw [List.idxOf_cons, this]
      simp only [cond_false]
      omega
theorem look_pl {L : List Int} {l : Int} (h : l ∈ L) : lookD (L.map (Sum.inl : Int → Key)) ((List.range L.length).map fun i => D.int (i : Nat)) (.inl l) = some (.int (ix L l)) := by
  have := look_ix l L 0 h
  rw [← List.range_eq_range'] at this
  rw [this]
  simp [ix]
theorem putD_new (k : Int) (v : D) : ∀ (L : List Int) (xs : List D), k ∉ L → L.length = xs.length → putD (L.map (Sum.inl : Int → Key)) xs (.inl k) v = ((L ++ [k]).map Sum.inl, xs ++ [v])
  | [], [], _, _ => rfl
  | a :: L, x :: xs, h, hl => by
    have ih := putD_new k v L xs (fun z => h (List.mem_cons_of_mem _ z)) (by simpa using hl)
    simp only [List.map_cons, putD]
    rw [if_neg (fun z => h (by rw [Sum.inl.inj z]; exact List.mem_cons_self)), ih]
    simp
  | [], _ :: _, _, hl => by simp at hl
  | _ :: _, [], _, hl => by simp at hl
/-- {line: at for at, line in enumerate(..)} -/
theorem dc6 {o : Orc} (a0 a1 a2 a3 a4 a5 a6 a7 a8 a9 a12 : Option D) (L : List Int) (nd : L.Nodup) (hz : L.length ≤ 900) :
    loopD (fun x e => storeT [] (.t [.v 10, .v 11]) x e) (fun e => evT tb o .tt e) (fun e => evE tb o b6_3 e) (fun e => evE tb o b6_4 e) [10, 11] ((L.zipIdx).map fun p => .nd .pr false [.int (p.2 : Nat), .int p.1]) (.nd (.dk []) true []) [a0, a1, a2, a3, a4, a5, a6, a7, a8, a9, none, none, a12]
      = some (plD true L, [a0, a1, a2, a3, a4, a5, a6, a7, a8, a9, none, none, a12]) := by
  obtain ⟨acc, e', h1, h2, h3⟩ := loopD_do (tg := fun x e => storeT [] (.t [.v 10, .v 11]) x e) (cond := fun e => evT tb o .tt e) (ek := fun e => evE tb o b6_3 e) (ev := fun e => evE tb o b6_4 e) (own := [10, 11])
    (fun p : Int × Nat => .nd .pr false [.int (p.2 : Nat), .int p.1]) (fun p acc e => acc = plD true (p.map (·.1)) ∧ e = [a0, a1, a2, a3, a4, a5, a6, a7, a8, a9, none, none, a12]) L.zipIdx (.nd (.dk []) true []) [a0, a1, a2, a3, a4, a5, a6, a7, a8, a9, none, none, a12] ⟨rfl, rfl⟩ (by
    rintro p ⟨l, i⟩ q hp _ _ ⟨rfl, rfl⟩
    have hL : L = p.map (·.1) ++ l :: q.map (·.1) := by
      have := congrArg (fun z => z.map (·.1)) hp
      simpa [List.zipIdx_map_fst] using this
    have hi : i = p.length := by
      have h := congrArg (fun z => z[p.length]?) hp
      simp at h
      have : L[p.length]? = some l := by rw [hL]; simp
      simp [this] at h
      exact h.symm
    have nl : l ∉ p.map (·.1) := by
      rw [hL] at nd
      exact fun z => (List.nodup_append.mp nd).2.2 l z l List.mem_cons_self rfl
    have hlen : (p.map (·.1)).length ≤ 900 := by
      have := congrArg List.length hL
      simp only [List.length_append, List.length_cons] at this
      omega
    have S : setD (plD true (p.map (·.1))) (.int l) (.int (i : Nat)) = some (plD true (p.map (·.1) ++ [l])) := by
      have P := putD_new l (.int (i : Nat)) (p.map (·.1)) ((List.range (p.map (·.1)).length).map fun i => D.int (i : Nat)) nl (by simp)
      simp only [plD, setD, D.key]
      rw [if_pos (small _ (by simp only [List.length_map] at hlen ⊢; omega)), P]
      subst hi
      simp [List.range_succ]
    refine ⟨[a0, a1, a2, a3, a4, a5, a6, a7, a8, a9, some (.int (i : Nat)), some (.int l), a12], [a0, a1, a2, a3, a4, a5, a6, a7, a8, a9, some (.int (i : Nat)), some (.int l), a12], [a0, a1, a2, a3, a4, a5, a6, a7, a8, a9, some (.int (i : Nat)), some (.int l), a12], [a0, a1, a2, a3, a4, a5, a6, a7, a8, a9, some (.int (i : Nat)), some (.int l), a12], .int l, .int (i : Nat), _, by simp, by simp, by simp [b6_3], by simp [b6_4], S, ?_, by simp⟩
    simp)
  subst h2 h3
  rw [h1]
  simp [List.zipIdx_map_fst]
theorem LN_nodup (P : Prog) : (LN P).Nodup := by
  have h := nodup_insL (ks := ([] : List Int)) (l := P.flatMap fun r => r.flatMap lnL) List.nodup_nil
  exact (sortI_perm _).nodup_iff.mpr h
theorem LN_len (P : Prog) : (LN P).length ≤ tot P := by
  have h := (sortI_perm (insL [] (P.flatMap fun r => r.flatMap lnL))).length_eq
  have := LN0_len P
  simp only [LN]
  omega
theorem mem_LN {P : Prog} {r : Row} {d : Dd} {l : Int} (hr : r ∈ P) (hd : d ∈ r) (hl : l ∈ lnL d) : l ∈ LN P := by
  have h : l ∈ insL [] (P.flatMap fun r => r.flatMap lnL) := mem_insL.mpr (.inr (List.mem_flatMap.mpr ⟨r, hr, List.mem_flatMap.mpr ⟨d, hd, hl⟩⟩))
  exact (sortI_perm _).mem_iff.mpr h
end K71

namespace K71
open PySem L2 PL
def tri (L : List Int) (w q : Int) : Dd → Int × Int × Int
  | .fc => (2, -1, -1)
  | .wr l => (1, ix L l, w + 1)
  | .rd l => (0, ix L l, q)
def nuR (L : List Int) : Int → Int → Row → List (Int × Int × Int)
  | _, _, [] => []
  | w, q, d :: r => tri L w q d :: nuR L (w + cwI [d]) (q + crI [d]) r
def nuP (L : List Int) : Int → Int → Prog → List (List (Int × Int × Int))
  | _, _, [] => []
  | w, q, r :: P => nuR L w q r :: nuP L (w + cwI r) (q + crI r) P
theorem nuR_app (L : List Int) (w q : Int) (a b : Row) : nuR L w q (a ++ b) = nuR L w q a ++ nuR L (w + cwI a) (q + crI a) b := by
  induction a generalizing w q with
  | nil => simp [nuR]
  | cons d a ih =>
    have e1 : cwI (d :: a) = cwI [d] + cwI a := cwI_app [d] a
    have e2 : crI (d :: a) = crI [d] + crI a := crI_app [d] a
    simp [nuR, ih, e1, e2, Int.add_assoc]
theorem nuP_app (L : List Int) (w q : Int) (a b : Prog) : nuP L w q (a ++ b) = nuP L w q a ++ nuP L (w + cwP a) (q + crP a) b := by
  induction a generalizing w q with
  | nil => simp [nuP, cwP, crP]
  | cons d a ih =>
    have e1 : cwP (d :: a) = cwI d + cwP a := by simp [cwP]
    have e2 : crP (d :: a) = crI d + crP a := by simp [crP]
    simp [nuP, ih, e1, e2, Int.add_assoc]
theorem nuR_len (L : List Int) (w q : Int) (r : Row) : (nuR L w q r).length = r.length := by
  induction r generalizing w q with
  | nil => rfl
  | cons d r ih => simp [nuR, ih]
theorem nuP_len (L : List Int) (w q : Int) (r : Prog) : (nuP L w q r).length = r.length := by
  induction r generalizing w q with
  | nil => rfl
  | cons d r ih => simp [nuP, ih]
abbrev t3 (t : Int × Int × Int) : D := .nd .tup false [.int t.1, .int t.2.1, .int t.2.2]
abbrev t3R (r : List (Int × Int × Int)) : D := .nd .tup false (r.map t3)
abbrev t3P (P : List (List (Int × Int × Int))) : D := .nd .tup false (P.map t3R)
@[simp] theorem frzL_t3 (l : List (Int × Int × Int)) : frzL (l.map t3) = l.map t3 := by
  induction l with
  | nil => rfl
  | cons p l ih => simp [ih]
@[simp] theorem fzL_t3 (l : List (Int × Int × Int)) : fzL (l.map t3) = true := by rw [← frzL_t3, frzL_fz]
@[simp] theorem frzL_t3R (l : List (List (Int × Int × Int))) : frzL (l.map t3R) = l.map t3R := by
  induction l with
  | nil => rfl
  | cons p l ih => simp [ih]
@[simp] theorem fzL_t3R (l : List (List (Int × Int × Int))) : fzL (l.map t3R) = true := by rw [← frzL_t3R, frzL_fz]
def kd : Dd → Int
  | .fc => 2
  | .wr _ => 1
  | .rd _ => 0
theorem look_kd (d : Dd) : lookD ([Sum.inr "read", Sum.inr "write", Sum.inr "fence"] : List Key) [.int 0, .int 1, .int 2] (.inr (nm d)) = some (.int (kd d)) := by
  have h1 := of_decide_eq_false d_rw
  have h2 := of_decide_eq_false d_rf
  have h3 := of_decide_eq_false d_wf
  cases d with
  | rd l => simp only [lookD, nm, kd, if_true]
  | wr l =>
    simp only [lookD, nm, kd, Sum.inr.injEq]
    rw [if_neg h1]
    simp
  | fc =>
    simp only [lookD, nm, kd, Sum.inr.injEq]
    rw [if_neg h2, if_neg h3]
    simp
theorem frz_plD (o : Bool) (L : List Int) : (plD o L).frz = plD false L := by
  have : ∀ n : Nat, frzL ((List.range n).map fun i => D.int (i : Nat)) = (List.range n).map fun i => D.int (i : Nat) := fun n => by
    have := frzL_ints ((List.range n).map fun i => ((i : Nat) : Int))
    rw [List.map_map] at this
    exact this
  simp only [plD, frz_nd, this]
theorem fz_plD (L : List Int) : (plD false L).fz = true := by rw [← frz_plD true, frz_fz]
theorem step6 {o : Orc} (pd ws rs rx nx a10 a11 a12 : Option D) (L : List Int) (ow : Bool) (w q : Int) (ts : List (Int × Int × Int)) (d : Dd) (hL : ∀ l ∈ lnL d, l ∈ L) (hz : ts.length ≤ 900) :
    ∃ ow', exSs tb o [] b6_1 [pd, some (plD ow L), ws, rs, some (.int q), rx, nx, some (.nd .lst true (ts.map t3)), some (dD d), some (.int (if isW d then w + 1 else 0)), a10, a11, a12]
      = some (.val .nx [pd, some (plD ow' L), ws, rs, some (.int (q + crI [d])), rx, nx, some (.nd .lst true ((ts ++ [tri L w q d]).map t3)), some (dD d), some (.int (if isW d then w + 1 else 0)), a10, a11, some (.int (kd d))]) := by
  have z : (ts.map t3).length < sizeLine := small _ (by simp only [List.length_map]; omega)
  have hk := look_kd d
  have hz0 : ∀ l ∈ lnL d, subD (plD false L) (.int l) = some (.int (ix L l)) := fun l hl => by
    show Option.bind (D.key (.int l)) (lookD (L.map Sum.inl) _) = _
    simp only [D.key, Option.bind_some, look_pl (hL l hl)]
  have pf := frz_plD ow L
  have pz := fz_plD L
  have oz : (plD ow L).fz = true ∨ ow = true := by cases ow with
    | false => exact .inl pz
    | true => exact .inr rfl
  have nz : ow = true → (plD ow L).fz = false := fun e => by subst e; rfl
  rw [crI_1, List.map_append, List.map_cons, List.map_nil]
  generalize ts.map t3 = u at z ⊢
  cases d with
  | fc =>
    have e : dD .fc = .nd .tup false [.str (nm .fc)] := rfl
    refine ⟨ow, ?_⟩
    rw [e]
    simp only [isW, isR, tri, kd] at hk ⊢
    generalize nm .fc = x at hk ⊢
    simp -implicitDefEqProofs [b6_1, hk, eqD_int, z]
  | wr l =>
    have hs := hz0 l (by simp [lnL])
    have e : dD (.wr l) = .nd .tup false [.str (nm (.wr l)), .int l] := rfl
    refine ⟨false, ?_⟩
    rw [e]
    simp only [isW, isR, tri, kd] at hk ⊢
    generalize nm (.wr l) = x at hk ⊢
    generalize plD false L = p0 at hs pf pz ⊢
    rcases oz with c | c
    · have : plD ow L = p0 := by rw [← pf, frz_of_fz _ c]
      rw [this]
      simp -implicitDefEqProofs [b6_1, hk, eqD_int, z, pz, hs]
    · have nz := nz c
      generalize plD ow L = p1 at pf nz ⊢
      simp -implicitDefEqProofs [b6_1, hk, eqD_int, z, pz, hs, pf, nz]
  | rd l =>
    have hs := hz0 l (by simp [lnL])
    have e : dD (.rd l) = .nd .tup false [.str (nm (.rd l)), .int l] := rfl
    refine ⟨false, ?_⟩
    rw [e]
    simp only [isW, isR, tri, kd] at hk ⊢
    generalize nm (.rd l) = x at hk ⊢
    generalize plD false L = p0 at hs pf pz ⊢
    rcases oz with c | c
    · have : plD ow L = p0 := by rw [← pf, frz_of_fz _ c]
      rw [this]
      simp -implicitDefEqProofs [b6_1, hk, eqD_int, z, pz, hs]
    · have nz := nz c
      generalize plD ow L = p1 at pf nz ⊢
      simp -implicitDefEqProofs [b6_1, hk, eqD_int, z, pz, hs, pf, nz]
end K71

namespace K71
open PySem L2 PL
abbrev prD (p : Dd × Int) : D := .nd .pr false [dD p.1, .int p.2]
theorem in6 {o : Orc} (pd ws rs rx nx a10 a11 : Option D) (L : List Int) : ∀ (r : Row) (ow : Bool) (w q : Int) (ts : List (Int × Int × Int)) (a8 a9 a12 : Option D), (∀ d ∈ r, ∀ l ∈ lnL d, l ∈ L) → ts.length + r.length ≤ 900 →
    ∃ ow' b8 b9 b12, loopF (fun x e => storeT [] (.t [.v 8, .v 9]) x e) (fun e => exSs tb o [] b6_1 e) ((r.zip (wnR w r)).map prD) [pd, some (plD ow L), ws, rs, some (.int q), rx, nx, some (.nd .lst true (ts.map t3)), a8, a9, a10, a11, a12]
      = some (.val .nx [pd, some (plD ow' L), ws, rs, some (.int (q + crI r)), rx, nx, some (.nd .lst true ((ts ++ nuR L w q r).map t3)), b8, b9, a10, a11, b12])
  | [], ow, w, q, ts, a8, a9, a12, _, _ => ⟨ow, a8, a9, a12, by simp [nuR]⟩
  | d :: r, ow, w, q, ts, a8, a9, a12, hL, hz => by
    simp only [List.length_cons] at hz
    obtain ⟨ow1, h1⟩ := step6 (o := o) pd ws rs rx nx a10 a11 a12 L ow w q ts d (hL d List.mem_cons_self) (by omega)
    obtain ⟨ow', b8, b9, b12, ih⟩ := in6 pd ws rs rx nx a10 a11 L r ow1 (w + cwI [d]) (q + crI [d]) (ts ++ [tri L w q d]) (some (dD d)) (some (.int (if isW d then w + 1 else 0))) (some (.int (kd d))) (fun d hd => hL d (List.mem_cons_of_mem _ hd)) (by simp only [List.length_append, List.length_singleton]; omega)
    refine ⟨ow', b8, b9, b12, ?_⟩
    have e : crI (d :: r) = crI [d] + crI r := crI_app [d] r
    rw [wnR, List.zip_cons_cons, List.map_cons, loopF_turn (e1 := [pd, some (plD ow L), ws, rs, some (.int q), rx, nx, some (.nd .lst true (ts.map t3)), some (dD d), some (.int (if isW d then w + 1 else 0)), a10, a11, a12]) (by simp) h1, ih]
    simp [nuR, e, Int.add_assoc]
abbrev prR (p : Row × List Int) : D := .nd .pr false [rowD p.1, tI p.2]
theorem out6 {o : Orc} (pd ws a10 a11 : Option D) (L : List Int) : ∀ (P : Prog) (ow : Bool) (w q : Int) (ts : List (List (Int × Int × Int))) (a5 a6 a7 a8 a9 a12 : Option D), (∀ r ∈ P, ∀ d ∈ r, ∀ l ∈ lnL d, l ∈ L) → (∀ r ∈ P, r.length ≤ 6) → ts.length + P.length ≤ 900 →
    ∃ ow' b5 b6 b7 b8 b9 b12 q', loopF (fun x e => storeT [] (.t [.v 5, .v 6]) x e) (fun e => exSs tb o [] b6_2 e) ((P.zip (wnP w P)).map prR) [pd, some (plD ow L), ws, some (.nd .lst true (ts.map t3R)), some (.int q), a5, a6, a7, a8, a9, a10, a11, a12]
      = some (.val .nx [pd, some (plD ow' L), ws, some (.nd .lst true ((ts ++ nuP L w q P).map t3R)), some (.int q'), b5, b6, b7, b8, b9, a10, a11, b12])
  | [], ow, w, q, ts, a5, a6, a7, a8, a9, a12, _, _, _ => ⟨ow, a5, a6, a7, a8, a9, a12, q, by simp [nuP]⟩
  | r :: P, ow, w, q, ts, a5, a6, a7, a8, a9, a12, hL, h6, hz => by
    simp only [List.length_cons] at hz
    obtain ⟨ow1, b8, b9, b12, h1⟩ := in6 (o := o) pd ws (some (.nd .lst true (ts.map t3R))) (some (rowD r)) (some (tI (wnR w r))) a10 a11 L r ow w q [] a8 a9 a12 (hL r List.mem_cons_self) (by have := h6 r List.mem_cons_self; simp; omega)
    obtain ⟨ow', b5, b6, b7, b8', b9', b12', q', ih⟩ := out6 pd ws a10 a11 L P ow1 (w + cwI r) (q + crI r) (ts ++ [nuR L w q r]) (some (rowD r)) (some (tI (wnR w r))) (some (.nd .lst false ((nuR L w q r).map t3))) b8 b9 b12 (fun d hd => hL d (List.mem_cons_of_mem _ hd)) (fun d hd => h6 d (List.mem_cons_of_mem _ hd)) (by simp only [List.length_append, List.length_singleton]; omega)
    refine ⟨ow', b5, b6, b7, b8', b9', b12', q', ?_⟩
    have z : (ts.map t3R).length < sizeLine := small _ (by simp only [List.length_map]; omega)
    have B : exSs tb o [] b6_2 [pd, some (plD ow L), ws, some (.nd .lst true (ts.map t3R)), some (.int q), some (rowD r), some (tI (wnR w r)), a7, a8, a9, a10, a11, a12]
        = some (.val .nx [pd, some (plD ow1 L), ws, some (.nd .lst true ((ts ++ [nuR L w q r]).map t3R)), some (.int (q + crI r)), some (rowD r), some (tI (wnR w r)), some (.nd .lst false ((nuR L w q r).map t3)), b8, b9, a10, a11, b12]) := by
      have hzip : (r.map dD).zip (iL (wnR w r)) = (r.zip (wnR w r)).map fun p => (dD p.1, D.int p.2) := by
        rw [iL, List.zip_map]
        rfl
      have fr := frzL_row r
      have f3 := frzL_t3 (nuR L w q r)
      rw [List.map_append, List.map_cons, List.map_nil]
      simp only [List.nil_append, List.map_nil] at h1
      rw [show prD = fun p : Dd × Int => (D.nd .pr false [dD p.1, .int p.2] : D) from rfl] at h1
      generalize ts.map t3R = u at h1 z ⊢
      generalize plD ow L = p0 at h1 ⊢
      generalize plD ow1 L = p1 at h1 ⊢
      simp only [tI, iL] at h1 hzip ⊢
      try simp -implicitDefEqProofs at h1
      simp -implicitDefEqProofs [b6_2, fr, hzip, h1, f3, z, Function.comp_def]
    rw [wnP, List.zip_cons_cons, List.map_cons, loopF_turn (e1 := [pd, some (plD ow L), ws, some (.nd .lst true (ts.map t3R)), some (.int q), some (rowD r), some (tI (wnR w r)), a7, a8, a9, a10, a11, a12]) (by simp) B, ih]
    simp [nuP]
theorem e6 : tb.fns[6]? = some f6 := rfl
/-- numbered -/
def NU (P : Prog) : List (List (Int × Int × Int)) := nuP (LN P) 0 0 P
theorem run6 (k : Nat) (P : Prog) (h : OkP P) : callF tb (k + 2) 6 [progD P] = some (.val (t3P (NU P)) []) := by
  have C2 : ∀ e, runCall tb (callF tb (k + 1)) 2 [.d (progD P)] e = some (.val (tI (LN P)) e) := fun e => call1 e2 rfl (by rw [frz_progD]; exact run2 k P h)
  have C3 : ∀ e, runCall tb (callF tb (k + 1)) 3 [.d (progD P)] e = some (.val (tII (wnP 0 P)) e) := fun e => call1 e3 rfl (by rw [frz_progD]; exact run3 k P h)
  have DC := dc6 (o := callF tb (k + 1)) (some (progD P)) none none none none none none none none none none (LN P) (LN_nodup P) (by have := LN_len P; have := h.all; omega)
  obtain ⟨ow', c5, c6, c7, c8, c9, c12, q', h1⟩ := out6 (o := callF tb (k + 1)) (some (progD P)) (some (tII (wnP 0 P))) none none (LN P) P true 0 0 [] none none none none none none (fun r hr d hd l hl => mem_LN hr hd hl) (fun r hr => h.row hr) (by have := h.few; simp; omega)
  have hen : (iL (LN P)).mapIdx (fun i d => (D.nd .pr false [.int (i : Nat), d] : D)) = (LN P).zipIdx.map fun p => .nd .pr false [.int (p.2 : Nat), .int p.1] := by
    rw [iL, List.mapIdx_eq_zipIdx_map, List.zipIdx_map, List.map_map]
    rfl
  have hzip : (P.map rowD).zip ((wnP 0 P).map tI) = (P.zip (wnP 0 P)).map fun p => (rowD p.1, tI p.2) := by
    rw [List.zip_map]
    rfl
  have fr := frzL_prog P
  have fI : frzL (iL (LN P)) = iL (LN P) := frzL_ints _
  have f2 := frzL_tI (wnP 0 P)
  have f3 := frzL_t3R (NU P)
  refine run_rt (e := [some (progD P), some (plD ow' (LN P)), some (tII (wnP 0 P)), some (.nd .lst false ((NU P).map t3R)), some (.int q'), c5, c6, c7, c8, c9, none, none, c12]) e6 rfl rfl rfl ?_
  simp only [List.nil_append, List.map_nil] at h1
  rw [show nuP (LN P) 0 0 P = NU P from rfl] at h1
  rw [show prR = fun p : Row × List Int => (D.nd .pr false [rowD p.1, tI p.2] : D) from rfl] at h1
  generalize plD true (LN P) = p0 at h1 DC ⊢
  generalize plD ow' (LN P) = p1 at h1 ⊢
  simp only [tI, iL, tII] at h1 hzip hen fI f2 C2 C3 DC ⊢
  try simp -implicitDefEqProofs at h1 DC
  simp -implicitDefEqProofs [b6, fr, C2, C3, fI, hen, DC, hzip, h1, f2, f3, Function.comp_def]
end K71

namespace K71
open PySem L2 PL
theorem n_rm : ("rows" : Str) ≠ "many" := by decide +kernel
theorem n_rl : ("rows" : Str) ≠ "lines" := by decide +kernel
theorem n_rd : ("rows" : Str) ≠ "reads" := by decide +kernel
theorem n_rn : ("rows" : Str) ≠ "length" := by decide +kernel
theorem n_ml : ("many" : Str) ≠ "lines" := by decide +kernel
theorem n_md : ("many" : Str) ≠ "reads" := by decide +kernel
theorem n_mn : ("many" : Str) ≠ "length" := by decide +kernel
theorem n_ld : ("lines" : Str) ≠ "reads" := by decide +kernel
theorem n_ln : ("lines" : Str) ≠ "length" := by decide +kernel
theorem n_dn : ("reads" : Str) ≠ "length" := by decide +kernel
theorem t_r : tb.attr 0 "rows" = true := by decide +kernel
theorem t_m : tb.attr 0 "many" = true := by decide +kernel
theorem t_l : tb.attr 0 "lines" = true := by decide +kernel
theorem t_d : tb.attr 0 "reads" = true := by decide +kernel
theorem t_n : tb.attr 0 "length" = true := by decide +kernel
abbrev nsP : List Str := ["rows", "many", "lines", "reads", "length"]
abbrev insP (o : Bool) (a b c d e : D) : D := .nd (.ins 0 nsP) o [a, b, c, d, e]
section
variable {o : Bool} {a b c d e : D}
theorem g_r : fldD tb.attr (insP o a b c d e) "rows" = some a := by simp only [fldD, t_r, if_true, lookS]
theorem g_m : fldD tb.attr (insP o a b c d e) "many" = some b := by simp only [fldD, t_m, if_true, lookS, n_rm, if_false]
theorem g_l : fldD tb.attr (insP o a b c d e) "lines" = some c := by simp only [fldD, t_l, if_true, lookS, n_rl, n_ml, if_false]
theorem g_d : fldD tb.attr (insP o a b c d e) "reads" = some d := by simp only [fldD, t_d, if_true, lookS, n_rd, n_md, n_ld, if_false]
theorem g_n : fldD tb.attr (insP o a b c d e) "length" = some e := by simp only [fldD, t_n, if_true, lookS, n_rn, n_mn, n_ln, n_dn, if_false]
theorem s_1 : fsetD tb.attr (.nd (.ins 0 []) true []) "rows" a = some (.nd (.ins 0 ["rows"]) true [a]) := by
  simp only [fsetD, t_r, List.length_nil]
  rfl
theorem s_2 : fsetD tb.attr (.nd (.ins 0 ["rows"]) true [a]) "many" b = some (.nd (.ins 0 ["rows", "many"]) true [a, b]) := by
  simp only [fsetD, t_m, putN, n_rm, if_false]
  rfl
theorem s_3 : fsetD tb.attr (.nd (.ins 0 ["rows", "many"]) true [a, b]) "lines" c = some (.nd (.ins 0 ["rows", "many", "lines"]) true [a, b, c]) := by
  simp only [fsetD, t_l, putN, n_rl, n_ml, if_false]
  rfl
theorem s_4 : fsetD tb.attr (.nd (.ins 0 ["rows", "many", "lines"]) true [a, b, c]) "reads" d = some (.nd (.ins 0 ["rows", "many", "lines", "reads"]) true [a, b, c, d]) := by
  simp only [fsetD, t_d, putN, n_rd, n_md, n_ld, if_false]
  rfl
theorem s_5 : fsetD tb.attr (.nd (.ins 0 ["rows", "many", "lines", "reads"]) true [a, b, c, d]) "length" e = some (insP true a b c d e) := by
  simp only [fsetD, t_n, putN, n_rn, n_mn, n_ln, n_dn, if_false]
  rfl
theorem g_1 : fldD tb.attr (.nd (.ins 0 ["rows"]) o [a]) "rows" = some a := by simp only [fldD, t_r, if_true, lookS]
end
abbrev plan (o : Bool) (P : Prog) : D := insP o (t3P (NU P)) (.int (P.length : Nat)) (.int ((LN P).length : Nat)) (.int (crP P)) (.int (tot P : Nat))
theorem frz_plan (o : Bool) (P : Prog) : (plan o P).frz = plan false P := by simp
theorem fz_plan (P : Prog) : (plan false P).fz = true := by simp
theorem e7 : tb.fns[7]? = some f7 := rfl
theorem e8 : tb.fns[8]? = some f8 := rfl
/-- PlainPlan.__init__ -/
theorem run8 (k : Nat) (P : Prog) (h : OkP P) : callF tb (k + 3) 8 [.nd (.ins 0 []) true [], progD P] = some (.val .non [plan true P]) := by
  rw [call_succ]
  have C6 : ∀ e, runCall tb (callF tb (k + 2)) 6 [.d (progD P)] e = some (.val (t3P (NU P)) e) := fun e => call1 e6 rfl (by rw [frz_progD]; exact run6 k P h)
  have C2 : ∀ e, runCall tb (callF tb (k + 2)) 2 [.d (progD P)] e = some (.val (tI (LN P)) e) := fun e => call1 e2 rfl (by rw [frz_progD]; exact run2 (k + 1) P h)
  have C4 : ∀ e, runCall tb (callF tb (k + 2)) 4 [.d (progD P)] e = some (.val (tI (P.map crI)) e) := fun e => call1 e4 rfl (by rw [frz_progD]; exact run4 (k + 1) P h)
  have C5 : ∀ e, runCall tb (callF tb (k + 2)) 5 [.d (progD P)] e = some (.val (.int (tot P : Nat)) e) := fun e => call1 e5 rfl (by rw [frz_progD]; exact run5 (k + 1) P h)
  have nl : (NU P).length = P.length := nuP_len _ _ _ P
  have sm : biD .sum (tI (P.map crI)) = some (.int (crP P)) := by
    simp only [tI, biD, intsD_map, Option.map_some, crP]
  have fp : (progD P).fz = true := by rw [← frz_progD, frz_fz]
  have f3 : (t3P (NU P)).fz = true := by simp
  have r3 := frz_of_fz _ f3
  have hx : exSs tb (callF tb (k + 2)) [0] b8 [some (.nd (.ins 0 []) true []), some (progD P)] = some (.val .nx [some (plan true P), some (progD P)]) := by
    have lenr : biD .len (t3P (NU P)) = some (.int (P.length : Nat)) := by simp [biD, nl]
    have lenl : biD .len (tI (LN P)) = some (.int ((LN P).length : Nat)) := by simp [biD]
    simp only [plan]
    generalize progD P = p at *
    generalize t3P (NU P) = a at *
    generalize tI (LN P) = l at *
    generalize tI (P.map crI) = c at *
    simp -implicitDefEqProofs [b8, C6, C2, C4, C5, fp, sm, s_1, s_2, s_3, s_4, s_5, g_1, lenr, lenl, f3, r3]
  simp only [runFn, e8, List.length_cons, List.length_nil, if_true]
  rw [show ([D.nd (.ins 0 []) true [], progD P].map some ++ List.replicate (f8.nl - f8.np) none) = [some (.nd (.ins 0 []) true []), some (progD P)] from rfl, hx]
  rfl
end K71

namespace K71
open PySem L2 PL
def NR (P : Prog) : List (List (Int × Int × Int)) := NU P
theorem nu_len (P : Prog) : (NU P).length = P.length := nuP_len _ _ _ P
/-- a method of one argument without change -/
theorem meth_run {tb : Tab} {o : Orc} {c : Nat} {ns : List Str} {ow : Bool} {xs : List D} {m : Str} {a : E} {es : Es} {e e1 : PL.Env} {f : Nat} {r : R (List PL.Arg)} (ha : evE tb o a e = some (.val (.nd (.ins c ns) ow xs) e1)) (hm : tb.meth c m = some f) (hn : ns.contains m = false) :
    evE tb o (.meth m a es) e = bnd (evAs tb o es e1) fun as e => runCall tb o f (.d (.nd (.ins c ns) ow xs) :: as) e := by
  simp only [eq_evE_24, ha, bnd_val, hm, hn, Bool.false_eq_true, if_false]
theorem e9 : tb.fns[9]? = some f9 := rfl
theorem e10 : tb.fns[10]? = some f10 := rfl
theorem e11 : tb.fns[11]? = some f11 := rfl
theorem e12 : tb.fns[12]? = some f12 := rfl
theorem e13 : tb.fns[13]? = some f13 := rfl
theorem m9 : tb.meth 0 "first_stand" = some 9 := by decide +kernel
theorem m10 : tb.meth 0 "can_go_on" = some 10 := by decide +kernel
theorem m11 : tb.meth 0 "next_deed" = some 11 := by decide +kernel
theorem m12 : tb.meth 0 "memory_has" = some 12 := by decide +kernel
theorem m13 : tb.meth 0 "behind" = some 13 := by decide +kernel
theorem c9 : nsP.contains "first_stand" = false := by decide +kernel
theorem c10 : nsP.contains "can_go_on" = false := by decide +kernel
theorem c11 : nsP.contains "next_deed" = false := by decide +kernel
theorem c12 : nsP.contains "memory_has" = false := by decide +kernel
theorem c13 : nsP.contains "behind" = false := by decide +kernel
theorem rep_flat (n : Nat) (i : Int) : (List.replicate n [D.int i]).flatten = iL (List.replicate n i) := by
  induction n with
  | zero => rfl
  | succ n ih => simp [List.replicate_succ, ih, iL]
/-- first_stand -/
theorem run9 (k : Nat) (P : Prog) (h : OkP P) : callF tb (k + 1) 9 [plan false P] = some (.val (tI (List.replicate (P.length + (LN P).length) 0)) []) := by
  refine run_rt (e := [some (plan false P)]) e9 rfl rfl rfl ?_
  have fz := fz_plan P
  have h1 := h.few
  have h2 := h.all
  have h3 := LN_len P
  have B : binD .mul (.nd .tup false [.int 0]) (.int ((P.length : Nat) + ((LN P).length : Nat))) = some (tI (List.replicate (P.length + (LN P).length) 0)) := by
    simp only [binD]
    rw [if_pos ⟨rfl, rfl, by omega, by omega, by decide⟩, show ((P.length : Int) + ((LN P).length : Int)).toNat = P.length + (LN P).length by omega, rep_flat]
  have g1 : fldD tb.attr (plan false P) "many" = some (.int (P.length : Nat)) := g_m
  have g2 : fldD tb.attr (plan false P) "lines" = some (.int ((LN P).length : Nat)) := g_l
  generalize plan false P = p at *
  generalize tI (List.replicate (P.length + (LN P).length) 0) = t at *
  simp -implicitDefEqProofs [b9, fz, g1, g2, B]
/-- the deed that p does next -/
def nxt? (P : Prog) (s : List Int) (p : Nat) : Option (Int × Int × Int) := ((NU P)[p]?).bind fun r => (s[p]?).bind fun i => r[i.toNat]?
theorem sub_t3P (P : Prog) (p : Nat) (r : List (Int × Int × Int)) (hr : (NU P)[p]? = some r) : subD (t3P (NU P)) (.int (p : Nat)) = some (t3R r) := by
  simp [hr, PL.atI_nat]
theorem sub_tI (s : List Int) (p : Nat) (i : Int) (hi : s[p]? = some i) : subD (tI s) (.int (p : Nat)) = some (.int i) := by
  simp [hi, PL.atI_nat]
theorem fz_tI (s : List Int) : (tI s).fz = true := by rw [← frz_tI, frz_fz]
/-- can_go_on -/
theorem run10 (k : Nat) (P : Prog) (s : List Int) (p : Nat) (r : List (Int × Int × Int)) (i : Int) (hr : (NU P)[p]? = some r) (hi : s[p]? = some i) :
    callF tb (k + 1) 10 [plan false P, tI s, .int (p : Nat)] = some (.val (.bl (decide (i < (r.length : Nat)))) []) := by
  refine run_rt (e := [some (plan false P), some (tI s), some (.int (p : Nat))]) e10 rfl rfl rfl ?_
  have fz := fz_plan P
  have f2 := fz_tI s
  have S1 := sub_t3P P p r hr
  have S2 := sub_tI s p i hi
  have g1 : fldD tb.attr (plan false P) "rows" = some (t3P (NU P)) := g_r
  generalize plan false P = p at *
  generalize tI s = t at *
  generalize t3P (NU P) = u at *
  simp -implicitDefEqProofs [b10, fz, f2, g1, S1, S2]
theorem sub_t3R (r : List (Int × Int × Int)) (i : Int) (t : Int × Int × Int) (h0 : 0 ≤ i) (ht : r[i.toNat]? = some t) : subD (t3R r) (.int i) = some (t3 t) := by
  obtain ⟨n, rfl⟩ := Int.eq_ofNat_of_zero_le h0
  simp only [Int.toNat_natCast] at ht
  simp [ht, PL.atI_nat]
/-- next_deed -/
theorem run11 (k : Nat) (P : Prog) (s : List Int) (p : Nat) (r : List (Int × Int × Int)) (i : Int) (t : Int × Int × Int) (hr : (NU P)[p]? = some r) (hi : s[p]? = some i) (h0 : 0 ≤ i) (ht : r[i.toNat]? = some t) :
    callF tb (k + 1) 11 [plan false P, tI s, .int (p : Nat)] = some (.val (t3 t) []) := by
  refine run_rt (e := [some (plan false P), some (tI s), some (.int (p : Nat))]) e11 rfl rfl rfl ?_
  have fz := fz_plan P
  have f2 := fz_tI s
  have S1 := sub_t3P P p r hr
  have S2 := sub_tI s p i hi
  have S3 := sub_t3R r i t h0 ht
  have g1 : fldD tb.attr (plan false P) "rows" = some (t3P (NU P)) := g_r
  generalize plan false P = p at *
  generalize tI s = t at *
  generalize t3P (NU P) = u at *
  generalize t3R r = u2 at *
  simp -implicitDefEqProofs [b11, fz, f2, g1, S1, S2, S3]
/-- memory_has -/
theorem run12 (k : Nat) (P : Prog) (s : List Int) (l : Nat) (v : Int) (hv : s[P.length + l]? = some v) :
    callF tb (k + 1) 12 [plan false P, tI s, .int (l : Nat)] = some (.val (.int v) []) := by
  refine run_rt (e := [some (plan false P), some (tI s), some (.int (l : Nat))]) e12 rfl rfl rfl ?_
  have fz := fz_plan P
  have f2 := fz_tI s
  have S1 : subD (tI s) (.int ((P.length : Nat) + (l : Nat))) = some (.int v) := by
    rw [← Int.natCast_add]
    exact sub_tI s _ v hv
  have g1 : fldD tb.attr (plan false P) "many" = some (.int (P.length : Nat)) := g_m
  generalize plan false P = p at *
  generalize tI s = t at *
  simp -implicitDefEqProofs [b12, fz, f2, g1, S1]
end K71

namespace K71
open PySem L2 PL
def bh (M N : Nat) (s : List Int) (p : Nat) (i : Int) (t : Int × Int × Int) : List Int :=
  let s2 := if t.1 = 1 then (s.set p (i + 1)).set (M + t.2.1.toNat) t.2.2 else s.set p (i + 1)
  if t.1 = 0 ∧ (((M + N : Nat) : Int) + t.2.2) < s.length then s2.set (M + N + t.2.2.toNat) (s.getD (M + t.2.1.toNat) 0) else s2
theorem ixN_nat {n i : Nat} (h : i < n) : ixN n (i : Int) = some i := by
  unfold ixN
  simp
  omega
theorem set_tI (s : List Int) (p : Nat) (v : Int) (h : p < s.length) : setD (.nd .lst true (iL s)) (.int (p : Nat)) (.int v) = some (.nd .lst true (iL (s.set p v))) := by
  simp only [setD, List.length_map, ixN_nat h, Option.map_some, iL, List.map_set]
theorem sub_lI (s : List Int) (p : Nat) (i : Int) (hi : s[p]? = some i) : subD (.nd .lst true (iL s)) (.int (p : Nat)) = some (.int i) := by
  simp [hi, PL.atI_nat]
/-- behind -/
theorem run13 (k : Nat) (P : Prog) (s : List Int) (p : Nat) (r : List (Int × Int × Int)) (i : Int) (t : Int × Int × Int) (hr : (NU P)[p]? = some r) (hi : s[p]? = some i) (h0 : 0 ≤ i) (ht : r[i.toNat]? = some t)
    (hk : t.1 = 0 ∨ t.1 = 1 ∨ t.1 = 2) (hl : t.1 ≠ 2 → 0 ≤ t.2.1 ∧ P.length + t.2.1.toNat < s.length) (hn : t.1 = 0 → 0 ≤ t.2.2) :
    callF tb (k + 2) 13 [plan false P, tI s, .int (p : Nat)] = some (.val (tI (bh P.length (LN P).length s p i t)) []) := by
  obtain ⟨a, b, c⟩ := t
  have hp : p < s.length := (List.getElem?_eq_some_iff.mp hi).1
  have fz := fz_plan P
  have f2 := fz_tI s
  have g1 : fldD tb.attr (plan false P) "many" = some (.int (P.length : Nat)) := g_m
  have g2 : fldD tb.attr (plan false P) "lines" = some (.int ((LN P).length : Nat)) := g_l
  have C11 : ∀ e, runCall tb (callF tb (k + 1)) 11 [.d (plan false P), .d (tI s), .d (.int (p : Nat))] e = some (.val (t3 (a, b, c)) e) := fun e => call3 e11 rfl (by rw [frz_of_fz _ fz, frz_tI]; exact run11 k P s p r i _ hr hi h0 ht)
  have S1 := sub_lI s p i hi
  have T1 := set_tI s p (i + 1) hp
  have A : augOld (some (.nd .lst true (iL s))) (.int (p : Nat)) = some i := by
    have : atI (iL s) (p : Int) = some (.int i) := by simp [hi, PL.atI_nat]
    simp only [augOld, this]
    rw [if_pos (by omega)]
  have Z0 : biD .list (tI s) = some (.nd .lst true (iL s)) := rfl
  have L1 : biD .len (D.nd .lst true (iL (s.set p (i + 1)))).frz = some (.int (s.length : Nat)) := by
    rw [frz_nd, frzL_ints]
    simp only [biD, List.length_map, List.length_set]
  have U : ∀ u : List Int, biD .tuple (D.nd .lst true (iL u)).frz = some (tI u) := fun u => by simp
  have N : ∀ u : List Int, (D.nd .lst true (iL u)).fz = false := fun u => rfl
  have N1 := N (s.set p (i + 1))
  have U1 := U (s.set p (i + 1))
  have F1 := frz_fz (D.nd .lst true (iL (s.set p (i + 1))))
  rcases hk with e | e | e <;> dsimp only at e hl hn <;> subst e
  · obtain ⟨l0, l1⟩ := hl (by decide)
    obtain ⟨l, rfl⟩ := Int.eq_ofNat_of_zero_le l0
    obtain ⟨q, rfl⟩ := Int.eq_ofNat_of_zero_le (hn rfl)
    simp only [Int.toNat_natCast] at l1
    obtain ⟨v, hv⟩ : ∃ v, s[P.length + l]? = some v := ⟨_, List.getElem?_eq_getElem l1⟩
    have C12 : ∀ e, runCall tb (callF tb (k + 1)) 12 [.d (plan false P), .d (tI s), .d (.int (l : Nat))] e = some (.val (.int v) e) := fun e => call3 e12 rfl (by rw [frz_of_fz _ fz, frz_tI]; exact run12 k P s l v hv)
    by_cases c : P.length + (LN P).length + q < s.length
    · have T2 : setD (.nd .lst true (iL (s.set p (i + 1)))) (.int ((P.length : Nat) + ((LN P).length : Nat) + (q : Nat))) (.int v) = some (.nd .lst true (iL (bh P.length (LN P).length s p i (0, l, q)))) := by
        rw [show ((P.length : Int) + ((LN P).length : Int) + (q : Int)) = ((P.length + (LN P).length + q : Nat) : Int) by omega, set_tI _ _ _ (by simpa using c)]
        have hd : s.getD (P.length + l) 0 = v := by simp [List.getD, hv]
        simp only [bh, Int.toNat_natCast, hd]
        rw [if_pos ⟨trivial, by omega⟩, if_neg (by decide)]
      have c2 : (P.length : Int) + ((LN P).length : Int) + (q : Int) < (s.length : Int) := by omega
      have U2 := U (bh P.length (LN P).length s p i (0, l, q))
      have N2 := N (bh P.length (LN P).length s p i (0, l, q))
      refine run_rt (e := [some (plan false P), some (tI s), some (.int (p : Nat)), some (.int 0), some (.int (l : Nat)), some (.int (q : Nat)), some (D.nd .lst true (iL (bh P.length (LN P).length s p i (0, l, q)))).frz, some (.int ((P.length : Nat) + ((LN P).length : Nat) + (q : Nat)))]) e13 rfl rfl rfl ?_
      clear U N
      generalize tI (bh P.length (LN P).length s p i (0, l, q)) = r0 at *
      generalize D.nd .lst true (iL (bh P.length (LN P).length s p i (0, l, q))) = d2 at *
      generalize D.nd .lst true (iL (s.set p (i + 1))) = d1 at *
      generalize D.nd .lst true (iL s) = d0 at *
      generalize tI s = ss at *
      simp -implicitDefEqProofs [b13, fz, f2, g1, g2, C11, C12, m11, m12, Z0, A, T1, L1, N1, F1, T2, U2, N2, eqD_int, c2]
    · have hb : bh P.length (LN P).length s p i (0, l, q) = s.set p (i + 1) := by
        simp only [bh]
        rw [if_neg (by omega), if_neg (by decide)]
      rw [hb]
      refine run_rt (e := [some (plan false P), some (tI s), some (.int (p : Nat)), some (.int 0), some (.int (l : Nat)), some (.int (q : Nat)), some (D.nd .lst true (iL (s.set p (i + 1)))).frz, some (.int ((P.length : Nat) + ((LN P).length : Nat) + (q : Nat)))]) e13 rfl rfl rfl ?_
      have c2 : ¬ (P.length : Int) + ((LN P).length : Int) + (q : Int) < (s.length : Int) := by omega
      clear U N
      generalize tI (s.set p (i + 1)) = r0 at *
      generalize D.nd .lst true (iL (s.set p (i + 1))) = d1 at *
      generalize D.nd .lst true (iL s) = d0 at *
      generalize tI s = ss at *
      simp -implicitDefEqProofs [b13, fz, f2, g1, g2, C11, C12, m11, m12, Z0, A, T1, L1, N1, F1, U1, eqD_int, c2]
  · obtain ⟨l0, l1⟩ := hl (by decide)
    obtain ⟨l, rfl⟩ := Int.eq_ofNat_of_zero_le l0
    simp only [Int.toNat_natCast] at l1
    have T2 : setD (.nd .lst true (iL (s.set p (i + 1)))) (.int ((P.length : Nat) + (l : Nat))) (.int c) = some (.nd .lst true (iL (bh P.length (LN P).length s p i (1, l, c)))) := by
      rw [show ((P.length : Int) + (l : Int)) = ((P.length + l : Nat) : Int) by omega, set_tI _ _ _ (by simpa using l1)]
      simp only [bh, Int.toNat_natCast]
      rw [if_neg (by omega), if_pos trivial]
    refine run_rt (e := [some (plan false P), some (tI s), some (.int (p : Nat)), some (.int 1), some (.int (l : Nat)), some (.int c), some (D.nd .lst true (iL (bh P.length (LN P).length s p i (1, l, c)))).frz, some (.int ((P.length : Nat) + ((LN P).length : Nat) + c))]) e13 rfl rfl rfl ?_
    have U2 := U (bh P.length (LN P).length s p i (1, l, c))
    have N2 := N (bh P.length (LN P).length s p i (1, l, c))
    clear U N
    generalize tI (bh P.length (LN P).length s p i (1, l, c)) = r0 at *
    generalize D.nd .lst true (iL (bh P.length (LN P).length s p i (1, l, c))) = d2 at *
    generalize D.nd .lst true (iL (s.set p (i + 1))) = d1 at *
    generalize D.nd .lst true (iL s) = d0 at *
    generalize tI s = ss at *
    simp -implicitDefEqProofs [b13, fz, f2, g1, g2, C11, m11, Z0, A, T1, L1, N1, F1, T2, U2, N2, eqD_int]
  · have hb : bh P.length (LN P).length s p i (2, b, c) = s.set p (i + 1) := by
      simp only [bh]
      rw [if_neg (by omega), if_neg (by decide)]
    rw [hb]
    refine run_rt (e := [some (plan false P), some (tI s), some (.int (p : Nat)), some (.int 2), some (.int b), some (.int c), some (D.nd .lst true (iL (s.set p (i + 1)))).frz, some (.int ((P.length : Nat) + ((LN P).length : Nat) + c))]) e13 rfl rfl rfl ?_
    clear U N
    generalize tI (s.set p (i + 1)) = r0 at *
    generalize D.nd .lst true (iL (s.set p (i + 1))) = d1 at *
    generalize D.nd .lst true (iL s) = d0 at *
    generalize tI s = ss at *
    simp -implicitDefEqProofs [b13, fz, f2, g1, g2, C11, m11, Z0, A, T1, L1, N1, F1, U1, eqD_int]
end K71

namespace K71
open PySem L2 PL
/-! the law's own walk, in plain Lean -/
structure LS where
  fst : List Int
  at_ : List Int
  ans : List (List Int)
  cel : List Int
def iget (l : List Int) (i : Int) : Int := l.getD i.toNat 0
def stepD (d : Dd) (st : LS) (p : Nat) : LS :=
  let a := st.at_.set p (st.at_.getD p 0 + 1)
  match d with
  | .fc => { st with at_ := a }
  | .wr l => { st with at_ := a, fst := st.fst.set p (st.fst.getD p 0 + 1), cel := st.cel.set l.toNat (st.fst.getD p 0 + 1) }
  | .rd l => { st with at_ := a, ans := st.ans.set p (st.ans.getD p [] ++ [iget st.cel l]) }
def row (P : Prog) (p : Nat) : Row := P.getD p []
def deed (P : Prog) (st : LS) (p : Nat) : Dd := (row P p).getD (st.at_.getD p 0).toNat .fc
def stp (P : Prog) (st : LS) (p : Nat) : LS := stepD (deed P st p) st p
def firsts : Int → Prog → List Int
  | _, [] => []
  | w, r :: P => w :: firsts (w + cwI r) P
def st0 (P : Prog) : LS := ⟨firsts 0 P, P.map fun _ => 0, P.map fun _ => [], [0, 0]⟩
def run (P : Prog) (o : List Nat) : LS := o.foldl (stp P) (st0 P)
/-- what is so on the way -/
structure Wy (P : Prog) (st : LS) : Prop where
  l1 : st.fst.length = P.length
  l2 : st.at_.length = P.length
  l3 : st.ans.length = P.length
  l4 : st.cel.length = 2
  at0 : ∀ p < P.length, ∃ i : Nat, st.at_[p]? = some (i : Int) ∧ i ≤ (row P p).length ∧ st.fst[p]? = some (cwP (P.take p) + cwI ((row P p).take i)) ∧ (st.ans.getD p []).length = cr ((row P p).take i)
theorem firsts_get : ∀ (P : Prog) (w : Int) (p : Nat), p < P.length → (firsts w P)[p]? = some (w + cwP (P.take p))
  | [], _, _, h => by simp at h
  | r :: P, w, 0, h => by simp [firsts, cwP]
  | r :: P, w, p + 1, h => by
    simp only [firsts, List.getElem?_cons_succ]
    rw [firsts_get P (w + cwI r) p (by simpa using h)]
    simp [cwP, Int.add_assoc]
theorem firsts_len : ∀ (P : Prog) (w : Int), (firsts w P).length = P.length
  | [], _ => rfl
  | r :: P, w => by simp [firsts, firsts_len P]
theorem wy0 (P : Prog) : Wy P (st0 P) := by
  refine ⟨firsts_len P 0, by simp [st0], by simp [st0], rfl, fun p hp => ⟨0, by simp [st0, hp], Nat.zero_le _, ?_, ?_⟩⟩
  · simp only [st0, firsts_get P 0 p hp, List.take_zero, cwI_nil]
    simp
  · simp [st0, List.getD, hp, cr]
theorem row_eq {P : Prog} {p : Nat} (hp : p < P.length) : row P p = P[p] := by simp [row, List.getD, hp]
theorem cr_app (a b : Row) : cr (a ++ b) = cr a + cr b := by simp [cr]
theorem take_snoc {α : Type} (r : List α) (i : Nat) (h : i < r.length) : r.take (i + 1) = r.take i ++ [r[i]] := by simp
/-- the deed's number is within its row -/
def can (P : Prog) (st : LS) (p : Nat) : Prop := p < P.length ∧ (st.at_.getD p 0).toNat < (row P p).length
theorem wy_stp {P : Prog} {st : LS} {p : Nat} (h : Wy P st) (c : can P st p) (ok : ∀ r ∈ P, ∀ d ∈ r, okD d) : Wy P (stp P st p) := by
  obtain ⟨hp, hc⟩ := c
  obtain ⟨i, h1, h2, h3, h4⟩ := h.at0 p hp
  have g1 : st.at_.getD p 0 = i := by simp [List.getD, h1]
  have g2 : st.fst.getD p 0 = cwP (P.take p) + cwI ((row P p).take i) := by simp [List.getD, h3]
  rw [g1] at hc
  simp only [Int.toNat_natCast] at hc
  have hd : deed P st p = (row P p)[i] := by simp [deed, List.getD, h1, hc]
  have e1 := take_snoc (row P p) i hc
  have ww := cwI_app ((row P p).take i) [(row P p)[i]]
  have rr := cr_app ((row P p).take i) [(row P p)[i]]
  rw [← e1] at ww rr
  rw [← hd] at ww rr
  rw [cwI_1] at ww
  have la : p < st.at_.length := by rw [h.l2]; exact hp
  have lf : p < st.fst.length := by rw [h.l1]; exact hp
  have ln : p < st.ans.length := by rw [h.l3]; exact hp
  unfold stp stepD
  rw [g1, g2]
  generalize deed P st p = d at *
  have oth : ∀ q, q < P.length → q ≠ p → ∃ j : Nat, (st.at_.set p ((i : Int) + 1))[q]? = some (j : Int) ∧ j ≤ (row P q).length ∧ st.fst[q]? = some (cwP (P.take q) + cwI ((row P q).take j)) ∧ (st.ans.getD q []).length = cr ((row P q).take j) := fun q hq n => by
    obtain ⟨j, k1, k2, k3, k4⟩ := h.at0 q hq
    exact ⟨j, by rw [List.getElem?_set_ne (fun z => n z.symm)]; exact k1, k2, k3, k4⟩
  cases d with
  | fc =>
    refine ⟨h.l1, by simp [h.l2], h.l3, h.l4, fun q hq => ?_⟩
    by_cases c : q = p
    · subst c
      refine ⟨i + 1, by simp [la], hc, ?_, ?_⟩
      · rw [h3, ww]; simp [isW]
      · rw [h4, rr]; simp [cr, isR]
    · exact oth q hq c
  | wr l =>
    refine ⟨by simp [h.l1], by simp [h.l2], h.l3, by simp [h.l4], fun q hq => ?_⟩
    by_cases c : q = p
    · subst c
      refine ⟨i + 1, by simp [la], hc, ?_, ?_⟩
      · simp [lf, ww, isW, Int.add_assoc]
      · rw [h4, rr]; simp [cr, isR]
    · obtain ⟨j, k1, k2, k3, k4⟩ := oth q hq c
      exact ⟨j, k1, k2, by simp only; rw [List.getElem?_set_ne (fun z => c z.symm)]; exact k3, k4⟩
  | rd l =>
    refine ⟨h.l1, by simp [h.l2], by simp [h.l3], h.l4, fun q hq => ?_⟩
    by_cases c : q = p
    · subst c
      refine ⟨i + 1, by simp [la], hc, ?_, ?_⟩
      · rw [h3, ww]; simp [isW]
      · have : (st.ans.set q (st.ans.getD q [] ++ [iget st.cel l])).getD q [] = st.ans.getD q [] ++ [iget st.cel l] := by simp [List.getD, ln]
        simp only [this, List.length_append, List.length_singleton, h4, rr]
        rfl
    · obtain ⟨j, k1, k2, k3, k4⟩ := oth q hq c
      refine ⟨j, k1, k2, k3, ?_⟩
      have : (st.ans.set p (st.ans.getD p [] ++ [iget st.cel l])).getD q [] = st.ans.getD q [] := by
        simp only [List.getD]
        rw [List.getElem?_set_ne (fun z => c z.symm)]
      rw [this]
      exact k4
end K71

namespace K71
open PySem L2 PL
/-! a stand of affairs, flat -/
def pad (P : Prog) (a : List (List Int)) : List (List Int) := List.zipWith (fun r x => x ++ List.replicate (cr r - x.length) (-1)) P a
def flat (P : Prog) (st : LS) : List Int := st.at_ ++ (LN P).map (iget st.cel) ++ (pad P st.ans).flatten
theorem nuR_get (L : List Int) : ∀ (r : Row) (w q : Int) (i : Nat) (h : i < r.length), (nuR L w q r)[i]? = some (tri L (w + cwI (r.take i)) (q + crI (r.take i)) r[i])
  | [], _, _, _, h => by simp at h
  | d :: r, w, q, 0, h => by simp [nuR]
  | d :: r, w, q, i + 1, h => by
    simp only [nuR, List.getElem?_cons_succ]
    rw [nuR_get L r _ _ i (by simpa using h)]
    have e1 : cwI (d :: r.take i) = cwI [d] + cwI (r.take i) := cwI_app [d] _
    have e2 : crI (d :: r.take i) = crI [d] + crI (r.take i) := crI_app [d] _
    simp [e1, e2, Int.add_assoc]
theorem nuP_get (L : List Int) : ∀ (P : Prog) (w q : Int) (p : Nat) (h : p < P.length), (nuP L w q P)[p]? = some (nuR L (w + cwP (P.take p)) (q + crP (P.take p)) P[p])
  | [], _, _, _, h => by simp at h
  | r :: P, w, q, 0, h => by simp [nuP, cwP, crP]
  | r :: P, w, q, p + 1, h => by
    simp only [nuP, List.getElem?_cons_succ]
    rw [nuP_get L P _ _ p (by simpa using h)]
    simp [cwP, crP, Int.add_assoc]
theorem set_app_l {α : Type} {a b : List α} {i : Nat} {v : α} (h : i < a.length) : (a ++ b).set i v = a.set i v ++ b := by
  rw [List.set_append, if_pos h]
theorem set_app_r {α : Type} {a b : List α} {i : Nat} {v : α} : (a ++ b).set (a.length + i) v = a ++ b.set i v := by
  rw [List.set_append, if_neg (by omega)]
  simp
theorem flat_set : ∀ (R : List (List Int)) (p k : Nat) (v : Int) (h : p < R.length), k < (R.getD p []).length → R.flatten.set ((R.take p).flatten.length + k) v = (R.set p ((R.getD p []).set k v)).flatten
  | [], _, _, _, h, _ => by simp at h
  | r :: R, 0, k, v, h, hk => by
    simp only [List.getD_cons_zero] at hk
    simp [set_app_l hk]
  | r :: R, p + 1, k, v, h, hk => by
    simp only [List.getD_cons_succ] at hk
    have ih := flat_set R p k v (by simpa using h) hk
    simp only [List.take_succ_cons, List.flatten_cons, List.length_append, List.set_cons_succ, List.getD_cons_succ]
    rw [show r.length + (R.take p).flatten.length + k = r.length + ((R.take p).flatten.length + k) by omega, set_app_r, ih]
theorem idx_set (f : Int → Int) (l v : Int) : ∀ (L : List Int), L.Nodup → l ∈ L → (L.map f).set (L.idxOf l) v = L.map fun x => if x = l then v else f x
  | [], _, h => by simp at h
  | a :: L, nd, h => by
    have nd' := List.nodup_cons.mp nd
    by_cases c : a = l
    · subst c
      simp only [List.map_cons, List.idxOf_cons_self, List.set_cons_zero, if_true, List.cons.injEq, true_and]
      refine (List.map_congr_left fun x hx => ?_)
      rw [if_neg (fun z : x = a => nd'.1 (z ▸ hx))]
    · have hm : l ∈ L := by
        rcases List.mem_cons.mp h with z | z
        · exact absurd z.symm c
        · exact z
      have : (a == l) = false := by simpa using c
      rw [List.idxOf_cons, this]
      simp only [cond_false, List.map_cons, List.set_cons_succ, if_neg c, idx_set f l v L nd'.2 hm]
theorem ix_lt {L : List Int} {l : Int} (h : l ∈ L) : (ix L l).toNat < L.length := by
  simp only [ix, Int.toNat_natCast]
  exact List.idxOf_lt_length_iff.mpr h
theorem ix_get {L : List Int} {l : Int} (f : Int → Int) (h : l ∈ L) : (L.map f)[(ix L l).toNat]? = some (f l) := by
  simp only [ix, Int.toNat_natCast]
  have hl := List.idxOf_lt_length_iff.mpr h
  rw [List.getElem?_map, List.getElem?_eq_getElem hl, List.getElem_idxOf hl]
  rfl
end K71

namespace K71
open PySem L2 PL
theorem get_getD {α : Type} {l : List α} {i : Nat} {d : α} (h : i < l.length) : l[i]? = some (l.getD i d) := by simp [h]
structure Pd (P : Prog) (a : List (List Int)) : Prop where
  len : a.length = P.length
  le : ∀ p < P.length, (a.getD p []).length ≤ cr (row P p)
theorem pad_len (P : Prog) (a : List (List Int)) (h : a.length = P.length) : (pad P a).length = P.length := by simp [pad, h]
theorem pad_get {P : Prog} {a : List (List Int)} (h : a.length = P.length) {p : Nat} (hp : p < P.length) : (pad P a).getD p [] = a.getD p [] ++ List.replicate (cr (row P p) - (a.getD p []).length) (-1) := by
  have ha : p < a.length := by omega
  simp [pad, List.getD, hp, ha, row, List.getElem?_zipWith]
theorem pad_cons (r : Row) (P : Prog) (x : List Int) (a : List (List Int)) : pad (r :: P) (x :: a) = (x ++ List.replicate (cr r - x.length) (-1)) :: pad P a := by simp [pad]
theorem pd_tail {r : Row} {P : Prog} {x : List Int} {a : List (List Int)} (h : Pd (r :: P) (x :: a)) : x.length ≤ cr r ∧ Pd P a := by
  refine ⟨by simpa [row] using h.le 0 (by simp), ⟨by simpa using h.len, fun p hp => ?_⟩⟩
  have := h.le (p + 1) (by simpa using hp)
  simpa [row] using this
theorem pad_take : ∀ {P : Prog} {a : List (List Int)} (_ : Pd P a) (p : Nat), p ≤ P.length → (((pad P a).take p).flatten.length : Int) = crP (P.take p)
  | [], a, _, p, hp => by
    have : p = 0 := by simpa using hp
    subst this
    simp [crP]
  | r :: P, [], h, _, _ => by have := h.len; simp at this
  | r :: P, x :: a, h, 0, _ => by simp [crP]
  | r :: P, x :: a, h, p + 1, hp => by
    obtain ⟨h1, h2⟩ := pd_tail h
    have ih := pad_take h2 p (by simpa using hp)
    rw [pad_cons]
    simp only [List.take_succ_cons, List.flatten_cons, List.length_append, List.length_replicate]
    have e : crP (r :: P.take p) = crI r + crP (P.take p) := by simp [crP]
    rw [e, ← ih, crI]
    omega
theorem pad_flat {P : Prog} {a : List (List Int)} (h : Pd P a) : ((pad P a).flatten.length : Int) = crP P := by
  have := pad_take h P.length (Nat.le_refl _)
  rw [List.take_of_length_le (by rw [pad_len _ _ h.len]; exact Nat.le_refl _), List.take_length] at this
  exact this
theorem pad_set {P : Prog} {a : List (List Int)} (h : Pd P a) {p : Nat} (hp : p < P.length) (hl : (a.getD p []).length < cr (row P p)) (v : Int) :
    (pad P a).flatten.set ((crP (P.take p)).toNat + (a.getD p []).length) v = (pad P (a.set p (a.getD p [] ++ [v]))).flatten := by
  have e := pad_take h p (Nat.le_of_lt hp)
  have k := pad_get h.len hp
  rw [← e, Int.toNat_natCast, flat_set (pad P a) p (a.getD p []).length v (by rw [pad_len _ _ h.len]; exact hp) (by rw [k]; simp only [List.length_append, List.length_replicate]; omega)]
  congr 1
  rw [k]
  have ha : p < a.length := by rw [h.len]; exact hp
  apply List.ext_getElem?
  intro q
  by_cases c : q = p
  · subst c
    have lp : q < (pad P a).length := by rw [pad_len _ _ h.len]; exact hp
    rw [List.getElem?_set_self lp]
    have k2 := pad_get (a := a.set q (a.getD q [] ++ [v])) (by simp [h.len]) hp
    have lp2 : q < (pad P (a.set q (a.getD q [] ++ [v]))).length := by rw [pad_len _ _ (by simp [h.len])]; exact hp
    have : (pad P (a.set q (a.getD q [] ++ [v])))[q]? = some ((pad P (a.set q (a.getD q [] ++ [v]))).getD q []) := by
      exact get_getD lp2
    rw [this, k2]
    have g : (a.set q (a.getD q [] ++ [v])).getD q [] = a.getD q [] ++ [v] := by simp [List.getD, ha]
    rw [g]
    congr 1
    rw [show (a.getD q []).length = (a.getD q []).length + 0 from rfl, set_app_r]
    obtain ⟨n, hn⟩ : ∃ n, cr (row P q) - (a.getD q []).length = n + 1 := ⟨cr (row P q) - (a.getD q []).length - 1, by omega⟩
    rw [Nat.add_zero, hn, List.replicate_succ]
    simp only [List.set_cons_zero, List.length_append, List.length_singleton, List.append_assoc, List.singleton_append]
    rw [show cr (row P q) - ((a.getD q []).length + 1) = n by omega]
  · rw [List.getElem?_set_ne (fun z => c z.symm)]
    simp only [pad, List.getElem?_zipWith]
    rw [List.getElem?_set_ne (fun z => c z.symm)]
theorem wy_pd {P : Prog} {st : LS} (h : Wy P st) : Pd P st.ans := ⟨h.l3, fun p hp => by
  obtain ⟨i, h1, h2, h3, h4⟩ := h.at0 p hp
  rw [h4]
  simp only [cr]
  exact (List.Sublist.filter _ (List.take_sublist _ _)).length_le⟩
theorem stand_len {P : Prog} {st : LS} (h : Wy P st) : ((flat P st).length : Int) = (P.length + (LN P).length : Nat) + crP P := by
  have := pad_flat (wy_pd h)
  simp only [flat, List.length_append, List.length_map, h.l2]
  omega
def stand (P : Prog) (st : LS) (X : List Int) : List Int := st.at_ ++ ((LN P).map (iget st.cel) ++ X)
theorem flat_eq (P : Prog) (st : LS) : flat P st = stand P st (pad P st.ans).flatten := by simp [flat, stand]
theorem stp_cases {P : Prog} {st : LS} {p : Nat} (h : OkP P) (w : Wy P st) (c : can P st p) (X : List Int) :
    ∃ (r : List (Int × Int × Int)) (i : Nat), (NU P)[p]? = some r ∧ (stand P st X)[p]? = some (i : Int) ∧ (i : Int) < r.length ∧ deed P st p ∈ row P p ∧ st.at_.getD p 0 = i ∧
      r[i]? = some (tri (LN P) (st.fst.getD p 0) (crP (P.take p) + (st.ans.getD p []).length) (deed P st p)) := by
  obtain ⟨hp, hc⟩ := c
  obtain ⟨i, h1, h2, h3, h4⟩ := w.at0 p hp
  have g1 : st.at_.getD p 0 = i := by simp [List.getD, h1]
  have g2 : st.fst.getD p 0 = cwP (P.take p) + cwI ((row P p).take i) := by simp [List.getD, h3]
  rw [g1] at hc
  simp only [Int.toNat_natCast] at hc
  have hd : deed P st p = (row P p)[i] := by simp [deed, List.getD, h1, hc]
  have la : p < st.at_.length := by rw [w.l2]; exact hp
  have n1 := nuP_get (LN P) P 0 0 p hp
  rw [← row_eq hp] at n1
  refine ⟨_, i, n1, by rw [stand, List.getElem?_append_left la]; exact h1, by rw [nuR_len]; omega, by rw [hd]; exact List.getElem_mem _, g1, ?_⟩
  rw [nuR_get _ _ _ _ i hc, g2, hd]
  have : crI ((row P p).take i) = ((st.ans.getD p []).length : Int) := by rw [h4, crI]
  rw [this]
  simp
theorem mem_row {P : Prog} {p : Nat} {d : Dd} (h : d ∈ row P p) : ∃ r ∈ P, d ∈ r := by
  by_cases hp : p < P.length
  · rw [row_eq hp] at h
    exact ⟨_, List.getElem_mem hp, h⟩
  · simp [row, List.getD, hp] at h
theorem mem_lines {P : Prog} {p : Nat} {d : Dd} {l : Int} (h : d ∈ row P p) (hl : l ∈ lnL d) : l ∈ LN P := by
  obtain ⟨r, h1, h2⟩ := mem_row h
  exact mem_LN h1 h2 hl
theorem sub01 {P : Prog} (h : OkP P) {l : Int} (hl : l ∈ LN P) : l = 0 ∨ l = 1 := by
  have : l ∈ insL [] (P.flatMap fun r => r.flatMap lnL) := (sortI_perm _).mem_iff.mp hl
  rcases mem_insL.mp this with z | z
  · simp at z
  · obtain ⟨r, hr, z⟩ := List.mem_flatMap.mp z
    obtain ⟨d, hd, z⟩ := List.mem_flatMap.mp z
    have := h.dd r hr d hd
    cases d with
    | rd l' => simp only [lnL, List.mem_singleton] at z; subst z; exact this
    | wr l' => simp only [lnL, List.mem_singleton] at z; subst z; exact this
    | fc => simp [lnL] at z
theorem cel_set {P : Prog} (h : OkP P) {cel : List Int} (hc : cel.length = 2) {l v : Int} (hl : l ∈ LN P) : ((LN P).map (iget cel)).set (ix (LN P) l).toNat v = (LN P).map (iget (cel.set l.toNat v)) := by
  have e := idx_set (iget cel) l v (LN P) (LN_nodup P) hl
  rw [show (ix (LN P) l).toNat = (LN P).idxOf l by simp [ix], e]
  refine List.map_congr_left fun x hx => ?_
  have hl2 := sub01 h hl
  have hx2 := sub01 h hx
  simp only [iget]
  by_cases c : x = l
  · subst c
    rw [if_pos rfl]
    have : x.toNat < cel.length := by rcases hx2 with rfl | rfl <;> simp [hc]
    simp [List.getD, this]
  · rw [if_neg c]
    have : l.toNat ≠ x.toNat := by omega
    simp [List.getD, List.getElem?_set_ne this]
/-- without answers -/
theorem bh_nil {P : Prog} {st : LS} {p : Nat} (h : OkP P) (w : Wy P st) (c : can P st p) (t : Int × Int × Int) (q : Int) (hq : 0 ≤ q) (ht : t = tri (LN P) (st.fst.getD p 0) q (deed P st p)) :
    bh P.length (LN P).length (stand P st []) p (st.at_.getD p 0) t = stand P (stp P st p) [] := by
  have hp := c.1
  obtain ⟨_, _, _, _, _, hm, _, _⟩ := stp_cases h w c []
  have la : p < st.at_.length := by rw [w.l2]; exact hp
  have hl := fun l (z : l ∈ lnL (deed P st p)) => mem_lines hm z
  have len : ((stand P st []).length : Int) = (P.length + (LN P).length : Nat) := by simp [stand, w.l2]
  have sp : ∀ v, (stand P st []).set p v = st.at_.set p v ++ ((LN P).map (iget st.cel) ++ []) := fun v => by rw [stand, set_app_l la]
  subst ht
  unfold stp stepD
  generalize deed P st p = d at *
  cases d with
  | fc =>
    simp only [bh, tri, sp]
    rw [if_neg (by omega), if_neg (by decide)]
    rfl
  | rd l =>
    simp only [bh, tri, sp]
    rw [if_neg (by rw [len]; omega), if_neg (by decide)]
    rfl
  | wr l =>
    simp only [bh, tri, sp]
    rw [if_neg (by omega), if_pos trivial]
    have e : st.at_.length = P.length := w.l2
    have z := cel_set h w.l4 (v := st.fst.getD p 0 + 1) (hl l (by simp [lnL]))
    rw [show P.length + (ix (LN P) l).toNat = (st.at_.set p (st.at_.getD p 0 + 1)).length + (ix (LN P) l).toNat by simp [e], set_app_r, List.append_nil, z]
    simp [stand]
/-- with answers -/
theorem bh_flat {P : Prog} {st : LS} {p : Nat} (h : OkP P) (w : Wy P st) (c : can P st p) (t : Int × Int × Int) (ht : t = tri (LN P) (st.fst.getD p 0) (crP (P.take p) + (st.ans.getD p []).length) (deed P st p)) :
    bh P.length (LN P).length (flat P st) p (st.at_.getD p 0) t = flat P (stp P st p) := by
  have hp := c.1
  obtain ⟨_, _, _, _, _, hm, _, _⟩ := stp_cases h w c []
  have la : p < st.at_.length := by rw [w.l2]; exact hp
  have hl := fun l (z : l ∈ lnL (deed P st p)) => mem_lines hm z
  have pd := wy_pd w
  have w2 := wy_stp w c h.dd
  have len := stand_len w
  have sp : ∀ v, (flat P st).set p v = st.at_.set p v ++ ((LN P).map (iget st.cel) ++ (pad P st.ans).flatten) := fun v => by rw [flat_eq, stand, set_app_l la]
  have e : st.at_.length = P.length := w.l2
  have pd2 := (wy_pd w2).le p hp
  subst ht
  unfold stp stepD at w2 pd2 ⊢
  generalize deed P st p = d at *
  cases d with
  | fc =>
    simp only [bh, tri, sp]
    rw [if_neg (by omega), if_neg (by decide), flat_eq]
    rfl
  | wr l =>
    simp only [bh, tri, sp]
    rw [if_neg (by omega), if_pos trivial]
    have z := cel_set h w.l4 (v := st.fst.getD p 0 + 1) (hl l (by simp [lnL]))
    have hi := ix_lt (hl l (by simp [lnL]))
    rw [show P.length + (ix (LN P) l).toNat = (st.at_.set p (st.at_.getD p 0 + 1)).length + (ix (LN P) l).toNat by simp [e], set_app_r, set_app_l (by simpa using hi), z, flat_eq]
    simp [stand]
  | rd l =>
    have ha : p < st.ans.length := by rw [w.l3]; exact hp
    have g : (st.ans.set p (st.ans.getD p [] ++ [iget st.cel l])).getD p [] = st.ans.getD p [] ++ [iget st.cel l] := by simp [List.getD, ha]
    simp only [g, List.length_append, List.length_singleton] at pd2
    have k := pad_take pd p (Nat.le_of_lt hp)
    have k2 := pad_flat pd
    have k3 : (pad P st.ans).flatten.length = ((pad P st.ans).take p).flatten.length + ((pad P st.ans).drop p).flatten.length := by
      rw [← List.length_append, ← List.flatten_append, List.take_append_drop]
    have k4 : cr (row P p) ≤ ((pad P st.ans).drop p).flatten.length := by
      have lp : p < (pad P st.ans).length := by rw [pad_len _ _ pd.len]; exact hp
      rw [List.drop_eq_getElem_cons lp, List.flatten_cons, List.length_append]
      have := pad_get pd.len hp
      rw [List.getD, List.getElem?_eq_getElem lp] at this
      simp only [Option.getD_some] at this
      rw [this]
      simp only [List.length_append, List.length_replicate]
      omega
    have hv : (flat P st).getD (P.length + (ix (LN P) l).toNat) 0 = iget st.cel l := by
      have hi := ix_lt (hl l (by simp [lnL]))
      have := ix_get (iget st.cel) (hl l (by simp [lnL]))
      rw [flat_eq, stand, List.getD, ← e, List.getElem?_append_right (by omega), List.getElem?_append_left (by simpa using hi)]
      simp [this]
    simp only [bh, tri, sp]
    rw [if_pos ⟨trivial, by rw [len]; omega⟩, if_neg (by decide), hv]
    rw [show P.length + (LN P).length + (crP (P.take p) + ((st.ans.getD p []).length : Int)).toNat = (st.at_.set p (st.at_.getD p 0 + 1)).length + (((LN P).map (iget st.cel)).length + ((crP (P.take p)).toNat + (st.ans.getD p []).length)) by
      simp only [List.length_set, List.length_map, e]; omega, set_app_r, set_app_r, pad_set pd hp (by omega), flat_eq]
    rfl
end K71

namespace K71
open PySem L2 PL
theorem okR_n (n : Nat) (h : n ≤ 1000) : okR 0 (n : Int) = true := by
  simp only [okR, Bool.and_eq_true, decide_eq_true_eq]
  omega
theorem rangeD_n (n : Nat) : rangeD 0 (n : Int) = (List.range n).map fun (j : Nat) => D.int (j : Nat) := by simp [rangeD]
/-! the program's walk, by sets -/
def goB (P : Prog) (s : List Int) (p : Nat) : Bool := decide (s.getD p 0 < (((NU P).getD p []).length : Nat))
def nextT (P : Prog) (s : List Int) (p : Nat) : Int × Int × Int := ((NU P).getD p []).getD (s.getD p 0).toNat (0, 0, 0)
def bhP (P : Prog) (s : List Int) (p : Nat) : List Int := bh P.length (LN P).length s p (s.getD p 0) (nextT P s p)
def nxts (P : Prog) (s : List Int) : List (List Int) := ((List.range P.length).filter (goB P s)).map (bhP P s)
/-- the run of the program knows what to do -/
structure Gd (P : Prog) (s : List Int) (p : Nat) : Prop where
  r : p < (NU P).length
  i : p < s.length
  go : goB P s p = true → 0 ≤ s.getD p 0 ∧ (s.getD p 0).toNat < ((NU P).getD p []).length ∧ ((nextT P s p).1 = 0 ∨ (nextT P s p).1 = 1 ∨ (nextT P s p).1 = 2) ∧ ((nextT P s p).1 ≠ 2 → 0 ≤ (nextT P s p).2.1 ∧ P.length + (nextT P s p).2.1.toNat < s.length) ∧ ((nextT P s p).1 = 0 → 0 ≤ (nextT P s p).2.2)
theorem can14 {k : Nat} {P : Prog} {s : List Int} {p : Nat} (g : Gd P s p) : ∀ e, runCall tb (callF tb (k + 1)) 10 [.d (plan false P), .d (tI s), .d (.int (p : Nat))] e = some (.val (.bl (goB P s p)) e) := fun e =>
  call3 e10 rfl (by rw [frz_of_fz _ (fz_plan P), frz_tI]; exact run10 k P s p _ _ (get_getD (d := []) g.r) (get_getD (d := 0) g.i))
theorem beh14 {k : Nat} {P : Prog} {s : List Int} {p : Nat} (g : Gd P s p) (go : goB P s p = true) : ∀ e, runCall tb (callF tb (k + 2)) 13 [.d (plan false P), .d (tI s), .d (.int (p : Nat))] e = some (.val (tI (bhP P s p)) e) := fun e => by
  obtain ⟨g1, g2, g3, g4, g5⟩ := g.go go
  exact call3 e13 rfl (by rw [frz_of_fz _ (fz_plan P), frz_tI]; exact run13 k P s p _ _ _ (get_getD (d := []) g.r) (get_getD (d := 0) g.i) g1 (get_getD (d := (0, 0, 0)) g2) g3 g4 g5)
abbrev kT (o : Bool) (ks : List (List Int)) : D := tT o (ks.map kI)
theorem ins_map {α β : Type} [DecidableEq α] [DecidableEq β] (f : α → β) (hf : ∀ a b, f a = f b → a = b) (ks : List α) (k : α) : ins (ks.map f) (f k) = (ins ks k).map f := by
  unfold ins
  by_cases c : k ∈ ks
  · rw [if_pos c, if_pos (List.mem_map.mpr ⟨k, c, rfl⟩)]
  · rw [if_neg c, if_neg (fun z => by
      obtain ⟨b, hb, e⟩ := List.mem_map.mp z
      rw [hf b k e] at hb
      exact c hb)]
    simp
theorem kI_inj : ∀ a b, kI a = kI b → a = b := fun a b h => by
  have h' : a.map NestedKey.num = b.map NestedKey.num := NestedKey.tup.inj h
  exact (List.map_inj_right (fun _ _ z => NestedKey.num.inj z)).mp h'
theorem setD_kT {ks : List (List Int)} {k : List Int} (hz : ks.length ≤ 1000) : setD (kT true ks) (tI k) (.bl true) = some (kT true (ins ks k)) := by
  have := setD_tT (ks := ks.map kI) (d := tI k) (k := kI k) (tkey_tI k) rfl (by rw [List.length_map]; exact small _ hz)
  rw [this, kT, ins_map kI kI_inj]
theorem step14 {k : Nat} {P : Prog} {s : List Int} {p : Nat} (a0 a2 a3 a4 : Option D) (ks : List (List Int)) (g : Gd P s p) (hz : ks.length ≤ 1000) :
    exSs tb (callF tb (k + 2)) [] b14_3 [a0, some (plan false P), a2, a3, a4, some (kT true ks), some (tI s), some (.int (p : Nat))]
      = some (.val .nx [a0, some (plan false P), a2, a3, a4, some (kT true (insL ks (if goB P s p then [bhP P s p] else []))), some (tI s), some (.int (p : Nat))]) := by
  have fz := fz_plan P
  have f2 := fz_tI s
  have C := can14 (k := k + 1) g
  have S := setD_kT (k := bhP P s p) hz
  cases c : goB P s p with
  | true =>
    rw [c] at C
    have B := beh14 (k := k) g c
    rw [show insL ks (if true = true then [bhP P s p] else []) = ins ks (bhP P s p) from rfl]
    generalize tI (bhP P s p) = r0 at *
    generalize kT true ks = u at *
    generalize kT true (ins ks (bhP P s p)) = v at *
    generalize tI s = ss at *
    simp -implicitDefEqProofs [b14_3, fz, f2, C, B, S, m10, m13]
  | false =>
    rw [c] at C
    rw [show insL ks (if false = true then [bhP P s p] else []) = ks from rfl]
    generalize kT true ks = u at *
    generalize tI s = ss at *
    simp -implicitDefEqProofs [b14_3, fz, f2, C, m10]
theorem filter_snoc {α : Type} (f : α → Bool) (l : List α) (a : α) : (l ++ [a]).filter f = l.filter f ++ if f a then [a] else [] := by
  rw [List.filter_append]
  congr 1
  cases h : f a <;> simp [h]
theorem in14 {k : Nat} {P : Prog} {s : List Int} (a0 a2 a3 a4 a7 : Option D) (ks : List (List Int)) (h : OkP P) (g : ∀ p < P.length, Gd P s p) (hz : ks.length ≤ 990) :
    ∃ a7', exSs tb (callF tb (k + 2)) [] b14_4 [a0, some (plan false P), a2, a3, a4, some (kT true ks), some (tI s), a7]
      = some (.val .nx [a0, some (plan false P), a2, a3, a4, some (kT true (insL ks (nxts P s))), some (tI s), a7']) := by
  have few := h.few
  obtain ⟨e', h1, a7', rfl⟩ := loopF_do (tg := fun x e => some (e.set 7 (some x))) (b := fun e => exSs tb (callF tb (k + 2)) [] b14_3 e) (fun (j : Nat) => D.int (j : Nat))
    (fun p e => ∃ a7', e = [a0, some (plan false P), a2, a3, a4, some (kT true (insL ks ((p.filter (goB P s)).map (bhP P s)))), some (tI s), a7']) (List.range P.length)
    [a0, some (plan false P), a2, a3, a4, some (kT true ks), some (tI s), a7] ⟨a7, rfl⟩ (by
    rintro p j q hp _ ⟨a7', rfl⟩
    have hj : j < P.length := by
      have : j ∈ List.range P.length := by rw [hp]; simp
      simpa using this
    have hl : p.length ≤ P.length := by
      have := congrArg List.length hp
      simp at this
      omega
    refine ⟨_, _, rfl, step14 a0 a2 a3 a4 _ (g j hj) ?_, some (.int (j : Nat)), ?_⟩
    · have a := insL_len ((p.filter (goB P s)).map (bhP P s)) ks
      have b := List.length_filter_le (goB P s) p
      simp only [List.length_map] at a
      omega
    · rw [filter_snoc, List.map_append, insL_app]
      cases goB P s j <;> rfl)
  refine ⟨a7', ?_⟩
  have fz := fz_plan P
  have g1 : fldD tb.attr (plan false P) "many" = some (.int (P.length : Nat)) := g_m
  have R := rangeD_n P.length
  have K := okR_n P.length (by omega)
  rw [show (List.range P.length).filter (goB P s) = (List.range P.length).filter (goB P s) from rfl] at h1
  rw [show nxts P s = ((List.range P.length).filter (goB P s)).map (bhP P s) from rfl]
  generalize kT true (insL ks (((List.range P.length).filter (goB P s)).map (bhP P s))) = v at *
  generalize kT true ks = u at *
  generalize tI s = ss at *
  try simp -implicitDefEqProofs at h1
  simp -implicitDefEqProofs [b14_4, fz, g1, R, K, h1]
end K71

namespace K71
open PySem L2 PL
def stands (P : Prog) : Nat → List (List Int)
  | 0 => [flat P (st0 P)]
  | d + 1 => insL [] ((stands P d).flatMap (nxts P))
theorem nxts_len (P : Prog) (s : List Int) : (nxts P s).length ≤ P.length := by
  have := List.length_filter_le (goB P s) (List.range P.length)
  simp only [List.length_range] at this
  simp only [nxts, List.length_map]
  exact this
theorem flat_nxts {P : Prog} (h : P.length ≤ 3) : ∀ l : List (List Int), (l.flatMap (nxts P)).length ≤ l.length * 3
  | [] => by simp
  | s :: l => by
    have a := nxts_len P s
    have b := flat_nxts h l
    simp only [List.flatMap_cons, List.length_append, List.length_cons]
    omega
theorem stands_len {P : Prog} (h : P.length ≤ 3) : ∀ d, (stands P d).length ≤ 3 ^ d
  | 0 => by simp [stands]
  | d + 1 => by
    have ih := stands_len h d
    have a := insL_len ((stands P d).flatMap (nxts P)) []
    have b := flat_nxts h (stands P d)
    simp only [List.length_nil] at a
    simp only [stands, Nat.pow_succ]
    omega
@[simp] theorem frzL_mapI (l : List (List Int)) : frzL (l.map tI) = l.map tI := frzL_tI l
abbrev lII (o : Bool) (l : List (List Int)) : D := .nd .lst o (l.map tI)
theorem list_kT (o : Bool) (ks : List (List Int)) : biD .list (kT o ks) = some (lII true ks) := by rw [kT, list_tT, keyNL_kI]
theorem frz_kT (o : Bool) (ks : List (List Int)) : (kT o ks).frz = kT false ks := by
  have : ∀ l : List NK, frzL (l.map fun _ => D.bl true) = l.map fun _ => D.bl true := fun l => by
    induction l with
    | nil => rfl
    | cons a l ih => simp [ih]
  cases ks with
  | nil => rfl
  | cons a l =>
    have e := this (kI a :: l.map kI)
    simp only [List.map_cons] at e
    simp only [kT, tT, List.map_cons, frz_nd, e]
theorem fz_kT (ks : List (List Int)) : (kT true ks).fz = false := by cases ks <;> rfl
/-- all stands of a turn -/
theorem out14 {k : Nat} {P : Prog} (a0 a3 a4 : Option D) (h : OkP P) (S : List (List Int)) (hS : ∀ s ∈ S, ∀ p < P.length, Gd P s p) (hz : S.length * 3 ≤ 990) (a5 a6 a7 : Option D) (ow : Bool) :
    ∃ b5 b6 b7, exSs tb (callF tb (k + 2)) [] b14_5 [a0, some (plan false P), some (lII ow S), a3, a4, a5, a6, a7]
      = some (.val .nx [a0, some (plan false P), some (lII true (insL [] (S.flatMap (nxts P)))), a3, a4, b5, b6, b7]) := by
  obtain ⟨e', h1, b6, b7, rfl⟩ := loopF_do (tg := fun x e => some (e.set 6 (some x))) (b := fun e => exSs tb (callF tb (k + 2)) [] b14_4 e) tI
    (fun p e => ∃ b6 b7, e = [a0, some (plan false P), some (lII false S), a3, a4, some (kT true (insL [] (p.flatMap (nxts P)))), b6, b7]) S
    [a0, some (plan false P), some (lII false S), a3, a4, some (kT true []), a6, a7] ⟨a6, a7, rfl⟩ (by
    rintro p s q hp _ ⟨b6, b7, rfl⟩
    have hs : s ∈ S := by rw [hp]; simp
    have hl : p.length ≤ S.length := by rw [hp]; simp
    obtain ⟨a7', h1⟩ := in14 (k := k) a0 (some (lII false S)) a3 a4 b7 (insL [] (p.flatMap (nxts P))) h (hS s hs) (by
      have a := insL_len (p.flatMap (nxts P)) []
      have b := flat_nxts h.few p
      simp only [List.length_nil] at a
      omega)
    exact ⟨_, _, rfl, h1, some (tI s), a7', by rw [List.flatMap_append, insL_app]; simp⟩)
  refine ⟨some (kT false (insL [] (S.flatMap (nxts P)))), b6, b7, ?_⟩
  have fl : (lII ow S).frz = lII false S := by simp
  have Z := list_kT false (insL [] (S.flatMap (nxts P)))
  have fk := fz_kT (insL [] (S.flatMap (nxts P)))
  have rk := frz_kT true (insL [] (S.flatMap (nxts P)))
  rw [show kT true [] = .nd (.dk []) true [] from rfl] at h1
  generalize kT true (insL [] (S.flatMap (nxts P))) = v at *
  generalize kT false (insL [] (S.flatMap (nxts P))) = v0 at *
  generalize lII true (insL [] (S.flatMap (nxts P))) = r at *
  have sq : seqD (lII false S) = some (S.map tI) := rfl
  have is : isLst (lII false S) = true := rfl
  have ff : (lII false S).fz = true := by simp
  have ff2 := frz_of_fz _ ff
  have fz2 : (lII ow S).fz = true → lII ow S = lII false S := fun z => by rw [← frz_of_fz _ z, fl]
  cases c : (lII ow S).fz with
  | true =>
    rw [fz2 c] at *
    generalize lII false S = w at *
    generalize S.map tI = sl at *
    try simp -implicitDefEqProofs at h1
    simp -implicitDefEqProofs [b14_5, fl, ff, ff2, sq, is, h1, Z, fk, rk]
  | false =>
    generalize lII ow S = w1 at *
    generalize lII false S = w at *
    generalize S.map tI = sl at *
    try simp -implicitDefEqProofs at h1
    simp -implicitDefEqProofs [b14_5, c, fl, ff, ff2, sq, is, h1, Z, fk, rk]
end K71

namespace K71
open PySem L2 PL
/-! all orders -/
def left (P : Prog) (o : List Nat) (p : Nat) : Bool := decide (o.count p < (row P p).length)
def onward (P : Prog) (o : List Nat) : List (List Nat) := ((List.range P.length).filter (left P o)).map fun p => o ++ [p]
def ords (P : Prog) : Nat → List (List Nat)
  | 0 => [[]]
  | d + 1 => (ords P d).flatMap (onward P)
theorem run_snoc (P : Prog) (o : List Nat) (p : Nat) : run P (o ++ [p]) = stp P (run P o) p := by simp [run]
theorem at_stp (P : Prog) (st : LS) (p : Nat) : (stp P st p).at_ = st.at_.set p (st.at_.getD p 0 + 1) := by
  unfold stp stepD
  generalize deed P st p = d
  cases d <;> rfl
theorem mem_onward {P : Prog} {o o' : List Nat} : o' ∈ onward P o ↔ ∃ p, p < P.length ∧ o.count p < (row P p).length ∧ o' = o ++ [p] := by
  simp only [onward, List.mem_map, List.mem_filter, List.mem_range, left, decide_eq_true_eq]
  constructor
  · rintro ⟨p, ⟨h1, h2⟩, rfl⟩
    exact ⟨p, h1, h2, rfl⟩
  · rintro ⟨p, h1, h2, rfl⟩
    exact ⟨p, ⟨h1, h2⟩, rfl⟩
structure Or (P : Prog) (d : Nat) (o : List Nat) : Prop where
  len : o.length = d
  at_ : ∀ p < P.length, (run P o).at_.getD p 0 = (o.count p : Nat)
  wy : Wy P (run P o)
theorem ords_or {P : Prog} (h : OkP P) : ∀ d, ∀ o ∈ ords P d, Or P d o
  | 0, o, ho => by
    simp only [ords, List.mem_singleton] at ho
    subst ho
    exact ⟨rfl, fun p hp => by simp [run, st0, List.getD, hp], wy0 P⟩
  | d + 1, o', ho => by
    simp only [ords, List.mem_flatMap] at ho
    obtain ⟨o, h1, h2⟩ := ho
    obtain ⟨p, hp, hc, rfl⟩ := mem_onward.mp h2
    have ih := ords_or h d o h1
    have c : can P (run P o) p := ⟨hp, by rw [ih.at_ p hp]; simpa using hc⟩
    have la : p < (run P o).at_.length := by rw [ih.wy.l2]; exact hp
    refine ⟨by simp [ih.len], fun q hq => ?_, by rw [run_snoc]; exact wy_stp ih.wy c h.dd⟩
    rw [run_snoc, at_stp]
    by_cases e : q = p
    · subst e
      have := ih.at_ q hp
      simp only [List.getD, List.getElem?_set_self la, Option.getD_some] at this ⊢
      rw [this]
      simp
    · have e2 : ¬ p = q := fun z => e z.symm
      have := ih.at_ q hq
      simp only [List.getD] at this ⊢
      rw [List.getElem?_set_ne e2, this]
      have : List.count q [p] = 0 := by simp [List.count_singleton, e2]
      simp [List.count_append, this]
theorem can_of {P : Prog} {d : Nat} {o : List Nat} (w : Or P d o) {p : Nat} (hp : p < P.length) (hc : o.count p < (row P p).length) : can P (run P o) p := ⟨hp, by rw [w.at_ p hp]; simpa using hc⟩
theorem NU_row {P : Prog} {p : Nat} (hp : p < P.length) : ((NU P).getD p []).length = (row P p).length := by
  have := nuP_get (LN P) P 0 0 p hp
  simp only [List.getD, NU, this, Option.getD_some, nuR_len, row_eq hp]
theorem flat_at {P : Prog} {st : LS} (w : Wy P st) {p : Nat} (hp : p < P.length) : (flat P st).getD p 0 = st.at_.getD p 0 := by
  have la : p < st.at_.length := by rw [w.l2]; exact hp
  rw [flat_eq, stand, List.getD, List.getElem?_append_left la]
  rfl
theorem go_flat {P : Prog} {d : Nat} {o : List Nat} (w : Or P d o) {p : Nat} (hp : p < P.length) : goB P (flat P (run P o)) p = left P o p := by
  simp only [goB, left, flat_at w.wy hp, w.at_ p hp, NU_row hp]
  congr 1
  simp
theorem next_flat {P : Prog} {d : Nat} {o : List Nat} (h : OkP P) (w : Or P d o) {p : Nat} (hp : p < P.length) (hc : o.count p < (row P p).length) :
    ∃ t, nextT P (flat P (run P o)) p = t ∧ (o.count p < ((NU P).getD p []).length) ∧ deed P (run P o) p ∈ row P p ∧ t = tri (LN P) ((run P o).fst.getD p 0) (crP (P.take p) + ((run P o).ans.getD p []).length) (deed P (run P o) p) := by
  obtain ⟨r, i, h1, h2, h3, h4, h5, h6⟩ := stp_cases h w.wy (can_of w hp hc) (pad P (run P o).ans).flatten
  refine ⟨_, rfl, by rw [NU_row hp]; exact hc, h4, ?_⟩
  rw [w.at_ p hp] at h5
  have e : i = o.count p := by omega
  subst e
  simp only [nextT, flat_at w.wy hp, w.at_ p hp, Int.toNat_natCast]
  simp only [List.getD, h1, Option.getD_some, h6]
theorem gd_flat {P : Prog} {d : Nat} {o : List Nat} (h : OkP P) (w : Or P d o) {p : Nat} (hp : p < P.length) : Gd P (flat P (run P o)) p := by
  have sl := stand_len w.wy
  have cp : 0 ≤ crP P := by
    have : ∀ P : Prog, 0 ≤ crP P := fun P => by
      induction P with
      | nil => simp [crP]
      | cons r P ih =>
        simp only [crP, List.map_cons, List.sum_cons, crI] at ih ⊢
        omega
    exact this P
  refine ⟨by rw [nu_len]; exact hp, by omega, fun go => ?_⟩
  rw [go_flat w hp] at go
  have hc : o.count p < (row P p).length := by simpa [left] using go
  obtain ⟨t, e1, e2, e3, e4⟩ := next_flat h w hp hc
  rw [flat_at w.wy hp, w.at_ p hp, e1]
  refine ⟨by omega, by simpa using e2, ?_⟩
  have hl := fun l (z : l ∈ lnL (deed P (run P o) p)) => mem_lines e3 z
  have q0 : 0 ≤ crP (P.take p) := by
    rw [← pad_take (wy_pd w.wy) p (Nat.le_of_lt hp)]
    omega
  rw [e4]
  generalize deed P (run P o) p = dd at *
  cases dd with
  | fc => simp [tri]
  | rd l =>
    have hi := ix_lt (hl l (by simp [lnL]))
    refine ⟨.inl rfl, fun _ => ⟨by simp [tri, ix], ?_⟩, fun _ => by simp only [tri]; omega⟩
    simp only [tri]
    omega
  | wr l =>
    have hi := ix_lt (hl l (by simp [lnL]))
    refine ⟨.inr (.inl rfl), fun _ => ⟨by simp [tri, ix], ?_⟩, fun z => absurd z (by simp [tri])⟩
    simp only [tri]
    omega
theorem bh_run {P : Prog} {d : Nat} {o : List Nat} (h : OkP P) (w : Or P d o) {p : Nat} (hp : p < P.length) (hc : o.count p < (row P p).length) : bhP P (flat P (run P o)) p = flat P (run P (o ++ [p])) := by
  obtain ⟨t, e1, e2, e3, e4⟩ := next_flat h w hp hc
  rw [run_snoc, bhP, e1, flat_at w.wy hp]
  exact bh_flat h w.wy (can_of w hp hc) t e4
theorem mem_stands {P : Prog} (h : OkP P) : ∀ d s, s ∈ stands P d ↔ ∃ o ∈ ords P d, s = flat P (run P o)
  | 0, s => by simp [stands, ords, run]
  | d + 1, s => by
    simp only [stands, mem_insL, List.not_mem_nil, false_or, List.mem_flatMap]
    constructor
    · rintro ⟨s0, h1, h2⟩
      obtain ⟨o, ho, rfl⟩ := (mem_stands h d s0).mp h1
      have w := ords_or h d o ho
      simp only [nxts, List.mem_map, List.mem_filter, List.mem_range] at h2
      obtain ⟨p, ⟨hp, go⟩, rfl⟩ := h2
      rw [go_flat w hp] at go
      have hc : o.count p < (row P p).length := by simpa [left] using go
      exact ⟨o ++ [p], by simp only [ords, List.mem_flatMap]; exact ⟨o, ho, mem_onward.mpr ⟨p, hp, hc, rfl⟩⟩, bh_run h w hp hc⟩
    · rintro ⟨o', ho, rfl⟩
      simp only [ords, List.mem_flatMap] at ho
      obtain ⟨o, ho, h2⟩ := ho
      obtain ⟨p, hp, hc, rfl⟩ := mem_onward.mp h2
      have w := ords_or h d o ho
      refine ⟨flat P (run P o), (mem_stands h d _).mpr ⟨o, ho, rfl⟩, ?_⟩
      simp only [nxts, List.mem_map, List.mem_filter, List.mem_range]
      exact ⟨p, ⟨hp, by rw [go_flat w hp]; simpa [left] using hc⟩, bh_run h w hp hc⟩
end K71

namespace K71
open PySem L2 PL
theorem perm_inv {α β : Type} (f : α → β) (g : β → α) (hg : ∀ a, g (f a) = a) {l : List β} {ks : List α} (h : l.Perm (ks.map f)) : ∃ ms : List α, l = ms.map f ∧ ms.Perm ks := by
  refine ⟨l.map g, ?_, ?_⟩
  · rw [List.map_map]
    conv => lhs; rw [← List.map_id l]
    refine List.map_congr_left fun x hx => ?_
    obtain ⟨a, _, rfl⟩ := List.mem_map.mp (h.mem_iff.mp hx)
    simp [hg]
  · have := h.map g
    rw [List.map_map] at this
    refine this.trans ?_
    rw [show ks.map (g ∘ f) = ks from by
      conv => rhs; rw [← List.map_id ks]
      exact List.map_congr_left fun a _ => hg a]
def unI : NK → List Int
  | .tup ks => ks.map fun k => match k with | .num i => i | _ => 0
  | _ => []
theorem unI_kI (l : List Int) : unI (kI l) = l := by
  simp only [unI, kI, List.map_map]
  conv => rhs; rw [← List.map_id l]
  exact List.map_congr_left fun a _ => rfl
theorem ok_nums : ∀ a b : List Int, cmpOkL (a.map .num) (b.map .num) = true
  | [], _ => by simp only [List.map_nil, cmpOkL]
  | _ :: _, [] => by simp only [List.map_nil, List.map_cons, cmpOkL]
  | x :: a, y :: b => by simp only [List.map_cons, cmpOkL, cmpOk, ok_nums a b, Bool.and_self]
theorem ok_kI (a b : List Int) : cmpOk (kI a) (kI b) = true := by simp only [kI, cmpOk, ok_nums]
theorem sortOk_kI {ks : List (List Int)} (hz : ks.length ≤ 1000) (h : ks.length < 2 ∨ ∀ k ∈ ks, k ≠ []) : sortOk (ks.map kI) = true := by
  have a1 : (ks.map kI).all tupK = true := by simp [tupK]
  have a2 : decide ((ks.map kI).length ≤ sizeLine) = true := by
    rw [List.length_map]
    exact decide_eq_true (sz_le hz)
  have a4 : (ks.map kI).all (fun k => decide (k.depth ≤ 8)) = true := by simp [depth_kI]
  have a5 : (ks.map kI).all (fun a => (ks.map kI).all fun b => cmpOk a b) = true := by
    simp only [List.all_map, List.all_eq_true, Function.comp_apply]
    exact fun a _ b _ => ok_kI a b
  have a3 : (decide ((ks.map kI).length < 2) || (ks.map kI).all fstInt || (ks.map kI).all fstTup) = true := by
    rcases h with h | h
    · simp [h]
    · have : (ks.map kI).all fstInt = true := by
        simp only [List.all_map, List.all_eq_true, Function.comp_apply]
        intro k hk
        cases k with
        | nil => exact absurd rfl (h _ hk)
        | cons i k => rfl
      simp only [this, Bool.or_true, Bool.true_or]
  simp only [sortOk, a1, a2, a3, a4, a5, Bool.and_self]
/-- ascending rows of ints -/
theorem sorted_kI (ks : List (List Int)) : ∃ ms : List (List Int), sortN (ks.map kI) = ms.map kI ∧ ms.Perm ks ∧ ms.Pairwise (fun a b => ltN (kI b) (kI a) = false) := by
  obtain ⟨ms, h1, h2⟩ := perm_inv kI unI unI_kI (sortN_perm (ks.map kI))
  refine ⟨ms, h1, h2, ?_⟩
  have := sortN_pair (ks.map kI)
  rw [h1, List.pairwise_map] at this
  exact this.imp fun {a b} h => h
theorem sorted_kT {ks : List (List Int)} (hz : ks.length ≤ 1000) (h : ks.length < 2 ∨ ∀ k ∈ ks, k ≠ []) (o : Bool) : biD .sorted (kT o ks) = some (.nd .lst true (keyNL (sortN (ks.map kI)))) := by
  have s := sortOk_kI hz h
  cases ks with
  | nil => simp [kT, tT, biD, intsD, sortI, sortN, keyNL]
  | cons a l =>
    simp only [List.map_cons] at s
    simp only [kT, tT, List.map_cons, biD, s, if_true]
/-- what is told of the last stands -/
def thr (P : Prog) (s : List Int) : List Int := s.drop (P.length + (LN P).length)
theorem cut_thr {P : Prog} {s : List Int} (h : P.length + (LN P).length ≤ s.length) : cutOf (tI s) (some ((P.length : Nat) + ((LN P).length : Nat))) none = some (tI (thr P s)) := by
  have hn : ((P.length : Int) + ((LN P).length : Int)) = ((P.length + (LN P).length : Nat) : Int) := by omega
  simp only [tI, cutOf, cutD, iL, List.length_map, thr, hn]
  have e1 : HT.sIx s.length 0 (some ((P.length + (LN P).length : Nat) : Int)) = P.length + (LN P).length := by
    rw [HT.sIx_nat]
    omega
  have e2 : HT.sIx s.length s.length none = s.length := by
    simp only [HT.sIx]
  rw [e1, e2]
  rw [List.take_of_length_le (by simp)]
  simp
end K71

namespace K71
open PySem L2 PL
theorem e14 : tb.fns[14]? = some f14 := rfl
/-- the keys of all answers -/
def ansK (P : Prog) : List (List Int) := insL [] ((stands P (tot P)).map (thr P))
theorem cr_le (r : Row) : cr r ≤ r.length := List.length_filter_le isR r
theorem crP_le (P : Prog) : crP P ≤ (tot P : Nat) := by
  induction P with
  | nil => simp [crP, tot]
  | cons r P ih =>
    have := cr_le r
    simp only [crP, tot] at ih
    simp only [crP, tot, List.map_cons, List.sum_cons, crI]
    omega
theorem crP_pos (P : Prog) : 0 ≤ crP P := by
  induction P with
  | nil => simp [crP]
  | cons r P ih =>
    simp only [crP] at ih
    simp only [crP, List.map_cons, List.sum_cons, crI]
    omega
theorem flat0 (P : Prog) : flat P (st0 P) = List.replicate (P.length + (LN P).length) 0 ++ List.replicate (crP P).toNat (-1) := by
  have pd := wy_pd (wy0 P)
  have e1 : (pad P (st0 P).ans).flatten = List.replicate (crP P).toNat (-1) := by
    rw [List.eq_replicate_iff]
    refine ⟨by have := pad_flat pd; omega, fun b hb => ?_⟩
    obtain ⟨l, hl, hb⟩ := List.mem_flatten.mp hb
    simp only [pad, st0] at hl
    obtain ⟨i, hi, e⟩ := List.mem_iff_getElem.mp hl
    simp at e
    rw [← e] at hb
    exact List.eq_of_mem_replicate hb
  rw [flat, e1]
  congr 1
  simp only [st0]
  rw [List.map_const', ← List.replicate_append_replicate]
  congr 1
  rw [List.eq_replicate_iff]
  refine ⟨by simp, fun b hb => ?_⟩
  obtain ⟨x, _, rfl⟩ := List.mem_map.mp hb
  unfold iget
  rcases x.toNat with _ | _ | n <;> rfl
theorem stands_long {P : Prog} (h : OkP P) {d : Nat} {s : List Int} (hs : s ∈ stands P d) : ((s.length : Nat) : Int) = (P.length + (LN P).length : Nat) + crP P := by
  obtain ⟨o, ho, rfl⟩ := (mem_stands h d s).mp hs
  exact stand_len (ords_or h d o ho).wy
theorem stands_gd {P : Prog} (h : OkP P) {d : Nat} {s : List Int} (hs : s ∈ stands P d) : ∀ p < P.length, Gd P s p := fun p hp => by
  obtain ⟨o, ho, rfl⟩ := (mem_stands h d s).mp hs
  exact gd_flat h (ords_or h d o ho) hp
theorem ansK_len {P : Prog} (h : OkP P) : ∀ k ∈ ansK P, ((k.length : Nat) : Int) = crP P := fun k hk => by
  rcases mem_insL.mp hk with z | z
  · simp at z
  · obtain ⟨s, hs, rfl⟩ := List.mem_map.mp z
    have := stands_long h hs
    have := crP_pos P
    simp only [thr, List.length_drop]
    omega
theorem pow3 {d : Nat} (h : d ≤ 6) : 3 ^ d ≤ 729 := by
  have : 3 ^ d ≤ 3 ^ 6 := Nat.pow_le_pow_right (by omega) h
  omega
theorem ansK_few {P : Prog} (h : OkP P) : (ansK P).length ≤ 729 := by
  have a := insL_len ((stands P (tot P)).map (thr P)) []
  have b := stands_len h.few (tot P)
  have c := pow3 h.all
  simp only [List.length_nil, List.length_map] at a
  simp only [ansK]
  omega
theorem ansK_ok {P : Prog} (h : OkP P) : (ansK P).length < 2 ∨ ∀ k ∈ ansK P, k ≠ [] := by
  by_cases c : crP P = 0
  · left
    have nd : (ansK P).Nodup := nodup_insL List.nodup_nil
    have hl := ansK_len h
    match hk : ansK P with
    | [] => simp
    | [_] => simp
    | a :: b :: l =>
      exfalso
      rw [hk] at nd hl
      have e1 := hl a (by simp)
      have e2 := hl b (by simp)
      have z1 : a = [] := List.eq_nil_of_length_eq_zero (by omega)
      have z2 : b = [] := List.eq_nil_of_length_eq_zero (by omega)
      rw [z1, z2] at nd
      simp at nd
  · right
    rintro k hk rfl
    have := ansK_len h [] hk
    simp at this
    exact c this.symm
/-- {stand[many + lines:]: True for stand in stands} -/
theorem dc14 {o : Orc} {P : Prog} (a0 a2 a3 a4 a5 a7 : Option D) (S : List (List Int)) (hS : ∀ s ∈ S, P.length + (LN P).length ≤ s.length) (hz : S.length ≤ 900) :
    loopD (fun x e => some (e.set 6 (some x))) (fun e => evT tb o .tt e) (fun e => evE tb o b14_1 e) (fun e => evE tb o b14_2 e) [6] (S.map tI) (.nd (.dk []) true []) [a0, some (plan false P), a2, a3, a4, a5, none, a7]
      = some (kT true (insL [] (S.map (thr P))), [a0, some (plan false P), a2, a3, a4, a5, none, a7]) := by
  have fz := fz_plan P
  have g1 : fldD tb.attr (plan false P) "many" = some (.int (P.length : Nat)) := g_m
  have g2 : fldD tb.attr (plan false P) "lines" = some (.int ((LN P).length : Nat)) := g_l
  obtain ⟨acc, e', h1, h2, h3⟩ := loopD_do (tg := fun x e => some (e.set 6 (some x))) (cond := fun e => evT tb o .tt e) (ek := fun e => evE tb o b14_1 e) (ev := fun e => evE tb o b14_2 e) (own := [6]) tI
    (fun p acc e => acc = kT true (insL [] (p.map (thr P))) ∧ e = [a0, some (plan false P), a2, a3, a4, a5, none, a7]) S (.nd (.dk []) true []) [a0, some (plan false P), a2, a3, a4, a5, none, a7] ⟨rfl, rfl⟩ (by
    rintro p s q hp _ _ ⟨rfl, rfl⟩
    have hs : s ∈ S := by rw [hp]; simp
    have hl : p.length ≤ S.length := by rw [hp]; simp
    have C := cut_thr (hS s hs)
    have f2 := fz_tI s
    have Z := setD_kT (ks := insL [] (p.map (thr P))) (k := thr P s) (by
      have a := insL_len (p.map (thr P)) []
      simp only [List.length_nil, List.length_map] at a
      omega)
    refine ⟨[a0, some (plan false P), a2, a3, a4, a5, some (tI s), a7], [a0, some (plan false P), a2, a3, a4, a5, some (tI s), a7], [a0, some (plan false P), a2, a3, a4, a5, some (tI s), a7], [a0, some (plan false P), a2, a3, a4, a5, some (tI s), a7], tI (thr P s), .bl true, _, by simp, by simp, ?_, by simp [b14_2], Z, ?_, by simp⟩
    · generalize tI (thr P s) = r at *
      generalize tI s = ss at *
      generalize plan false P = pp at *
      simp -implicitDefEqProofs [b14_1, fz, f2, g1, g2, C]
    · rw [List.map_append, insL_app]
      rfl)
  subst h2 h3
  exact h1
end K71

namespace K71
open PySem L2 PL
theorem i0 : tb.init 0 = some 8 := by decide +kernel
theorem mk14 {k : Nat} {P : Prog} (h : OkP P) (e : PL.Env) : callF tb (k + 3) 8 [.nd (.ins 0 []) true [], (progD P).frz] = some (.val .non [plan true P]) := by rw [frz_progD]; exact run8 k P h
/-- plain_answers -/
theorem run14 (k : Nat) (P : Prog) (h : OkP P) : callF tb (k + 4) 14 [progD P] = some (.val (.nd .lst true (keyNL (sortN ((ansK P).map kI)))) []) := by
  have all := h.all
  have few := h.few
  have cp := crP_le P
  have c0 := crP_pos P
  have f8 : (tb.fns[8]?).map (·.io) = some [0] := by rw [e8]; rfl
  have M := mk14 (k := k) h
  have C9 : ∀ e, runCall tb (callF tb (k + 3)) 9 [.d (plan false P)] e = some (.val (tI (List.replicate (P.length + (LN P).length) 0)) e) := fun e => call1 e9 rfl (by rw [frz_of_fz _ (fz_plan P)]; exact run9 (k + 2) P h)
  have B1 : binD .mul (.nd .tup false [.int (-1)]) (.int (crP P)) = some (tI (List.replicate (crP P).toNat (-1))) := by
    simp only [binD]
    rw [if_pos ⟨rfl, rfl, by omega, by omega, by decide⟩, rep_flat]
  have B2 : binD .add (tI (List.replicate (P.length + (LN P).length) 0)) (tI (List.replicate (crP P).toNat (-1))) = some (tI (flat P (st0 P))) := by
    have hl := LN_len P
    simp only [tI, iL, binD, List.length_map, List.length_replicate]
    rw [if_pos (sz_le (by omega)), flat0]
    simp
  -- the turns
  obtain ⟨e', h1, ow, b3, b5, b6, b7, rfl⟩ := loopF_do (tg := fun x e => some (e.set 3 (some x))) (b := fun e => exSs tb (callF tb (k + 3)) [] b14_5 e) (fun (j : Nat) => D.int (j : Nat))
    (fun p e => ∃ ow b3 b5 b6 b7, e = [some (progD P), some (plan false P), some (lII ow (stands P p.length)), b3, none, b5, b6, b7]) (List.range (tot P))
    [some (progD P), some (plan false P), some (lII true [flat P (st0 P)]), none, none, none, none, none] ⟨true, none, none, none, none, rfl⟩ (by
    rintro p j q hp _ ⟨ow, b3, b5, b6, b7, rfl⟩
    have hl : p.length < tot P := by
      have := congrArg List.length hp
      simp at this
      omega
    have sl := stands_len few p.length
    have p3 : 3 ^ p.length ≤ 3 ^ 5 := Nat.pow_le_pow_right (by omega) (by omega)
    obtain ⟨c5, c6, c7, hx⟩ := out14 (k := k + 1) (some (progD P)) (some (.int (j : Nat))) none h (stands P p.length) (fun s hs => stands_gd h hs) (by omega) b5 b6 b7 ow
    exact ⟨_, _, rfl, hx, true, some (.int (j : Nat)), c5, c6, c7, by simp [stands]⟩)
  rw [List.length_range] at h1
  have sl := stands_len few (tot P)
  have p3 := pow3 all
  have D14 := dc14 (o := callF tb (k + 3)) (P := P) (some (progD P)) (some (lII false (stands P (tot P)))) b3 none b5 b7 (stands P (tot P)) (fun s hs => by have := stands_long h hs; omega) (by omega)
  have S14 := sorted_kT (ks := ansK P) (by have := ansK_few h; omega) (ansK_ok h) false
  have fk := fz_kT (ansK P)
  have rk := frz_kT true (ansK P)
  have R := rangeD_n (tot P)
  have K := okR_n (tot P) (by omega)
  have fp : (progD P).fz = true := by rw [← frz_progD, frz_fz]
  have fz := fz_plan P
  have nz : (plan true P).fz = false := rfl
  have rz := frz_plan true P
  have g1 : fldD tb.attr (plan false P) "reads" = some (.int (crP P)) := g_d
  have g2 : fldD tb.attr (plan false P) "length" = some (.int (tot P : Nat)) := g_n
  have lf : (lII false (stands P (tot P))).fz = true := by simp
  have lr : (lII ow (stands P (tot P))).frz = lII false (stands P (tot P)) := by simp
  have lr2 := frz_of_fz _ lf
  have sq : seqD (lII false (stands P (tot P))) = some ((stands P (tot P)).map tI) := rfl
  have is : isLst (lII false (stands P (tot P))) = true := rfl
  have T1 : lII true [flat P (st0 P)] = .nd .lst true [tI (flat P (st0 P))] := rfl
  refine run_rt (e := [some (progD P), some (plan false P), some (lII false (stands P (tot P))), b3, some (kT false (ansK P)), b5, none, b7]) e14 rfl rfl rfl ?_
  rw [T1] at h1
  rw [show insL [] ((stands P (tot P)).map (thr P)) = ansK P from rfl] at D14
  have z1 : sizeLine ≥ 1 := by decide
  have fz2 : (lII ow (stands P (tot P))).fz = true → lII ow (stands P (tot P)) = lII false (stands P (tot P)) := fun z => by rw [← frz_of_fz _ z, lr]
  have M2 : ∀ e : PL.Env, callF tb (k + 3) 8 [.nd (.ins 0 []) true [], progD P] = some (.val .non [plan true P]) := fun e => by have := M e; rw [frz_of_fz _ fp] at this; exact this
  have M3 := M2 []
  clear M M2
  have frp := frz_of_fz _ fp
  generalize kT true (ansK P) = kt at *
  generalize kT false (ansK P) = kf at *
  generalize D.nd .lst true (keyNL (sortN ((ansK P).map kI))) = res at *
  generalize tI (flat P (st0 P)) = s0 at *
  generalize tI (List.replicate (P.length + (LN P).length) 0) = s1 at *
  generalize tI (List.replicate (crP P).toNat (-1)) = s2 at *
  generalize progD P = pd at *
  generalize lII ow (stands P (tot P)) = w1 at *
  generalize lII false (stands P (tot P)) = w at *
  generalize (stands P (tot P)).map tI = SL at *
  try simp -implicitDefEqProofs at h1
  try simp -implicitDefEqProofs at D14
  cases c : w1.fz with
  | true =>
    have q := fz2 c
    subst q
    simp -implicitDefEqProofs [b14, fp, frp, i0, f8, M3, m9, C9, nz, rz, fz, g1, g2, B1, B2, z1, R, K, h1, lf, lr2, sq, is, D14, fk, rk, S14]
  | false =>
    simp -implicitDefEqProofs [b14, c, lr, fp, frp, i0, f8, M3, m9, C9, nz, rz, fz, g1, g2, B1, B2, z1, R, K, h1, lf, lr2, sq, is, D14, fk, rk, S14]
end K71

namespace K71
open PySem L2 PL
/-- rows of told lengths, from a place on -/
def cutR (a : List Int) : Nat → List Row → List (List Int)
  | _, [] => []
  | n, r :: P => (a.drop n).take (cr r) :: cutR a (n + cr r) P
def crN : List Row → Nat
  | [] => 0
  | r :: P => cr r + crN P
theorem crN_app (p q : List Row) : crN (p ++ q) = crN p + crN q := by
  induction p with
  | nil => simp [crN]
  | cons r p ih => simp [crN, ih, Nat.add_assoc]
theorem cutR_app (a : List Int) (n : Nat) (p q : List Row) : cutR a n (p ++ q) = cutR a n p ++ cutR a (n + crN p) q := by
  induction p generalizing n with
  | nil => simp [cutR, crN]
  | cons r p ih => simp [cutR, crN, ih, Nat.add_assoc]
theorem cutR_len (a : List Int) (n : Nat) (p : List Row) : (cutR a n p).length = p.length := by
  induction p generalizing n with
  | nil => rfl
  | cons r p ih => simp [cutR, ih]
theorem sIx_min (n d i : Nat) : HT.sIx n d (some (i : Int)) = min i n := HT.sIx_nat n d i
theorem cut_n (a : List Int) (n m : Nat) (h : n + m ≤ a.length) : cutOf (tI a) (some (n : Int)) (some ((n : Int) + (m : Int))) = some (tI ((a.drop n).take m)) := by
  have hn : ((n : Int) + (m : Int)) = ((n + m : Nat) : Int) := by omega
  simp only [tI, cutOf, cutD, iL, List.length_map, hn, sIx_min]
  rw [Nat.min_eq_left (by omega), Nat.min_eq_left (by omega), show n + m - n = m by omega]
  simp
theorem crN_le : ∀ P : List Row, crN P ≤ tot P
  | [] => by simp [crN]
  | r :: P => by
    have a := crN_le P
    have b := cr_le r
    simp only [tot] at a
    simp only [crN, tot, List.map_cons, List.sum_cons]
    omega
/-- rows_of -/
theorem run7 (k : Nat) (P : Prog) (h : OkP P) (a : List Int) (ha : a.length = crN P) : callF tb (k + 1) 7 [tI (P.map crI), tI a] = some (.val (tII (cutR a 0 P)) []) := by
  have few := h.few
  obtain ⟨e', h1, b4, rfl⟩ := loopF_do (tg := fun x e => some (e.set 4 (some x))) (b := fun e => exSs tb (callF tb k) [] b7_1 e) (fun r : Row => D.int (crI r))
    (fun p e => ∃ b4, e = [some (tI (P.map crI)), some (tI a), some (.nd .lst true ((cutR a 0 p).map tI)), some (.int (crN p : Nat)), b4]) P
    [some (tI (P.map crI)), some (tI a), some (.nd .lst true []), some (.int 0), none] ⟨none, rfl⟩ (by
    rintro p r q hp _ ⟨b4, rfl⟩
    have hl : p.length ≤ 3 := by rw [hp] at few; simp at few; omega
    have hn : crN p + cr r ≤ a.length := by rw [ha, hp, crN_app]; simp [crN]
    have C := cut_n a (crN p) (cr r) hn
    have f2 := fz_tI a
    have z : ((cutR a 0 p).map tI).length < sizeLine := small _ (by simp only [List.length_map, cutR_len]; omega)
    have T : biD .tuple (tI ((a.drop (crN p)).take (cr r))) = some (tI ((a.drop (crN p)).take (cr r))) := rfl
    refine ⟨_, _, rfl, ?_, some (.int (crI r)), rfl⟩
    rw [cutR_app, crN_app, List.map_append]
    simp only [cutR, crN, Nat.zero_add, Nat.add_zero, List.map_cons, List.map_nil, crI]
    rw [show ((crN p + cr r : Nat) : Int) = (crN p : Int) + (cr r : Int) by omega]
    generalize tI (List.take (cr r) (List.drop (crN p) a)) = t at *
    generalize tI a = aa at *
    generalize (cutR a 0 p).map tI = rs at *
    simp -implicitDefEqProofs [b7_1, f2, C, T, z])
  refine run_rt (e := [some (tI (P.map crI)), some (tI a), some (.nd .lst false ((cutR a 0 P).map tI)), some (.int (crN P : Nat)), b4]) e7 rfl rfl rfl ?_
  have fr := frzL_tI (cutR a 0 P)
  have f1 := fz_tI (P.map crI)
  have r1 := frz_tI (P.map crI)
  have sq : seqD (tI (P.map crI)) = some (P.map fun r => D.int (crI r)) := by simp [tI, iL]
  have is : isLst (tI (P.map crI)) = false := rfl
  simp only [tII]
  generalize (cutR a 0 P).map tI = v at h1 fr ⊢
  generalize tI (P.map crI) = cs at *
  generalize (P.map fun r => D.int (crI r)) = CL at *
  try simp -implicitDefEqProofs at h1
  simp -implicitDefEqProofs [b7, fr, f1, r1, sq, is, h1]
end K71

namespace K71
open PySem L2 PL
def srt (ks : List (List Int)) : List (List Int) := (sortN (ks.map kI)).map unI
theorem srt_spec (ks : List (List Int)) : sortN (ks.map kI) = (srt ks).map kI ∧ (srt ks).Perm ks ∧ (srt ks).Pairwise (fun a b => ltN (kI b) (kI a) = false) := by
  obtain ⟨ms, h1, h2, h3⟩ := sorted_kI ks
  have : srt ks = ms := by
    simp only [srt, h1, List.map_map]
    conv => rhs; rw [← List.map_id ms]
    exact List.map_congr_left fun a _ => unI_kI a
  rw [this]
  exact ⟨h1, h2, h3⟩
theorem e18 : tb.fns[18]? = some f18 := rfl
abbrev tIII (l : List (List (List Int))) : D := .nd .tup false (l.map tII)
theorem crP_N (P : Prog) : crP P = (crN P : Nat) := by
  induction P with
  | nil => rfl
  | cons r P ih =>
    have e : crP (r :: P) = crI r + crP P := by simp [crP]
    rw [e, ih, crN, crI]
    omega
def outs (P : Prog) : List (List (List Int)) := (srt (ansK P)).map fun a => cutR a 0 P
/-- plain_outcomes -/
theorem run18 (k : Nat) (P : Prog) (h : OkP P) : callF tb (k + 6) 18 [progD P] = some (.val (tIII (outs P)) []) := by
  obtain ⟨s1, s2, s3⟩ := srt_spec (ansK P)
  have C17 : ∀ e, runCall tb (callF tb (k + 5)) 17 [.d (progD P)] e = some (.val .non e) := fun e => call1 e17 rfl (by rw [frz_progD]; exact run17 k P h)
  have C4 : ∀ e, runCall tb (callF tb (k + 5)) 4 [.d (progD P)] e = some (.val (tI (P.map crI)) e) := fun e => call1 e4 rfl (by rw [frz_progD]; exact run4 (k + 4) P h)
  have C14 : ∀ e, runCall tb (callF tb (k + 5)) 14 [.d (progD P)] e = some (.val (.nd .lst true ((srt (ansK P)).map tI)) e) := fun e => call1 e14 rfl (by rw [frz_progD, ← keyNL_kI, ← s1]; exact run14 (k + 1) P h)
  have few := ansK_few h
  have hl : (srt (ansK P)).length ≤ 1000 := by rw [s2.length_eq]; omega
  obtain ⟨e', rfl, hc⟩ := loopC_all (tg := fun x e => some (e.set 2 (some x))) (cond := fun e => evT tb (callF tb (k + 5)) .tt e) (elt := fun e => evE tb (callF tb (k + 5)) b18_1 e) (own := [2]) tI (fun a => tII (cutR a 0 P))
    (fun e => e = [some (progD P), some (tI (P.map crI)), none]) (srt (ansK P)) _ rfl (by
      rintro a ha _ rfl
      have hk := ansK_len h a (s2.mem_iff.mp ha)
      rw [crP_N] at hk
      have C7 : ∀ e, runCall tb (callF tb (k + 5)) 7 [.d (tI (P.map crI)), .d (tI a)] e = some (.val (tII (cutR a 0 P)) e) := fun e => call2 e7 rfl (by rw [frz_tI, frz_tI]; exact run7 (k + 4) P h a (by omega))
      have f1 := fz_tI (P.map crI)
      have f2 := fz_tI a
      refine ⟨_, [some (progD P), some (tI (P.map crI)), some (tI a)], [some (progD P), some (tI (P.map crI)), some (tI a)], rfl, by simp, ?_, by simp⟩
      generalize tI (P.map crI) = u at *
      generalize tI a = v at *
      generalize tII (cutR a 0 P) = w at *
      simp -implicitDefEqProofs [b18_1, f1, f2, C7])
  have z : ((srt (ansK P)).map fun a => tII (cutR a 0 P)).length ≤ sizeLine := sz_le (by simpa using hl)
  have fp : (progD P).fz = true := by rw [← frz_progD, frz_fz]
  refine run_rt (e := [some (progD P), some (tI (P.map crI)), none]) e18 rfl rfl rfl ?_
  have fr := frzL_tI (srt (ansK P))
  rw [show tIII (outs P) = .nd .tup false ((srt (ansK P)).map fun a => tII (cutR a 0 P)) by simp [tIII, outs, Function.comp_def]]
  generalize ((srt (ansK P)).map fun a => tII (cutR a 0 P)) = r at *
  generalize (srt (ansK P)).map tI = ms at *
  generalize tI (P.map crI) = u at *
  generalize progD P = pd at *
  try simp -implicitDefEqProofs at hc
  simp -implicitDefEqProofs [b18, fp, C17, C4, C14, fr, hc, z]
end K71

namespace K71
open PySem L2 PL
theorem e19 : tb.fns[19]? = some f19 := rfl
abbrev pil (cs : List Int) (n s : Int) : D := .nd .lst true [.nd .cl false (iL cs), .int n, .int s]
/-- a def that changes its first argument and answers -/
theorem run_io {tb : Tab} {o : Orc} {f : Nat} {fn : Fn} {ds : List D} {env e : PL.Env} {d x : D} (h : tb.fns[f]? = some fn) (hl : ds.length = fn.np) (hio : fn.io = [0]) (he : ds.map some ++ List.replicate (fn.nl - fn.np) none = env) (hx : exSs tb o [0] fn.body env = some (.val (.rt d) e)) (h0 : e.at 0 = some x) : runFn tb o f ds = some (.val d [x]) := by
  subst he
  simp only [runFn, h, hl, if_true, hio, hx, finals, h0, Option.map_some]
theorem atI_cells (cs : List Int) (i : Int) (h : cs.length ≠ 0) : ∃ c : Int, atI (iL cs) (i % (cs.length : Int)) = some (.int c) := by
  have h1 : 0 < (cs.length : Int) := by omega
  have a := Int.emod_nonneg i (show (cs.length : Int) ≠ 0 by omega)
  have b := Int.emod_lt_of_pos i h1
  obtain ⟨j, hj⟩ := Int.eq_ofNat_of_zero_le a
  rw [hj]
  have : j < cs.length := by omega
  exact ⟨cs[j], atI_ints cs j this⟩
/-- _law_draw -/
theorem run19 (k : Nat) (cs : List Int) (n s many : Int) (hn : 0 ≤ n ∧ n ≤ 1000) (hm : 0 < many ∧ many < 1073741824) :
    ∃ v s', 0 ≤ v ∧ v < many ∧ callF tb (k + 1) 19 [pil cs n s, .int many] = some (.val (.int v) [pil cs (n + 1) s']) := by
  obtain ⟨hn0, hn1⟩ := hn
  obtain ⟨hm0, hm1⟩ := hm
  -- the cell
  obtain ⟨cell, hc⟩ : ∃ cell : Int, exSs tb (callF tb k) [0] (b19.take 4) [some (pil cs n s), some (.int many), none, none, none, none, none]
      = some (.val .nx [some (pil cs n s), some (.int many), some (.nd .cl false (iL cs)), some (.int (n / 8)), some (.int cell), none, none]) := by
    by_cases c : cs.length = 0
    · have : cs = [] := List.eq_nil_of_length_eq_zero c
      subst this
      exact ⟨12, by simp -implicitDefEqProofs [b19]⟩
    · obtain ⟨v, hv⟩ := atI_cells cs (n / 8) c
      refine ⟨v, ?_⟩
      have hp : 0 < (cs.length : Int) := by omega
      have hp2 : 0 < cs.length := by omega
      simp -implicitDefEqProofs [b19, hp, hp2, hv]
  -- the state
  obtain ⟨s1, hs⟩ : ∃ s1 : Int, exSs tb (callF tb k) [0] ((b19.drop 4).take 2) [some (pil cs n s), some (.int many), some (.nd .cl false (iL cs)), some (.int (n / 8)), some (.int cell), none, none]
      = some (.val .nx [some (pil cs (n + 1) s1), some (.int many), some (.nd .cl false (iL cs)), some (.int (n / 8)), some (.int cell), none, none]) := by
    by_cases c : n % 8 = 0
    · exact ⟨cell, by simp -implicitDefEqProofs [b19, c, eqD_int, ixN]⟩
    · exact ⟨s, by simp -implicitDefEqProofs [b19, c, eqD_int, ixN]⟩
  have sp : b19 = b19.take 4 ++ ((b19.drop 4).take 2 ++ b19.drop 6) := by rfl
  by_cases c : cell ≥ 1000000000000000000 ∧ n / 8 < (cs.length : Int)
  · refine ⟨s1 % many, s1 / many, Int.emod_nonneg _ (by omega), Int.emod_lt_of_pos _ hm0, ?_⟩
    refine run_io (e := [some (pil cs (n + 1) (s1 / many)), some (.int many), some (.nd .cl false (iL cs)), some (.int (n / 8)), some (.int cell), none, none]) e19 rfl rfl rfl ?_ rfl
    show exSs tb (callF tb k) [0] b19 _ = _
    rw [sp, exSs_nx (by exact hc), exSs_nx (by exact hs)]
    obtain ⟨c1, c2⟩ := c
    simp -implicitDefEqProofs [b19, c1, c2, hm0, hm1, ixN]
  · have z1 : (0 : Int) < 2147483647 := by decide
    have m1 : mulOk (n + 1) (n + 1) = true := mulOk_l _ _ ⟨by omega, by omega⟩
    refine ⟨(((cell % 1000193 * 16807 + (n + 1) * 69621 + 5) % 2147483647) * 39373 + (n + 1) * (n + 1) * 31) % 2147483647 % many, s1, Int.emod_nonneg _ (by omega), Int.emod_lt_of_pos _ hm0, ?_⟩
    refine run_io (e := [some (pil cs (n + 1) s1), some (.int many), some (.nd .cl false (iL cs)), some (.int (n / 8)), some (.int cell), some (.int ((cell % 1000193 * 16807 + (n + 1) * 69621 + 5) % 2147483647)), none]) e19 rfl rfl rfl ?_ rfl
    show exSs tb (callF tb k) [0] b19 _ = _
    rw [sp, exSs_nx (by exact hc), exSs_nx (by exact hs)]
    by_cases c1 : cell ≥ 1000000000000000000
    · have c2 : ¬ n / 8 < (cs.length : Int) := fun z => c ⟨c1, z⟩
      simp -implicitDefEqProofs [b19, c1, c2, hm0, m1]
    · simp -implicitDefEqProofs [b19, c1, hm0, m1]
end K71

namespace K71
open PySem L2 PL
theorem e20 : tb.fns[20]? = some f20 := rfl
def mkd : Dd → Int → Dd
  | .rd _, l => .rd l
  | .wr _, l => .wr l
  | .fc, _ => .fc
theorem nm_mkd (d : Dd) (l : Int) : nm (mkd d l) = nm d := by cases d <;> rfl
theorem dD_mkd (d : Dd) (l : Int) : dD (mkd d l) = if (!isR d && !isW d) then .nd .tup false [.str (nm d)] else .nd .tup false [.str (nm d), .int l] := by cases d <;> rfl
theorem draw {k : Nat} (cs : List Int) (n s many : Int) (hn : 0 ≤ n ∧ n ≤ 1000) (hm : 0 < many ∧ many < 1073741824) :
    ∃ v s', 0 ≤ v ∧ v < many ∧ callF tb (k + 1) 19 [pil cs n s, .int many] = some (.val (.int v) [pil cs (n + 1) s']) ∧ ∀ i e, Env.at e i = some (pil cs n s) → runCall tb (callF tb (k + 1)) 19 [.r i, .d (.int many)] e = some (.val (.int v) ((e.set i none).set i (some (pil cs (n + 1) s')))) := by
  obtain ⟨v, s', h1, h2, h3⟩ := run19 k cs n s many hn hm
  exact ⟨v, s', h1, h2, h3, fun i e he => callR1 e19 rfl he h3⟩
abbrev wD (o : Bool) (W : List Dd) : D := .nd .lst o (W.map fun d => D.str (nm d))
abbrev roD (R : List Row) : D := .nd .lst true (R.map fun r => D.nd .lst true (r.map dD))
theorem frz_wD (o : Bool) (W : List Dd) : (wD o W).frz = wD false W := by
  simp only [wD, frz_nd]
  congr 1
  induction W with
  | nil => rfl
  | cons a l ih => simp [ih]
theorem fz_wD (W : List Dd) : (wD false W).fz = true := by rw [← frz_wD false, frz_fz]
theorem tot_set {R : List Row} {j : Nat} (hj : j < R.length) (d : Dd) : tot (R.set j (R[j] ++ [d])) = tot R + 1 := by
  induction R generalizing j with
  | nil => simp at hj
  | cons r R ih =>
    cases j with
    | zero => simp [tot]; omega
    | succ j =>
      have := ih (j := j) (by simpa using hj)
      simp only [tot] at this
      simp only [tot, List.set_cons_succ, List.getElem_cons_succ, List.map_cons, List.sum_cons, this]
      omega
/-- one deed is put in -/
theorem step20 {k : Nat} (cs : List Int) (n s many : Int) (size : Option D) (ow : Bool) (W : List Dd) (R : List Row) (kk w6 w7 w8 : Option D) (hn : 0 ≤ n ∧ n ≤ 900) (hW : 0 < W.length ∧ W.length ≤ 900) (hm : (R.length : Int) = many) (hR : 0 < R.length ∧ R.length ≤ 900) (hr : ∀ r ∈ R, r.length ≤ 900) :
    ∃ (s' : Int) (j : Nat) (d : Dd) (hj : j < R.length) (w6' w7' : Option D), okD d ∧ exSs tb (callF tb (k + 1)) [0] b20_2 [some (pil cs n s), some (.int many), size, some (wD ow W), some (roD R), kk, w6, w7, w8]
      = some (.val .nx [some (pil cs (n + 3) s'), some (.int many), size, some (wD false W), some (roD (R.set j (R[j] ++ [d]))), kk, w6', w7', w8]) := by
  obtain ⟨v1, s1, a1, a2, _, C1⟩ := draw (k := k) cs n s (W.length : Nat) ⟨by omega, by omega⟩ ⟨by omega, by omega⟩
  obtain ⟨v2, s2, a3, a4, _, C2⟩ := draw (k := k) cs (n + 1) s1 2 ⟨by omega, by omega⟩ ⟨by omega, by omega⟩
  obtain ⟨v3, s3, a5, a6, _, C3⟩ := draw (k := k) cs (n + 1 + 1) s2 many ⟨by omega, by omega⟩ ⟨by omega, by omega⟩
  obtain ⟨j1, rfl⟩ := Int.eq_ofNat_of_zero_le a1
  obtain ⟨j3, rfl⟩ := Int.eq_ofNat_of_zero_le a5
  have h1 : j1 < W.length := by omega
  have h3 : j3 < R.length := by omega
  have g1 : subD (wD false W) (.int (j1 : Nat)) = some (.str (nm W[j1])) := by simp [PL.atI_nat, h1]
  have g3 : (R.map fun r => D.nd .lst true (r.map dD))[j3]? = some (.nd .lst true (R[j3].map dD)) := by simp [h3]
  have hz : (R[j3].map dD).length < sizeLine := small _ (by
    have := hr R[j3] (List.getElem_mem h3)
    simp only [List.length_map]
    omega)
  have W3 := walk_ix (at' := tb.attr) (o1 := true) g3
  have A3 := append_ix (at' := tb.attr) (y := dD (mkd W[j1] v2)) g3 hz
  have L : biD .len (wD false W) = some (.int (W.length : Nat)) := by simp
  have fw := fz_wD W
  have rw1 := frz_wD ow W
  have f2 := nm_f W[j1]
  have ok : okD (mkd W[j1] v2) := by
    have : v2 = 0 ∨ v2 = 1 := by omega
    cases W[j1] <;> simp only [mkd, okD] <;> exact this
  have E : roD (R.set j3 (R[j3] ++ [mkd W[j1] v2])) = .nd .lst true ((R.map fun r => D.nd .lst true (r.map dD)).set j3 (.nd .lst true (R[j3].map dD ++ [dD (mkd W[j1] v2)]))) := by
    simp [roD, List.map_set]
  have fd := fz_dD (mkd W[j1] v2)
  refine ⟨s3, j3, mkd W[j1] v2, h3, some (.str (nm W[j1])), some (dD (mkd W[j1] v2)), ok, ?_⟩
  rw [E, show n + 3 = n + 1 + 1 + 1 by omega]
  have dd := dD_mkd W[j1] v2
  have q1 : (wD ow W).fz = true → wD ow W = wD false W := fun z => by rw [← frz_of_fz _ z, rw1]
  have fw2 := frz_of_fz _ fw
  have np : ∀ n s, (pil cs n s).fz = false := fun _ _ => rfl
  have z2 : sizeLine ≥ 2 := by decide
  have z1 : sizeLine ≥ 1 := by decide
  have hx : (!isR W[j1] && !isW W[j1]) = true → nm W[j1] = "fence" := by cases W[j1] <;> simp [isR, isW, nm]
  rw [show roD R = .nd .lst true (R.map fun r => D.nd .lst true (r.map dD)) from rfl]
  generalize nm W[j1] = x at *
  generalize (R.map fun r => D.nd .lst true (r.map dD)) = rs at *
  generalize R[j3].map dD = r3 at *
  generalize wD ow W = w1 at *
  generalize wD false W = w0 at *
  generalize dD (mkd W[j1] v2) = y at *
  cases c2 : (!isR W[j1] && !isW W[j1]) with
  | true =>
    rw [c2] at f2 dd
    simp only [if_true] at dd
    have hx := hx c2
    subst dd hx
    cases c : w1.fz with
    | true =>
      have := q1 c
      subst this
      simp -implicitDefEqProofs [b20_2, C1, C2, C3, fw, fw2, L, g1, f2, W3, A3, hm]
    | false =>
      simp -implicitDefEqProofs [b20_2, c, rw1, C1, C2, C3, fw, fw2, L, g1, f2, W3, A3, hm]
  | false =>
    rw [c2] at f2 dd
    simp only [Bool.false_eq_true, if_false] at dd
    subst dd
    cases c : w1.fz with
    | true =>
      have := q1 c
      subst this
      simp -implicitDefEqProofs [b20_2, C1, C2, C3, fw, fw2, L, g1, f2, W3, A3, hm]
    | false =>
      simp -implicitDefEqProofs [b20_2, c, rw1, C1, C2, C3, fw, fw2, L, g1, f2, W3, A3, hm]
end K71

namespace K71
open PySem L2 PL
theorem len_set {R : List Row} {j : Nat} {r : Row} : (R.set j r).length = R.length := by simp
/-- the deeds, one by one -/
theorem loop20 {k : Nat} (cs : List Int) (many : Int) (size : Option D) (W : List Dd) (w8 : Option D) (hW : 0 < W.length ∧ W.length ≤ 900) : ∀ (xs : List Nat) (n s : Int) (ow : Bool) (R : List Row) (kk w6 w7 : Option D),
    (0 ≤ n ∧ n + 3 * xs.length ≤ 900) → (R.length : Int) = many → (0 < R.length ∧ R.length ≤ 900) → tot R + xs.length ≤ 900 → (∀ r ∈ R, ∀ d ∈ r, okD d) →
    ∃ (s' : Int) (ow' : Bool) (R' : List Row) (kk' w6' w7' : Option D), R'.length = R.length ∧ tot R' = tot R + xs.length ∧ (∀ r ∈ R', ∀ d ∈ r, okD d) ∧
      loopF (fun x e => some (e.set 5 (some x))) (fun e => exSs tb (callF tb (k + 1)) [0] b20_2 e) (xs.map fun (j : Nat) => D.int (j : Nat)) [some (pil cs n s), some (.int many), size, some (wD ow W), some (roD R), kk, w6, w7, w8]
        = some (.val .nx [some (pil cs (n + 3 * xs.length) s'), some (.int many), size, some (wD ow' W), some (roD R'), kk', w6', w7', w8])
  | [], n, s, ow, R, kk, w6, w7, _, _, _, _, ok => ⟨s, ow, R, kk, w6, w7, rfl, rfl, ok, by simp⟩
  | x :: xs, n, s, ow, R, kk, w6, w7, hn, hm, hR, hz, ok => by
    simp only [List.length_cons] at hn hz
    obtain ⟨s1, j, d, hj, v6, v7, okd, h1⟩ := step20 (k := k) cs n s many size ow W R (some (.int (x : Nat))) w6 w7 w8 ⟨hn.1, by omega⟩ hW hm hR (fun r hr => by have := len_tot hr; omega)
    have ok2 : ∀ r ∈ R.set j (R[j] ++ [d]), ∀ e ∈ r, okD e := fun r hr e he => by
      rcases List.mem_or_eq_of_mem_set hr with z | z
      · exact ok r z e he
      · rw [z] at he
        rcases List.mem_append.mp he with z2 | z2
        · exact ok _ (List.getElem_mem hj) e z2
        · simp at z2
          rw [z2]; exact okd
    obtain ⟨s2, ow', R', kk', w6', w7', i1, i2, i3, ih⟩ := loop20 cs many size W w8 hW xs (n + 3) s1 false (R.set j (R[j] ++ [d])) (some (.int (x : Nat))) v6 v7 ⟨by omega, by omega⟩ (by rw [len_set]; exact hm) (by rw [len_set]; exact hR) (by rw [tot_set hj]; omega) ok2
    refine ⟨s2, ow', R', kk', w6', w7', by rw [i1, len_set], by rw [i2, tot_set hj, List.length_cons]; omega, i3, ?_⟩
    rw [List.map_cons, loopF_turn (e1 := [some (pil cs n s), some (.int many), size, some (wD ow W), some (roD R), some (.int (x : Nat)), w6, w7, w8]) rfl h1, ih]
    rw [List.length_cons, show n + 3 + 3 * (xs.length : Int) = n + 3 * ((xs.length + 1 : Nat) : Int) by omega]
def W6 : List Dd := [.rd 0, .wr 0, .rd 0, .wr 0, .rd 0, .wr 0]
def W3 : List Dd := [.rd 0, .wr 0, .fc]
theorem roD0 (n : Nat) : ((List.range n).map fun (j : Nat) => D.nd .lst true []) = (List.replicate n ([] : Row)).map fun r => D.nd .lst true (r.map dD) := by simp [List.map_const']
theorem frzL_ro (R : List Row) : frzL (R.map fun r => D.nd .lst true (r.map dD)) = R.map fun r => D.nd .lst false (r.map dD) := by
  induction R with
  | nil => rfl
  | cons r l ih => rw [List.map_cons, frzL_c, ih, frz_nd, frzL_row, List.map_cons]
/-- _law_program -/
theorem run20 (k : Nat) (cs : List Int) (n s : Int) (hn : 0 ≤ n ∧ n ≤ 500) :
    ∃ (P : Prog) (n' s' : Int), OkP P ∧ n ≤ n' ∧ n' ≤ n + 21 ∧ callF tb (k + 2) 20 [pil cs n s] = some (.val (progD P) [pil cs n' s']) := by
  obtain ⟨v1, s1, a1, a2, _, C1⟩ := draw (k := k) cs n s 3 ⟨by omega, by omega⟩ ⟨by omega, by omega⟩
  obtain ⟨v2, s2, a3, a4, _, C2⟩ := draw (k := k) cs (n + 1) s1 7 ⟨by omega, by omega⟩ ⟨by omega, by omega⟩
  obtain ⟨v3, s3, a5, a6, _, C3⟩ := draw (k := k) cs (n + 1 + 1) s2 3 ⟨by omega, by omega⟩ ⟨by omega, by omega⟩
  obtain ⟨j1, rfl⟩ := Int.eq_ofNat_of_zero_le a1
  obtain ⟨j2, rfl⟩ := Int.eq_ofNat_of_zero_le a3
  obtain ⟨W, hW, w0⟩ : ∃ W : List Dd, (0 < W.length ∧ W.length ≤ 900) ∧ ((v3 = 0 ∧ W = W3) ∨ (¬ v3 = 0 ∧ W = W6)) := by
    by_cases c : v3 = 0
    · exact ⟨W3, by decide, .inl ⟨c, rfl⟩⟩
    · exact ⟨W6, by decide, .inr ⟨c, rfl⟩⟩
  obtain ⟨s4, ow', R', kk', w6', w7', i1, i2, i3, ih⟩ := loop20 (k := k) cs ((1 : Int) + (j1 : Int)) (some (.int (j2 : Nat))) W none hW (List.range j2) (n + 1 + 1 + 1) s3 true (List.replicate (1 + j1) []) none none none ⟨by omega, by simp only [List.length_range]; omega⟩ (by simp only [List.length_replicate]; omega) (by simp only [List.length_replicate]; omega) (by simp [tot]; omega)
    (fun r hr d hd => by rw [List.eq_of_mem_replicate hr] at hd; simp at hd)
  simp only [List.length_range, List.length_replicate] at i1 i2 ih
  have t0 : tot (List.replicate (1 + j1) ([] : Row)) = 0 := by simp [tot]
  rw [t0] at i2
  -- the lists
  have K1 := okR_n (1 + j1) (by omega)
  have R1 := rangeD_n (1 + j1)
  have K2 := okR_n j2 (by omega)
  have R2 := rangeD_n j2
  rw [show (((1 + j1 : Nat)) : Int) = 1 + (j1 : Int) by omega] at K1 R1
  obtain ⟨_, rfl, hc⟩ := loopC_all (tg := fun x e => some (e.set 5 (some x))) (cond := fun e => evT tb (callF tb (k + 1)) .tt e) (elt := fun e => evE tb (callF tb (k + 1)) b20_3 e) (own := [5]) (fun (j : Nat) => D.int (j : Nat)) (fun _ => D.nd .lst true [])
    (fun e => e = [some (pil cs (n + 1 + 1 + 1) s3), some (.int (1 + (j1 : Int))), some (.int (j2 : Nat)), some (wD true W), none, none, none, none, none]) (List.range (1 + j1)) _ rfl (by
      rintro j hj _ rfl
      refine ⟨_, [some (pil cs (n + 1 + 1 + 1) s3), some (.int (1 + (j1 : Int))), some (.int (j2 : Nat)), some (wD true W), none, some (.int (j : Nat)), none, none, none], [some (pil cs (n + 1 + 1 + 1) s3), some (.int (1 + (j1 : Int))), some (.int (j2 : Nat)), some (wD true W), none, some (.int (j : Nat)), none, none, none], rfl, by simp, ?_, by simp⟩
      simp [b20_3])
  rw [roD0] at hc
  obtain ⟨_, rfl, hc2⟩ := loopC_all (tg := fun x e => some (e.set 8 (some x))) (cond := fun e => evT tb (callF tb (k + 1)) .tt e) (elt := fun e => evE tb (callF tb (k + 1)) b20_1 e) (own := [8]) (fun r : Row => D.nd .lst false (r.map dD)) rowD
    (fun e => e = [some (pil cs (n + 1 + 1 + 1 + 3 * (j2 : Int)) s4), some (.int (1 + (j1 : Int))), some (.int (j2 : Nat)), some (wD ow' W), some (.nd .lst false (R'.map fun r => D.nd .lst false (r.map dD))), kk', w6', w7', none]) R' _ rfl (by
      rintro r hr _ rfl
      have fr := fzL_row r
      have fr2 := frzL_row r
      refine ⟨_, [some (pil cs (n + 1 + 1 + 1 + 3 * (j2 : Int)) s4), some (.int (1 + (j1 : Int))), some (.int (j2 : Nat)), some (wD ow' W), some (.nd .lst false (R'.map fun r => D.nd .lst false (r.map dD))), kk', w6', w7', some (.nd .lst false (r.map dD))], [some (pil cs (n + 1 + 1 + 1 + 3 * (j2 : Int)) s4), some (.int (1 + (j1 : Int))), some (.int (j2 : Nat)), some (wD ow' W), some (.nd .lst false (R'.map fun r => D.nd .lst false (r.map dD))), kk', w6', w7', some (.nd .lst false (r.map dD))], rfl, by simp, ?_, by simp⟩
      generalize (R'.map fun r => D.nd .lst false (r.map dD)) = u at *
      generalize wD ow' W = w at *
      generalize pil cs (n + 1 + 1 + 1 + 3 * (j2 : Int)) s4 = p at *
      rw [rowD]
      generalize r.map dD = rr at *
      simp -implicitDefEqProofs [b20_1, fr, fr2])
  have okp : OkP R' := ⟨by omega, by omega, by omega, i3⟩
  refine ⟨R', n + 1 + 1 + 1 + 3 * (j2 : Int), s4, okp, by omega, by omega, ?_⟩
  have frR : (roD R').frz = .nd .lst false (R'.map fun r => D.nd .lst false (r.map dD)) := by rw [roD, frz_nd, frzL_ro]
  have nz : (roD R').fz = false := rfl
  have z6 : sizeLine ≥ 6 := by decide
  have z3 : sizeLine ≥ 3 := by decide
  have zR : (R'.map rowD).length ≤ sizeLine := sz_le (by simp only [List.length_map]; omega)
  have z0 : ((List.replicate (1 + j1) ([] : Row)).map fun r => D.nd .lst true (r.map dD)).length ≤ sizeLine := sz_le (by simp only [List.length_map, List.length_replicate]; omega)
  refine run_io (e := [some (pil cs (n + 1 + 1 + 1 + 3 * (j2 : Int)) s4), some (.int (1 + (j1 : Int))), some (.int (j2 : Nat)), some (wD ow' W), some (.nd .lst false (R'.map fun r => D.nd .lst false (r.map dD))), kk', w6', w7', none]) e20 rfl rfl rfl ?_ rfl
  have sq : seqD (.nd .lst false (R'.map fun r => D.nd .lst false (r.map dD))) = some (R'.map fun r => D.nd .lst false (r.map dD)) := rfl
  have fR : fzL (R'.map fun r => D.nd .lst false (r.map dD)) = true := by rw [← frzL_ro, frzL_fz]
  have fR2 := frzL_of_fz _ fR
  have wd6 : wD true W6 = .nd .lst true [.str "read", .str "write", .str "read", .str "write", .str "read", .str "write"] := rfl
  have wd3 : wD true W3 = .nd .lst true [.str "read", .str "write", .str "fence"] := rfl
  clear i1 i2 i3 okp t0 a1 a2 a3 a4 a5 a6 hn hW
  simp only [roD] at frR nz ih
  generalize hq : (R'.map fun r => D.nd .lst true (r.map dD)) = R1' at *
  generalize (R'.map fun r => D.nd .lst false (r.map dD)) = R0' at *
  rw [progD] at *
  generalize R'.map rowD = Pr at *
  generalize hq2 : ((List.replicate (1 + j1) ([] : Row)).map fun r => D.nd .lst true (r.map dD)) = L0 at *
  generalize (List.range (1 + j1)).map (fun (j : Nat) => D.int (j : Nat)) = r1 at *
  generalize (List.range j2).map (fun (j : Nat) => D.int (j : Nat)) = r2 at *
  try simp -implicitDefEqProofs at hc
  try simp -implicitDefEqProofs at hc2
  try simp -implicitDefEqProofs at ih
  rcases w0 with ⟨c, rfl⟩ | ⟨c, rfl⟩
  · subst c
    rw [wd3] at hc ih
    simp -implicitDefEqProofs [b20, C1, C2, C3, z6, z3, eqD_int, K1, R1, K2, R2, hc, z0, ih, frR, nz, sq, fR, fR2, hc2, zR]
  · rw [wd6] at hc ih
    simp -implicitDefEqProofs [b20, C1, C2, C3, c, z6, z3, eqD_int, K1, R1, K2, R2, hc, z0, ih, frR, nz, sq, fR, fR2, hc2, zR]
end K71

namespace K71
open PySem L2 PL
theorem e21 : tb.fns[21]? = some f21 := rfl
def oI (o : List Nat) : List Int := o.map fun (p : Nat) => ((p : Nat) : Int)
abbrev oD (o : List Nat) : D := tI (oI o)
theorem oI_count (o : List Nat) (p : Nat) : (oI o).count (p : Int) = o.count p := by
  induction o with
  | nil => rfl
  | cons a o ih =>
    simp only [oI] at ih
    simp only [oI, List.map_cons, List.count_cons, ih]
    congr 1
    by_cases c : a = p
    · simp [c]
    · have : ¬ (a : Int) = (p : Int) := by omega
      simp [c, this]
abbrev oL (ow : Bool) (O : List (List Nat)) : D := .nd .lst ow (O.map oD)
theorem frzL_oD (O : List (List Nat)) : frzL (O.map oD) = O.map oD := by
  have := frzL_tI (O.map oI)
  rw [List.map_map] at this
  exact this
theorem onward_len (P : Prog) (o : List Nat) : (onward P o).length ≤ P.length := by
  have := List.length_filter_le (left P o) (List.range P.length)
  simp only [List.length_range] at this
  simp only [onward, List.length_map]
  exact this
theorem flat_onward {P : Prog} (h : P.length ≤ 3) : ∀ l : List (List Nat), (l.flatMap (onward P)).length ≤ l.length * 3
  | [] => by simp
  | s :: l => by
    have a := onward_len P s
    have b := flat_onward h l
    simp only [List.flatMap_cons, List.length_append, List.length_cons]
    omega
theorem ords_len {P : Prog} (h : P.length ≤ 3) : ∀ d, (ords P d).length ≤ 3 ^ d
  | 0 => by simp [ords]
  | d + 1 => by
    have ih := ords_len h d
    have b := flat_onward h (ords P d)
    simp only [ords, Nat.pow_succ]
    omega
/-- the orders that go on from one -/
theorem step21 {k : Nat} {P : Prog} (h : OkP P) (o : List Nat) (N : List (List Nat)) (ho : o.length ≤ 10) (hN : N.length ≤ 900) (a1 a2 : Option D) :
    exSs tb (callF tb k) [] b21_4 [some (progD P), a1, a2, some (oL true N), some (oD o), none] = some (.val .nx [some (progD P), a1, a2, some (oL true (N ++ onward P o)), some (oD o), none]) := by
  have few := h.few
  have fp : (progD P).fz = true := by rw [← frz_progD, frz_fz]
  have fo : (oD o).fz = true := fz_tI (oI o)
  obtain ⟨_, rfl, hc⟩ := loopC_flt (tg := fun x e => some (e.set 5 (some x))) (cond := fun e => evT tb (callF tb k) b21_3 e) (elt := fun e => evE tb (callF tb k) b21_2 e) (own := [5]) (fun (j : Nat) => D.int (j : Nat)) (left P o) (fun (p : Nat) => oD (o ++ [p]))
    (fun e => e = [some (progD P), a1, a2, some (oL false N), some (oD o), none]) (List.range P.length) _ rfl (by
      rintro j hj _ rfl
      have hj : j < P.length := by simpa using hj
      have S : subD (progD P) (.int (j : Nat)) = some (rowD (row P j)) := by
        simp only [progD, subD, PL.atI_nat, List.getElem?_map]
        rw [List.getElem?_eq_getElem hj, row_eq hj]
        rfl
      have B : bmD .count (oD o) [.int (j : Nat)] = some (.int (o.count j : Nat)) := by simp [intsD_map, oI_count]
      have okb : okB .count (oD o) = true := rfl
      have L : biD .len (rowD (row P j)) = some (.int ((row P j).length : Nat)) := by simp
      have A : binD .add (oD o) (.nd .tup false [.int (j : Nat)]) = some (oD (o ++ [j])) := by
        simp only [tI, iL, oI, binD, List.length_map, List.length_singleton]
        rw [if_pos (sz_le (by omega))]
        simp [oI, iL]
      have D : decide ((o.count j : Int) < ((row P j).length : Int)) = left P o j := by
        simp only [left]
        congr 1
        simp
      have z1 : sizeLine ≥ 1 := by decide
      have D2 : ((o.count j : Int) < ((row P j).length : Int)) ↔ left P o j = true := by rw [← D]; simp
      refine ⟨_, [some (progD P), a1, a2, some (oL false N), some (oD o), some (.int (j : Nat))], rfl, ?_, fun _ => by simp, fun _ => ⟨[some (progD P), a1, a2, some (oL false N), some (oD o), some (.int (j : Nat))], ?_, by simp⟩⟩
      · rw [← D]
        generalize progD P = pd at *
        generalize oL false N = on at *
        generalize oD o = od at *
        generalize rowD (row P j) = rd at *
        simp -implicitDefEqProofs [b21_3, fp, fo, S, okb, B, L]
      · generalize progD P = pd at *
        generalize oL false N = on at *
        generalize oD (o ++ [j]) = od2 at *
        generalize oD o = od at *
        simp -implicitDefEqProofs [b21_2, fo, A, z1])
  have R := rangeD_n P.length
  have K := okR_n P.length (by omega)
  have L : biD .len (progD P) = some (.int (P.length : Nat)) := by simp
  have hl := onward_len P o
  have z1 : (((List.range P.length).filter (left P o)).map fun (p : Nat) => oD (o ++ [p])).length ≤ sizeLine := sz_le (by simp only [onward, List.length_map] at hl ⊢; omega)
  have A : binD .add (oL false N) (.nd .lst true (((List.range P.length).filter (left P o)).map fun (p : Nat) => oD (o ++ [p]))) = some (oL true (N ++ onward P o)) := by
    simp only [onward, List.length_map] at hl
    simp only [oL, binD, List.length_map]
    rw [if_pos (sz_le (by omega))]
    simp [onward]
  have fN : (oL true N).frz = oL false N := by rw [frz_nd, frzL_oD]
  have fN2 : (oL true N).fz = false := rfl
  generalize (((List.range P.length).filter (left P o)).map fun (p : Nat) => oD (o ++ [p])) = ws at *
  generalize progD P = pd at *
  generalize oL true (N ++ onward P o) = r at *
  generalize oL true N = n1 at *
  generalize oL false N = n0 at *
  generalize oD o = od at *
  try simp -implicitDefEqProofs at hc
  simp -implicitDefEqProofs [b21_4, fp, fo, fN, fN2, L, K, R, hc, z1, A]
end K71

namespace K71
open PySem L2 PL
theorem ords_long {P : Prog} : ∀ d, ∀ o ∈ ords P d, o.length = d
  | 0, o, h => by simp only [ords, List.mem_singleton] at h; subst h; rfl
  | d + 1, o, h => by
    simp only [ords, List.mem_flatMap] at h
    obtain ⟨o0, h1, h2⟩ := h
    obtain ⟨p, _, _, rfl⟩ := mem_onward.mp h2
    simp [ords_long d o0 h1]
theorem turn21 {k : Nat} {P : Prog} (h : OkP P) (O : List (List Nat)) (hO : ∀ o ∈ O, o.length ≤ 10) (hz : O.length * 3 ≤ 900) (ow : Bool) (a2 a3 a4 : Option D) :
    ∃ a4', exSs tb (callF tb k) [] b21_5 [some (progD P), some (oL ow O), a2, a3, a4, none] = some (.val .nx [some (progD P), some (oL true (O.flatMap (onward P))), a2, none, a4', none]) := by
  obtain ⟨e', h1, a4', rfl⟩ := loopF_do (tg := fun x e => some (e.set 4 (some x))) (b := fun e => exSs tb (callF tb k) [] b21_4 e) oD
    (fun p e => ∃ a4', e = [some (progD P), some (oL false O), a2, some (oL true (p.flatMap (onward P))), a4', none]) O
    [some (progD P), some (oL false O), a2, some (.nd .lst true []), a4, none] ⟨a4, rfl⟩ (by
    rintro p o q hp _ ⟨a4', rfl⟩
    have ho : o ∈ O := by rw [hp]; simp
    have hl : p.length ≤ O.length := by rw [hp]; simp
    have b := flat_onward h.few p
    exact ⟨_, _, rfl, step21 (k := k) h o _ (hO o ho) (by omega) (some (oL false O)) a2, some (oD o), by rw [List.flatMap_append]; simp⟩)
  refine ⟨a4', ?_⟩
  have fl : (oL ow O).frz = oL false O := by rw [frz_nd, frzL_oD]
  have ff : (oL false O).fz = true := by rw [← fl, frz_fz]
  have ff2 := frz_of_fz _ ff
  have sq : seqD (oL false O) = some (O.map oD) := rfl
  have is : isLst (oL false O) = true := rfl
  have fz2 : (oL ow O).fz = true → oL ow O = oL false O := fun z => by rw [← frz_of_fz _ z, fl]
  generalize oL true (O.flatMap (onward P)) = r at *
  generalize oL ow O = w1 at *
  generalize oL false O = w at *
  generalize O.map oD = sl at *
  generalize progD P = pd at *
  try simp -implicitDefEqProofs at h1
  cases c : w1.fz with
  | true =>
    have q := fz2 c
    subst q
    simp -implicitDefEqProofs [b21_5, ff, ff2, sq, is, h1]
  | false => simp -implicitDefEqProofs [b21_5, c, fl, ff, ff2, sq, is, h1]
/-- _law_orders -/
theorem run21 (k : Nat) (P : Prog) (h : OkP P) : callF tb (k + 1) 21 [progD P] = some (.val (oL true (ords P (tot P))) []) := by
  have few := h.few
  have all := h.all
  obtain ⟨e', h1, a2, a4, rfl⟩ := loopF_do (tg := fun x e => some (e.set 2 (some x))) (b := fun e => exSs tb (callF tb k) [] b21_5 e) (fun (j : Nat) => D.int (j : Nat))
    (fun p e => ∃ a2 a4, e = [some (progD P), some (oL true (ords P p.length)), a2, none, a4, none]) (List.range (tot P))
    [some (progD P), some (oL true (ords P 0)), none, none, none, none] ⟨none, none, rfl⟩ (by
    rintro p j q hp _ ⟨a2, a4, rfl⟩
    have hl : p.length < tot P := by
      have := congrArg List.length hp
      simp at this
      omega
    have sl := ords_len few p.length
    have p3 : 3 ^ p.length ≤ 3 ^ 5 := Nat.pow_le_pow_right (by omega) (by omega)
    obtain ⟨a4', hx⟩ := turn21 (k := k) h (ords P p.length) (fun o ho => by rw [ords_long _ o ho]; omega) (by omega) true (some (.int (j : Nat))) none a4
    exact ⟨_, _, rfl, hx, some (.int (j : Nat)), a4', by simp [ords]⟩)
  rw [List.length_range] at h1
  obtain ⟨_, rfl, hc⟩ := loopC_all (tg := fun x e => some (e.set 4 (some x))) (cond := fun e => evT tb (callF tb k) .tt e) (elt := fun e => evE tb (callF tb k) b21_1 e) (own := [4]) rowD (fun r => D.int (r.length : Nat))
    (fun e => e = [some (progD P), some (oL true (ords P 0)), none, none, none, none]) P _ rfl (by
      rintro r hr _ rfl
      refine ⟨_, [some (progD P), some (oL true (ords P 0)), none, none, some (rowD r), none], [some (progD P), some (oL true (ords P 0)), none, none, some (rowD r), none], rfl, by simp, ?_, by simp⟩
      simp -implicitDefEqProofs [b21_1])
  have z : (P.map fun r => D.int (r.length : Nat)).length ≤ sizeLine := sz_le (by simp only [List.length_map]; omega)
  have I : intsD (P.map fun r => D.int (r.length : Nat)) = some (P.map fun r => ((r.length : Nat) : Int)) := by
    have := intsD_map (P.map fun r => ((r.length : Nat) : Int))
    rw [List.map_map] at this
    exact this
  have st := sum_tot P
  have S : biD .sum (.nd .lst true (P.map fun r => D.int (r.length : Nat))) = some (.int (tot P : Nat)) := by simp only [biD, I, Option.map_some, st]
  have R := rangeD_n (tot P)
  have K := okR_n (tot P) (by omega)
  have fp : (progD P).fz = true := by rw [← frz_progD, frz_fz]
  have fp2 := frz_of_fz _ fp
  have sq : seqD (progD P) = some (P.map rowD) := rfl
  have is : isLst (progD P) = false := rfl
  refine run_rt (e := [some (progD P), none, a2, none, a4, none]) e21 rfl rfl rfl ?_
  rw [show oL true (ords P 0) = .nd .lst true [.nd .tup false []] from rfl] at h1 hc
  generalize oL true (ords P (tot P)) = r at *
  generalize (P.map fun r => D.int (r.length : Nat)) = ls at *
  generalize P.map rowD = rs at *
  generalize progD P = pd at *
  have z1 : sizeLine ≥ 1 := by decide
  try simp -implicitDefEqProofs at h1
  try simp -implicitDefEqProofs at hc
  simp -implicitDefEqProofs [b21, z1, fp, fp2, sq, is, hc, z, S, K, R, h1]
end K71

namespace K71
open PySem L2 PL
theorem e22 : tb.fns[22]? = some f22 := rfl
abbrev lO (l : List Int) : D := .nd .lst true (iL l)
abbrev lT (l : List (List Int)) : D := .nd .lst true (l.map tI)
theorem sub_frz (l : List Int) (p : Nat) (v : Int) (h : l[p]? = some v) : subD (lO l).frz (.int (p : Nat)) = some (.int v) := by
  rw [frz_nd, frzL_ints]
  simp [PL.atI_nat, h]
theorem sub_frzT (l : List (List Int)) (p : Nat) (v : List Int) (h : l[p]? = some v) : subD (lT l).frz (.int (p : Nat)) = some (tI v) := by
  rw [frz_nd, frzL_tI]
  simp [PL.atI_nat, h]
theorem set_lT (l : List (List Int)) (p : Nat) (v : List Int) (h : p < l.length) : setD (lT l) (.int (p : Nat)) (tI v) = some (lT (l.set p v)) := by
  simp only [lT, setD, List.length_map, ixN_nat h, Option.map_some, List.map_set]
theorem set_lO (s : List Int) (p : Nat) (v : Int) (h : p < s.length) : setD (lO s) (.int (p : Nat)) (.int v) = some (lO (s.set p v)) := set_tI s p v h
abbrev env22 (P : Prog) (a1 a3 a4 a8 a9 : Option D) (st : LS) : PL.Env := [some (progD P), a1, some (lO st.fst), a3, a4, some (lO st.at_), some (lT st.ans), some (lO st.cel), a8, a9]
theorem nf_tI (l : List Int) : (tI l).nf = true := by
  rw [tI, D.nf]
  exact nfL_ints l
theorem step22 {k : Nat} {P : Prog} (h : OkP P) {st : LS} {p : Nat} (w : Wy P st) (c : can P st p) (a1 a3 a4 a9 : Option D) :
    exSs tb (callF tb k) [] b22_1 (env22 P a1 a3 a4 (some (.int (p : Nat))) a9 st) = some (.val .nx (env22 P a1 a3 a4 (some (.int (p : Nat))) (some (dD (deed P st p))) (stp P st p))) := by
  have hp := c.1
  obtain ⟨i, h1, h2, h3, h4⟩ := w.at0 p hp
  have g1 : st.at_.getD p 0 = i := by simp [List.getD, h1]
  have hc := c.2
  rw [g1] at hc
  simp only [Int.toNat_natCast] at hc
  have hd : deed P st p = (row P p)[i] := by simp [deed, List.getD, h1, hc]
  have hm : deed P st p ∈ row P p := by rw [hd]; exact List.getElem_mem hc
  obtain ⟨r, hr, hdr⟩ := mem_row hm
  have ok := h.dd r hr _ hdr
  have la : p < st.at_.length := by rw [w.l2]; exact hp
  have lf : p < st.fst.length := by rw [w.l1]; exact hp
  have ln : p < st.ans.length := by rw [w.l3]; exact hp
  have S1 : subD (progD P).frz (.int (p : Nat)) = some (rowD (row P p)) := by
    rw [frz_progD]
    simp only [progD, subD, PL.atI_nat, List.getElem?_map]
    rw [List.getElem?_eq_getElem hp, row_eq hp]
    rfl
  have S2 : subD (rowD (row P p)) (.int (i : Nat)) = some (dD (deed P st p)) := by
    simp [PL.atI_nat, hc, hd]
  have A1 := sub_frz st.at_ p i h1
  have A2 := set_lO st.at_ p ((i : Int) + 1) la
  have F1 := sub_frz st.fst p _ h3
  have F2 := set_lO st.fst p (st.fst.getD p 0 + 1) lf
  have gf : st.fst.getD p 0 = cwP (P.take p) + cwI ((row P p).take i) := by simp [List.getD, h3]
  rw [← gf] at F1
  have F3 := sub_frz (st.fst.set p (st.fst.getD p 0 + 1)) p (st.fst.getD p 0 + 1) (by simp [lf])
  have T1 := sub_frzT st.ans p (st.ans.getD p []) (get_getD ln)
  have fd := fz_dD (deed P st p)
  have nd := nf_dD (deed P st p)
  have frd := frz_dD (deed P st p)
  have w0 := nm_w (deed P st p)
  have r0 := nm_r (deed P st p)
  have ep : ∀ e : PL.Env, (D.int (p : Nat)).frz = .int (p : Nat) := fun _ => rfl
  unfold stp
  rw [show env22 P a1 a3 a4 (some (.int (p : Nat))) a9 st = [some (progD P), a1, some (lO st.fst), a3, a4, some (lO st.at_), some (lT st.ans), some (lO st.cel), some (.int (p : Nat)), a9] from rfl]
  generalize hdd : deed P st p = d at *
  cases d with
  | fc =>
    simp only [isW, isR] at w0 r0
    have e0 : subD (dD .fc) (.int 0) = some (.str (nm .fc)) := by simp [lnD]
    rw [show env22 P a1 a3 a4 (some (.int (p : Nat))) (some (dD .fc)) (stepD .fc st p) = [some (progD P), a1, some (lO st.fst), a3, a4, some (lO (st.at_.set p ((i : Int) + 1))), some (lT st.ans), some (lO st.cel), some (.int (p : Nat)), some (dD .fc)] by simp only [env22, stepD, g1]]
    generalize nm .fc = x at *
    generalize dD .fc = dd at *
    generalize lO (st.at_.set p ((i : Int) + 1)) = at2 at *
    generalize lO st.at_ = at1 at *
    generalize lO st.fst = fs at *
    generalize lT st.ans = an at *
    generalize lO st.cel = ce at *
    generalize rowD (row P p) = rr at *
    generalize progD P = pd at *
    simp -implicitDefEqProofs [b22_1, S1, S2, A1, A2, fd, nd, frd, e0, w0, r0]
  | wr l =>
    simp only [isW, isR] at w0 r0
    simp only [okD] at ok
    obtain ⟨j, rfl⟩ : ∃ j : Nat, l = (j : Int) := ⟨l.toNat, by omega⟩
    have e0 : subD (dD (.wr (j : Nat))) (.int 0) = some (.str (nm (.wr (j : Nat)))) := by simp [lnD]
    have e1 : subD (dD (.wr (j : Nat))) (.int 1) = some (.int (j : Nat)) := by simp [lnD]
    have C2 := set_lO st.cel j (st.fst.getD p 0 + 1) (by rw [w.l4]; omega)
    rw [show env22 P a1 a3 a4 (some (.int (p : Nat))) (some (dD (.wr (j : Nat)))) (stepD (.wr (j : Nat)) st p) = [some (progD P), a1, some (lO (st.fst.set p (st.fst.getD p 0 + 1))), a3, a4, some (lO (st.at_.set p ((i : Int) + 1))), some (lT st.ans), some (lO (st.cel.set j (st.fst.getD p 0 + 1))), some (.int (p : Nat)), some (dD (.wr (j : Nat)))] by simp only [env22, stepD, g1, Int.toNat_natCast]]
    generalize nm (.wr (j : Nat)) = x at *
    generalize dD (.wr (j : Nat)) = dd at *
    generalize lO (st.at_.set p ((i : Int) + 1)) = at2 at *
    generalize lO (st.fst.set p (st.fst.getD p 0 + 1)) = fs2 at *
    generalize lO (st.cel.set j (st.fst.getD p 0 + 1)) = ce2 at *
    generalize lO st.at_ = at1 at *
    generalize lO st.fst = fs at *
    generalize lT st.ans = an at *
    generalize lO st.cel = ce at *
    generalize rowD (row P p) = rr at *
    generalize progD P = pd at *
    generalize st.fst.getD p 0 = v at *
    simp -implicitDefEqProofs [b22_1, S1, S2, A1, A2, F1, F2, F3, C2, fd, nd, frd, e0, e1, w0, r0]
  | rd l =>
    simp only [isW, isR] at w0 r0
    simp only [okD] at ok
    obtain ⟨j, rfl⟩ : ∃ j : Nat, l = (j : Int) := ⟨l.toNat, by omega⟩
    have e0 : subD (dD (.rd (j : Nat))) (.int 0) = some (.str (nm (.rd (j : Nat)))) := by simp [lnD]
    have e1 : subD (dD (.rd (j : Nat))) (.int 1) = some (.int (j : Nat)) := by simp [lnD]
    have hj : j < st.cel.length := by rw [w.l4]; omega
    have C1 := sub_frz st.cel j (iget st.cel (j : Nat)) (by simp only [iget, Int.toNat_natCast]; exact get_getD hj)
    have T2 := set_lT st.ans p (st.ans.getD p [] ++ [iget st.cel (j : Nat)]) ln
    have pdl := (wy_pd w).le p hp
    have rl := cr_le (row P p)
    have rl2 : (row P p).length ≤ 6 := by rw [row_eq hp]; exact h.row (List.getElem_mem hp)
    have B : binD .add (tI (st.ans.getD p [])) (.nd .tup false [.int (iget st.cel (j : Nat))]) = some (tI (st.ans.getD p [] ++ [iget st.cel (j : Nat)])) := by
      simp only [tI, iL, binD, List.length_map, List.length_singleton]
      rw [if_pos (sz_le (by omega))]
      simp
    have nt := nf_tI (st.ans.getD p [] ++ [iget st.cel (j : Nat)])
    have z1 : sizeLine ≥ 1 := by decide
    rw [show env22 P a1 a3 a4 (some (.int (p : Nat))) (some (dD (.rd (j : Nat)))) (stepD (.rd (j : Nat)) st p) = [some (progD P), a1, some (lO st.fst), a3, a4, some (lO (st.at_.set p ((i : Int) + 1))), some (lT (st.ans.set p (st.ans.getD p [] ++ [iget st.cel (j : Nat)]))), some (lO st.cel), some (.int (p : Nat)), some (dD (.rd (j : Nat)))] by simp only [env22, stepD, g1]]
    generalize nm (.rd (j : Nat)) = x at *
    generalize dD (.rd (j : Nat)) = dd at *
    generalize lO (st.at_.set p ((i : Int) + 1)) = at2 at *
    generalize lT (st.ans.set p (st.ans.getD p [] ++ [iget st.cel (j : Nat)])) = an2 at *
    generalize tI (st.ans.getD p [] ++ [iget st.cel (j : Nat)]) = t2 at *
    generalize tI (st.ans.getD p []) = t1 at *
    generalize iget st.cel (j : Nat) = v at *
    generalize lO st.at_ = at1 at *
    generalize lO st.fst = fs at *
    generalize lT st.ans = an at *
    generalize lO st.cel = ce at *
    generalize rowD (row P p) = rr at *
    generalize progD P = pd at *
    simp -implicitDefEqProofs [b22_1, S1, S2, A1, A2, T1, T2, C1, B, nt, z1, fd, nd, frd, e0, e1, w0, r0]
end K71

namespace K71
open PySem L2 PL
/-- how many writes a row has -/
theorem wr22 {o : Orc} (a0 a1 a2 a3 a5 a6 a7 a8 : Option D) (r : Row) (hz : r.length ≤ 900) :
    evE tb o (.lc b22_4 (.v 9) (.seqT (.var 4)) b22_5 [9]) [a0, a1, a2, a3, some (rowD r), a5, a6, a7, a8, none] = some (.val (.nd .lst true ((r.filter isW).map dD)) [a0, a1, a2, a3, some (rowD r), a5, a6, a7, a8, none]) := by
  obtain ⟨_, rfl, hc⟩ := loopC_flt (tg := fun x e => some (e.set 9 (some x))) (cond := fun e => evT tb o b22_5 e) (elt := fun e => evE tb o b22_4 e) (own := [9]) dD isW dD
    (fun e => e = [a0, a1, a2, a3, some (rowD r), a5, a6, a7, a8, none]) r _ rfl (by
      rintro d hd _ rfl
      have fz := fz_dD d
      have hr := nm_w d
      refine ⟨_, [a0, a1, a2, a3, some (rowD r), a5, a6, a7, a8, some (dD d)], rfl, ?_, fun _ => by simp, fun _ => ⟨[a0, a1, a2, a3, some (rowD r), a5, a6, a7, a8, some (dD d)], ?_, by simp⟩⟩
      · have e0 : subD (dD d) (.int 0) = some (.str (nm d)) := by simp
        generalize nm d = x at *
        generalize dD d = dd at *
        generalize rowD r = rr at *
        simp -implicitDefEqProofs [b22_5, hr, fz, e0]
      · generalize dD d = x at fz ⊢
        generalize rowD r = rr at *
        simp -implicitDefEqProofs [b22_4, fz])
  have z : ((r.filter isW).map dD).length ≤ sizeLine := sz_le (by
    have := List.length_filter_le isW r
    simp; omega)
  have fr : (rowD r).fz = true := by rw [← frz_rowD, frz_fz]
  have fr2 := frz_of_fz _ fr
  have sq : seqD (rowD r) = some (r.map dD) := rfl
  have is : isLst (rowD r) = false := rfl
  generalize hv : (r.filter isW).map dD = v at hc z ⊢
  generalize r.map dD = rs at *
  generalize rowD r = rr at *
  try simp -implicitDefEqProofs at hc
  simp -implicitDefEqProofs [hc, z, fr, fr2, sq, is]
theorem step22b {o : Orc} (a0 a1 a5 a6 a7 a8 : Option D) (F : List Int) (w : Int) (r : Row) (hz : r.length ≤ 900) (hF : F.length ≤ 900) :
    exSs tb o [] b22_6 [a0, a1, some (lO F), some (.int w), some (rowD r), a5, a6, a7, a8, none] = some (.val .nx [a0, a1, some (lO (F ++ [w])), some (.int (w + cwI r)), some (rowD r), a5, a6, a7, a8, none]) := by
  have E := wr22 (o := o) a0 a1 (some (lO (F ++ [w]))) (some (.int w)) a5 a6 a7 a8 r hz
  have L : biD .len (.nd .lst true ((r.filter isW).map dD)) = some (.int (cwI r)) := by simp [cwI, cw]
  have A : muD .append (lO F) [.int w] = some (.non, lO (F ++ [w])) := by
    have : (iL F).length < sizeLine := small _ (by simp only [List.length_map]; omega)
    simp only [lO, muD, this, if_true]
    simp
  have W : walkD tb.attr [] (lO F) = some (lO F) := rfl
  generalize D.nd .lst true ((r.filter isW).map dD) = ws at *
  rw [show lO F = .nd .lst true (iL F) from rfl] at *
  generalize lO (F ++ [w]) = f2 at *
  generalize iL F = ff at *
  generalize rowD r = rr at *
  simp only [b22_6, eq_exSs_82, eq_exSs_83, eq_exS_63]
  rw [show (exS tb o [] (.ex (.mu .append 2 .n (.c (.h (.var 3)) .n))) [a0, a1, some (.nd .lst true ff), some (.int w), some rr, a5, a6, a7, a8, none]) = some (.val .nx [a0, a1, some f2, some (.int w), some rr, a5, a6, a7, a8, none]) by
    simp -implicitDefEqProofs only [eq_exS_71, eq_evE_30, at_succ, at_zero, bnd_val, eq_evPs_53, W]
    simp -implicitDefEqProofs [A]]
  simp -implicitDefEqProofs only [bnd_val, eq_evE_14, eq_evE_27]
  rw [show evE tb o (.var 3) [a0, a1, some f2, some (.int w), some rr, a5, a6, a7, a8, none] = some (.val (.int w) [a0, a1, some f2, some (.int w), some rr, a5, a6, a7, a8, none]) by simp]
  simp -implicitDefEqProofs only [bnd_val]
  rw [E]
  simp -implicitDefEqProofs [L]
theorem firsts_app (w : Int) (p q : Prog) : firsts w (p ++ q) = firsts w p ++ firsts (w + cwP p) q := by
  induction p generalizing w with
  | nil => simp [firsts, cwP]
  | cons r p ih =>
    have e : cwP (r :: p) = cwI r + cwP p := by simp [cwP]
    simp [firsts, ih, e, Int.add_assoc]
theorem fill22 {o : Orc} (P : Prog) (h : OkP P) (a1 a5 a6 a7 a8 : Option D) :
    ∃ a4, loopF (fun x e => some (e.set 4 (some x))) (fun e => exSs tb o [] b22_6 e) (P.map rowD) [some (progD P), a1, some (.nd .lst true []), some (.int 0), none, a5, a6, a7, a8, none]
      = some (.val .nx [some (progD P), a1, some (lO (firsts 0 P)), some (.int (cwP P)), a4, a5, a6, a7, a8, none]) := by
  have few := h.few
  obtain ⟨e', h1, a4, rfl⟩ := loopF_do (tg := fun x e => some (e.set 4 (some x))) (b := fun e => exSs tb o [] b22_6 e) rowD
    (fun p e => ∃ a4, e = [some (progD P), a1, some (lO (firsts 0 p)), some (.int (0 + cwP p)), a4, a5, a6, a7, a8, none]) P
    [some (progD P), a1, some (.nd .lst true []), some (.int 0), none, a5, a6, a7, a8, none] ⟨none, rfl⟩ (by
    rintro p r q hp _ ⟨a4, rfl⟩
    have hr : r ∈ P := by rw [hp]; simp
    have hl : p.length ≤ 3 := by rw [hp] at few; simp at few; omega
    have := h.row hr
    refine ⟨_, _, rfl, step22b (o := o) (some (progD P)) a1 a5 a6 a7 a8 (firsts 0 p) (0 + cwP p) r (by omega) (by rw [firsts_len]; omega), some (rowD r), ?_⟩
    rw [firsts_app, cwP_app, cwP_1, Int.add_assoc]
    simp [firsts])
  refine ⟨a4, ?_⟩
  rw [Int.zero_add] at h1
  exact h1
end K71

namespace K71
open PySem L2 PL
/-- each turn of an order can be done -/
theorem ords_pre {P : Prog} : ∀ d, ∀ o ∈ ords P d, ∀ a p b, o = a ++ p :: b → a ∈ ords P a.length ∧ p < P.length ∧ a.count p < (row P p).length
  | 0, o, h, a, p, b, e => by
    simp only [ords, List.mem_singleton] at h
    subst h
    simp at e
  | d + 1, o, h, a, p, b, e => by
    simp only [ords, List.mem_flatMap] at h
    obtain ⟨o0, h1, h2⟩ := h
    obtain ⟨q, hq, hc, rfl⟩ := mem_onward.mp h2
    have hl := ords_long d o0 h1
    rcases List.eq_nil_or_concat b with rfl | ⟨b', z, rfl⟩
    · have := List.append_inj_left' e (by simp)
      have e2 := List.append_inj_right' e (by simp)
      simp at e2
      subst this e2
      exact ⟨by rw [hl]; exact h1, hq, hc⟩
    · rw [List.concat_eq_append, ← List.cons_append, ← List.append_assoc] at e
      have := List.append_inj_left' e (by simp)
      exact ords_pre d o0 h1 a p b' this
/-- _law_done -/
theorem run22 (k : Nat) (P : Prog) (h : OkP P) (d : Nat) (o : List Nat) (ho : o ∈ ords P d) : callF tb (k + 1) 22 [progD P, oD o] = some (.val (tII (run P o).ans) []) := by
  obtain ⟨a4, L1⟩ := fill22 (o := callF tb k) P h (some (oD o)) none none none none
  have few := h.few
  obtain ⟨e', L2, a8, a9, rfl⟩ := loopF_do (tg := fun x e => some (e.set 8 (some x))) (b := fun e => exSs tb (callF tb k) [] b22_1 e) (fun p : Nat => D.int (p : Nat))
    (fun p e => ∃ a8 a9, e = env22 P (some (oD o)) (some (.int (cwP P))) none a8 a9 (run P p)) o
    (env22 P (some (oD o)) (some (.int (cwP P))) none none none (st0 P)) ⟨none, none, rfl⟩ (by
    rintro a p b hp _ ⟨a8, a9, rfl⟩
    obtain ⟨h1, h2, h3⟩ := ords_pre d o ho a p b hp
    have w := ords_or h a.length a h1
    have S := step22 (k := k) h w.wy (can_of w h2 h3) (some (oD o)) (some (.int (cwP P))) none a9
    exact ⟨_, _, rfl, S, some (.int (p : Nat)), some (dD (deed P (run P a) p)), by rw [run_snoc]⟩)
  -- at, answers
  obtain ⟨_, rfl, c1⟩ := loopC_all (tg := fun x e => some (e.set 4 (some x))) (cond := fun e => evT tb (callF tb k) .tt e) (elt := fun e => evE tb (callF tb k) b22_3 e) (own := [4]) rowD (fun _ => D.int 0)
    (fun e => e = [some (progD P), some (oD o), some (lO (firsts 0 P)), some (.int (cwP P)), none, none, none, none, none, none]) P _ rfl (by
      rintro r hr _ rfl
      refine ⟨_, [some (progD P), some (oD o), some (lO (firsts 0 P)), some (.int (cwP P)), some (rowD r), none, none, none, none, none], [some (progD P), some (oD o), some (lO (firsts 0 P)), some (.int (cwP P)), some (rowD r), none, none, none, none, none], rfl, by simp, ?_, by simp⟩
      simp [b22_3])
  obtain ⟨_, rfl, c2⟩ := loopC_all (tg := fun x e => some (e.set 4 (some x))) (cond := fun e => evT tb (callF tb k) .tt e) (elt := fun e => evE tb (callF tb k) b22_2 e) (own := [4]) rowD (fun _ => D.nd .tup false [])
    (fun e => e = [some (progD P), some (oD o), some (lO (firsts 0 P)), some (.int (cwP P)), none, some (lO (st0 P).at_), none, none, none, none]) P _ rfl (by
      rintro r hr _ rfl
      refine ⟨_, [some (progD P), some (oD o), some (lO (firsts 0 P)), some (.int (cwP P)), some (rowD r), some (lO (st0 P).at_), none, none, none, none], [some (progD P), some (oD o), some (lO (firsts 0 P)), some (.int (cwP P)), some (rowD r), some (lO (st0 P).at_), none, none, none, none], rfl, by simp, ?_, by simp⟩
      simp [b22_2])
  have z1 : (P.map fun _ => D.int 0).length ≤ sizeLine := sz_le (by simp only [List.length_map]; omega)
  have z2 : (P.map fun _ => D.nd .tup false []).length ≤ sizeLine := sz_le (by simp only [List.length_map]; omega)
  have z3 : sizeLine ≥ 2 := by decide
  have E1 : D.nd .lst true (P.map fun _ => D.int 0) = lO (st0 P).at_ := by simp [st0, lO, iL]
  have E2 : D.nd .lst true (P.map fun _ => D.nd .tup false []) = lT (st0 P).ans := by simp [st0, lT, tI, iL]
  have E3 : D.nd .lst true [.int 0, .int 0] = lO (st0 P).cel := rfl
  have fp : (progD P).fz = true := by rw [← frz_progD, frz_fz]
  have fp2 := frz_of_fz _ fp
  have fo : (oD o).fz = true := fz_tI (oI o)
  have fo2 := frz_of_fz _ fo
  have sq : seqD (progD P) = some (P.map rowD) := rfl
  have is : isLst (progD P) = false := rfl
  have sq2 : seqD (oD o) = some (o.map fun p : Nat => D.int (p : Nat)) := by simp [oI, iL, tI]
  have is2 : isLst (oD o) = false := rfl
  have fn : (lT (run P o).ans).fz = false := rfl
  have rn : biD .tuple (lT (run P o).ans).frz = some (tII (run P o).ans) := by rw [frz_nd, frzL_tI]; rfl
  refine run_rt (e := [some (progD P), some (oD o), some (lO (run P o).fst), some (.int (cwP P)), none, some (lO (run P o).at_), some (lT (run P o).ans).frz, some (lO (run P o).cel), a8, a9]) e22 rfl rfl rfl ?_
  rw [show env22 P (some (oD o)) (some (.int (cwP P))) none none none (st0 P) = [some (progD P), some (oD o), some (lO (firsts 0 P)), some (.int (cwP P)), none, some (lO (st0 P).at_), some (lT (st0 P).ans), some (lO (st0 P).cel), none, none] from rfl,
    show env22 P (some (oD o)) (some (.int (cwP P))) none a8 a9 (run P o) = [some (progD P), some (oD o), some (lO (run P o).fst), some (.int (cwP P)), none, some (lO (run P o).at_), some (lT (run P o).ans), some (lO (run P o).cel), a8, a9] from rfl] at L2
  generalize tII (run P o).ans = res at *
  generalize lT (run P o).ans = x1 at *
  generalize lO (run P o).fst = x2 at *
  generalize lO (run P o).at_ = x3 at *
  generalize lO (run P o).cel = x4 at *
  generalize lT (st0 P).ans = y1 at *
  generalize lO (st0 P).at_ = y3 at *
  generalize lO (st0 P).cel = y4 at *
  generalize lO (firsts 0 P) = y2 at *
  generalize (P.map fun _ => D.int 0) = u1 at *
  generalize (P.map fun _ => D.nd .tup false []) = u2 at *
  generalize P.map rowD = rs at *
  generalize (o.map fun p : Nat => D.int (p : Nat)) = os at *
  generalize progD P = pd at *
  generalize oD o = od at *
  try simp -implicitDefEqProofs at c1
  try simp -implicitDefEqProofs at c2
  try simp -implicitDefEqProofs at L1
  try simp -implicitDefEqProofs at L2
  simp -implicitDefEqProofs [b22, fp, fp2, sq, is, L1, c1, z1, E1, c2, z2, E2, z3, E3, fo, fo2, sq2, is2, L2, fn, rn]
end K71

namespace K71
open PySem L2 PL
abbrev kII (a : List (List Int)) : NK := .tup (a.map kI)
def unII : NK → List (List Int)
  | .tup ks => ks.map unI
  | _ => []
theorem unII_kII (a : List (List Int)) : unII (kII a) = a := by
  simp only [unII, kII, List.map_map]
  conv => rhs; rw [← List.map_id a]
  exact List.map_congr_left fun l _ => unI_kI l
theorem kII_inj : ∀ a b, kII a = kII b → a = b := fun a b h => by rw [← unII_kII a, h, unII_kII]
theorem nkeyL_tI : ∀ l : List (List Int), nkeyL (l.map tI) = some (l.map kI)
  | [] => rfl
  | a :: l => by
    have h := nkey_tI a
    simp only [List.map_cons, nkeyL, nkeyL_tI l, h]
theorem depth_kII (a : List (List Int)) : (kII a).depth ≤ 2 := by
  have : ∀ l : List (List Int), NestedKey.depthAll (l.map kI) ≤ 1 := fun l => by
    induction l with
    | nil => simp [NestedKey.depthAll]
    | cons x l ih =>
      have := depth_kI x
      simp only [List.map_cons, NestedKey.depthAll]
      omega
  have h := this a
  simp only [kII, NestedKey.depth]
  omega
theorem nkey_tII (a : List (List Int)) : (tII a).nkey = some (kII a) := by simp only [tII, D.nkey, nkeyL_tI, Option.map_some]
theorem tkey_tII (a : List (List Int)) : (tII a).tkey = some (kII a) := by
  have h := nkey_tII a
  have d := depth_kII a
  simp only [tII] at h
  simp only [tII, D.tkey, h, Option.bind_some]
  rw [if_pos (by omega)]
theorem keyN_kII (a : List (List Int)) : keyN (kII a) = tII a := by simp only [keyN, keyNL_kI]
theorem keyNL_kII (l : List (List (List Int))) : keyNL (l.map kII) = l.map tII := by
  rw [keyNL_map, List.map_map]
  exact List.map_congr_left fun x _ => keyN_kII x
theorem nkeyL_tII : ∀ l : List (List (List Int)), nkeyL (l.map tII) = some (l.map kII)
  | [] => rfl
  | a :: l => by
    have h := nkey_tII a
    simp only [List.map_cons, nkeyL, nkeyL_tII l, h]
abbrev kTT (o : Bool) (ks : List (List (List Int))) : D := tT o (ks.map kII)
theorem setD_kTT {ks : List (List (List Int))} {k : List (List Int)} (hz : ks.length ≤ 1000) : setD (kTT true ks) (tII k) (.bl true) = some (kTT true (ins ks k)) := by
  have := setD_tT (ks := ks.map kII) (d := tII k) (k := kII k) (tkey_tII k) rfl (by rw [List.length_map]; exact small _ hz)
  rw [this, kTT, ins_map kII kII_inj]
theorem list_kTT (o : Bool) (ks : List (List (List Int))) : biD .list (kTT o ks) = some (.nd .lst true (ks.map tII)) := by rw [kTT, list_tT, keyNL_kII]
theorem frz_kTT (o : Bool) (ks : List (List (List Int))) : (kTT o ks).frz = kTT false ks := by
  have : ∀ l : List NK, frzL (l.map fun _ => D.bl true) = l.map fun _ => D.bl true := fun l => by
    induction l with
    | nil => rfl
    | cons a l ih => simp [ih]
  cases ks with
  | nil => rfl
  | cons a l =>
    have e := this (kII a :: l.map kII)
    simp only [List.map_cons] at e
    simp only [kTT, tT, List.map_cons, frz_nd, e]
theorem fz_kTT (ks : List (List (List Int))) : (kTT true ks).fz = false := by cases ks <;> rfl
theorem ok_kIs : ∀ a b : List (List Int), cmpOkL (a.map kI) (b.map kI) = true
  | [], _ => by simp only [List.map_nil, cmpOkL]
  | _ :: _, [] => by simp only [List.map_nil, List.map_cons, cmpOkL]
  | x :: a, y :: b => by simp only [List.map_cons, cmpOkL, ok_kI, ok_kIs a b, Bool.and_self]
theorem ok_kII (a b : List (List Int)) : cmpOk (kII a) (kII b) = true := by simp only [kII, cmpOk, ok_kIs]
theorem sortOk_kII {ks : List (List (List Int))} (hz : ks.length ≤ 1000) (h : ∀ k ∈ ks, k ≠ []) : sortOk (ks.map kII) = true := by
  have a1 : (ks.map kII).all tupK = true := by simp [tupK]
  have a2 : decide ((ks.map kII).length ≤ sizeLine) = true := by
    rw [List.length_map]
    exact decide_eq_true (sz_le hz)
  have a4 : (ks.map kII).all (fun k => decide (k.depth ≤ 8)) = true := by
    simp only [List.all_map, List.all_eq_true, Function.comp_apply, decide_eq_true_eq]
    exact fun a _ => Nat.le_trans (depth_kII a) (by omega)
  have a5 : (ks.map kII).all (fun a => (ks.map kII).all fun b => cmpOk a b) = true := by
    simp only [List.all_map, List.all_eq_true, Function.comp_apply]
    exact fun a _ b _ => ok_kII a b
  have a3 : (ks.map kII).all fstTup = true := by
    simp only [List.all_map, List.all_eq_true, Function.comp_apply]
    intro k hk
    cases k with
    | nil => exact absurd rfl (h _ hk)
    | cons i k => rfl
  simp only [sortOk, a1, a2, a3, a4, a5, Bool.and_self, Bool.or_true]
theorem sorted_tII {ks : List (List (List Int))} (hz : ks.length ≤ 1000) (h : ∀ k ∈ ks, k ≠ []) (o : Bool) : biD .sorted (.nd .lst o (ks.map tII)) = some (.nd .lst true (keyNL (sortN (ks.map kII)))) := by
  have s := sortOk_kII hz h
  have n := nkeyL_tII ks
  cases ks with
  | nil => simp [biD, intsD, sortI, sortN, keyNL]
  | cons a l =>
    have i : intsD ((a :: l).map tII) = none := rfl
    simp only [biD, i, n, Option.bind_some, s, if_true]
/-! the due outcomes -/
def dueK (P : Prog) : List (List (List Int)) := insL [] ((ords P (tot P)).map fun o => (run P o).ans)
theorem e23 : tb.fns[23]? = some f23 := rfl
theorem due_ne {P : Prog} (h : OkP P) : ∀ k ∈ dueK P, k ≠ [] := fun k hk => by
  rcases mem_insL.mp hk with z | z
  · simp at z
  · obtain ⟨o, ho, rfl⟩ := List.mem_map.mp z
    have l3 := (ords_or h _ o ho).wy.l3
    have pos := h.pos
    intro e
    rw [e, List.length_nil] at l3
    omega
theorem due_few {P : Prog} (h : OkP P) : (dueK P).length ≤ 729 := by
  have a := insL_len ((ords P (tot P)).map fun o => (run P o).ans) []
  have b := ords_len h.few (tot P)
  have c := pow3 h.all
  simp only [List.length_nil, List.length_map] at a
  simp only [dueK]
  omega
/-- _law_due -/
theorem run23 (k : Nat) (P : Prog) (h : OkP P) : callF tb (k + 2) 23 [progD P] = some (.val (.nd .lst true (keyNL (sortN ((dueK P).map kII)))) []) := by
  have few := due_few h
  have C21 : ∀ e, runCall tb (callF tb (k + 1)) 21 [.d (progD P)] e = some (.val (oL true (ords P (tot P))) e) := fun e => call1 e21 rfl (by rw [frz_progD]; exact run21 k P h)
  obtain ⟨e', h1, a2, rfl⟩ := loopF_do (tg := fun x e => some (e.set 2 (some x))) (b := fun e => exSs tb (callF tb (k + 1)) [] b23_1 e) oD
    (fun p e => ∃ a2, e = [some (progD P), some (kTT true (insL [] (p.map fun o => (run P o).ans))), a2]) (ords P (tot P))
    [some (progD P), some (.nd (.dk []) true []), none] ⟨none, rfl⟩ (by
    rintro p o q hp _ ⟨a2, rfl⟩
    have ho : o ∈ ords P (tot P) := by rw [hp]; simp
    have hl : p.length ≤ (ords P (tot P)).length := by rw [hp]; simp
    have fo : (oD o).fz = true := fz_tI (oI o)
    have fo2 := frz_of_fz _ fo
    have C22 : ∀ e, runCall tb (callF tb (k + 1)) 22 [.d (progD P), .d (oD o)] e = some (.val (tII (run P o).ans) e) := fun e => call2 e22 rfl (by rw [frz_progD, fo2]; exact run22 k P h _ o ho)
    have b := ords_len h.few (tot P)
    have c := pow3 h.all
    have S := setD_kTT (ks := insL [] (p.map fun o => (run P o).ans)) (k := (run P o).ans) (by
      have a := insL_len (p.map fun o => (run P o).ans) []
      simp only [List.length_nil, List.length_map] at a
      omega)
    have fp : (progD P).fz = true := by rw [← frz_progD, frz_fz]
    refine ⟨_, _, rfl, ?_, some (oD o), rfl⟩
    rw [List.map_append, insL_app]
    rw [show insL (insL [] (p.map fun o => (run P o).ans)) ([o].map fun o => (run P o).ans) = ins (insL [] (p.map fun o => (run P o).ans)) (run P o).ans from rfl]
    generalize kTT true (ins (insL [] (p.map fun o => (run P o).ans)) (run P o).ans) = v at *
    generalize kTT true (insL [] (p.map fun o => (run P o).ans)) = u at *
    generalize tII (run P o).ans = t at *
    generalize oD o = od at *
    generalize progD P = pd at *
    simp -implicitDefEqProofs [b23_1, fp, fo, C22, S])
  have S := sorted_tII (ks := dueK P) (by omega) (due_ne h) true
  have L := list_kTT false (dueK P)
  have fk := fz_kTT (dueK P)
  have rk := frz_kTT true (dueK P)
  have fp : (progD P).fz = true := by rw [← frz_progD, frz_fz]
  have sq : seqD (oL true (ords P (tot P))).frz = some ((ords P (tot P)).map oD) := by rw [frz_nd, frzL_oD]; rfl
  have is : isLst (oL true (ords P (tot P))) = true := rfl
  refine run_rt (e := [some (progD P), some (kTT false (dueK P)), a2]) e23 rfl rfl rfl ?_
  rw [show insL [] ((ords P (tot P)).map fun o => (run P o).ans) = dueK P from rfl] at h1
  generalize D.nd .lst true (keyNL (sortN ((dueK P).map kII))) = res at *
  generalize D.nd .lst true ((dueK P).map tII) = l1 at *
  generalize kTT true (dueK P) = k1 at *
  generalize kTT false (dueK P) = k0 at *
  generalize (ords P (tot P)).map oD = os at *
  generalize oL true (ords P (tot P)) = ol at *
  generalize progD P = pd at *
  try simp -implicitDefEqProofs at h1
  simp -implicitDefEqProofs [b23, fp, C21, sq, is, h1, fk, rk, L, S]
end K71

namespace K71
open PySem L2 PL
/-! both sides tell the same -/
theorem sum_set (l : List Int) (p : Nat) (v : Int) (h : p < l.length) : (l.set p v).sum = l.sum + v - l.getD p 0 := by
  induction l generalizing p with
  | nil => simp at h
  | cons a l ih =>
    cases p with
    | zero => simp; omega
    | succ p =>
      have := ih p (by simpa using h)
      simp only [List.set_cons_succ, List.sum_cons, List.getD_cons_succ, this]
      omega
theorem at_sum {P : Prog} (h : OkP P) : ∀ d, ∀ o ∈ ords P d, (run P o).at_.sum = (d : Int)
  | 0, o, ho => by
    simp only [ords, List.mem_singleton] at ho
    subst ho
    simp [run, st0, List.map_const']
  | d + 1, o', ho => by
    simp only [ords, List.mem_flatMap] at ho
    obtain ⟨o, h1, h2⟩ := ho
    obtain ⟨p, hp, hc, rfl⟩ := mem_onward.mp h2
    have ih := at_sum h d o h1
    have w := ords_or h d o h1
    rw [run_snoc, at_stp, sum_set _ _ _ (by rw [w.wy.l2]; exact hp), ih]
    omega
theorem sum_eq : ∀ (a : List Int) (P : Prog), a.length = P.length → (∀ p < P.length, ∃ i : Nat, a[p]? = some (i : Int) ∧ i ≤ (row P p).length) → a.sum = (tot P : Nat) → ∀ p < P.length, a[p]? = some ((row P p).length : Int)
  | [], [], _, _, _, p, hp => by simp at hp
  | [], _ :: _, h, _, _, _, _ => by simp at h
  | _ :: _, [], h, _, _, _, _ => by simp at h
  | x :: a, r :: P, hl, hb, hs, p, hp => by
    have hb' : ∀ p < P.length, ∃ i : Nat, a[p]? = some (i : Int) ∧ i ≤ (row P p).length := fun q hq => by
      obtain ⟨i, h1, h2⟩ := hb (q + 1) (by simpa using hq)
      exact ⟨i, by simpa using h1, by simpa [row] using h2⟩
    have le : ∀ (a : List Int) (P : Prog), a.length = P.length → (∀ p < P.length, ∃ i : Nat, a[p]? = some (i : Int) ∧ i ≤ (row P p).length) → a.sum ≤ (tot P : Nat) := by
      intro a
      induction a with
      | nil => intro P h _; cases P with
        | nil => simp [tot]
        | cons _ _ => simp at h
      | cons x a ih => intro P h hb; cases P with
        | nil => simp at h
        | cons r P =>
          have := ih P (by simpa using h) (fun q hq => by
            obtain ⟨i, h1, h2⟩ := hb (q + 1) (by simpa using hq)
            exact ⟨i, by simpa using h1, by simpa [row] using h2⟩)
          obtain ⟨i, h1, h2⟩ := hb 0 (by simp)
          simp [row] at h1 h2
          simp only [tot] at this
          simp only [tot, List.map_cons, List.sum_cons]
          omega
    have l2 := le a P (by simpa using hl) hb'
    obtain ⟨i, h1, h2⟩ := hb 0 (by simp)
    simp [row] at h1 h2
    have hs' := hs
    simp only [tot] at l2
    simp only [tot, List.map_cons, List.sum_cons] at hs'
    cases p with
    | zero => simp [row]; omega
    | succ p =>
      have := sum_eq a P (by simpa using hl) hb' (by simp only [tot]; omega) p (by simpa using hp)
      simpa [row] using this
theorem full {P : Prog} (h : OkP P) {o : List Nat} (ho : o ∈ ords P (tot P)) : ∀ p < P.length, ((run P o).ans.getD p []).length = cr (row P p) := fun p hp => by
  have w := (ords_or h _ o ho).wy
  have e := sum_eq (run P o).at_ P w.l2 (fun q hq => by
    obtain ⟨i, h1, h2, _⟩ := w.at0 q hq
    exact ⟨i, h1, h2⟩) (at_sum h _ o ho) p hp
  obtain ⟨i, h1, h2, h3, h4⟩ := w.at0 p hp
  rw [e] at h1
  have : i = (row P p).length := by
    have := Option.some.inj h1
    omega
  rw [h4, this, List.take_length]
theorem pad_full : ∀ {P : Prog} {a : List (List Int)}, a.length = P.length → (∀ p < P.length, (a.getD p []).length = cr (row P p)) → pad P a = a
  | [], [], _, _ => rfl
  | [], _ :: _, h, _ => by simp at h
  | _ :: _, [], h, _ => by simp at h
  | r :: P, x :: a, h, hl => by
    have h0 := hl 0 (by simp)
    simp [row] at h0
    rw [pad_cons, pad_full (by simpa using h) (fun p hp => by
      have := hl (p + 1) (by simpa using hp)
      simpa [row] using this), h0]
    simp
theorem cut_flat : ∀ {P : Prog} {a : List (List Int)} (pre : List Int), a.length = P.length → (∀ p < P.length, (a.getD p []).length = cr (row P p)) → cutR (pre ++ a.flatten) pre.length P = a
  | [], [], _, _, _ => rfl
  | [], _ :: _, _, h, _ => by simp at h
  | _ :: _, [], _, h, _ => by simp at h
  | r :: P, x :: a, pre, h, hl => by
    have h0 := hl 0 (by simp)
    simp [row] at h0
    have ih := cut_flat (P := P) (a := a) (pre ++ x) (by simpa using h) (fun p hp => by
      have := hl (p + 1) (by simpa using hp)
      simpa [row] using this)
    simp only [cutR, List.flatten_cons]
    rw [← h0]
    rw [show pre.length + x.length = (pre ++ x).length by simp, ← List.append_assoc pre x, ih]
    congr 1
    simp
theorem mem_ans {P : Prog} (h : OkP P) (a : List Int) : a ∈ ansK P ↔ ∃ o ∈ ords P (tot P), a = (run P o).ans.flatten := by
  simp only [ansK, mem_insL, List.not_mem_nil, false_or, List.mem_map]
  have key : ∀ o ∈ ords P (tot P), thr P (flat P (run P o)) = (run P o).ans.flatten := fun o ho => by
    have w := (ords_or h _ o ho).wy
    rw [thr, flat, pad_full w.l3 (full h ho)]
    rw [show P.length + (LN P).length = ((run P o).at_ ++ (LN P).map (iget (run P o).cel)).length by simp [w.l2]]
    simp
  constructor
  · rintro ⟨s, hs, rfl⟩
    obtain ⟨o, ho, rfl⟩ := (mem_stands h _ s).mp hs
    exact ⟨o, ho, key o ho⟩
  · rintro ⟨o, ho, rfl⟩
    exact ⟨_, (mem_stands h _ _).mpr ⟨o, ho, rfl⟩, key o ho⟩
theorem cut_run {P : Prog} (h : OkP P) {o : List Nat} (ho : o ∈ ords P (tot P)) : cutR (run P o).ans.flatten 0 P = (run P o).ans := by
  have w := (ords_or h _ o ho).wy
  have := cut_flat [] w.l3 (full h ho)
  simpa using this
/-! the order of rows -/
theorem cmpNL_app : ∀ (a b c d : List NK), a.length = b.length → cmpNL (a ++ c) (b ++ d) = (cmpNL a b).then (cmpNL c d)
  | [], [], c, d, _ => by simp [cmpNL]
  | [], _ :: _, _, _, h => by simp at h
  | _ :: _, [], _, _, h => by simp at h
  | x :: a, y :: b, c, d, h => by
    have ih := cmpNL_app a b c d (by simpa using h)
    simp only [List.cons_append, cmpNL, ih]
    cases cmpN x y <;> rfl
theorem cmp_rows : ∀ (P : Prog) (a b : List Int) (n : Nat), a.length = n + crN P → b.length = n + crN P → cmpNL ((cutR a n P).map kI) ((cutR b n P).map kI) = cmpNL ((a.drop n).map .num) ((b.drop n).map .num)
  | [], a, b, n, ha, hb => by
    simp only [crN, Nat.add_zero] at ha hb
    rw [List.drop_of_length_le (by omega), List.drop_of_length_le (by omega)]
    rfl
  | r :: P, a, b, n, ha, hb => by
    simp only [crN] at ha hb
    have ih := cmp_rows P a b (n + cr r) (by omega) (by omega)
    simp only [cutR, List.map_cons, cmpNL, ih]
    have e : ∀ x : List Int, x.drop n = (x.drop n).take (cr r) ++ x.drop (n + cr r) := fun x => by
      rw [← List.drop_drop, List.take_append_drop]
    conv => rhs; rw [e a, e b, List.map_append, List.map_append, cmpNL_app _ _ _ _ (by simp; omega)]
    simp only [kI, cmpN]
    cases cmpNL (((a.drop n).take (cr r)).map NestedKey.num) (((b.drop n).take (cr r)).map NestedKey.num) <;> rfl
theorem outs_due {P : Prog} (h : OkP P) : (outs P).map kII = sortN ((dueK P).map kII) := by
  obtain ⟨s1, s2, s3⟩ := srt_spec (ansK P)
  have hl := ansK_len h
  have hlen : ∀ a ∈ ansK P, a.length = crN P := fun a ha => by
    have := hl a ha
    rw [crP_N] at this
    omega
  refine sortN_unique (fun a ha b hb => ?_) (List.Perm.map _ ?_) ?_
  · obtain ⟨a', _, rfl⟩ := List.mem_map.mp ha
    obtain ⟨b', _, rfl⟩ := List.mem_map.mp hb
    exact ok_kII a' b'
  · have n1 : (outs P).Nodup := by
      have nd : (srt (ansK P)).Nodup := s2.nodup_iff.mpr (nodup_insL List.nodup_nil)
      rw [List.Nodup, outs, List.pairwise_map]
      refine List.Pairwise.imp_of_mem (fun {a b} ha hb (hne : a ≠ b) e => hne ?_) nd
      obtain ⟨o1, ho1, rfl⟩ := (mem_ans h a).mp (s2.mem_iff.mp ha)
      obtain ⟨o2, ho2, rfl⟩ := (mem_ans h b).mp (s2.mem_iff.mp hb)
      rw [cut_run h ho1, cut_run h ho2] at e
      rw [e]
    have n2 : (dueK P).Nodup := nodup_insL List.nodup_nil
    refine (List.perm_ext_iff_of_nodup n1 n2).mpr fun x => ?_
    simp only [outs, List.mem_map, s2.mem_iff, dueK, mem_insL, List.not_mem_nil, false_or]
    constructor
    · rintro ⟨a, ha, rfl⟩
      obtain ⟨o, ho, rfl⟩ := (mem_ans h a).mp ha
      exact ⟨o, ho, (cut_run h ho).symm⟩
    · rintro ⟨o, ho, rfl⟩
      exact ⟨_, (mem_ans h _).mpr ⟨o, ho, rfl⟩, cut_run h ho⟩
  · rw [List.pairwise_map, outs, List.pairwise_map]
    refine List.Pairwise.imp_of_mem (fun {a b} ha hb e => ?_) s3
    have la := hlen a (s2.mem_iff.mp ha)
    have lb := hlen b (s2.mem_iff.mp hb)
    have c := cmp_rows P b a 0 (by omega) (by omega)
    simp only [List.drop_zero] at c
    simp only [ltN, kII, cmpN, c]
    simpa [ltN, kI, cmpN] using e
end K71

namespace K71
open PySem L2 PL
theorem e24 : tb.fns[24]? = some f24 := rfl
theorem e25 : tb.fns[25]? = some f25 := rfl
abbrev lIII (A : List (List (List Int))) : D := .nd .lst false (A.map tII)
theorem frzL_tII (A : List (List (List Int))) : frzL (A.map tII) = A.map tII := by
  induction A with
  | nil => rfl
  | cons p l ih => rw [List.map_cons, frzL_c, ih, frz_nd, frzL_tI]
theorem fz_tIII (A : List (List (List Int))) : (tIII A).fz = true := by
  have : (tIII A).frz = tIII A := by rw [frz_nd, frzL_tII]
  rw [← this, frz_fz]
theorem fz_lIII (A : List (List (List Int))) : (lIII A).fz = true := by
  have : (lIII A).frz = lIII A := by rw [frz_nd, frzL_tII]
  rw [← this, frz_fz]
/-- no odd answer -/
theorem odd24 {o : Orc} (a0 a1 a2 : Option D) (r : List Int) (hz : r.length ≤ 900) :
    exSs tb o [] b24_3 [a0, a1, a2, some (tI r), none] = some (.val .nx [a0, a1, a2, some (tI r), none]) := by
  obtain ⟨_, rfl, hc⟩ := loopC_flt (tg := fun x e => some (e.set 4 (some x))) (cond := fun e => evT tb o b24_2 e) (elt := fun e => evE tb o b24_1 e) (own := [4]) D.int (fun _ => false) D.int
    (fun e => e = [a0, a1, a2, some (tI r), none]) r _ rfl (by
      rintro d hd _ rfl
      refine ⟨_, [a0, a1, a2, some (tI r), some (.int d)], rfl, ?_, fun _ => by simp, fun z => by cases z⟩
      have t1 : isD (.int d) [.bool] = some false := rfl
      have t2 : isD (.int d) [.int] = some true := rfl
      generalize tI r = rr at *
      simp -implicitDefEqProofs [b24_2, t1, t2])
  have hf : r.filter (fun _ => false) = [] := by
    induction r with
    | nil => rfl
    | cons a l ih => simp
  rw [hf, List.map_nil] at hc
  have f1 := fz_tI r
  have f2 := frz_of_fz _ f1
  have t1 : isD (tI r) [.tuple] = some true := rfl
  have sq : seqD (tI r) = some (iL r) := rfl
  have is : isLst (tI r) = false := rfl
  rw [show r.map D.int = iL r from rfl] at hc
  generalize iL r = rl at *
  generalize tI r = rr at *
  try simp -implicitDefEqProofs at hc
  simp -implicitDefEqProofs [b24_3, f1, f2, t1, sq, is, hc]
theorem row24 {o : Orc} (A : List (List (List Int))) (j : Nat) (a : List (List Int)) (hj : A[j]? = some a) (ha : ∀ r ∈ a, r.length ≤ 900) (a3 : Option D) :
    ∃ a3', exSs tb o [] b24_4 [some (tIII A), some (lIII A), some (.int (j : Nat)), a3, none] = some (.val .nx [some (tIII A), some (lIII A), some (.int (j : Nat)), a3', none]) := by
  obtain ⟨e', h1, a3', rfl⟩ := loopF_do (tg := fun x e => some (e.set 3 (some x))) (b := fun e => exSs tb o [] b24_3 e) tI
    (fun p e => ∃ a3', e = [some (tIII A), some (lIII A), some (.int (j : Nat)), a3', none]) a
    [some (tIII A), some (lIII A), some (.int (j : Nat)), a3, none] ⟨a3, rfl⟩ (by
    rintro p r q hp _ ⟨a3', rfl⟩
    have hr : r ∈ a := by rw [hp]; simp
    exact ⟨_, _, rfl, odd24 (some (tIII A)) (some (lIII A)) (some (.int (j : Nat))) r (ha r hr), some (tI r), rfl⟩)
  refine ⟨a3', ?_⟩
  have fT := fz_tIII A
  have fL := fz_lIII A
  have S1 : subD (tIII A) (.int (j : Nat)) = some (tII a) := by simp [PL.atI_nat, hj]
  have S2 : subD (lIII A) (.int (j : Nat)) = some (tII a) := by simp [PL.atI_nat, hj]
  have t1 : isD (tII a) [.tuple] = some true := rfl
  have E : eqD (tII a) (tII a) = some true := by rw [eqD_tII]; simp
  have fa : (tII a).frz = tII a := by rw [frz_nd, frzL_tI]
  have sq : seqD (tII a) = some (a.map tI) := rfl
  have is : isLst (tII a) = false := rfl
  generalize a.map tI = al at *
  generalize tII a = aa at *
  generalize tIII A = x1 at *
  generalize lIII A = x2 at *
  try simp -implicitDefEqProofs at h1
  simp -implicitDefEqProofs [b24_4, fT, fL, S1, S2, t1, E, fa, sq, is, h1]
/-- _law_holds -/
theorem run24 (k : Nat) (A : List (List (List Int))) (hA : A.length ≤ 1000) (ha : ∀ a ∈ A, ∀ r ∈ a, r.length ≤ 900) : callF tb (k + 1) 24 [tIII A, lIII A] = some (.val (.bl true) []) := by
  obtain ⟨e', h1, a2, a3, rfl⟩ := loopF_do (tg := fun x e => some (e.set 2 (some x))) (b := fun e => exSs tb (callF tb k) [] b24_4 e) (fun j : Nat => D.int (j : Nat))
    (fun p e => ∃ a2 a3, e = [some (tIII A), some (lIII A), a2, a3, none]) (List.range A.length)
    [some (tIII A), some (lIII A), none, none, none] ⟨none, none, rfl⟩ (by
    rintro p j q hp _ ⟨a2, a3, rfl⟩
    have hj : j < A.length := by
      have : j ∈ List.range A.length := by rw [hp]; simp
      simpa using this
    obtain ⟨a3', h⟩ := row24 (o := callF tb k) A j A[j] (List.getElem?_eq_getElem hj) (ha _ (List.getElem_mem hj)) a3
    exact ⟨_, _, rfl, h, some (.int (j : Nat)), a3', rfl⟩)
  have fT := fz_tIII A
  have fL := fz_lIII A
  have t1 : isD (tIII A) [.tuple] = some true := rfl
  have l1 : biD .len (tIII A) = some (.int (A.length : Nat)) := by simp
  have l2 : biD .len (lIII A) = some (.int (A.length : Nat)) := by simp
  have R := rangeD_n A.length
  have K := okR_n A.length hA
  refine run_rt (e := [some (tIII A), some (lIII A), a2, a3, none]) e24 rfl rfl rfl ?_
  generalize tIII A = x1 at *
  generalize lIII A = x2 at *
  try simp -implicitDefEqProofs at h1
  simp -implicitDefEqProofs [b24, fT, fL, t1, l1, l2, eqD_int, R, K, h1]
theorem outs_few {P : Prog} (h : OkP P) : (outs P).length ≤ 1000 := by
  obtain ⟨s1, s2, s3⟩ := srt_spec (ansK P)
  have := ansK_few h
  simp only [outs, List.length_map, s2.length_eq]
  omega
theorem outs_short {P : Prog} (h : OkP P) : ∀ a ∈ outs P, ∀ r ∈ a, r.length ≤ 900 := by
  have key : ∀ (x : List Int) (P : List Row) (n : Nat), (∀ r ∈ P, r.length ≤ 6) → ∀ r ∈ cutR x n P, r.length ≤ 900 := by
    intro x P
    induction P with
    | nil => intro n _ r hr; simp [cutR] at hr
    | cons q P ih =>
      intro n hP r hr
      simp only [cutR, List.mem_cons] at hr
      rcases hr with rfl | hr
      · have := cr_le q
        have := hP q (by simp)
        simp
        omega
      · exact ih _ (fun r hr => hP r (by simp [hr])) r hr
  rintro a ha r hr
  simp only [outs, List.mem_map] at ha
  obtain ⟨x, _, rfl⟩ := ha
  exact key x P 0 (fun r hr => h.row hr) r hr
theorem due_eq {P : Prog} (h : OkP P) : D.nd .lst true (keyNL (sortN ((dueK P).map kII))) = .nd .lst true ((outs P).map tII) := by rw [← outs_due h, keyNL_kII]
theorem OkP.take {P : Prog} (h : OkP P) : OkP (P.take 2) := by
  have t : ∀ (n : Nat) (P : Prog), tot (P.take n) ≤ tot P := by
    intro n
    induction n with
    | zero => intro P; simp [tot]
    | succ n ih => intro P; cases P with
      | nil => simp [tot]
      | cons r P =>
        have := ih P
        simp only [tot] at this
        simp only [tot, List.take_succ_cons, List.map_cons, List.sum_cons]
        omega
  exact ⟨by have := h.pos; simp; omega, by have := h.few; simp; omega, Nat.le_trans (t 2 P) h.all, fun r hr => h.dd r (List.mem_of_mem_take hr)⟩
theorem cut2 (P : Prog) : cutOf (progD P) none (some 2) = some (progD (P.take 2)) := by
  simp only [progD, cutOf, cutD, List.length_map, HT.sIx_none]
  rw [show (2 : Int) = ((2 : Nat) : Int) from rfl, HT.sIx_nat]
  simp only [List.drop_zero, Nat.sub_zero, ← List.map_take]
  congr 3
  by_cases c : 2 ≤ P.length
  · rw [Nat.min_eq_left c]
  · rw [Nat.min_eq_right (by omega), List.take_of_length_le (Nat.le_refl _), List.take_of_length_le (by omega)]
def depth : Nat := 12
theorem room : Room (2 * depth) callerA := ⟨rfl, by decide, by decide⟩
theorem law_runs : ∀ ns : List Int, ns.length ≤ 63 → callF tb depth 25 [scriptD ns] = some (.val (.bl true) []) := by
  intro ns hns
  obtain ⟨P, n1, s1, hP, p1, p2, R1⟩ := run20 9 ns 0 0 ⟨by omega, by omega⟩
  obtain ⟨O, n2, s2, hO, q1, q2, R2⟩ := run20 9 ns n1 s1 ⟨by omega, by omega⟩
  have C20a : ∀ i e, Env.at e i = some (pil ns 0 0) → runCall tb (callF tb 11) 20 [.r i] e = some (.val (progD P) ((e.set i none).set i (some (pil ns n1 s1)))) := fun i e he => callR0 e20 rfl he R1
  have C20b : ∀ i e, Env.at e i = some (pil ns n1 s1) → runCall tb (callF tb 11) 20 [.r i] e = some (.val (progD O) ((e.set i none).set i (some (pil ns n2 s2)))) := fun i e he => callR0 e20 rfl he R2
  have C23 : ∀ Q : Prog, OkP Q → ∀ e, runCall tb (callF tb 11) 23 [.d (progD Q)] e = some (.val (.nd .lst true ((outs Q).map tII)) e) := fun Q hQ e => call1 e23 rfl (by rw [frz_progD, ← due_eq hQ]; exact run23 9 Q hQ)
  have C18 : ∀ Q : Prog, OkP Q → ∀ e, runCall tb (callF tb 11) 18 [.d (progD Q)] e = some (.val (tIII (outs Q)) e) := fun Q hQ e => call1 e18 rfl (by rw [frz_progD]; exact run18 5 Q hQ)
  have C16 : ∀ e, runCall tb (callF tb 11) 16 [.d (progD P)] e = some (.val (.bl true) e) := fun e => call1 e16 rfl (by rw [frz_progD]; exact run16 7 P hP)
  have H : ∀ Q : Prog, OkP Q → ∀ (d : D), d.frz = lIII (outs Q) → ∀ e, runCall tb (callF tb 11) 24 [.d (tIII (outs Q)), .d d] e = some (.val (.bl true) e) := fun Q hQ d hd e => call2 e24 rfl (by rw [frz_of_fz _ (fz_tIII _), hd]; exact run24 10 _ (outs_few hQ) (outs_short hQ))
  have fr : ∀ Q : Prog, (D.nd .lst true ((outs Q).map tII)).frz = lIII (outs Q) := fun Q => by rw [frz_nd, frzL_tII]
  have nf : ∀ Q : Prog, (D.nd .lst true ((outs Q).map tII)).fz = false := fun Q => rfl
  have O2 := hO.take
  have C23P := C23 P hP
  have C18P := C18 P hP
  have C23O := C23 (O.take 2) O2
  have C18O := C18 (O.take 2) O2
  have H1 := H P hP _ (fr P)
  have fL := fz_lIII (outs P)
  have H2 := H P hP (lIII (outs P)) (frz_of_fz _ fL)
  have H3 := H (O.take 2) O2 _ (fr (O.take 2))
  have frP := fr P
  have nfP := nf P
  have cu := cut2 O
  have fp : (progD P).fz = true := by rw [← frz_progD, frz_fz]
  have fo : (progD O).fz = true := by rw [← frz_progD, frz_fz]
  have fi : fzL (iL ns) = true := by
    have e := frzL_ints ns
    rw [show iL ns = ns.map D.int from rfl, ← e, frzL_fz]
  have cs : cstD (.nd .lst true (iL ns)) = some (.nd .cl false (iL ns)) := by
    have : fzL (iL ns) = true := fi
    simp only [cstD, this, if_true]
  have z3 : sizeLine ≥ 3 := by decide
  have fs : (scriptD ns).fz = true := by
    simp only [fz_nd, Bool.not_false, Bool.true_and]
    exact fi
  have ls : biD .list (scriptD ns) = some (.nd .lst true (iL ns)) := rfl
  show runFn tb (callF tb 11) 25 [scriptD ns] = _
  refine run_rt (e := [some (scriptD ns), some (pil ns n2 s2), some (progD P), some (progD O), some (lIII (outs P))]) e25 rfl rfl rfl ?_
  rw [show pil ns 0 0 = .nd .lst true [.nd .cl false (iL ns), .int 0, .int 0] from rfl] at C20a
  generalize D.nd .lst true ((outs P).map tII) = d1 at *
  generalize D.nd .lst true ((outs (O.take 2)).map tII) = d2 at *
  generalize lIII (outs P) = l1 at *
  generalize tIII (outs P) = t1 at *
  generalize tIII (outs (O.take 2)) = t2 at *
  generalize progD (O.take 2) = po2 at *
  generalize progD P = pp at *
  generalize progD O = po at *
  rw [show scriptD ns = .nd .cl false (iL ns) from rfl] at *
  generalize iL ns = cl at *
  simp -implicitDefEqProofs [b25, fs, ls, cs, z3, C20a, C20b, fp, fo, C23P, C16, C18P, H1, nfP, frP, cu, C18O, C23O, H3, fL, H2]
end K71

open PySem PySem.W PySem.Calls PyProof.Rows
set_option maxRecDepth 100000 in
set_option maxHeartbeats 0 in
theorem PySem.Challenge.cw_keptinstep_k71_all_orders_of_one_memory_holds : PySem.Challenge.rw_keptinstep_k71_all_orders_of_one_memory.Holds := by
  w_on; o_law
  refine HandSHeadRun.head_any (r := OpenLaw.row PySem.Challenge.rw_keptinstep_k71_all_orders_of_one_memory) (q := view (OpenLaw.row PySem.Challenge.rw_keptinstep_k71_all_orders_of_one_memory).prog [33]) (H := K71.hk) (ob := K71.ob) (M := 3000) (loose := K71.names) (d := HandSHeadRun.topDef (OpenLaw.row PySem.Challenge.rw_keptinstep_k71_all_orders_of_one_memory).prog 33) (kwd := []) K71.ob_eq
    (by kernel_rfl) (fun s => by kernel_rfl) K71.hd_run (by kernel_rfl) (by kernel_rfl) (by kernel_rfl) (by rfl) (by first | assumption | decide +kernel) (by decide +kernel) ⟨rfl, rfl, rfl, rfl, rfl, by decide +kernel⟩ ?hw ?hc
  case hw => w_witness2
  case hc =>
    refine PL.walkP (l := PySem.Challenge.rw_keptinstep_k71_all_orders_of_one_memory) (k := 2 * K71.depth) rfl (by kernel_rfl) K71.room ?F
    intro w mg fa h Y G hmg0
    obtain ⟨K, KX, c⟩ := Y
    have hmg : mg ("law" : PySem.Str) = some (.ref fa) := by
      have e : (HandSHeadRun.topDef (OpenLaw.row PySem.Challenge.rw_keptinstep_k71_all_orders_of_one_memory).prog 33).name = ("law" : PySem.Str) := by kernel_rfl
      rw [← e]
      exact hmg0
    obtain ⟨fd, hb, hF⟩ := K71.facts (l := PySem.Challenge.rw_keptinstep_k71_all_orders_of_one_memory) (w := w) KX G hmg c K71.law_runs
    exact ⟨K, fd, KX, hb, hF⟩

