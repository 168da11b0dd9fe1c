import PyProof.Rows.All
import Wide.All
import OpenK.AllK
import Wide.FinOn
import HandS.Base
import HandS.Call
import HandS.List
import HandS.Comp
import HandS.Ends
import HandS.Dict
import HandS.Iter
import HandS.Text
import HandS.Words
import HandS.WordsList
import HandS.Flow
import HandS.IsInst
import HandS.Style
import HandS.Walk
import HandS.Conv
import HandS.Defaults
import HandS.DictComp
import HandS.Wide
import HandS.More
import HandS.RaiseMore
import KE.DataEq
import KE.SortData
import HandS.Zip
import PyProof.Draws
import HandS.TupAny
import HandS.NoneIn
import KE.KDictPairs
import HandS.WideBits
import HandS.Strs
import HandS.ListItems
import HandS.Star
import KE.KItemsList
import HandS.Small
import HandS.SetTxt0
import HandS.SetFor
import HandS.Head0
import HandS.Head1
import HandS.Head2
import HandS.HeadHook1
import HandS.HeadHook2
import HandS.HeadEnd
import KE.KStateDown
import Lean
import HandS.WordsExc
import PySem.Challenge.RW_everyversion_k06_whole_what_is_put_in
set_option Elab.async false
set_option linter.all false
set_option maxRecDepth 100000
/-! Dn, part A: pure data D, its operations, a small syntax, its evaluator. -/
namespace Dn
open PySem L2

/-! ### data -/
/-- Python's values as plain data -/
inductive D where
  | non | bl (b : Bool) | int (i : Int) | str (s : Str) | tup (xs : List D) | lst (xs : List D) | dct (kvs : List (D × D)) | ins (k : Nat)
  deriving Inhabited

mutual
/-- equal as Python says (True == 1) -/
def eqD : D → D → Bool
  | .non, .non => true
  | .bl a, .bl b => a == b
  | .bl a, .int i => (if a then 1 else 0) == i
  | .int i, .bl a => i == (if a then 1 else 0)
  | .int i, .int j => i == j
  | .str x, .str y => x == y
  | .tup xs, .tup ys => eqDs xs ys
  | .lst xs, .lst ys => eqDs xs ys
  | .dct a, .dct b => a.length == b.length && hitD a b
  | _, _ => false
def eqDs : List D → List D → Bool
  | [], [] => true
  | x :: xs, y :: ys => eqD x y && eqDs xs ys
  | _, _ => false
def hitD : List (D × D) → List (D × D) → Bool
  | [], _ => true
  | (k, v) :: r, b => (match b.find? (fun p => eqD k p.1) with
    | some p => eqD v p.2
    | none => false) && hitD r b
end

mutual
/-- as the library's data; an own instance has none -/
def toP : D → PyData
  | .non => .none
  | .bl b => .bool b
  | .int i => .int i
  | .str s => .str s
  | .tup xs => .tuple (toPs xs)
  | .lst xs => .list (toPs xs)
  | .dct kvs => .dict (toPk kvs)
  | .ins _ => .none
def toPs : List D → List PyData
  | [] => []
  | x :: xs => toP x :: toPs xs
def toPk : List (D × D) → List (PyData × PyData)
  | [] => []
  | (k, v) :: r => (toP k, toP v) :: toPk r
end

mutual
/-- how deep it is nested -/
def dep : D → Nat
  | .tup xs => deps xs + 1
  | .lst xs => deps xs + 1
  | .dct kvs => depk kvs + 1
  | _ => 0
def deps : List D → Nat
  | [] => 0
  | x :: xs => max (dep x) (deps xs)
def depk : List (D × D) → Nat
  | [] => 0
  | (k, v) :: r => max (max (dep k) (dep v)) (depk r)
end

mutual
/-- no dict, no instance within -/
def flat : D → Bool
  | .tup xs => flats xs
  | .lst xs => flats xs
  | .dct _ => false
  | .ins _ => false
  | _ => true
def flats : List D → Bool
  | [] => true
  | x :: xs => flat x && flats xs
end
mutual
/-- no instance within -/
def noIns : D → Bool
  | .tup xs => noInss xs
  | .lst xs => noInss xs
  | .dct kvs => noInsk kvs
  | .ins _ => false
  | _ => true
def noInss : List D → Bool
  | [] => true
  | x :: xs => noIns x && noInss xs
def noInsk : List (D × D) → Bool
  | [] => true
  | (k, v) :: r => noIns k && noIns v && noInsk r
end

/-! ### dicts: keys are ints and texts -/
def isKey : D → Bool
  | .int _ => true
  | .str _ => true
  | _ => false
/-- the same key, ints and texts -/
def keq : D → D → Bool
  | .int i, .int j => i == j
  | .str x, .str y => x == y
  | _, _ => false
def dget (kvs : List (D × D)) (k : D) : Option D := (kvs.find? fun p => keq p.1 k).map (·.2)
def dhas (kvs : List (D × D)) (k : D) : Bool := kvs.any fun p => keq p.1 k
def dput (kvs : List (D × D)) (k v : D) : List (D × D) :=
  if dhas kvs k then kvs.map fun p => if keq p.1 k then (p.1, v) else p else kvs ++ [(k, v)]
def ddrop (kvs : List (D × D)) (k : D) : List (D × D) := kvs.filter fun p => !keq p.1 k

/-! ### operations -/
abbrev line : Nat := 16777216
inductive Bo where | add | sub | mul | fdiv | mod | pow
  deriving DecidableEq
def smallI (i : Int) : Bool := decide (-(2 ^ 64) < i) && decide (i < 2 ^ 64)
/-- of so many bits at most -/
@[irreducible] def medE : Nat := 40000
def medI (i : Int) : Bool := decide (i.natAbs < 2 ^ medE)
def binD : Bo → D → D → Option D
  | .add, .int i, .int j => some (.int (i + j))
  | .add, .str x, .str y => if x.length + y.length ≤ line then some (.str (x ++ y)) else none
  | .add, .lst x, .lst y => if x.length + y.length ≤ line then some (.lst (x ++ y)) else none
  | .add, .tup x, .tup y => if x.length + y.length ≤ line then some (.tup (x ++ y)) else none
  | .sub, .int i, .int j => some (.int (i - j))
  | .mul, .int i, .int j => if smallI i || smallI j || (medI i && medI j) then some (.int (i * j)) else none
  | .fdiv, .int i, .int j => if j ≠ 0 ∧ j.natAbs < 1073741824 then some (.int (i.fdiv j)) else none
  | .mod, .int i, .int j => if j ≠ 0 then some (.int (i.fmod j)) else none
  | .pow, .int i, .int j => if 0 ≤ j ∧ j ≤ 1000000 ∧ i.natAbs < 2 ^ 64 then some (.int (i ^ j.toNat)) else none
  | _, _, _ => none
inductive Co where | eq | ne | lt | le | gt | ge | isin | notin
  deriving DecidableEq
/-- s within t -/
def subS (s t : Str) : Bool := !(Builtin.Str.occurrences t s 0 t.length 1).isEmpty
def strLt (x y : Str) : Bool := decide (x.cps.toList < y.cps.toList)
def roomy (a b : D) : Bool := decide (min (dep a) (dep b) ≤ 60)
/-- a == b as the layer can run it -/
def eqOk (a b : D) : Bool := flat a && flat b && roomy a b
def inOk (x : D) (ys : List D) : Bool := flat x && ys.all fun y => eqOk y x
def cmpD : Co → D → D → Option Bool
  | .eq, a, b => if eqOk a b then some (eqD a b) else none
  | .ne, a, b => if eqOk a b then some (!eqD a b) else none
  | .lt, .int i, .int j => some (decide (i < j))
  | .le, .int i, .int j => some (decide (i ≤ j))
  | .gt, .int i, .int j => some (decide (j < i))
  | .ge, .int i, .int j => some (decide (j ≤ i))
  | .lt, .str i, .str j => some (strLt i j)
  | .isin, x, .lst ys => if inOk x ys then some (ys.any fun y => eqD y x) else none
  | .isin, x, .tup ys => if inOk x ys then some (ys.any fun y => eqD y x) else none
  | .isin, .str x, .str y => some (subS x y)
  | .isin, k, .dct kvs => if isKey k then some (dhas kvs k) else none
  | .notin, x, .lst ys => if inOk x ys then some (!ys.any fun y => eqD y x) else none
  | .notin, x, .tup ys => if inOk x ys then some (!ys.any fun y => eqD y x) else none
  | .notin, .str x, .str y => some (!subS x y)
  | .notin, k, .dct kvs => if isKey k then some (!dhas kvs k) else none
  | _, _, _ => none
def cutG {α : Type} (xs : List α) (lo hi : Option Int) : List α := (xs.drop (HT.sIx xs.length 0 lo)).take (HT.sIx xs.length xs.length hi - HT.sIx xs.length 0 lo)
/-- o[i] -/
def idxD : D → D → Option D
  | .lst xs, .int i => atI xs i
  | .tup xs, .int i => atI xs i
  | .str s, .int i => (atI s.cps.toList i).map fun c => .str ⟨#[c]⟩
  | .dct kvs, k => if isKey k then dget kvs k else none
  | _, _ => none
def slcD : D → Option Int → Option Int → Option D
  | .lst xs, l, h => some (.lst (cutG xs l h))
  | .tup xs, l, h => some (.tup (cutG xs l h))
  | .str s, l, h => some (.str (cutS s l h))
  | _, _, _ => none
inductive Ty where | int | str | bool | tuple | list | dict
  deriving DecidableEq
def Ty.name : Ty → Str
  | .int => "int" | .str => "str" | .bool => "bool" | .tuple => "tuple" | .list => "list" | .dict => "dict"
def isiD : D → Ty → Bool
  | .bl _, .bool => true
  | .bl _, .int => true
  | .int _, .int => true
  | .str _, .str => true
  | .tup _, .tuple => true
  | .lst _, .list => true
  | .dct _, .dict => true
  | _, _ => false

def isNon : D → Bool
  | .non => true
  | _ => false
def allB : List D → Option Bool
  | [] => some true
  | .bl b :: r => (allB r).map fun c => b && c
  | _ :: _ => none
def anyB : List D → Option Bool
  | [] => some false
  | .bl b :: r => (anyB r).map fun c => b || c
  | _ :: _ => none
def sumI : List D → Option Int
  | [] => some 0
  | .int i :: r => (sumI r).map fun c => i + c
  | _ :: _ => none
/-- a text of it fits -/
def showOk (d : D) : Bool := noIns d && (toP d).showable && decide ((toP d).shown.length ≤ line) && decide (dep d ≤ 60)
def showD (d : D) : Option D := if showOk d then some (.str (toP d).shown) else none

/-- sorted: place by place alike, all of them tuples with an item or none a tuple or None -/
def tupNe : D → Bool
  | .tup (_ :: _) => true
  | _ => false
def notTup : D → Bool
  | .tup _ => false
  | .non => false
  | _ => true
def alikeB (ds : List D) : Bool := (ds.all fun a => flat a && decide (dep a ≤ 60) && ds.all fun b => PySem.W.alike (toP a) (toP b)) && (ds.all tupNe || ds.all notTup)
def leD (a b : D) : Bool := !PySem.W.dataLt (toP b) (toP a)
/-- sorted of tuples, each with a text in front (or each with a number), no two the same -/
def fstK : D → Option Key
  | .tup (.str s :: _) => some (.inr s)
  | .tup (.int i :: _) => some (.inl i)
  | _ => none
def isR : Option Key → Bool
  | some (.inr _) => true
  | _ => false
def isL : Option Key → Bool
  | some (.inl _) => true
  | _ => false
def firstB (ds : List D) : Bool := ds.all (fun d => noIns d) && decide ((ds.map fstK).Nodup) && (ds.all (fun d => isR (fstK d)) || ds.all (fun d => isL (fstK d)))
def fstD (d : D) : D := match fstK d with
  | some (.inr s) => .str s
  | some (.inl i) => .int i
  | none => .non
def fstLe (a b : D) : Bool := leD (fstD a) (fstD b)

/-- calls of what is built in -/
inductive Bi where | len | tuple | list | dict | sorted | abs | int | str | repr | all | any | sum
  deriving DecidableEq
def biD : Bi → D → Option D
  | .len, .lst xs => some (.int xs.length)
  | .len, .tup xs => some (.int xs.length)
  | .len, .str s => some (.int s.length)
  | .len, .dct kvs => some (.int kvs.length)
  | .tuple, .lst xs => some (.tup xs)
  | .tuple, .tup xs => some (.tup xs)
  | .list, .lst xs => some (.lst xs)
  | .list, .tup xs => some (.lst xs)
  | .list, .dct kvs => some (.lst (kvs.map (·.1)))
  | .dict, .dct kvs => some (.dct kvs)
  | .abs, .int i => some (.int (if i < 0 then -i else i))
  | .int, .int i => some (.int i)
  | .int, .bl b => some (.int (if b then 1 else 0))
  | .str, .int i => if i.natAbs.log2 < 1920 ∧ (Str.ofString (toString i)).length ≤ line then some (.str (toString i)) else none
  | .str, .str s => some (.str s)
  | .repr, d => showD d
  | .all, .lst xs => (allB xs).map .bl
  | .any, .lst xs => (anyB xs).map .bl
  | .sum, .lst xs => (sumI xs).map .int
  | _, _ => none
end Dn

set_option Elab.async false
set_option linter.all false
set_option maxRecDepth 100000
/-! Dn, part B: the syntax and the evaluator. -/
namespace Dn
open PySem L2

/-! ### the bag that is drawn from -/
structure Bg where
  st : Int
  ch : Int
  ix : Int
  cells : List Int
def M (α : Type) : Type := Bg → Option (α × Bg)
def ret {α : Type} (a : α) : M α := fun b => some (a, b)
def fail {α : Type} : M α := fun _ => none
def bnd {α β : Type} (m : M α) (f : α → M β) : M β := fun b => match m b with
  | some (a, b') => f a b'
  | none => none
def lift {α : Type} (o : Option α) : M α := fun b => o.map fun a => (a, b)
/-- the first part of a draw: a cell is taken in -/
def stir (b : Bg) : Bg :=
  if b.st = 0 then
    let c := (cutG b.cells (some b.ix) none ++ [0]).headD 0
    ⟨if c ≥ 10 ^ 18 then c else b.st, (b.ch * 48271 + c % 2147483647 + 7919 * (b.ix + 1)) % 2147483647, b.ix + 1, b.cells⟩
  else b
def drawn (c : Int) : Int := ((((c + 1) * 39373) % 1000000007 * (((c + 1) * 39373) % 1000000007)) % 998244353 * 30011) % 998244353
def takeB (b : Bg) (n : Int) : Int × Bg :=
  let a := stir b
  if 0 < a.st then (a.st % n, { a with st := a.st / n }) else ((drawn a.ch / 7) % n, a)
def takeM (n : Int) : M D := fun b => if 0 < n ∧ n < 1073741824 then (let r := takeB b n; some (.int r.1, r.2)) else none

/-! ### the syntax -/
inductive Tg where
  | nm (i : Nat)
  | tp (ts : List Tg)
mutual
inductive Ex where
  | var (i : Nat)
  | kn
  | kb (b : Bool)
  | ki (i : Int)
  | ks (s : Str)
  | glo (x : Str) (d : D)
  | tup (es : Exs)
  | lst (es : Exs)
  | tst (e : Ex) (f : Ex)
  | dsp (ps : Exs)
  | dmg (e : Ex) (k : Ex) (v : Ex)
  | bin (op : Bo) (a b : Ex)
  | neg (a : Ex)
  | cmp (op : Co) (a b : Ex)
  | chn (op op' : Co) (a b c : Ex)
  | isn (a : Ex)
  | ntn (a : Ex)
  | isb (b : Bool) (a : Ex)
  | and_ (a b : Ex)
  | or_ (a b : Ex)
  | not_ (a : Ex)
  | ite (t a b : Ex)
  | idx (a b : Ex)
  | slc (a : Ex) (lo hi : Oe)
  | call (f : Nat) (es : Exs)
  | bi (f : Bi) (e : Ex)
  | isi (e : Ex) (t : Ty)
  | get (o k : Ex)
  | get2 (o k d : Ex)
  | index (o e : Ex)
  | bgi (k : Nat)
  | bgc
  | lc (elt : Ex) (own : List Nat) (tg : Tg) (it : It) (c : Oe)
  | lc2 (elt : Ex) (own : List Nat) (tg : Tg) (it : It) (c : Oe) (tg2 : Tg) (it2 : It) (c2 : Oe)
  | dc (k v : Ex) (own : List Nat) (tg : Tg) (it : It) (c : Oe)
  | nev
  | lrg (e : Ex)
  | lit (e : Ex)
  | sit (e : Ex)
  | dm2 (a b : Ex)
  | dzp (a b : Ex)
  | sst (e : Ex)
  | tsl (a b : Ex)
inductive Exs where
  | nil
  | cons (e : Ex) (es : Exs)
inductive Oe where
  | no
  | yes (e : Ex)
inductive It where
  | ex (e : Ex)
  | r1 (e : Ex)
  | r2 (e f : Ex)
  | enum (e : Ex)
  | zip (e f : Ex)
  | items (e : Ex)
  | values (e : Ex)
  | keys (i : Nat)
end
inductive Mu where | append | extend | insert | pop | clear | update | remove
  deriving DecidableEq
mutual
inductive St where
  | asg (tg : Tg) (e : Ex)
  | setp (x : Nat) (ps : Exs) (k : Ex) (v : Ex)
  | mut (m : Mu) (x : Nat) (ps : Exs) (es : Exs)
  | aug (i : Nat) (op : Bo) (e : Ex)
  | ifs (c : Ex) (a b : Sts)
  | for_ (tg : Tg) (it : It) (b : Sts)
  | whl (n : Nat) (c : Ex) (b : Sts)
  | ret (e : Ex)
  | expr (e : Ex)
  | cont
  | brk
  | pass
  | low (i n : Nat)
  | bgs (k : Nat) (e : Ex)
  | bgx
  | nev
inductive Sts where
  | nil
  | cons (s : St) (r : Sts)
end

/-! ### the evaluator -/
abbrev Rho := List (Option D)
def wipeR (ρ : Rho) : List Nat → Rho
  | [] => ρ
  | v :: vs => (wipeR ρ vs).set v none
mutual
def bindT : Tg → D → Rho → Option Rho
  | .nm i, d, ρ => if i < ρ.length then some (ρ.set i (some d)) else none
  | .tp ts, d, ρ => match d with
    | .tup xs => bindTs ts xs ρ
    | .lst xs => bindTs ts xs ρ
    | _ => none
def bindTs : List Tg → List D → Rho → Option Rho
  | [], [], ρ => some ρ
  | t :: ts, x :: xs, ρ => (bindT t x ρ).bind fun ρ' => bindTs ts xs ρ'
  | _, _, _ => none
end
mutual
def slots : Tg → List Nat
  | .nm i => [i]
  | .tp ts => slotss ts
def slotss : List Tg → List Nat
  | [] => []
  | t :: ts => slots t ++ slotss ts
end
def loopM (f : D → M (List D)) : List D → M (List D)
  | [] => ret []
  | x :: xs => bnd (f x) fun a => bnd (loopM f xs) fun r => ret (a ++ r)
def foldM {β : Type} (f : β → D → M β) : β → List D → M β
  | b, [] => ret b
  | b, x :: xs => bnd (f b x) fun b' => foldM f b' xs
def boolOf : D → M Bool
  | .bl b => ret b
  | _ => fail
def intOf : D → M Int
  | .int i => ret i
  | _ => fail
def tupOf : D → M (List D)
  | .tup xs => ret xs
  | .lst xs => ret xs
  | _ => fail
def dctOf : D → M (List (D × D))
  | .dct kvs => ret kvs
  | _ => fail
/-- what a for walks -/
def itemsOf : D → M (List D)
  | .lst xs => ret xs
  | .tup xs => ret xs
  | .str s => ret (s.cps.toList.map fun c => .str ⟨#[c]⟩)
  | _ => fail
def rangeD (a b : Int) : M (List D) := if -(2 ^ 62) ≤ a ∧ a < 2 ^ 62 ∧ -(2 ^ 62) ≤ b ∧ b < 2 ^ 62 ∧ (b - a).toNat ≤ line then ret ((List.range (b - a).toNat).map fun i => .int (a + ((i : Nat) : Int))) else fail
def enumD (n : Nat) : List D → List D
  | [] => []
  | x :: xs => .tup [.int n, x] :: enumD (n + 1) xs
def zipD : List D → List D → List D
  | x :: xs, y :: ys => .tup [x, y] :: zipD xs ys
  | _, _ => []
def zip2 : D → D → Option (List D)
  | .lst xs, .lst ys => some (zipD xs ys)
  | .tup xs, .tup ys => some (zipD xs ys)
  | _, _ => none
def itemsD (kvs : List (D × D)) : List D := kvs.map fun p => .tup [p.1, p.2]
def lstOf : D → M (List D)
  | .lst xs => ret xs
  | .tup xs => ret xs
  | _ => fail
def keysOk (kvs : List (D × D)) : Bool := kvs.all fun p => isKey p.1
/-- a display's entries, put in one by one -/
def pairUp : List D → Option (List (D × D))
  | [] => some []
  | k :: v :: r => if isKey k then (pairUp r).map fun t => (k, v) :: t else none
  | _ => none
def dmerge (kvs : List (D × D)) : List (D × D) → List (D × D)
  | [] => kvs
  | p :: r => dmerge (dput kvs p.1 p.2) r
/-- dict(xs), xs a list of pairs -/
def dpairs : List D → Option (List (D × D))
  | [] => some []
  | .tup [k, v] :: r => if isKey k then (dpairs r).map fun t => (k, v) :: t else none
  | _ :: _ => none
def strsOf : List D → Option (List Str)
  | [] => some []
  | .str s :: r => (strsOf r).map fun t => s :: t
  | _ :: _ => none
def idxOfS (z : Str) : List Str → Option Nat
  | [] => none
  | y :: ys => if y = z then some 0 else (idxOfS z ys).map (· + 1)
/-- t.index(z), a tuple of texts -/
def indexD : D → D → Option D
  | .tup xs, .str z => (strsOf xs).bind fun ss => (idxOfS z ss).map fun (n : Nat) => D.int (n : Int)
  | _, _ => none
def isStrD : D → Bool
  | .str _ => true
  | _ => false
def isStrKey : D × D → Bool
  | (.str _, _) => true
  | _ => false
def isIntKey : D × D → Bool
  | (.int _, _) => true
  | _ => false
def biM (f : Bi) (d : D) : Option D := match f, d with
  | .dict, .lst xs => (dpairs xs).map fun kvs => .dct (dmerge [] kvs)
  | .dict, .tup xs => (dpairs xs).map fun kvs => .dct (dmerge [] kvs)
  | .sorted, .lst xs => if firstB xs then some (.lst (xs.mergeSort fstLe)) else if alikeB xs then some (.lst (xs.mergeSort leD)) else none
  | .sorted, .dct kvs => if (kvs.all isStrKey || kvs.all isIntKey) && decide (kvs.length < 64) then some (.lst ((kvs.map (·.1)).mergeSort leD)) else none
  | f, d => biD f d
/-- the bag's fields -/
def bgGet (k : Nat) (b : Bg) : Option Int := match k with
  | 0 => some b.st
  | 1 => some b.ch
  | 2 => some b.ix
  | _ => none
def bgI (k : Nat) : M D := fun b => (bgGet k b).map fun i => (.int i, b)
def bgC : M D := fun b => some (.int ((cutG b.cells (some b.ix) none ++ [0]).headD 0), b)
def bgSet (k : Nat) (i : Int) (b : Bg) : Option Bg := match k with
  | 0 => if 0 ≤ i then some { b with st := i } else none
  | 1 => if 0 ≤ i ∧ i < 2147483647 then some { b with ch := i } else none
  | _ => none
/-- once each, in the order of the first -/
def onceD (xs : List D) : List D := (dmerge [] (xs.map fun x => (x, .non))).map (·.1)
/-- sorted(set(xs)), texts -/
def sstD : D → Option D
  | .lst xs => if xs.all isStrD ∧ xs.length < 64 then some (.lst ((onceD xs).mergeSort leD)) else none
  | _ => none
mutual
def ev (Φ : Nat → List D → M D) (ρ : Rho) : Ex → M D
  | .var i => lift (ρ.getD i none)
  | .kn => ret .non
  | .kb b => ret (.bl b)
  | .ki i => ret (.int i)
  | .ks s => ret (.str s)
  | .glo _ d => ret d
  | .tup es => bnd (evs Φ ρ es) fun xs => ret (.tup xs)
  | .lst es => bnd (evs Φ ρ es) fun xs => ret (.lst xs)
  | .tst e f => bnd (ev Φ ρ e) fun x => bnd (ev Φ ρ f) fun y => bnd (lstOf y) fun ys => if ys.length + 1 ≤ line then ret (.tup (x :: ys)) else fail
  | .dsp ps => bnd (evs Φ ρ ps) fun xs => bnd (lift (pairUp xs)) fun kvs => ret (.dct (dmerge [] kvs))
  | .dmg e k v => bnd (ev Φ ρ e) fun d => bnd (dctOf d) fun kvs => bnd (ev Φ ρ k) fun x => bnd (ev Φ ρ v) fun y =>
      if isKey x ∧ kvs.length < line then ret (.dct (dput kvs x y)) else fail
  | .bin op a b => bnd (ev Φ ρ a) fun x => bnd (ev Φ ρ b) fun y => lift (binD op x y)
  | .neg a => bnd (ev Φ ρ a) fun x => bnd (intOf x) fun i => ret (.int (-i))
  | .cmp op a b => bnd (ev Φ ρ a) fun x => bnd (ev Φ ρ b) fun y => bnd (lift (cmpD op x y)) fun c => ret (.bl c)
  | .chn op op' a b c => bnd (ev Φ ρ a) fun x => bnd (ev Φ ρ b) fun y => bnd (lift (cmpD op x y)) fun t =>
      if t = true then bnd (ev Φ ρ c) fun z => bnd (lift (cmpD op' y z)) fun u => ret (.bl u) else ret (.bl false)
  | .isn a => bnd (ev Φ ρ a) fun x => ret (.bl (isNon x))
  | .ntn a => bnd (ev Φ ρ a) fun x => ret (.bl (!isNon x))
  | .isb b a => bnd (ev Φ ρ a) fun x => bnd (boolOf x) fun c => ret (.bl (c == b))
  | .and_ a b => bnd (ev Φ ρ a) fun x => bnd (boolOf x) fun c => if c = true then bnd (ev Φ ρ b) fun y => bnd (boolOf y) fun e => ret (.bl e) else ret (.bl false)
  | .or_ a b => bnd (ev Φ ρ a) fun x => bnd (boolOf x) fun c => if c = true then ret (.bl true) else bnd (ev Φ ρ b) fun y => bnd (boolOf y) fun e => ret (.bl e)
  | .not_ a => bnd (ev Φ ρ a) fun x => bnd (boolOf x) fun c => ret (.bl (!c))
  | .ite t a b => bnd (ev Φ ρ t) fun x => bnd (boolOf x) fun c => if c = true then ev Φ ρ a else ev Φ ρ b
  | .idx a b => bnd (ev Φ ρ a) fun x => bnd (ev Φ ρ b) fun y => lift (idxD x y)
  | .slc a lo hi => bnd (ev Φ ρ a) fun x => bnd (evo Φ ρ lo) fun l => bnd (evo Φ ρ hi) fun h => lift (slcD x l h)
  | .call f es => bnd (evs Φ ρ es) fun xs => Φ f xs
  | .bi f e => bnd (ev Φ ρ e) fun x => lift (biM f x)
  | .isi e t => bnd (ev Φ ρ e) fun x => ret (.bl (isiD x t))
  | .get o k => bnd (ev Φ ρ o) fun x => bnd (dctOf x) fun kvs => bnd (ev Φ ρ k) fun y => if isKey y then ret ((dget kvs y).getD .non) else fail
  | .get2 o k d => bnd (ev Φ ρ o) fun x => bnd (dctOf x) fun kvs => bnd (ev Φ ρ k) fun y => bnd (ev Φ ρ d) fun z => if isKey y then ret ((dget kvs y).getD z) else fail
  | .index o e => bnd (ev Φ ρ o) fun x => bnd (ev Φ ρ e) fun y => lift (indexD x y)
  | .bgi k => bgI k
  | .bgc => bgC
  | .lc elt own tg it c => bnd (evi Φ ρ it) fun xs => bnd (loopM (fun x => bnd (lift (bindT tg x (wipeR ρ own))) fun ρ2 => bnd (evc Φ ρ2 c) fun t =>
      if t = true then bnd (ev Φ ρ2 elt) fun y => ret [y] else ret []) xs) fun r => ret (.lst r)
  | .lc2 elt own tg it c tg2 it2 c2 => bnd (evi Φ ρ it) fun xs => bnd (loopM (fun x => bnd (lift (bindT tg x (wipeR ρ own))) fun ρ2 => bnd (evc Φ ρ2 c) fun t =>
      if t = true then bnd (evi Φ ρ2 it2) fun xs2 => loopM (fun x2 => bnd (lift (bindT tg2 x2 (wipeR ρ2 (slots tg2)))) fun ρ3 => bnd (evc Φ ρ3 c2) fun t2 =>
        if t2 = true then bnd (ev Φ ρ3 elt) fun y => ret [y] else ret []) xs2 else ret []) xs) fun r => if r.length ≤ line then ret (.lst r) else fail
  | .dc k v own tg it c => bnd (evi Φ ρ it) fun xs => bnd (foldM (fun kvs x => bnd (lift (bindT tg x (wipeR ρ own))) fun ρ2 => bnd (evc Φ ρ2 c) fun t =>
      if t = true then bnd (ev Φ ρ2 k) fun y => bnd (ev Φ ρ2 v) fun z => if isKey y ∧ kvs.length < line then ret (dput kvs y z) else fail else ret kvs) [] xs) fun r => ret (.dct r)
  | .nev => fail
  | .lrg e => bnd (ev Φ ρ e) fun x => bnd (intOf x) fun i => bnd (rangeD 0 i) fun xs => ret (.lst xs)
  | .lit e => bnd (ev Φ ρ e) fun x => bnd (dctOf x) fun kvs => ret (.lst (itemsD kvs))
  | .sit e => bnd (ev Φ ρ e) fun x => bnd (dctOf x) fun kvs => lift (if firstB (itemsD kvs) then some (.lst ((itemsD kvs).mergeSort fstLe)) else none)
  | .dm2 a b => bnd (ev Φ ρ a) fun x => bnd (dctOf x) fun k1 => bnd (ev Φ ρ b) fun y => bnd (dctOf y) fun k2 => if k1.length + k2.length ≤ line then ret (.dct (dmerge (dmerge [] k1) k2)) else fail
  | .sst e => bnd (ev Φ ρ e) fun x => lift (sstD x)
  | .dzp a b => bnd (ev Φ ρ a) fun x => bnd (ev Φ ρ b) fun y => lift ((zip2 x y).bind fun zs => (dpairs zs).map fun kvs => .dct (dmerge [] kvs))
  | .tsl a b => bnd (ev Φ ρ a) fun x => bnd (lstOf x) fun xs => bnd (ev Φ ρ b) fun y => if xs.length + 1 ≤ line then ret (.tup (xs ++ [y])) else fail
def evs (Φ : Nat → List D → M D) (ρ : Rho) : Exs → M (List D)
  | .nil => ret []
  | .cons e es => bnd (ev Φ ρ e) fun x => bnd (evs Φ ρ es) fun xs => ret (x :: xs)
def evo (Φ : Nat → List D → M D) (ρ : Rho) : Oe → M (Option Int)
  | .no => ret none
  | .yes e => bnd (ev Φ ρ e) fun x => bnd (intOf x) fun i => ret (some i)
def evc (Φ : Nat → List D → M D) (ρ : Rho) : Oe → M Bool
  | .no => ret true
  | .yes e => bnd (ev Φ ρ e) fun x => boolOf x
def evi (Φ : Nat → List D → M D) (ρ : Rho) : It → M (List D)
  | .ex e => bnd (ev Φ ρ e) fun x => itemsOf x
  | .r1 e => bnd (ev Φ ρ e) fun x => bnd (intOf x) fun i => rangeD 0 i
  | .r2 e f => bnd (ev Φ ρ e) fun x => bnd (intOf x) fun i => bnd (ev Φ ρ f) fun y => bnd (intOf y) fun j => rangeD i j
  | .enum e => bnd (ev Φ ρ e) fun x => bnd (lstOf x) fun xs => ret (enumD 0 xs)
  | .zip e f => bnd (ev Φ ρ e) fun x => bnd (ev Φ ρ f) fun y => lift (zip2 x y)
  | .keys i => bnd (lift (ρ.getD i none)) fun x => bnd (dctOf x) fun kvs => ret (kvs.map (·.1))
  | .items e => bnd (ev Φ ρ e) fun x => bnd (dctOf x) fun kvs => ret (kvs.map fun p => .tup [p.1, p.2])
  | .values e => bnd (ev Φ ρ e) fun x => bnd (dctOf x) fun kvs => ret (kvs.map fun p => p.2)
end

inductive Out where
  | nx (ρ : Rho)
  | rt (d : D)
  | bk (ρ : Rho)
  | ct (ρ : Rho)
/-- the value of the first entry of a key, another -/
def dsub : List (D × D) → D → D → List (D × D)
  | [], _, _ => []
  | p :: r, k, v => if keq p.1 k then (p.1, v) :: r else p :: dsub r k v
/-- the thing at a path (one key at most) changed -/
def upAt (f : D → Option D) : List D → D → Option D
  | [], d => f d
  | [q], .dct kvs => if isKey q then (dget kvs q).bind fun x => (f x).map fun y => .dct (dsub kvs q y) else none
  | _, _ => none
def setD (k v : D) : D → Option D
  | .lst xs => (match k with
    | .int i => (ixN xs.length i).map fun j => .lst (xs.set j v)
    | _ => none)
  | .dct kvs => if isKey k ∧ kvs.length < line then some (.dct (dput kvs k v)) else none
  | _ => none
def setK (k v : D) : D → Option D
  | .dct kvs => if isKey k ∧ kvs.length < line then some (.dct (dput kvs k v)) else none
  | _ => none
def setF (k v : D) : List D → D → Option D
  | [] => setD k v
  | _ => setK k v
def mutD : Mu → List D → D → Option D
  | .append, [x], .lst xs => if xs.length < line then some (.lst (xs ++ [x])) else none
  | .extend, [.lst ys], .lst xs => if xs.length + ys.length ≤ line then some (.lst (xs ++ ys)) else none
  | .insert, [.int i, x], .lst xs => if xs.length < line ∧ 0 ≤ i ∧ i ≤ xs.length then some (.lst (xs.insertIdx i.toNat x)) else none
  | .pop, [k], .dct kvs => if isKey k ∧ dhas kvs k then some (.dct (ddrop kvs k)) else none
  | .pop, [k, _], .dct kvs => if isKey k then some (.dct (ddrop kvs k)) else none
  | .extend, [.tup ys], .lst xs => if xs.length + ys.length ≤ line then some (.lst (xs ++ ys)) else none
  | .update, [.dct ys], .dct xs => if xs.length + ys.length ≤ line then some (.dct (dmerge xs ys)) else none
  | .clear, [], .lst _ => some (.lst [])
  | .clear, [], .dct _ => some (.dct [])
  | _, _, _ => none
def iter (f : Rho → D → M Out) : Rho → List D → M Out
  | ρ, [] => ret (.nx ρ)
  | ρ, x :: xs => bnd (f ρ x) fun o => match o with
    | .nx ρ' => iter f ρ' xs
    | .ct ρ' => iter f ρ' xs
    | .bk ρ' => ret (.nx ρ')
    | .rt d => ret (.rt d)
def whileM (c : Rho → M Bool) (f : Rho → M Out) : Nat → Rho → M Out
  | 0, _ => fail
  | n + 1, ρ => bnd (c ρ) fun t => if t = true then bnd (f ρ) fun o => (match o with
      | .nx ρ' => whileM c f n ρ'
      | .ct ρ' => whileM c f n ρ'
      | .bk ρ' => ret (.nx ρ')
      | .rt d => ret (.rt d)) else ret (.nx ρ)
mutual
def ex (Φ : Nat → List D → M D) (ρ : Rho) : St → M Out
  | .asg tg e => bnd (ev Φ ρ e) fun x => bnd (lift (bindT tg x ρ)) fun ρ' => ret (.nx ρ')
  | .setp x ps k v => bnd (ev Φ ρ v) fun y => bnd (evs Φ ρ ps) fun ks => bnd (ev Φ ρ k) fun z => bnd (lift (ρ.getD x none)) fun d =>
      bnd (lift (upAt (setF z y ks) ks d)) fun d' => ret (.nx (ρ.set x (some d')))
  | .mut m x ps es => bnd (evs Φ ρ ps) fun ks => bnd (evs Φ ρ es) fun xs => bnd (lift (ρ.getD x none)) fun d =>
      bnd (lift (upAt (mutD m xs) ks d)) fun d' => ret (.nx (ρ.set x (some d')))
  | .aug i op e => bnd (lift (ρ.getD i none)) fun x => bnd (ev Φ ρ e) fun y => bnd (lift (binD op x y)) fun z => bnd (intOf z) fun _ => ret (.nx (ρ.set i (some z)))
  | .ifs c a b => bnd (ev Φ ρ c) fun x => bnd (boolOf x) fun t => if t = true then exs Φ ρ a else exs Φ ρ b
  | .for_ tg it b => bnd (evi Φ ρ it) fun xs => iter (fun ρ x => bnd (lift (bindT tg x ρ)) fun ρ' => exs Φ ρ' b) ρ xs
  | .whl n c b => whileM (fun ρ => bnd (ev Φ ρ c) fun x => boolOf x) (fun ρ => exs Φ ρ b) n ρ
  | .ret e => bnd (ev Φ ρ e) fun x => ret (.rt x)
  | .expr e => bnd (ev Φ ρ e) fun _ => ret (.nx ρ)
  | .cont => ret (.ct ρ)
  | .brk => ret (.bk ρ)
  | .pass => ret (.nx ρ)
  | .low _ _ => ret (.nx ρ)
  | .bgs k e => bnd (ev Φ ρ e) fun x => bnd (intOf x) fun i => fun b => (bgSet k i b).map fun b' => (.nx ρ, b')
  | .bgx => fun b => some (.nx ρ, { b with ix := b.ix + 1 })
  | .nev => fail
def exs (Φ : Nat → List D → M D) (ρ : Rho) : Sts → M Out
  | .nil => ret (.nx ρ)
  | .cons s r => bnd (ex Φ ρ s) fun o => match o with
    | .nx ρ' => exs Φ ρ' r
    | o => ret o
end
/-- a def: does it draw (its first parameter the bag); how many other parameters, how many slots in all, how deep what it hands back is its caller's own -/
structure Py where
  nm : Str
  bag : Bool
  np : Nat
  ns : Nat
  own : Nat
  body : Sts
inductive Fn where
  | py (p : Py)
  | take
def outD : Out → M D
  | .nx _ => ret .non
  | .rt d => ret d
  | _ => fail
def entry (p : Py) (ds : List D) : Rho := (if p.bag then [none] else []) ++ ds.map some ++ List.replicate (p.ns - p.np - (if p.bag then 1 else 0)) none
def run (F : List Fn) : Nat → Nat → List D → M D
  | 0, _, _ => fail
  | k + 1, i, ds => match F[i]? with
    | some (.py p) => if ds.length = p.np then bnd (exs (run F k) (entry p ds) p.body) outD else fail
    | some .take => (match ds with
      | [.int n] => takeM n
      | _ => fail)
    | none => fail
end Dn

set_option Elab.async false
set_option linter.all false
set_option maxRecDepth 100000
/-! Dn, part En: enumerate(t), t a tuple. -/
namespace Dn
open PySem PySem.Spec PyProof.Rows L2
section
variable {prog : Program} {w : World} {A : Around} {E : Value → Shared → Prop} {s : Shared}
theorem tup_same {h h2 : Heap} {it l : Addr} {items : Array Value} (t : h.IsTuple l items) (sb : Heap.SameBut it h h2) (ne : l ≠ it) : h2.IsTuple l items := by
  obtain ⟨o, e, c, n, d⟩ := t
  exact ⟨o, (sb.2 l ne).trans e, c, n, d⟩
/-- a tuple's iterator draws its items -/
theorem drawsTup (hh : A.handled = none) {it l : Addr} (ne : l ≠ it) (items : Array Value) : Draws prog w A it [it, l] items.size (fun i v => items[i]? = some v) (fun i h => h.IsTupleIter it l i ∧ h.IsTuple l items) where
  live := fun i h st => by obtain ⟨⟨o, e, _⟩, _⟩ := st; exact ⟨o, e⟩
  frame := fun i h h2 st k => by
    obtain ⟨⟨o, e, c, d⟩, ⟨o2, e2, c2, n2, d2⟩⟩ := st
    exact ⟨⟨o, k it (by simp) o e, c, d⟩, ⟨o2, k l (by simp) o2 e2, c2, n2, d2⟩⟩
  item := fun i s Q E hi st hQ => by
    have hx : items[i]? = some items[i] := by simp [hi]
    exact RZ.nextOf_tuple_item st.1 st.2 hx fun h2 k sb => hQ _ h2 s.toks hx ⟨k, tup_same st.2 sb ne⟩ sb
  done := fun s Q E st hE => RZ.nextOf_tuple_end hh st.1 st.2 (by simp) hE
/-- .. and is at its end -/
theorem drawsEnd (hh : A.handled = none) {it l : Addr} {items : Array Value} {i : Nat} (hi : items[i]? = none) : Draws prog w A it [it, l] i (fun _ _ => True) (fun j h => j = i ∧ h.IsTupleIter it l i ∧ h.IsTuple l items) where
  live := fun j h st => by obtain ⟨_, ⟨o, e, _⟩, _⟩ := st; exact ⟨o, e⟩
  frame := fun j h h2 st k => by
    obtain ⟨ej, ⟨o, e, c, d⟩, ⟨o2, e2, c2, n2, d2⟩⟩ := st
    exact ⟨ej, ⟨o, k it (by simp) o e, c, d⟩, ⟨o2, k l (by simp) o2 e2, c2, n2, d2⟩⟩
  item := fun j s Q E hj st hQ => absurd st.1 (Nat.ne_of_lt hj)
  done := fun s Q E st hE => RZ.nextOf_tuple_end hh st.2.1 st.2.2 hi hE
theorem meets_enT (l : Addr) (items : Array Value) :
    Meets (Builtin.«enumerate.__new__» ⟨[.type "enumerate", .ref l], []⟩) (fun _ R s => s.heap.IsTuple l items ∧
      R (.ok (.ret (.ref (s.heap.push { cls := .type "tuple_iterator", data := .fields #[.ref l, .int 0 0] }).objs.size)))
        { s with heap := (s.heap.push { cls := .type "tuple_iterator", data := .fields #[.ref l, .int 0 0] }).push { cls := .type "enumerate", data := .fields #[.none, .bool false, .ref s.heap.objs.size, rawInt 0, .none, .none] } }) :=
  .of_wp fun prog w A R s h => by
    obtain ⟨hp, g, d, tk, os⟩ := s; obtain ⟨ht, h⟩ := h
    have hsub := sub_enumerate
    have hT : Heap.IsTuple (Shared.heap ⟨hp, g, d, tk, os⟩) l items := ht
    wp_walk
    refine wpAny_stack_any fun st => wpAny_pure ?_
    split
    · rename_i c _ _ _ _ _
      cases (c == Value.type "enumerate")
      · wp_walk using wpAny_pyIter_tuple hT
        exact ⟨_, rfl, h⟩
      · wp_walk using wpAny_pyIter_tuple hT
        exact ⟨_, rfl, h⟩
    · wp_walk using wpAny_pyIter_tuple hT
      exact ⟨_, rfl, h⟩
theorem call_enT {l : Addr} {items : Array Value} {Q : Value → Shared → Prop} (ht : s.heap.IsTuple l items)
    (h : ∀ h2, IsEnum h2 (s.heap.objs.size + 1) s.heap.objs.size 0 .none → h2.IsTupleIter s.heap.objs.size l 0 → h2.objs.size = s.heap.objs.size + 2 → (∀ b o, s.heap.get? b = some o → h2.get? b = some o) → Q (.ref (s.heap.objs.size + 1)) { s with heap := h2 }) :
    wpAny (model prog w) A (PySem.call (.type "enumerate") [.ref l]) Q E s := by
  refine callType_new F.called_enumerate (by decide) (F.typeCall_enumerate_1 _) (F.newCall_enumerate_1 _) (fun obj => F.args_object_init_2 obj _) F.entry_enumerate_new (meets_enT l items) ⟨ht, ?_⟩
  have sz : (s.heap.push { cls := .type "tuple_iterator", data := .fields #[.ref l, .int 0 0] }).objs.size = s.heap.objs.size + 1 := Heap.size_push ..
  show _ ∧ _
  rw [sz]
  have en : IsEnum ((s.heap.push { cls := .type "tuple_iterator", data := .fields #[.ref l, .int 0 0] }).push { cls := .type "enumerate", data := .fields #[.none, .bool false, .ref s.heap.objs.size, rawInt 0, .none, .none] }) (s.heap.objs.size + 1) s.heap.objs.size 0 .none := by
    have q := Heap.get?_push_size (s.heap.push { cls := .type "tuple_iterator", data := .fields #[.ref l, .int 0 0] }) (o := { cls := .type "enumerate", data := .fields #[.none, .bool false, .ref s.heap.objs.size, rawInt 0, .none, .none] }) rfl
    rw [sz] at q
    exact q
  exact ⟨⟨_, en, rfl⟩, h _ en ⟨_, Heap.get?_push_of_some _ (Heap.get?_push_size _ rfl), rfl, rfl⟩ (by rw [Heap.size_push, sz]) fun b o y => Heap.get?_push_of_some _ (Heap.get?_push_of_some _ y)⟩
end
/-- the tuple at a as it stands at each turn, each item in a new pair -/
def IteT (K : PySem.W.Frag) (a : Addr) : L2.It :=
  ⟨fun i H => ∃ (xs : List V) (x : V), SqT K H a xs ∧ xs[i]? = some x, fun i H v H2 => ∃ T x, v = .ref T ∧ H T = none ∧ H2 = upd H T (.tup [.int (i : Nat), x]) ∧ ∀ xs, SqT K H a xs → xs[i]? = some x, fun i H => ∃ xs : List V, SqT K H a xs ∧ xs.length ≤ i⟩
theorem turn_enT {P : Program} {w : World} {K : PySem.W.Frag} {elts : List Expr} {kk : Nat} {tpos : Pos} (a e it : Addr) :
    Turn P w K (.Tuple elts kk tpos) (IteT K a) [e, it] e (fun i h => (∃ o, IsEnum h e it ((i : Nat) : Int) o) ∧ h.IsTupleIter it a i ∧ e ≠ it) where
  mem := by simp
  obj := fun i h st b hb => by
    obtain ⟨⟨w0, h1⟩, ⟨ob, h2, _, h3⟩, _⟩ := st
    rcases (show b = e ∨ b = it by simpa using hb) with z | z
    · rw [z]; exact ⟨_, h1, fun v q => nomatch q⟩
    · rw [z]; exact ⟨ob, h2, fun v q => by rw [h3] at q; cases q⟩
  keep := fun i h h2 st k => by
    obtain ⟨⟨w0, h1⟩, hi, hne⟩ := st
    exact ⟨⟨w0, k e (by simp) _ h1⟩, hi.at fun o q => k it (by simp) o q, hne⟩
  item := by
    intro X hP hw hK hc i pins s σ H E I hf st hg
    subst hP hw hK
    obtain ⟨⟨w0, hen⟩, hti, ne⟩ := st
    obtain ⟨xs, x, hq, hx⟩ := hg
    obtain ⟨its, rv, pt, _⟩ := I.tuple hq
    obtain ⟨u, hu, ru⟩ := rv.get hx
    have el : e < s.heap.objs.size := Heap.lt_size hen
    have il : it < s.heap.objs.size := by obtain ⟨_, q, _⟩ := hti; exact Heap.lt_size q
    have ae : e ≠ a := fun z => by
      obtain ⟨o, e1, c1, _⟩ := pt
      have e2 : s.heap.get? e = some _ := hen
      rw [z, e1] at e2
      cases e2
      have c3 : Value.type "enumerate" = Value.type "tuple" := c1
      exact absurd c3 (by decide +kernel)
    have ai : a ≠ it := fun z => by
      obtain ⟨o, e1, c1, _⟩ := pt
      obtain ⟨o2, e2, c2, _⟩ := id hti
      rw [← z, e1] at e2
      cases e2
      rw [c1] at c2
      exact absurd c2 (by decide +kernel)
    have hlt : i < its.toArray.size := by rw [List.size_toArray]; exact (List.getElem?_eq_some_iff.mp hu).1
    have Dr := drawsTup (prog := X.prog) (w := X.w) (A := X.A.in1) (I.ok.hd hc) ai its.toArray
    refine wpAny_pyNext_enum_itemD Dr hen ⟨hti, pt⟩ hlt ne (by simp [ne, ae]) fun v h2 tk hv ho st2 hT hz hk => ?_
    have uv : v = u := by
      have hv' : its.toArray[i]? = some v := hv
      rw [List.getElem?_toArray, hu] at hv'
      exact (Option.some.inj hv').symm
    subst uv
    refine ⟨_, rfl, wpAny_letOwnedTupleGo_enum (s := { s with heap := h2, toks := tk + 1 }) ho fun h3 he3 sb => ?_⟩
    have hT3 : h3.get? s.heap.objs.size = some { cls := .type "tuple", data := .seq #[.int i tk, v] } := (sb.2 _ (Nat.ne_of_gt el)).trans hT
    have nw : ObjOk X.prog X.w (upd H s.heap.objs.size (.tup [.int (i : Nat), x])) h3 s.heap.objs.size (.tup [.int (i : Nat), x]) := ⟨by show 2 ≤ sizeLine; decide, [.int i tk, v], .cons ⟨_, rfl⟩ (.cons ru .nil), ⟨_, hT3, rfl, _, rfl⟩⟩
    have J : L2.Inv X pins σ (upd H s.heap.objs.size (.tup [.int (i : Nat), x])) { s with heap := h3, toks := tk + 1 } :=
      I.turnedNew (ch := [e, it]) (fun b ob hb q => (sb.2 b fun z => hb (by simp [z])).trans (hk b ob (fun z => hb (by simp [z])) (fun z => hb (by simp [z])) q)) hf (Nat.le_refl _) nw
    refine ⟨.ref s.heap.objs.size, _, J, rfl, ⟨_, x, rfl, I.hok.fresh (Nat.le_refl _), rfl, fun ys hy => by rw [I.tuple_inj hy hq]; exact hx⟩, ⟨⟨v, ?_⟩, st2.1.at fun o q => (sb.2 it (Ne.symm ne)).trans q, ne⟩, fun b hb => ?_⟩
    · rw [show ((i + 1 : Nat) : Int) = (i : Int) + 1 by omega]; exact he3
    · have bl : b < s.heap.objs.size := by
        rcases (show b = e ∨ b = it by simpa using hb) with z | z
        · rw [z]; exact el
        · rw [z]; exact il
      rw [upd_ne (Nat.ne_of_lt bl)]
      exact (hf b hb).1
  done := by
    intro X hP hw hK hc i pins s σ H E I hf st hg
    subst hP hw hK
    obtain ⟨⟨w0, hen⟩, hti, ne⟩ := st
    obtain ⟨xs, hq, hx⟩ := hg
    obtain ⟨its, rv, pt, _⟩ := I.tuple hq
    obtain ⟨f0, f1, f2, f3, f4, f5⟩ := hf it (by simp)
    have hend : its.toArray[i]? = none := by
      have := rv.length
      exact Array.getElem?_eq_none (by rw [List.size_toArray]; omega)
    exact wpAny_pyNext_enum_endD (drawsEnd (prog := X.prog) (w := X.w) (A := X.A.in1) (I.ok.hd hc) hend) hen ⟨rfl, hti, pt⟩ fun h2 eb => ⟨rfl, I.turned (t' := s.toks) (fun b o hb q => eb b o hb q) f0 f1 f3 f4 f5⟩
  self := fun A i s Q E st h => by
    obtain ⟨⟨_, q⟩, _⟩ := st
    exact wpAny_pyIter_enum q h
section
variable {X : Cx} {e : Expr} {ta : TA} {p pos tpos : Pos} {elts : List Expr} {kk : Nat}
theorem pi_enT (hg : Gl X "enumerate") (hm : X.mg "enumerate" = none) (ha : PA X [e] ta) (hs : starEach [e] X.env = [(false, eval e X.env)]) :
    PI X (.Tuple elts kk tpos) (.Call (.Name "enumerate" p) [e] [] pos) (fun σ H R => ta σ H fun vs H1 => ∃ a xs, vs = [.ref a] ∧ SqT X.K H1 a xs ∧ R (IteT X.K a) H1) := by
  refine ⟨fun pins s σ H R I h => Call_ (ld_blt I hg hm boot_enumerate (PyProof.Rows.callWith_type1 (thn (ha.run pos pins s σ H _ I h) fun us s1 ⟨vs, H1, I1, r1, q1⟩ => ?_) hs rfl))⟩
  obtain ⟨a, xs, rfl, hq, q⟩ := q1
  obtain ⟨u, rfl, ru⟩ := vals1 r1
  cases ru
  obtain ⟨its, rv, pt, hz⟩ := I1.tuple hq
  refine call_enT (show s1.heap.IsTuple a its.toArray from pt) fun h2 he hit sz hk => wpAny_pyIter_enum he ?_
  have I2 : L2.Inv X pins σ H1 { s1 with heap := h2 } := I1.kept (t' := s1.toks) hk
  refine ⟨s1.heap.objs.size + 1, [s1.heap.objs.size + 1, s1.heap.objs.size], _, _, H1, rfl, I2, turn_enT a (s1.heap.objs.size + 1) s1.heap.objs.size, ⟨⟨.none, he⟩, hit, Nat.succ_ne_self _⟩, fun b hb => ?_, q⟩
  have ge : s1.heap.objs.size ≤ b := by
    rcases (show b = s1.heap.objs.size + 1 ∨ b = s1.heap.objs.size by simpa using hb) with z | z
    · rw [z]; exact Nat.le_succ _
    · rw [z]; exact Nat.le_refl _
  exact I1.fpOk ge (I1.hok.fresh ge)
theorem walk_enT {K : PySem.W.Frag} {a : Addr} {xs : List V} : Walk (IteT K a) xs.length (fun H => SqT K H a xs) (YPair (fun i => some (.int (i : Nat))) (fun i => xs[i]?)) := by
  refine ⟨fun i _ hi q => ⟨xs, xs[i], q, by simp [hi]⟩, fun _ q => ⟨xs, q, Nat.le_refl _⟩, fun i H v H2 _ q y => ?_⟩
  obtain ⟨T, x, y1, y2, y3, y4⟩ := y
  exact ⟨T, .int (i : Nat), x, y1, y2, y3, rfl, y4 xs q⟩
end
end Dn

set_option Elab.async false
set_option linter.all false
set_option maxRecDepth 100000
/-! Dn, part Bz: new tuples whose objects are known to have no dict. -/
namespace Dn
open PySem PySem.Spec PyProof.Rows L2
/-- a new tuple: its object known, without a dict -/
def newT (H : Hp) (xs : List V) (Q : VK) : Prop := ∀ p o, H p = none → o.dict = none → Q (.ref p) (upd H p (.frz o (.tup xs)))
section
variable {X : Cx} {es : List Expr} {pos : Pos} {t : TA}
theorem newT_ok {pins : List (Addr × Obj)} {σ : L2.St} {H : Hp} {s : Shared} {Q : VK} {xs : List V} {us : List Value} (I : L2.Inv X pins σ H s) (rv : Vals xs us) (hz : xs.length ≤ sizeLine) (q : newT H xs Q) :
    EP X pins σ Q (.ref s.heap.objs.size) { s with heap := s.heap.push { cls := .type "tuple", data := .seq us.toArray } } := by
  have hf : H s.heap.objs.size = none := I.hok.fresh (Nat.le_refl _)
  refine ⟨.ref s.heap.objs.size, upd H s.heap.objs.size (.frz { cls := .type "tuple", data := .seq us.toArray } (.tup xs)), I.laid (t' := s.toks) (fun b u e => Heap.get?_push_of_some _ e) (Nat.le_refl _) ?_, rfl, q _ _ hf rfl⟩
  exact ⟨Heap.get?_push_size _ rfl, hz, us, rv, ⟨_, Heap.get?_push_size _ rfl, rfl, _, rfl⟩⟩
theorem n_tup {x1 : Nat} (h : PA X es t) : PE X (.Tuple es x1 pos) (fun σ H Q => t σ H fun xs H1 => xs.length ≤ sizeLine ∧ newT H1 xs Q) :=
  ⟨fun pins s σ H Q I hq => wpAny_Tuple_spliced (thn (h.run pos pins s σ H _ I hq) fun us s1 ⟨xs, H1, I1, r, z, q⟩ => ⟨by rw [← r.length]; exact z, newT_ok I1 r z q⟩)⟩
theorem n_tupleOf : CallR X (.type "tuple") (fun xs H Q => ∃ p ys, xs = [.ref p] ∧ ((SqL X.K H p ys ∧ newT H ys Q) ∨ (SqT X.K H p ys ∧ Q (.ref p) H))) := by
  intro pins s σ H xs us Q I rx h
  obtain ⟨p, ys, rfl, h⟩ := h
  obtain ⟨u, rfl, ru⟩ := vals1 rx
  cases ru
  rcases h with ⟨hq, q⟩ | ⟨hq, q⟩
  · obtain ⟨its, rv, pl, hz⟩ := I.list hq
    have hl := rv.length
    refine call_tuple_list pl.isList (fun h2 kp => ?_) (by rw [List.size_toArray]; omega)
    have I1 : L2.Inv X pins σ H { s with heap := h2 } := I.kept (t' := s.toks) kp
    exact newT_ok I1 rv hz q
  · obtain ⟨its, rv, pl, hz⟩ := I.tuple hq
    exact call_tuple_same pl ⟨.ref p, H, I, rfl, q⟩
theorem n_slT : SlR X (fun x lo hi H Q => ∃ a xs, x = .ref a ∧ SqT X.K H a xs ∧ (HT.sIx xs.length 0 lo = 0 ∧ HT.sIx xs.length xs.length hi = xs.length → Q (.ref a) H) ∧
    (¬ (HT.sIx xs.length 0 lo = 0 ∧ HT.sIx xs.length xs.length hi = xs.length) → newT H (cutV xs lo hi) Q)) := by
  intro pins s σ H x v vl vu lo hi sl Q I rx hs pl pu h
  obtain ⟨a, xs, rfl, hx, q1, q2⟩ := h
  cases rx
  obtain ⟨its, rv, ht, hz⟩ := I.tuple hx
  have hlen : its.toArray.size = xs.length := by rw [List.size_toArray]; exact rv.length.symm
  refine ⟨"tuple", _, PyProof.Rows.slot_tuple_getitem.lookup, ht.typeIs, ?_⟩
  by_cases hw : HT.sIx xs.length 0 lo = 0 ∧ HT.sIx xs.length xs.length hi = xs.length
  · exact getItem_tuple_whole ht hs pl pu (by rw [hlen]; exact hw) ⟨.ref a, H, I, rfl, q1 hw⟩
  · refine HT.getItem_tuple_cut ht hs pl pu (by rw [hlen]; exact hw) ?_ (by rw [hlen]; exact hz)
    rw [hlen]
    exact newT_ok I ((rv.drop _).take _) (Nat.le_trans (cutV_length xs lo hi) hz) (q2 hw)
theorem n_catT : OpR X (binaryOp .Add) (fun x y H Q => ∃ a b xs ys, x = .ref a ∧ y = .ref b ∧ SqT X.K H a xs ∧ SqT X.K H b ys ∧ xs.length + ys.length ≤ sizeLine ∧
    (xs = [] → Q (.ref b) H) ∧ (xs ≠ [] → ys = [] → Q (.ref a) H) ∧ (xs ≠ [] → ys ≠ [] → newT H (xs ++ ys) Q)) := by
  intro pins s σ H x y v u Q I rx ry h
  obtain ⟨a, b, xs, ys, rfl, rfl, ha, hb, hz, q0, q1, q2⟩ := h
  cases rx
  cases ry
  obtain ⟨its, r1, p1, _⟩ := I.tuple ha
  obtain ⟨its2, r2, p2, _⟩ := I.tuple hb
  by_cases hx : xs = []
  · subst hx
    cases r1
    exact cat_tup0 p1 p2 ⟨.ref b, H, I, rfl, q0 rfl⟩
  · refine HT.cat_tup p1 p2 (fun z => hx (r1.nil_iff.mp z)) (fun z => ⟨.ref a, H, I, rfl, q1 hx (r2.nil_iff.mp z)⟩) (fun z => ?_) (by rw [← r1.length, ← r2.length]; exact hz)
    exact newT_ok I (r1.append r2) (by rw [List.length_append]; exact hz) (q2 hx fun w => z (r2.nil_iff.mpr w))
end
end Dn

set_option Elab.async false
set_option linter.all false
set_option maxRecDepth 100000
/-! Dn, part C: how the heap holds data: frozen (Rp), owned (RO); the slots (EnvOk); what an evaluation leaves (Post). -/
namespace Dn
open PySem PySem.Spec PyProof.Rows L2

/-- a dict's key as data -/
def kD : Key → D
  | .inl i => .int i
  | .inr s => .str s
/-- a key's text is not too long -/
def kOk : Key → Prop
  | .inl _ => True
  | .inr s => s.length ≤ line
/-- a tuple of the written part -/
def KTup (K : PySem.W.Frag) (a : Addr) (vs : List V) : Prop :=
  (∃ (o : Obj) (its : Array Value) (n : Nat), K.lookup a = some o ∧ o.cls = .type "tuple" ∧ o.data = .seq its n ∧ its.size ≤ sizeLine ∧ Vals vs its.toList) ∧ ∃ o : Obj, K.lookup a = some o ∧ o.dict = none ∧ o.cls = .type "tuple"
section
variable (K : PySem.W.Frag) (G : Hp)
mutual
/-- v is d, frozen in G -/
inductive Rp : V → D → Prop
  | non : Rp .non .non
  | bl (b : Bool) : Rp (.bl b) (.bl b)
  | int (i : Int) : Rp (.int i) (.int i)
  | str (s : Str) : s.length ≤ line → Rp (.str s) (.str s)
  | tup {a : Addr} {o : Obj} {vs : List V} {ds : List D} : G a = some (.frz o (.tup vs)) → o.dict = none → Rps vs ds → Rp (.ref a) (.tup ds)
  | ktup {a : Addr} {vs : List V} {ds : List D} : KTup K a vs → Rps vs ds → Rp (.ref a) (.tup ds)
  | lst {a : Addr} {vs : List V} {ds : List D} : G a = some (.lst vs) → Rps vs ds → Rp (.ref a) (.lst ds)
  | dct {a : Addr} {kvs : List (Key × V)} {ds : List (D × D)} : G a = some (.dK kvs) → Rpk kvs ds → Rp (.ref a) (.dct ds)
inductive Rps : List V → List D → Prop
  | nil : Rps [] []
  | cons {v : V} {d : D} {vs : List V} {ds : List D} : Rp v d → Rps vs ds → Rps (v :: vs) (d :: ds)
inductive Rpk : List (Key × V) → List (D × D) → Prop
  | nil : Rpk [] []
  | cons {k : Key} {v : V} {d : D} {kvs : List (Key × V)} {ds : List (D × D)} : kOk k → Rp v d → Rpk kvs ds → Rpk ((k, v) :: kvs) ((kD k, d) :: ds)
end
end
section
variable {K : PySem.W.Frag} {G G' : Hp}
mutual
theorem Rp.mono (h : ∀ a o, G a = some o → G' a = some o) : ∀ {d : D} {v : V}, Rp K G v d → Rp K G' v d
  | _, _, .non => .non
  | _, _, .bl b => .bl b
  | _, _, .int i => .int i
  | _, _, .str s h => .str s h
  | _, _, .tup e hd r => .tup (h _ _ e) hd (Rps.mono h r)
  | _, _, .ktup e r => .ktup e (Rps.mono h r)
  | _, _, .lst e r => .lst (h _ _ e) (Rps.mono h r)
  | _, _, .dct e r => .dct (h _ _ e) (Rpk.mono h r)
theorem Rps.mono (h : ∀ a o, G a = some o → G' a = some o) : ∀ {ds : List D} {vs : List V}, Rps K G vs ds → Rps K G' vs ds
  | _, _, .nil => .nil
  | _, _, .cons r t => .cons (Rp.mono h r) (Rps.mono h t)
theorem Rpk.mono (h : ∀ a o, G a = some o → G' a = some o) : ∀ {ds : List (D × D)} {kvs : List (Key × V)}, Rpk K G kvs ds → Rpk K G' kvs ds
  | _, _, .nil => .nil
  | _, _, .cons q r t => .cons q (Rp.mono h r) (Rpk.mono h t)
end
theorem Rps.length {vs : List V} {ds : List D} (h : Rps K G vs ds) : vs.length = ds.length := by
  induction ds generalizing vs with
  | nil => cases h; rfl
  | cons d ds ih => cases h with | cons r t => simp [ih t]
theorem Rps.get {ds : List D} : ∀ {vs : List V} {i : Nat} {d : D}, Rps K G vs ds → ds[i]? = some d → ∃ v, vs[i]? = some v ∧ Rp K G v d := by
  induction ds with
  | nil => intro vs i d h e; simp at e
  | cons x xs ih =>
    intro vs i d h e
    cases h with
    | cons r t =>
      cases i with
      | zero => simp at e; subst e; exact ⟨_, rfl, r⟩
      | succ i =>
        obtain ⟨v, h1, h2⟩ := ih (i := i) t (by simpa using e)
        exact ⟨v, by simpa using h1, h2⟩
theorem Rps.append {ds es : List D} : ∀ {vs ws : List V}, Rps K G vs ds → Rps K G ws es → Rps K G (vs ++ ws) (ds ++ es) := by
  induction ds with
  | nil => intro vs ws h t; cases h; exact t
  | cons x xs ih => intro vs ws h t; cases h with | cons r s => exact .cons r (ih s t)
theorem Rps.drop {ds : List D} : ∀ {vs : List V} (n : Nat), Rps K G vs ds → Rps K G (vs.drop n) (ds.drop n) := by
  induction ds with
  | nil => intro vs n h; cases h; simp; exact .nil
  | cons x xs ih =>
    intro vs n h
    cases h with
    | cons r s =>
      cases n with
      | zero => exact .cons r s
      | succ n => exact ih n s
theorem Rps.take {ds : List D} : ∀ {vs : List V} (n : Nat), Rps K G vs ds → Rps K G (vs.take n) (ds.take n) := by
  induction ds with
  | nil => intro vs n h; cases h; simp; exact .nil
  | cons x xs ih =>
    intro vs n h
    cases h with
    | cons r s =>
      cases n with
      | zero => exact .nil
      | succ n => exact .cons r (ih n s)
theorem Rps.set {ds : List D} : ∀ {vs : List V} {v : V} {d : D} (j : Nat), Rps K G vs ds → Rp K G v d → Rps K G (vs.set j v) (ds.set j d) := by
  induction ds with
  | nil => intro vs v d j h r; cases h; exact .nil
  | cons x xs ih =>
    intro vs v d j h r
    cases h with
    | cons r1 s =>
      cases j with
      | zero => exact .cons r s
      | succ j => exact .cons r1 (ih j s r)
theorem Rpk.length {ds : List (D × D)} : ∀ {kvs : List (Key × V)}, Rpk K G kvs ds → kvs.length = ds.length := by
  induction ds with
  | nil => intro kvs h; cases h; rfl
  | cons d ds ih => intro kvs h; cases h with | cons q r t => simp [ih t]
end

/-! ### owned things: n levels from the top on are known to none else; fp: their addresses -/
section
variable (R : V → D → List Addr → Prop)
inductive ROs : List V → List D → List Addr → Prop
  | nil : ROs [] [] []
  | cons {v : V} {d : D} {f g : List Addr} {vs : List V} {ds : List D} : R v d f → ROs vs ds g → ROs (v :: vs) (d :: ds) (f ++ g)
inductive ROk : List (Key × V) → List (D × D) → List Addr → Prop
  | nil : ROk [] [] []
  | cons {k : Key} {v : V} {d : D} {f g : List Addr} {kvs : List (Key × V)} {ds : List (D × D)} : kOk k → R v d f → ROk kvs ds g → ROk ((k, v) :: kvs) ((kD k, d) :: ds) (f ++ g)
end
def isCon : D → Bool
  | .lst _ => true
  | .dct _ => true
  | _ => false
def RO (K : PySem.W.Frag) (G : Hp) (B : Addr) (H : Hp) : Nat → V → D → List Addr → Prop
  | 0, v, d, fp => fp = [] ∧ Rp K G v d
  | n + 1, v, d, fp => (isCon d = false ∧ fp = [] ∧ Rp K G v d) ∨
      (∃ a vs ds f, v = .ref a ∧ d = .lst ds ∧ fp = a :: f ∧ a ≠ B ∧ G a = none ∧ H a = some (.lst vs) ∧ ROs (RO K G B H n) vs ds f) ∨
      (∃ a kvs ds f, v = .ref a ∧ d = .dct ds ∧ fp = a :: f ∧ a ≠ B ∧ G a = none ∧ H a = some (.dK kvs) ∧ ROk (RO K G B H n) kvs ds f)
theorem ROs.imp {R R' : V → D → List Addr → Prop} : ∀ {vs : List V} {ds : List D} {f : List Addr}, ROs R vs ds f → (∀ v d g, (∀ a ∈ g, a ∈ f) → R v d g → R' v d g) → ROs R' vs ds f := by
  intro vs ds f h
  induction h with
  | nil => intro _; exact .nil
  | cons r t ih => intro q; exact .cons (q _ _ _ (fun a h => List.mem_append_left _ h) r) (ih fun v d g hg hr => q v d g (fun a h => List.mem_append_right _ (hg a h)) hr)
theorem ROk.imp {R R' : V → D → List Addr → Prop} : ∀ {vs : List (Key × V)} {ds : List (D × D)} {f : List Addr}, ROk R vs ds f → (∀ v d g, (∀ a ∈ g, a ∈ f) → R v d g → R' v d g) → ROk R' vs ds f := by
  intro vs ds f h
  induction h with
  | nil => intro _; exact .nil
  | cons c r t ih => intro q; exact .cons c (q _ _ _ (fun a h => List.mem_append_left _ h) r) (ih fun v d g hg hr => q v d g (fun a h => List.mem_append_right _ (hg a h)) hr)
section
variable {K : PySem.W.Frag} {G G' H H' : Hp} {B : Addr}
/-- the owned addresses: tracked, not frozen, not the bag -/
theorem RO.fp : ∀ {n : Nat} {v : V} {d : D} {fp : List Addr}, RO K G B H n v d fp → ∀ a ∈ fp, a ≠ B ∧ G a = none ∧ ∃ o, H a = some o ∧ ((∃ vs, o = .lst vs) ∨ ∃ kvs, o = .dK kvs)
  | 0, v, d, fp, h, a, ha => by
    obtain ⟨rfl, _⟩ := h
    simp at ha
  | n + 1, v, d, fp, h, a, ha => by
    have ih := @RO.fp n
    have hs : ∀ {vs : List V} {ds : List D} {f : List Addr}, ROs (RO K G B H n) vs ds f → ∀ a ∈ f, a ≠ B ∧ G a = none ∧ ∃ o, H a = some o ∧ ((∃ vs, o = .lst vs) ∨ ∃ kvs, o = .dK kvs) := by
      intro vs ds f h
      induction h with
      | nil => intro a ha; simp at ha
      | cons r t ih2 =>
        intro a ha
        rcases List.mem_append.mp ha with ha | ha
        · exact ih r a ha
        · exact ih2 a ha
    have hk : ∀ {vs : List (Key × V)} {ds : List (D × D)} {f : List Addr}, ROk (RO K G B H n) vs ds f → ∀ a ∈ f, a ≠ B ∧ G a = none ∧ ∃ o, H a = some o ∧ ((∃ vs, o = .lst vs) ∨ ∃ kvs, o = .dK kvs) := by
      intro vs ds f h
      induction h with
      | nil => intro a ha; simp at ha
      | cons c r t ih2 =>
        intro a ha
        rcases List.mem_append.mp ha with ha | ha
        · exact ih r a ha
        · exact ih2 a ha
    rcases h with ⟨_, rfl, _⟩ | ⟨b, vs, ds, f, rfl, rfl, rfl, nb, gb, hb, r⟩ | ⟨b, vs, ds, f, rfl, rfl, rfl, nb, gb, hb, r⟩
    · simp at ha
    · rcases List.mem_cons.mp ha with rfl | ha
      · exact ⟨nb, gb, _, hb, .inl ⟨_, rfl⟩⟩
      · exact hs r a ha
    · rcases List.mem_cons.mp ha with rfl | ha
      · exact ⟨nb, gb, _, hb, .inr ⟨_, rfl⟩⟩
      · exact hk r a ha
/-- it stays where its addresses do -/
theorem RO.keep (hg : ∀ a o, G a = some o → G' a = some o) : ∀ {n : Nat} {v : V} {d : D} {fp : List Addr}, RO K G B H n v d fp → (∀ a ∈ fp, G' a = none) → (∀ a ∈ fp, H' a = H a) → RO K G' B H' n v d fp
  | 0, v, d, fp, h, _, _ => ⟨h.1, h.2.mono hg⟩
  | n + 1, v, d, fp, h, h1, h2 => by
    rcases h with ⟨c, e, r⟩ | ⟨b, vs, ds, f, rfl, rfl, rfl, nb, gb, hb, r⟩ | ⟨b, vs, ds, f, rfl, rfl, rfl, nb, gb, hb, r⟩
    · exact .inl ⟨c, e, r.mono hg⟩
    · exact .inr (.inl ⟨b, vs, ds, f, rfl, rfl, rfl, nb, h1 b List.mem_cons_self, (h2 b List.mem_cons_self).trans hb, r.imp fun v d g hgf hr => RO.keep hg hr (fun a ha => h1 a (List.mem_cons_of_mem _ (hgf a ha))) fun a ha => h2 a (List.mem_cons_of_mem _ (hgf a ha))⟩)
    · exact .inr (.inr ⟨b, vs, ds, f, rfl, rfl, rfl, nb, h1 b List.mem_cons_self, (h2 b List.mem_cons_self).trans hb, r.imp fun v d g hgf hr => RO.keep hg hr (fun a ha => h1 a (List.mem_cons_of_mem _ (hgf a ha))) fun a ha => h2 a (List.mem_cons_of_mem _ (hgf a ha))⟩)
/-- the frozen heap with more addresses frozen as they stand -/
def frz (G H : Hp) (fp : List Addr) : Hp := fun a => if a ∈ fp then H a else G a
theorem frz_in {fp : List Addr} {a : Addr} (h : a ∈ fp) : frz G H fp a = H a := if_pos h
theorem frz_out {fp : List Addr} {a : Addr} (h : a ∉ fp) : frz G H fp a = G a := if_neg h
theorem frz_sub {fp : List Addr} (h : ∀ a ∈ fp, G a = none) : ∀ a o, G a = some o → frz G H fp a = some o := fun a o e => by
  by_cases q : a ∈ fp
  · rw [h a q] at e; cases e
  · rw [frz_out q]; exact e
/-- all of it frozen -/
theorem RO.rp (hg : ∀ a o, G a = some o → G' a = some o) : ∀ {n : Nat} {v : V} {d : D} {fp : List Addr}, RO K G B H n v d fp → (∀ a ∈ fp, G' a = H a) → Rp K G' v d
  | 0, v, d, fp, h, _ => h.2.mono hg
  | n + 1, v, d, fp, h, h1 => by
    have ih := @RO.rp hg n
    have hs : ∀ {vs : List V} {ds : List D} {f : List Addr}, ROs (RO K G B H n) vs ds f → (∀ a ∈ f, G' a = H a) → Rps K G' vs ds := by
      intro vs ds f h
      induction h with
      | nil => intro _; exact .nil
      | cons r t ih2 => intro q; exact .cons (ih r fun a ha => q a (List.mem_append_left _ ha)) (ih2 fun a ha => q a (List.mem_append_right _ ha))
    have hk : ∀ {vs : List (Key × V)} {ds : List (D × D)} {f : List Addr}, ROk (RO K G B H n) vs ds f → (∀ a ∈ f, G' a = H a) → Rpk K G' vs ds := by
      intro vs ds f h
      induction h with
      | nil => intro _; exact .nil
      | cons c r t ih2 => intro q; exact .cons c (ih r fun a ha => q a (List.mem_append_left _ ha)) (ih2 fun a ha => q a (List.mem_append_right _ ha))
    rcases h with ⟨c, e, r⟩ | ⟨b, vs, ds, f, rfl, rfl, rfl, nb, gb, hb, r⟩ | ⟨b, vs, ds, f, rfl, rfl, rfl, nb, gb, hb, r⟩
    · exact r.mono hg
    · exact .lst ((h1 b List.mem_cons_self).trans hb) (hs r fun a ha => h1 a (List.mem_cons_of_mem _ ha))
    · exact .dct ((h1 b List.mem_cons_self).trans hb) (hk r fun a ha => h1 a (List.mem_cons_of_mem _ ha))
end

/-! ### the bag in the heap; the state -/
structure Bg.ok (b : Bg) : Prop where
  st : 0 ≤ b.st
  ch : 0 ≤ b.ch
  ch2 : b.ch < 2147483647
  ix : 0 ≤ b.ix
  cs : ∀ c ∈ b.cells, 0 ≤ c
  sz : b.cells.length < 1000
def BagAt (B : Addr) (H : Hp) (b : Bg) : Prop := b.ok ∧ ∃ C, C ≠ B ∧ H B = some (.lst [.int b.st, .int b.ch, .int b.ix, .ref C]) ∧ H C = some (.lst (b.cells.map V.int))
/-- frozen things stand in the heap; a dict that is walked is locked meanwhile -/
def Sub (G H : Hp) : Prop := ∀ a o, G a = some o → H a = some o ∨ ∃ kvs ob, o = .dK kvs ∧ H a = some (.frz ob o)
structure StOk (B : Addr) (G H : Hp) (b : Bg) : Prop where
  sub : Sub G H
  gb : G B = none
  bag : BagAt B H b
structure Post (B : Addr) (G : Hp) (H : Hp) (G' : Hp) (b' : Bg) (H' : Hp) : Prop where
  gs : ∀ a o, G a = some o → G' a = some o
  gn : ∀ a, G' a ≠ none → G a ≠ none ∨ H a = none
  kp : ∀ a o, a ≠ B → H a = some o → H' a = some o
  st : StOk B G' H' b'
  cl : ∀ C x y z, H B = some (.lst [x, y, z, .ref C]) → ∃ x y z, H' B = some (.lst [x, y, z, .ref C])
section
variable {K : PySem.W.Frag} {G G' G2 H H' H2 : Hp} {B : Addr} {b b' b2 : Bg}
theorem Post.refl (s : StOk B G H b) : Post B G H G b H := ⟨fun _ _ e => e, fun _ h => .inl h, fun _ _ _ e => e, s, fun _ _ _ _ e => ⟨_, _, _, e⟩⟩
theorem Post.trans (p : Post B G H G' b' H') (q : Post B G' H' G2 b2 H2) : Post B G H G2 b2 H2 := by
  refine ⟨fun a o e => q.gs a o (p.gs a o e), fun a h => ?_, fun a o n e => q.kp a o n (p.kp a o n e), q.st, fun C x y z e => by
    obtain ⟨x1, y1, z1, e1⟩ := p.cl C x y z e
    exact q.cl C x1 y1 z1 e1⟩
  have hb : a ≠ B := fun e => by subst e; exact h q.st.gb
  rcases q.gn a h with h | h
  · exact p.gn a h
  · cases e : H a with
    | none => exact .inr rfl
    | some o => rw [p.kp a o hb e] at h; cases h
end
/-! ### steps of the state -/
section
variable {K : PySem.W.Frag} {G G' G2 H H' H2 : Hp} {B p : Addr} {b b' b2 : Bg} {o : HO} {v : V} {d : D} {fp : List Addr} {n : Nat}
theorem BagAt.upd (h : BagAt B H b) (hp : H p = none) : BagAt B (upd H p o) b := by
  obtain ⟨ok, C, n, h1, h2⟩ := h
  exact ⟨ok, C, n, by rw [upd_ne (ne_of_none h1 hp)]; exact h1, by rw [upd_ne (ne_of_none h2 hp)]; exact h2⟩
theorem Sub.upd (h : Sub G H) (hp : H p = none) : Sub G (upd H p o) := fun a u e => by
  have ne : a ≠ p := fun z => by
    subst z
    rcases h a u e with q | ⟨_, _, _, q⟩ <;> (rw [hp] at q; cases q)
  rw [upd_ne ne]
  exact h a u e
/-- a new thing -/
theorem StOk.laid (s : StOk B G H b) (hp : H p = none) : Post B G H G b (upd H p o) :=
  ⟨fun _ _ e => e, fun _ h => .inl h, fun a u _ e => by rw [upd_ne (ne_of_none e hp)]; exact e, ⟨s.sub.upd hp, s.gb, s.bag.upd hp⟩, fun C x y z e => ⟨x, y, z, by rw [upd_ne (ne_of_none e hp)]; exact e⟩⟩
theorem StOk.gnone (s : StOk B G H b) (hp : H p = none) : G p = none := by
  cases e : G p with
  | none => rfl
  | some u => rcases s.sub p u e with q | ⟨_, _, _, q⟩ <;> (rw [hp] at q; cases q)
theorem StOk.notB (s : StOk B G H b) (hp : H p = none) : p ≠ B := fun e => by
  obtain ⟨_, C, _, h1, _⟩ := s.bag
  subst e; rw [hp] at h1; cases h1
theorem StOk.gne (s : StOk B G H b) {a : Addr} (e : G a ≠ none) : H a ≠ none := fun z => e (s.gnone z)
/-- owned things frozen -/
theorem StOk.frz (s : StOk B G H b) (h : ∀ a ∈ fp, a ≠ B ∧ G a = none ∧ ∃ o, H a = some o ∧ ((∃ vs, o = .lst vs) ∨ ∃ kvs, o = .dK kvs)) : StOk B (frz G H fp) H b := by
  refine ⟨fun a u e => ?_, ?_, s.bag⟩
  · by_cases q : a ∈ fp
    · rw [frz_in q] at e; exact .inl e
    · rw [frz_out q] at e; exact s.sub a u e
  · by_cases q : B ∈ fp
    · exact absurd rfl (h B q).1
    · rw [frz_out q]; exact s.gb
/-- what is owned and new is frozen: an evaluation's end -/
theorem Post.freeze (q : Post B G H G' b' H') (r : RO K G' B H' n v d fp) (hf : ∀ a ∈ fp, H a = none) :
    Post B G H (frz G' H' fp) b' H' ∧ Rp K (frz G' H' fp) v d := by
  have hfp := r.fp
  have hs := frz_sub (G := G') (H := H') fun a ha => (hfp a ha).2.1
  refine ⟨⟨fun a o e => hs a o (q.gs a o e), fun a h => ?_, q.kp, q.st.frz hfp, q.cl⟩, r.rp hs fun a ha => frz_in ha⟩
  by_cases z : a ∈ fp
  · exact .inr (hf a z)
  · rw [frz_out z] at h; exact q.gn a h
/-- a thing that is kept elsewhere outlives an evaluation -/
theorem RO.post (r : RO K G B H n v d fp) (q : Post B G H G' b' H') : RO K G' B H' n v d fp := by
  have hfp := r.fp
  refine r.keep q.gs (fun a ha => ?_) fun a ha => ?_
  · obtain ⟨_, g, o, e, _⟩ := hfp a ha
    cases z : G' a with
    | none => rfl
    | some u =>
      rcases q.gn a (by rw [z]; simp) with y | y
      · exact absurd g y
      · rw [e] at y; cases y
  · obtain ⟨nb, g, o, e, _⟩ := hfp a ha
    rw [e]; exact q.kp a o nb e
end

/-! Dn.rm# a heap with one thing out of sight -/
def rm (H : Hp) (L : Addr) : Hp := fun a => if a = L then none else H a
theorem rm_same {H : Hp} {L : Addr} : rm H L L = none := if_pos rfl
theorem rm_ne {H : Hp} {L a : Addr} (h : a ≠ L) : rm H L a = H a := if_neg h
theorem rm_some {H : Hp} {L a : Addr} {o : HO} (h : rm H L a = some o) : a ≠ L ∧ H a = some o := by
  by_cases q : a = L
  · subst q; rw [rm_same] at h; cases h
  · rw [rm_ne q] at h; exact ⟨q, h⟩
theorem rm_upd {H : Hp} {L T : Addr} {o : HO} (h : T ≠ L) : rm (upd H T o) L = upd (rm H L) T o := by
  funext a
  by_cases q : a = L
  · subst q; rw [rm_same, upd_ne (Ne.symm h), rm_same]
  · rw [rm_ne q]
    by_cases q2 : a = T
    · subst q2; rw [upd_same, upd_same]
    · rw [upd_ne q2, upd_ne q2, rm_ne q]
theorem rm_updD {H : Hp} {L : Addr} {o : HO} : rm (upd H L o) L = rm H L := by
  funext a
  by_cases q : a = L
  · subst q; rw [rm_same, rm_same]
  · rw [rm_ne q, rm_ne q, upd_ne q]
theorem rm_none {H : Hp} {L : Addr} (h : H L = none) : rm H L = H := by
  funext a
  by_cases q : a = L
  · subst q; rw [rm_same, h]
  · rw [rm_ne q]
section
variable {K : PySem.W.Frag} {G G' G2 H H' H2 : Hp} {B L : Addr} {b b' b2 : Bg} {n : Nat} {v : V} {d : Dn.D} {fp : List Addr}
theorem Sub.unrm (s : Sub G (rm H L)) : Sub G H := fun a o e => by
  rcases s a o e with q | ⟨k, ob, e1, q⟩
  · exact .inl (rm_some q).2
  · exact .inr ⟨k, ob, e1, (rm_some q).2⟩
theorem StOk.unrm (s : StOk B G (rm H L) b) : StOk B G H b := by
  obtain ⟨ok, C, n, h1, h2⟩ := s.bag
  exact ⟨s.sub.unrm, s.gb, ok, C, n, (rm_some h1).2, (rm_some h2).2⟩
theorem StOk.rmB (s : StOk B G (rm H L) b) : B ≠ L := by
  obtain ⟨ok, C, n, h1, h2⟩ := s.bag
  exact (rm_some h1).1
theorem RO.unrm {n : Nat} {v : V} {d : Dn.D} (r : RO K G B (rm H L) n v d fp) : RO K G B H n v d fp := r.keep (fun _ _ e => e) (fun a ha => (r.fp a ha).2.1) fun a ha => by
  obtain ⟨_, _, o, e, _⟩ := r.fp a ha
  rw [e, (rm_some e).2]
theorem RO.notD {n : Nat} {v : V} {d : Dn.D} (r : RO K G B (rm H L) n v d fp) : L ∉ fp := fun h => by
  obtain ⟨_, _, o, e, _⟩ := r.fp L h
  exact (rm_some e).1 rfl
/-- a step that does not see L -/
theorem Post.rm {o : HO} (p : Post B G H G' b' H') (s : StOk B G (rm H L) b) (hD : H L = some o) : Post B G (rm H L) G' b' (rm H' L) := by
  have gD : G L = none := by
    cases e : G L with
    | none => rfl
    | some u => exact absurd rm_same (s.gne (a := L) (by rw [e]; simp))
  have gD' : G' L = none := by
    cases e : G' L with
    | none => rfl
    | some u =>
      rcases p.gn L (by rw [e]; simp) with q | q
      · exact absurd gD q
      · rw [hD] at q; cases q
  have nB := s.rmB
  refine ⟨p.gs, fun a h => ?_, fun a u nb e => ?_, ⟨fun a u e => ?_, p.st.gb, ?_⟩, fun C x y z e => ?_⟩
  · rcases p.gn a h with q | q
    · exact .inl q
    · refine .inr ?_
      by_cases z : a = L
      · subst z; exact rm_same
      · rw [rm_ne z]; exact q
  · obtain ⟨e1, e2⟩ := rm_some e
    rw [rm_ne e1]; exact p.kp a u nb e2
  · have z : a ≠ L := fun z => by subst z; rw [gD'] at e; cases e
    rw [rm_ne z]; exact p.st.sub a u e
  · obtain ⟨ok, C, n, h1, h2⟩ := p.st.bag
    obtain ⟨_, C0, n0, h3, h4⟩ := s.bag
    obtain ⟨x, y, z, e⟩ := p.cl _ _ _ _ (rm_some h3).2
    rw [h1] at e
    cases e
    exact ⟨ok, C, n, by rw [rm_ne nB]; exact h1, by rw [rm_ne (rm_some h4).1]; exact h2⟩
  · obtain ⟨x, y, z, e1⟩ := p.cl C x y z (rm_some e).2
    exact ⟨x, y, z, by rw [rm_ne nB]; exact e1⟩
theorem Post.unrm (p : Post B G H G' b' (Dn.rm H' L)) : Post B G H G' b' H' := ⟨p.gs, p.gn, fun a o n e => (rm_some (p.kp a o n e)).2, p.st.unrm, fun C x y z e => by
  obtain ⟨x, y, z, e1⟩ := p.cl C x y z e
  exact ⟨x, y, z, (rm_some e1).2⟩⟩
end

/-! ### the slots -/
abbrev Gam := List Nat
def lvl (Γ : Gam) (i : Nat) : Nat := Γ.getD i 0
structure EnvOk (K : PySem.W.Frag) (B : Addr) (G H : Hp) (bs : Option Nat) (Γ : Gam) (σ : L2.St) (ρ : Rho) : Prop where
  len : σ.length = ρ.length
  own : ∃ f : Nat → List Addr, (∀ i d, ρ[i]? = some (some d) → ∃ v, σ[i]? = some (some v) ∧ RO K G B H (lvl Γ i) v d (f i) ∧ (f i).Nodup) ∧ (∀ i j, i ≠ j → ∀ a ∈ f i, a ∉ f j)
  bag : ∀ i, bs = some i → σ[i]? = some (some (.ref B)) ∧ ρ[i]? = some none
section
variable {K : PySem.W.Frag} {G G' G2 H H' H2 : Hp} {B p : Addr} {b b' b2 : Bg} {bs : Option Nat} {Γ : Gam} {σ : L2.St} {ρ : Rho}
theorem EnvOk.post (e : EnvOk K B G H bs Γ σ ρ) (q : Post B G H G' b' H') : EnvOk K B G' H' bs Γ σ ρ := by
  obtain ⟨f, h1, h2⟩ := e.own
  refine ⟨e.len, ⟨f, fun i d hd => ?_, h2⟩, e.bag⟩
  obtain ⟨v, a1, a2, a3⟩ := h1 i d hd
  exact ⟨v, a1, a2.post q, a3⟩
theorem EnvOk.unrm {Dd : Addr} (e : EnvOk K B G (rm H Dd) bs Γ σ ρ) : EnvOk K B G H bs Γ σ ρ := by
  obtain ⟨f, h1, h2⟩ := e.own
  refine ⟨e.len, ⟨f, fun i d hd => ?_, h2⟩, e.bag⟩
  obtain ⟨v, a1, a2, a3⟩ := h1 i d hd
  exact ⟨v, a1, a2.unrm, a3⟩
/-- a slot read -/
theorem EnvOk.get (e : EnvOk K B G H bs Γ σ ρ) {i : Nat} {d : D} (h : ρ.getD i none = some d) : ∃ v fp, σ[i]? = some (some v) ∧ RO K G B H (lvl Γ i) v d fp ∧ fp.Nodup := by
  obtain ⟨f, h1, _⟩ := e.own
  have h' : ρ[i]? = some (some d) := by
    rw [List.getD_eq_getElem?_getD] at h
    cases q : ρ[i]? with
    | none => rw [q] at h; cases h
    | some o => rw [q] at h; simp at h; rw [h]
  obtain ⟨v, a1, a2, a3⟩ := h1 i d h'
  exact ⟨v, _, a1, a2, a3⟩
end
end Dn

set_option Elab.async false
set_option linter.all false
set_option maxRecDepth 100000
/-! Dn, part D: owned things made less owned; what is known of X; readings. -/
namespace Dn
open PySem PySem.Spec PyProof.Rows L2
section
variable {K : PySem.W.Frag} {G G' H H' : Hp} {B : Addr}
/-- what a split gives: top stays owned (m levels), low is to be frozen -/
def Spl (G H : Hp) (fp : List Addr) (top low : List Addr) (T : Hp → List Addr → Prop) : Prop :=
  (∀ a ∈ top, a ∈ fp) ∧ (∀ a ∈ low, a ∈ fp) ∧ (fp.Nodup → top.Nodup ∧ ∀ a ∈ low, a ∉ top) ∧
    ∀ G', (∀ a o, G a = some o → G' a = some o) → (∀ a ∈ low, G' a = H a) → (∀ a ∈ top, G' a = none) → T G' top
theorem split_app {f g t1 l1 t2 l2 : List Addr} (a1 : ∀ a ∈ t1, a ∈ f) (a2 : ∀ a ∈ l1, a ∈ f) (a3 : f.Nodup → t1.Nodup ∧ ∀ a ∈ l1, a ∉ t1) (b1 : ∀ a ∈ t2, a ∈ g) (b2 : ∀ a ∈ l2, a ∈ g) (b3 : g.Nodup → t2.Nodup ∧ ∀ a ∈ l2, a ∉ t2)
    (h : (f ++ g).Nodup) : (t1 ++ t2).Nodup ∧ ∀ a ∈ l1 ++ l2, a ∉ t1 ++ t2 := by
  obtain ⟨h1, h2, h3⟩ := List.nodup_append.mp h
  obtain ⟨x1, x2⟩ := a3 h1
  obtain ⟨y1, y2⟩ := b3 h2
  refine ⟨List.nodup_append.mpr ⟨x1, y1, fun a ha c hc => h3 a (a1 a ha) c (b1 c hc)⟩, fun a ha hc => ?_⟩
  rcases List.mem_append.mp ha with ha | ha <;> rcases List.mem_append.mp hc with hc | hc
  · exact x2 a ha hc
  · exact h3 a (a2 a ha) a (b1 a hc) rfl
  · exact h3 a (a1 a hc) a (b2 a ha) rfl
  · exact y2 a ha hc
theorem RO.split : ∀ {n m : Nat} {v : V} {d : D} {fp : List Addr}, m ≤ n → RO K G B H n v d fp → ∃ top low, Spl G H fp top low fun G' top => RO K G' B H m v d top
  | n, 0, v, d, fp, _, r => ⟨[], fp, by simp, fun a h => h, fun _ => ⟨List.nodup_nil, by simp⟩, fun G' hg hl _ => ⟨rfl, r.rp hg hl⟩⟩
  | 0, m + 1, v, d, fp, h, _ => absurd h (Nat.not_succ_le_zero _)
  | n + 1, m + 1, v, d, fp, h, r => by
    have ih := @RO.split n m
    have hs : ∀ {vs : List V} {ds : List D} {f : List Addr}, ROs (RO K G B H n) vs ds f → ∃ top low, Spl G H f top low fun G' top => ROs (RO K G' B H m) vs ds top := by
      intro vs ds f h
      induction h with
      | nil => exact ⟨[], [], by simp, by simp, fun _ => ⟨List.nodup_nil, by simp⟩, fun _ _ _ _ => .nil⟩
      | cons r t ih2 =>
        obtain ⟨t1, l1, a1, a2, a3, a4⟩ := ih (Nat.le_of_succ_le_succ (by assumption)) r
        obtain ⟨t2, l2, b1, b2, b3, b4⟩ := ih2
        refine ⟨t1 ++ t2, l1 ++ l2, fun a ha => ?_, fun a ha => ?_, split_app a1 a2 a3 b1 b2 b3, fun G' hg hl ht => .cons (a4 G' hg (fun a ha => hl a (List.mem_append_left _ ha)) fun a ha => ht a (List.mem_append_left _ ha)) (b4 G' hg (fun a ha => hl a (List.mem_append_right _ ha)) fun a ha => ht a (List.mem_append_right _ ha))⟩
        · rcases List.mem_append.mp ha with ha | ha
          · exact List.mem_append_left _ (a1 a ha)
          · exact List.mem_append_right _ (b1 a ha)
        · rcases List.mem_append.mp ha with ha | ha
          · exact List.mem_append_left _ (a2 a ha)
          · exact List.mem_append_right _ (b2 a ha)
    have hk : ∀ {vs : List (Key × V)} {ds : List (D × D)} {f : List Addr}, ROk (RO K G B H n) vs ds f → ∃ top low, Spl G H f top low fun G' top => ROk (RO K G' B H m) vs ds top := by
      intro vs ds f h
      induction h with
      | nil => exact ⟨[], [], by simp, by simp, fun _ => ⟨List.nodup_nil, by simp⟩, fun _ _ _ _ => .nil⟩
      | cons c r t ih2 =>
        obtain ⟨t1, l1, a1, a2, a3, a4⟩ := ih (Nat.le_of_succ_le_succ (by assumption)) r
        obtain ⟨t2, l2, b1, b2, b3, b4⟩ := ih2
        refine ⟨t1 ++ t2, l1 ++ l2, fun a ha => ?_, fun a ha => ?_, split_app a1 a2 a3 b1 b2 b3, fun G' hg hl ht => .cons c (a4 G' hg (fun a ha => hl a (List.mem_append_left _ ha)) fun a ha => ht a (List.mem_append_left _ ha)) (b4 G' hg (fun a ha => hl a (List.mem_append_right _ ha)) fun a ha => ht a (List.mem_append_right _ ha))⟩
        · rcases List.mem_append.mp ha with ha | ha
          · exact List.mem_append_left _ (a1 a ha)
          · exact List.mem_append_right _ (b1 a ha)
        · rcases List.mem_append.mp ha with ha | ha
          · exact List.mem_append_left _ (a2 a ha)
          · exact List.mem_append_right _ (b2 a ha)
    rcases r with ⟨c, rfl, r⟩ | ⟨b, vs, ds, f, rfl, rfl, rfl, nb, gb, hb, r⟩ | ⟨b, vs, ds, f, rfl, rfl, rfl, nb, gb, hb, r⟩
    · exact ⟨[], [], by simp, by simp, fun _ => ⟨List.nodup_nil, by simp⟩, fun G' hg _ _ => .inl ⟨c, rfl, r.mono hg⟩⟩
    · obtain ⟨t, l, b1, b2, b3, b4⟩ := hs r
      refine ⟨b :: t, l, fun a ha => ?_, fun a ha => List.mem_cons_of_mem _ (b2 a ha), fun hn => ?_, fun G' hg hl ht => .inr (.inl ⟨b, vs, ds, t, rfl, rfl, rfl, nb, ht b List.mem_cons_self, hb, b4 G' hg hl fun a ha => ht a (List.mem_cons_of_mem _ ha)⟩)⟩
      · rcases List.mem_cons.mp ha with rfl | ha
        · exact List.mem_cons_self
        · exact List.mem_cons_of_mem _ (b1 a ha)
      · obtain ⟨n1, n2⟩ := List.nodup_cons.mp hn
        obtain ⟨x1, x2⟩ := b3 n2
        refine ⟨List.nodup_cons.mpr ⟨fun z => n1 (b1 _ z), x1⟩, fun a ha hc => ?_⟩
        rcases List.mem_cons.mp hc with rfl | hc
        · exact n1 (b2 _ ha)
        · exact x2 a ha hc
    · obtain ⟨t, l, b1, b2, b3, b4⟩ := hk r
      refine ⟨b :: t, l, fun a ha => ?_, fun a ha => List.mem_cons_of_mem _ (b2 a ha), fun hn => ?_, fun G' hg hl ht => .inr (.inr ⟨b, vs, ds, t, rfl, rfl, rfl, nb, ht b List.mem_cons_self, hb, b4 G' hg hl fun a ha => ht a (List.mem_cons_of_mem _ ha)⟩)⟩
      · rcases List.mem_cons.mp ha with rfl | ha
        · exact List.mem_cons_self
        · exact List.mem_cons_of_mem _ (b1 a ha)
      · obtain ⟨n1, n2⟩ := List.nodup_cons.mp hn
        obtain ⟨x1, x2⟩ := b3 n2
        refine ⟨List.nodup_cons.mpr ⟨fun z => n1 (b1 _ z), x1⟩, fun a ha hc => ?_⟩
        rcases List.mem_cons.mp hc with rfl | hc
        · exact n1 (b2 _ ha)
        · exact x2 a ha hc
/-- a new owned thing made less owned -/
theorem Post.lower {b' : Bg} {n m : Nat} {v : V} {d : D} {fp : List Addr} (q : Post B G H G' b' H') (h : m ≤ n) (r : RO K G' B H' n v d fp) (nd : fp.Nodup) (hf : ∀ a ∈ fp, H a = none) :
    ∃ G2 fp2, Post B G H G2 b' H' ∧ RO K G2 B H' m v d fp2 ∧ fp2.Nodup ∧ (∀ a ∈ fp2, H a = none) ∧ (∀ a ∈ fp2, a ∈ fp) ∧ (∀ a o, G' a = some o → G2 a = some o) ∧ ∀ a, G2 a ≠ none → G' a ≠ none ∨ a ∈ fp := by
  obtain ⟨t, l, b1, b2, b3, b4⟩ := r.split h
  obtain ⟨c1, c2⟩ := b3 nd
  have hfp := r.fp
  have hl : ∀ a ∈ l, a ≠ B ∧ G' a = none ∧ ∃ o, H' a = some o ∧ ((∃ vs, o = .lst vs) ∨ ∃ kvs, o = .dK kvs) := fun a ha => hfp a (b2 a ha)
  have hs := frz_sub (G := G') (H := H') fun a ha => (hl a ha).2.1
  refine ⟨frz G' H' l, t, ⟨fun a o e => hs a o (q.gs a o e), fun a h => ?_, q.kp, q.st.frz hl, q.cl⟩, b4 _ hs (fun a ha => frz_in ha) (fun a ha => ?_), c1, fun a ha => hf a (b1 a ha), b1, hs, fun a z => ?_⟩
  · by_cases z : a ∈ l
    · exact .inr (hf a (b2 a z))
    · rw [frz_out z] at h; exact q.gn a h
  · have z : a ∉ l := fun y => c2 a y ha
    rw [frz_out z]; exact (hfp a (b1 a ha)).2.1
  · by_cases y : a ∈ l
    · exact .inr (b2 a y)
    · rw [frz_out y] at z; exact .inl z
end

/-! ### what is known of the context -/
structure XOk (X : Cx) (n : Nat) : Prop where
  calm : X.calm = true
  room : Room n X.A
  gd : X.A.guards = some []
  sys : ∃ o, X.K.lookup sysModules = some o
  free : ∀ x ∈ (["len", "tuple", "list", "dict", "sorted", "abs", "int", "str", "repr", "all", "any", "sum", "isinstance", "range", "enumerate", "zip", "bool", "set"] : List String), X.mg (Str.ofString x) = none
theorem XOk.blk {X : Cx} {n : Nat} (h : XOk X n) {s : Shared} {H : Hp} {scope : Scope} {cenv : Env} {fp : List Addr} : XOk (X.blk s H scope cenv fp) n := ⟨h.calm, h.room, h.gd, h.sys, h.free⟩
theorem XOk.mono {X : Cx} {m n : Nat} (h : XOk X n) (hm : m ≤ n) : XOk X m := ⟨h.calm, h.room.mono hm, h.gd, h.sys, h.free⟩

/-! ### weaker readings -/
section
variable {X : Cx}
theorem wkE {e : Expr} {t t' : TE} (h : PE X e t) (w : ∀ σ H Q, t' σ H Q → t σ H Q) : PE X e t' := ⟨fun pins s σ H Q I q => h.run pins s σ H Q I (w σ H Q q)⟩
theorem wkT {e : Expr} {t t' : TT} (h : PT X e t) (w : ∀ σ H Q, t' σ H Q → t σ H Q) : PT X e t' := ⟨fun pins s σ H Q I q => h.run pins s σ H Q I (w σ H Q q)⟩
theorem wkA {es : List Expr} {t t' : TA} (h : PA X es t) (w : ∀ σ H Q, t' σ H Q → t σ H Q) : PA X es t' := ⟨fun pos pins s σ H Q I q => h.run pos pins s σ H Q I (w σ H Q q)⟩
theorem wkS {st : Stmt} {t t' : TS} (h : PS X st t) (w : ∀ D σ H, t' D σ H → t D σ H) : PS X st t' := ⟨fun pins s σ H D I q => h.run pins s σ H D I (w D σ H q)⟩
theorem wkSs {st : List Stmt} {t t' : TS} (h : PSs X st t) (w : ∀ D σ H, t' D σ H → t D σ H) : PSs X st t' := ⟨fun pins s σ H D I q => h.run pins s σ H D I (w D σ H q)⟩
theorem wkI {tg it : Expr} {t t' : TI} (h : PI X tg it t) (w : ∀ σ H R, t' σ H R → t σ H R) : PI X tg it t' := ⟨fun pins s σ H R I q => h.run pins s σ H R I (w σ H R q)⟩
theorem wkG {tg : Expr} {t t' : TG} (h : PG X tg t) (w : ∀ v σ H Q, t' v σ H Q → t v σ H Q) : PG X tg t' := ⟨fun pins s σ H v u Q I r q => h.run pins s σ H v u Q I r (w v σ H Q q)⟩
theorem wkOp {f : Value → Value → Sem Value} {r r' : R2} (h : OpR X f r) (w : ∀ x y H Q, r' x y H Q → r x y H Q) : OpR X f r' := fun pins s σ H x y v u Q I rx ry q => h pins s σ H x y v u Q I rx ry (w x y H Q q)
theorem orE {e : Expr} {t t' : TE} (h : PE X e t) (h' : PE X e t') : PE X e (fun σ H Q => t σ H Q ∨ t' σ H Q) := ⟨fun pins s σ H Q I q => q.elim (h.run pins s σ H Q I) (h'.run pins s σ H Q I)⟩
theorem orS {e : Stmt} {t t' : TS} (h : PS X e t) (h' : PS X e t') : PS X e (fun D σ H => t D σ H ∨ t' D σ H) := ⟨fun pins s σ H Q I q => q.elim (h.run pins s σ H Q I) (h'.run pins s σ H Q I)⟩
theorem orOp {f : Value → Value → Sem Value} {r r' : R2} (h : OpR X f r) (h' : OpR X f r') : OpR X f (fun x y H Q => r x y H Q ∨ r' x y H Q) := fun pins s σ H x y v u Q I rx ry q => q.elim (h pins s σ H x y v u Q I rx ry) (h' pins s σ H x y v u Q I rx ry)
end

/-! ### levels -/
/-- what a program's part is read with: the written part, the defs' meaning, where the bag's slot is, how owned a def's answer is -/
structure Cn where
  K : PySem.W.Frag
  Φ : Nat → List D → M D
  bs : Option Nat
  own : Nat → Nat
def chain : Ex → Bool
  | .var _ => true
  | .idx _ _ => true
  | _ => false
/-- slots of a block's own are not owned -/
def setz (Γ : Gam) (l : List Nat) : Gam := (List.range Γ.length).map fun i => if l.contains i then 0 else lvl Γ i
def lv (own : Nat → Nat) (Γ : Gam) : Ex → Nat
  | .var i => lvl Γ i
  | .idx a _ => lv own Γ a - 1
  | .glo _ d => if isCon d then 0 else 9
  | .lst .nil => 9
  | .lst _ => 1
  | .dsp .nil => 9
  | .dsp _ => 1
  | .dmg _ _ _ => 1
  | .bin _ _ _ => 1
  | .slc _ _ _ => 1
  | .ite _ a b => min (lv own Γ a) (lv own Γ b)
  | .call f _ => own f
  | .bi .list _ => 1
  | .bi .dict _ => 1
  | .bi .sorted _ => 1
  | .lrg _ => 1
  | .lit _ => 1
  | .sit _ => 1
  | .dm2 _ _ => 1
  | .dzp _ _ => 1
  | .get _ _ => 0
  | .get2 _ _ _ => 0
  | .lc elt o _ _ _ => min 9 (lv own (setz Γ o) elt + 1)
  | .lc2 _ _ _ _ _ _ _ _ => 1
  | .dc _ _ _ _ _ _ => 1
  | .sst _ => 1
  | _ => 9
/-- a value as owned as told; what a slot (or a place within it) holds may be less owned -/
def Res (C : Cn) (m : Nat) (Γ : Gam) (e : Ex) (G : Hp) (B : Addr) (H : Hp) (v : V) (d : D) (fp : List Addr) : Prop :=
  ∃ k, k ≤ min m (lv C.own Γ e) ∧ (chain e = false → k = min m (lv C.own Γ e)) ∧ RO C.K G B H k v d fp
/-- what an expression gives, as the layer reads it: d, at v, as owned as told; m: no more owned than that -/
def rd (C : Cn) (m : Nat) (Γ : Gam) (e : Ex) : TE := fun σ H Q => ∃ B G b ρ d b', StOk B G H b ∧ EnvOk C.K B G H C.bs Γ σ ρ ∧ ev C.Φ ρ e b = some (d, b') ∧
  ∀ v G' H' fp, Post B G H G' b' H' → Res C m Γ e G' B H' v d fp → (chain e = false → fp.Nodup ∧ ∀ a ∈ fp, H a = none) → Q v H'
theorem rd_out {C : Cn} {m : Nat} {Γ : Gam} {e : Ex} {σ : L2.St} {H : Hp} {Q : VK} (h : rd C m Γ e σ H Q) : ∃ B G b ρ d b', StOk B G H b ∧ EnvOk C.K B G H C.bs Γ σ ρ ∧ ev C.Φ ρ e b = some (d, b') ∧
    ∀ v G' H' fp, Post B G H G' b' H' → RO C.K G' B H' (min m (lv C.own Γ e)) v d fp → (chain e = false → fp.Nodup ∧ ∀ a ∈ fp, H a = none) → Q v H' := by
  obtain ⟨B, G, b, ρ, d, b', st, en, he, q⟩ := h
  exact ⟨B, G, b, ρ, d, b', st, en, he, fun v G' H' fp P R F => q v G' H' fp P ⟨_, Nat.le_refl _, fun _ => rfl, R⟩ F⟩
/-- made less owned: always what is new; a thing of a slot's only if it is so already -/
theorem rd_low {X : Cx} {C : Cn} {m n : Nat} {Γ : Gam} {e : Ex} {a : Expr} (h : PE X a (rd C n Γ e)) (hm : m ≤ n) (hc : chain e = false ∨ lv C.own Γ e ≤ m) : PE X a (rd C m Γ e) := by
  refine wkE h fun σ H Q ⟨B, G, b, ρ, d, b', st, en, he, q⟩ => ⟨B, G, b, ρ, d, b', st, en, he, fun v G' H' fp P ⟨k, k1, k2, R⟩ F => ?_⟩
  cases hce : chain e with
  | true =>
    have hl : lv C.own Γ e ≤ m := by
      rcases hc with z | z
      · rw [hce] at z; cases z
      · exact z
    exact q v G' H' fp P ⟨k, by omega, (fun z => by rw [hce] at z; cases z), R⟩ fun z => by rw [hce] at z; cases z
  | false =>
    obtain ⟨f1, f2⟩ := F hce
    have k3 := k2 hce
    obtain ⟨G2, fp2, P2, R2, n2, h2, _⟩ := P.lower (m := min m (lv C.own Γ e)) (by omega) R f1 f2
    exact q v G2 H' fp2 P2 ⟨_, Nat.le_refl _, fun _ => rfl, R2⟩ fun _ => ⟨n2, h2⟩
end Dn

set_option Elab.async false
set_option linter.all false
set_option maxRecDepth 100000
/-! Dn, part E: what a held thing looks like; ==, in, repr, sorted of held data. -/
namespace Dn
open PySem PySem.Spec PyProof.Rows L2

theorem bnd_some {α β : Type} {m : M α} {f : α → M β} {b : Bg} {r : β × Bg} (h : bnd m f b = some r) : ∃ a b1, m b = some (a, b1) ∧ f a b1 = some r := by
  unfold bnd at h
  cases e : m b with
  | none => rw [e] at h; cases h
  | some p => rw [e] at h; exact ⟨p.1, p.2, rfl, h⟩
theorem ret_some {α : Type} {a x : α} {b b' : Bg} (h : ret a b = some (x, b')) : x = a ∧ b' = b := by
  unfold ret at h
  cases h
  exact ⟨rfl, rfl⟩
theorem lift_some {α : Type} {o : Option α} {x : α} {b b' : Bg} (h : lift o b = some (x, b')) : o = some x ∧ b' = b := by
  unfold lift at h
  cases o with
  | none => cases h
  | some a => cases h; exact ⟨rfl, rfl⟩
theorem fail_some {α : Type} {x : α × Bg} {b : Bg} (h : (fail : M α) b = some x) : False := by cases h
theorem ite_some {α : Type} {c : Prop} [Decidable c] {m n : M α} {b : Bg} {r : α × Bg} (h : (if c then m else n) b = some r) : (c ∧ m b = some r) ∨ (¬ c ∧ n b = some r) := by
  by_cases q : c
  · rw [if_pos q] at h; exact .inl ⟨q, h⟩
  · rw [if_neg q] at h; exact .inr ⟨q, h⟩
theorem boolOf_some {d : D} {c : Bool} {b b' : Bg} (h : boolOf d b = some (c, b')) : d = .bl c ∧ b' = b := by
  cases d <;> first | (obtain ⟨rfl, rfl⟩ := ret_some h; exact ⟨rfl, rfl⟩) | exact nomatch (show (none : Option (_ × Bg)) = some _ from h)
theorem intOf_some {d : D} {c : Int} {b b' : Bg} (h : intOf d b = some (c, b')) : d = .int c ∧ b' = b := by
  cases d <;> first | (obtain ⟨rfl, rfl⟩ := ret_some h; exact ⟨rfl, rfl⟩) | exact nomatch (show (none : Option (_ × Bg)) = some _ from h)
theorem dctOf_some {d : D} {c : List (D × D)} {b b' : Bg} (h : dctOf d b = some (c, b')) : d = .dct c ∧ b' = b := by
  cases d <;> first | (obtain ⟨rfl, rfl⟩ := ret_some h; exact ⟨rfl, rfl⟩) | exact nomatch (show (none : Option (_ × Bg)) = some _ from h)
theorem lstOf_some {d : D} {c : List D} {b b' : Bg} (h : lstOf d b = some (c, b')) : (d = .lst c ∨ d = .tup c) ∧ b' = b := by
  cases d <;> first | (obtain ⟨rfl, rfl⟩ := ret_some h; first | exact ⟨.inl rfl, rfl⟩ | exact ⟨.inr rfl, rfl⟩) | exact nomatch (show (none : Option (_ × Bg)) = some _ from h)

section
variable {K : PySem.W.Frag} {G G' H H' : Hp} {B : Addr} {n : Nat} {v : V} {fp : List Addr} {d : D}
theorem RO.nc (hc : isCon d = false) (r : Rp K G v d) : RO K G B H n v d [] := by
  cases n with
  | zero => exact ⟨rfl, r⟩
  | succ n => exact .inl ⟨hc, rfl, r⟩
theorem RO.ncRp (hc : isCon d = false) (r : RO K G B H n v d fp) : fp = [] ∧ Rp K G v d := by
  cases n with
  | zero => exact r
  | succ n =>
    rcases r with ⟨_, e, r⟩ | ⟨b, vs, ds, f, rfl, rfl, _⟩ | ⟨b, vs, ds, f, rfl, rfl, _⟩
    · exact ⟨e, r⟩
    · cases hc
    · cases hc
theorem RO.zero (r : RO K G B H 0 v d fp) : Rp K G v d := r.2
theorem RO.int {i : Int} (r : RO K G B H n v (.int i) fp) : v = .int i := by
  have := (RO.ncRp rfl r).2
  cases this; rfl
theorem RO.bl {c : Bool} (r : RO K G B H n v (.bl c) fp) : v = .bl c := by
  have := (RO.ncRp rfl r).2
  cases this; rfl
theorem RO.str {c : Str} (r : RO K G B H n v (.str c) fp) : v = .str c ∧ c.length ≤ line := by
  have := (RO.ncRp rfl r).2
  cases this with | str _ h => exact ⟨rfl, h⟩
theorem RO.non (r : RO K G B H n v .non fp) : v = .non := by
  have := (RO.ncRp rfl r).2
  cases this; rfl
theorem Sub.lst (s : Sub G H) {a : Addr} {vs : List V} (e : G a = some (.lst vs)) : H a = some (.lst vs) := by
  rcases s a _ e with q | ⟨_, _, q, _⟩
  · exact q
  · cases q
theorem Sub.tup (s : Sub G H) {a : Addr} {o : Obj} {vs : List V} (e : G a = some (.frz o (.tup vs))) : H a = some (.frz o (.tup vs)) := by
  rcases s a _ e with q | ⟨_, _, q, _⟩
  · exact q
  · cases q
theorem Sub.dct (s : Sub G H) {a : Addr} {kvs : List (Key × V)} (e : G a = some (.dK kvs)) : Rd H a (.dK kvs) := by
  rcases s a _ e with q | ⟨kv, ob, q, r⟩
  · exact .inl q
  · cases q; exact .inr ⟨ob, r⟩
theorem Rp.tupAt (s : Sub G H) {ds : List D} (r : Rp K G v (.tup ds)) : ∃ a vs, v = .ref a ∧ SqT K H a vs ∧ Rps K G vs ds := by
  cases r with
  | tup e _ r => exact ⟨_, _, rfl, .inl (.inr ⟨_, s.tup e⟩), r⟩
  | ktup e r => exact ⟨_, _, rfl, .inr e.1, r⟩
theorem RO.tupAt (s : Sub G H) {ds : List D} (r : RO K G B H n v (.tup ds) fp) : ∃ a vs, v = .ref a ∧ SqT K H a vs ∧ Rps K G vs ds := (RO.ncRp rfl r).2.tupAt s
theorem Rps.ros {ds : List D} : ∀ {vs : List V}, Rps K G vs ds → ROs (RO K G B H 0) vs ds [] := by
  induction ds with
  | nil => intro vs h; cases h; exact .nil
  | cons x xs ih => intro vs h; cases h with | cons r t => exact .cons (f := []) (g := []) ⟨rfl, r⟩ (ih t)
theorem Rpk.rok {ds : List (D × D)} : ∀ {vs : List (Key × V)}, Rpk K G vs ds → ROk (RO K G B H 0) vs ds [] := by
  induction ds with
  | nil => intro vs h; cases h; exact .nil
  | cons x xs ih => intro vs h; cases h with | cons c r t => exact .cons c (f := []) (g := []) ⟨rfl, r⟩ (ih t)
theorem ROs.rps {ds : List D} {f : List Addr} : ∀ {vs : List V}, ROs (RO K G B H 0) vs ds f → Rps K G vs ds := by
  intro vs h
  induction h with
  | nil => exact .nil
  | cons r t ih => exact .cons r.2 ih
theorem ROk.rpk {ds : List (D × D)} {f : List Addr} : ∀ {vs : List (Key × V)}, ROk (RO K G B H 0) vs ds f → Rpk K G vs ds := by
  intro vs h
  induction h with
  | nil => exact .nil
  | cons c r t ih => exact .cons c r.2 ih
theorem ROs.get {R : V → D → List Addr → Prop} {vs : List V} {ds : List D} {f : List Addr} (h : ROs R vs ds f) : ∀ {i : Nat} {d : D}, ds[i]? = some d → ∃ v g, vs[i]? = some v ∧ R v d g ∧ ∀ a ∈ g, a ∈ f := by
  induction h with
  | nil => intro i d e; simp at e
  | cons r t ih =>
    intro i d e
    cases i with
    | zero => simp at e; subst e; exact ⟨_, _, rfl, r, fun a h => List.mem_append_left _ h⟩
    | succ i =>
      obtain ⟨v, g, h1, h2, h3⟩ := ih (i := i) (by simpa using e)
      exact ⟨v, g, by simpa using h1, h2, fun a h => List.mem_append_right _ (h3 a h)⟩
theorem ROs.length {R : V → D → List Addr → Prop} {vs : List V} {ds : List D} {f : List Addr} (h : ROs R vs ds f) : vs.length = ds.length := by
  induction h with
  | nil => rfl
  | cons _ _ ih => simp [ih]
theorem ROk.length {R : V → D → List Addr → Prop} {vs : List (Key × V)} {ds : List (D × D)} {f : List Addr} (h : ROk R vs ds f) : vs.length = ds.length := by
  induction h with
  | nil => rfl
  | cons _ _ _ ih => simp [ih]
/-- a list -/
theorem RO.lstAt (s : Sub G H) {ds : List D} (r : RO K G B H n v (.lst ds) fp) : ∃ a vs f, v = .ref a ∧ H a = some (.lst vs) ∧ ROs (RO K G B H (n - 1)) vs ds f := by
  cases n with
  | zero =>
    obtain ⟨rfl, r⟩ := r
    cases r with
    | lst e r => exact ⟨_, _, [], rfl, s.lst e, r.ros⟩
  | succ n =>
    rcases r with ⟨c, _⟩ | ⟨b, vs, es, f, rfl, e, rfl, nb, gb, hb, r⟩ | ⟨b, vs, es, f, rfl, e, _⟩
    · cases c
    · cases e; exact ⟨b, vs, f, rfl, hb, r⟩
    · cases e
theorem RO.lst1 (s : Sub G H) {ds : List D} (r : RO K G B H n v (.lst ds) fp) (hn : n ≤ 1) : ∃ a vs, v = .ref a ∧ H a = some (.lst vs) ∧ Rps K G vs ds := by
  obtain ⟨a, vs, f, h1, h2, h3⟩ := r.lstAt s
  rw [show n - 1 = 0 by omega] at h3
  exact ⟨a, vs, h1, h2, h3.rps⟩
/-- a dict -/
theorem RO.dctAt (s : Sub G H) {ds : List (D × D)} (r : RO K G B H n v (.dct ds) fp) : ∃ a vs f, v = .ref a ∧ Rd H a (.dK vs) ∧ ROk (RO K G B H (n - 1)) vs ds f := by
  cases n with
  | zero =>
    obtain ⟨rfl, r⟩ := r
    cases r with
    | dct e r => exact ⟨_, _, [], rfl, s.dct e, r.rok⟩
  | succ n =>
    rcases r with ⟨c, _⟩ | ⟨b, vs, es, f, rfl, e, _⟩ | ⟨b, vs, es, f, rfl, e, rfl, nb, gb, hb, r⟩
    · cases c
    · cases e
    · cases e; exact ⟨b, vs, f, rfl, .inl hb, r⟩
theorem RO.dct1 (s : Sub G H) {ds : List (D × D)} (r : RO K G B H n v (.dct ds) fp) (hn : n ≤ 1) : ∃ a vs, v = .ref a ∧ Rd H a (.dK vs) ∧ Rpk K G vs ds := by
  obtain ⟨a, vs, f, h1, h2, h3⟩ := r.dctAt s
  rw [show n - 1 = 0 by omega] at h3
  exact ⟨a, vs, h1, h2, h3.rpk⟩
end

/-! ### data of the library -/
section
variable {K : PySem.W.Frag} {G G' H H' : Hp} {B : Addr}
mutual
theorem Rp.dp (s : Sub G H) : ∀ (d : D) (v : V), flat d = true → Rp K G v d → Dp K H v (toP d)
  | .non, _, _, r => by cases r; exact .non
  | .bl b, _, _, r => by cases r; exact .bl b
  | .int i, _, _, r => by cases r; exact .int i
  | .str x, _, _, r => by cases r; exact .str x
  | .tup ds, v, f, r => by
    cases r with
    | tup e _ r => exact .tup (.inl (.inr ⟨_, s.tup e⟩)) (Rps.dp s ds _ (by simpa [flat] using f) r)
    | ktup e r => exact .tup (.inr e.1) (Rps.dp s ds _ (by simpa [flat] using f) r)
  | .lst ds, v, f, r => by
    cases r with
    | lst e r => exact .lst (.inl (.inl (s.lst e))) (Rps.dp s ds _ (by simpa [flat] using f) r)
  | .dct _, _, f, _ => by simp [flat] at f
  | .ins _, _, f, _ => by simp [flat] at f
theorem Rps.dp (s : Sub G H) : ∀ (ds : List D) (vs : List V), flats ds = true → Rps K G vs ds → DpAll K H vs (toPs ds)
  | [], _, _, r => by cases r; exact .nil
  | d :: ds, _, f, r => by
    have f' : flat d = true ∧ flats ds = true := by simpa [flats] using f
    cases r with
    | cons r t => exact .cons (Rp.dp s d _ f'.1 r) (Rps.dp s ds _ f'.2 t)
end
theorem RO.dp (s : Sub G H) : ∀ {n : Nat} {v : V} {d : D} {fp : List Addr}, RO K G B H n v d fp → flat d = true → Dp K H v (toP d)
  | 0, v, d, fp, r, f => Rp.dp s d v f r.2
  | n + 1, v, d, fp, r, f => by
    have ih := @RO.dp s n
    rcases r with ⟨c, _, r⟩ | ⟨b, vs, ds, g, rfl, rfl, rfl, nb, gb, hb, r⟩ | ⟨b, vs, ds, g, rfl, rfl, _⟩
    · exact Rp.dp s d v f r
    · have hs : ∀ {vs : List V} {ds : List D} {g : List Addr}, ROs (RO K G B H n) vs ds g → flats ds = true → DpAll K H vs (toPs ds) := by
        intro vs ds g h
        induction h with
        | nil => intro _; exact .nil
        | cons r t ih2 =>
          intro f
          have f' := Bool.and_eq_true_iff.mp (show (flat _ && flats _) = true from f)
          exact .cons (ih r f'.1) (ih2 f'.2)
      exact .lst (.inl (.inl hb)) (hs r (by simpa [flat] using f))
    · simp [flat] at f
mutual
theorem plain_toP : ∀ d : D, flat d = true → (toP d).plain = true
  | .non, _ => rfl
  | .bl _, _ => rfl
  | .int _, _ => rfl
  | .str _, _ => rfl
  | .tup ds, f => by simp only [toP, PyData.plain]; exact plain_toPs ds (by simpa [flat] using f)
  | .lst ds, f => by simp only [toP, PyData.plain]; exact plain_toPs ds (by simpa [flat] using f)
  | .dct _, f => by simp [flat] at f
  | .ins _, f => by simp [flat] at f
theorem plain_toPs : ∀ ds : List D, flats ds = true → PyData.plainAll (toPs ds) = true
  | [], _ => rfl
  | d :: ds, f => by
    have f' : flat d = true ∧ flats ds = true := by simpa [flats] using f
    simp only [toPs, PyData.plainAll, plain_toP d f'.1, plain_toPs ds f'.2, Bool.and_self]
end
mutual
theorem depth_toP : ∀ d : D, (toP d).depth = dep d
  | .non => by simp [toP, PyData.depth, dep]
  | .bl _ => by simp [toP, PyData.depth, dep]
  | .int _ => by simp [toP, PyData.depth, dep]
  | .str _ => by simp [toP, PyData.depth, dep]
  | .tup ds => by simp only [toP, PyData.depth, dep, depth_toPs ds]
  | .lst ds => by simp only [toP, PyData.depth, dep, depth_toPs ds]
  | .dct ds => by simp only [toP, PyData.depth, dep, depth_toPk ds]
  | .ins _ => by simp [toP, PyData.depth, dep]
theorem depth_toPs : ∀ ds : List D, PyData.depthAll (toPs ds) = deps ds
  | [] => by simp [toPs, PyData.depthAll, deps]
  | d :: ds => by simp only [toPs, PyData.depthAll, deps, depth_toP d, depth_toPs ds]
theorem depth_toPk : ∀ ds : List (D × D), PyData.depthKv (toPk ds) = depk ds
  | [] => by simp [toPk, PyData.depthKv, depk]
  | (k, v) :: ds => by simp only [toPk, PyData.depthKv, depk, depth_toP k, depth_toP v, depth_toPk ds]
end
mutual
theorem eqv_toP : ∀ d e : D, flat d = true → flat e = true → PyData.eqv (toP d) (toP e) = eqD d e
  | .non, e, _, f => by cases e <;> first | (simp [toP, PyData.eqv, eqD]; done) | (simp [flat] at f)
  | .bl _, e, _, f => by cases e <;> first | (simp [toP, PyData.eqv, eqD]; done) | (simp [flat] at f)
  | .int _, e, _, f => by cases e <;> first | (simp [toP, PyData.eqv, eqD]; done) | (simp [flat] at f)
  | .str _, e, _, f => by cases e <;> first | (simp [toP, PyData.eqv, eqD]; done) | (simp [flat] at f)
  | .tup xs, e, f1, f => by
    cases e with
    | tup ys => simp only [toP, PyData.eqv, eqD]; exact eqv_toPs xs ys (by simpa [flat] using f1) (by simpa [flat] using f)
    | _ => first | (simp [toP, PyData.eqv, eqD]; done) | (simp [flat] at f)
  | .lst xs, e, f1, f => by
    cases e with
    | lst ys => simp only [toP, PyData.eqv, eqD]; exact eqv_toPs xs ys (by simpa [flat] using f1) (by simpa [flat] using f)
    | _ => first | (simp [toP, PyData.eqv, eqD]; done) | (simp [flat] at f)
  | .dct _, _, f, _ => by simp [flat] at f
  | .ins _, _, f, _ => by simp [flat] at f
theorem eqv_toPs : ∀ xs ys : List D, flats xs = true → flats ys = true → PyData.eqvAll (toPs xs) (toPs ys) = eqDs xs ys
  | [], [], _, _ => by simp [toPs, PyData.eqvAll, eqDs]
  | [], _ :: _, _, _ => by simp [toPs, PyData.eqvAll, eqDs]
  | _ :: _, [], _, _ => by simp [toPs, PyData.eqvAll, eqDs]
  | x :: xs, y :: ys, f, g => by
    have f' : flat x = true ∧ flats xs = true := by simpa [flats] using f
    have g' : flat y = true ∧ flats ys = true := by simpa [flats] using g
    simp only [toPs, PyData.eqvAll, eqDs, eqv_toP x y f'.1 g'.1, eqv_toPs xs ys f'.2 g'.2]
end
theorem toPs_map (ds : List D) : toPs ds = ds.map toP := by
  induction ds with
  | nil => rfl
  | cons d ds ih => simp [toPs, ih]
theorem flats_all (ds : List D) : flats ds = ds.all flat := by
  induction ds with
  | nil => rfl
  | cons d ds ih => simp [flats, ih]
end

/-! ### ==, != -/
section
variable {X : Cx} {n : Nat}
def rEqF (K : PySem.W.Frag) (neg : Bool) : R2 := fun x y H Q => ∃ d e, Dp K H x (toP d) ∧ Dp K H y (toP e) ∧ eqOk d e = true ∧ Q (.bl (if neg then !eqD d e else eqD d e)) H
theorem eqOk_and {d e : D} (h : eqOk d e = true) : flat d = true ∧ flat e = true ∧ min (dep d) (dep e) ≤ 60 := by
  unfold eqOk at h
  obtain ⟨h1, h3⟩ := Bool.and_eq_true_iff.mp h
  obtain ⟨h1, h2⟩ := Bool.and_eq_true_iff.mp h1
  exact ⟨h1, h2, of_decide_eq_true h3⟩
theorem op_eqF (hx : XOk X n) : OpR X (compareOp .Eq) (rEqF X.K false) := by
  intro pins s σ H x y v u Q I rx ry ⟨d, e, hd, he, ok, q⟩
  obtain ⟨f1, f2, f3⟩ := eqOk_and ok
  obtain ⟨as, r1⟩ := Dp.reads I _ x v hd rx
  obtain ⟨bs, r2⟩ := Dp.reads I _ y u he ry
  have hu := hx.room.units
  refine SeqAt.eq_plain r1 r2 (plain_toP d f1) (plain_toP e f2) (by rw [depth_toP, depth_toP]; omega) ⟨.bl _, H, I, ?_, q⟩
  rw [eqv_toP d e f1 f2]
  rfl
theorem op_neF (hx : XOk X n) : OpR X (compareOp .NotEq) (rEqF X.K true) := by
  intro pins s σ H x y v u Q I rx ry ⟨d, e, hd, he, ok, q⟩
  obtain ⟨f1, f2, f3⟩ := eqOk_and ok
  obtain ⟨as, r1⟩ := Dp.reads I _ x v hd rx
  obtain ⟨bs, r2⟩ := Dp.reads I _ y u he ry
  have hu := hx.room.units
  refine SeqAt.ne_plain r1 r2 (plain_toP d f1) (plain_toP e f2) (by rw [depth_toP, depth_toP]; omega) ⟨.bl _, H, I, ?_, q⟩
  rw [eqv_toP d e f1 f2]
  rfl
/-- x in ys, x not in ys, ys a list or a tuple -/
def rInF (K : PySem.W.Frag) (neg : Bool) : R2 := fun x y H Q => ∃ d es, Dp K H x (toP d) ∧ (Dp K H y (toP (.lst es)) ∨ Dp K H y (toP (.tup es))) ∧ inOk d es = true ∧ Q (.bl (if neg then !es.any (fun e => eqD e d) else es.any fun e => eqD e d)) H
theorem inOk_all {d : D} {es : List D} (h : inOk d es = true) : flat d = true ∧ flats es = true ∧ min (deps es) (dep d) ≤ 60 := by
  unfold inOk at h
  obtain ⟨h0, h⟩ := Bool.and_eq_true_iff.mp h
  have h' := List.all_eq_true.mp h
  refine ⟨h0, ?_, ?_⟩
  · rw [flats_all]; exact List.all_eq_true.mpr fun e he => (eqOk_and (h' e he)).1
  · have : ∀ l : List D, (∀ e ∈ l, min (dep e) (dep d) ≤ 60) → min (deps l) (dep d) ≤ 60 := by
      intro l
      induction l with
      | nil => intro _; simp [deps]
      | cons e l ih =>
        intro q
        have a1 := q e List.mem_cons_self
        have a2 := ih fun e he => q e (List.mem_cons_of_mem _ he)
        simp only [deps]; omega
    exact this es fun e he => (eqOk_and (h' e he)).2.2
theorem any_toP {d : D} {es : List D} (f : flat d = true) (g : flats es = true) : ((toPs es).any fun y => PyData.eqv y (toP d)) = es.any fun e => eqD e d := by
  rw [toPs_map, List.any_map]
  rw [flats_all] at g
  have g' := List.all_eq_true.mp g
  clear g
  induction es with
  | nil => rfl
  | cons e es ih =>
    simp only [List.any_cons, Function.comp]
    rw [eqv_toP e d (g' e List.mem_cons_self) f, ← ih fun x hx => g' x (List.mem_cons_of_mem _ hx)]
theorem op_inF (hx : XOk X n) : OpR X (compareOp .In) (rInF X.K false) := by
  intro pins s σ H x y v u Q I rx ry ⟨d, es, hd, he, ok, q⟩
  obtain ⟨f1, f2, f3⟩ := inOk_all ok
  obtain ⟨as, r1⟩ := Dp.reads I _ x v hd rx
  have hu := hx.room.units
  have fin : EP X pins σ Q (.bool ((toPs es).any fun y => PyData.eqv y (toP d))) s := ⟨.bl _, H, I, by rw [any_toP f1 f2]; rfl, q⟩
  rcases he with he | he
  · obtain ⟨bs, r2⟩ := Dp.reads I _ y u he ry
    exact SeqAt.in_list_data (show Reads s.heap u (.list (toPs es)) bs from r2) r1 (plain_toPs es f2) (plain_toP d f1) (by rw [depth_toP, depth_toPs]; omega) fin
  · obtain ⟨bs, r2⟩ := Dp.reads I _ y u he ry
    exact SeqAt.in_tuple_data (show Reads s.heap u (.tuple (toPs es)) bs from r2) r1 (plain_toPs es f2) (plain_toP d f1) (by rw [depth_toP, depth_toPs]; omega) fin
theorem op_notInF (hx : XOk X n) : OpR X (compareOp .NotIn) (rInF X.K true) := by
  intro pins s σ H x y v u Q I rx ry ⟨d, es, hd, he, ok, q⟩
  obtain ⟨f1, f2, f3⟩ := inOk_all ok
  obtain ⟨as, r1⟩ := Dp.reads I _ x v hd rx
  have hu := hx.room.units
  have fin : EP X pins σ Q (.bool (!(toPs es).any fun y => PyData.eqv y (toP d))) s := ⟨.bl _, H, I, by rw [any_toP f1 f2]; rfl, q⟩
  rcases he with he | he
  · obtain ⟨bs, r2⟩ := Dp.reads I _ y u he ry
    exact SeqAt.notIn_list_data (show Reads s.heap u (.list (toPs es)) bs from r2) r1 (plain_toPs es f2) (plain_toP d f1) (by rw [depth_toP, depth_toPs]; omega) fin
  · obtain ⟨bs, r2⟩ := Dp.reads I _ y u he ry
    exact SeqAt.notIn_tuple_data (show Reads s.heap u (.tuple (toPs es)) bs from r2) r1 (plain_toPs es f2) (plain_toP d f1) (by rw [depth_toP, depth_toPs]; omega) fin
end
end Dn

set_option Elab.async false
set_option linter.all false
set_option maxRecDepth 100000
/-! Dn, part F: calls of built-in functions on held data. -/
namespace Dn
open PySem PySem.Spec PyProof.Rows L2

/-! ### reading for repr -/
theorem kD_keyIs {k : Key} {u : Value} {h : Heap} (e : keyIs k u = true) : ∃ as, Reads h u (toP (kD k)) as ∧ sysModules ∉ as := by
  rcases keyIs_shape e with ⟨i, t, rfl, rfl⟩ | ⟨x, t, rfl, rfl⟩
  · exact ⟨[], .int i t, by simp⟩
  · exact ⟨[], .str x t, by simp⟩
section
variable {X : Cx} {pins : List (Addr × Obj)} {σ : L2.St} {s : Shared} {G H : Hp} {B : Addr}
/-- a tracked thing is not sys.modules -/
theorem notSys (I : Inv X pins σ H s) (hs : ∃ o, X.K.lookup sysModules = some o) {a : Addr} {o : HO} (e : H a = some o) : a ≠ sysModules := fun z => by
  obtain ⟨ob, ho⟩ := hs
  subst z
  have h1 := (I.bs sysModules ob (I.ok.mod.kin _ _ ho)).2
  rw [e] at h1; cases h1
theorem rd_some {a : Addr} {o : HO} (h : Rd H a o) : ∃ u, H a = some u := by
  rcases h with h | ⟨ob, h⟩
  · exact ⟨_, h⟩
  · exact ⟨_, h⟩
/-- a dict's object: its entries -/
theorem dct_reads (I : Inv X pins σ H s) (hs : ∃ o, X.K.lookup sysModules = some o) {a : Addr} {kvs : List (Key × V)} {ds : List (D × D)} (h : Rd H a (.dK kvs))
    (hk : Paired (fun (p : Key × V) (q : D × D) => kD p.1 = q.1 ∧ ∀ u, RelV p.2 u → ∃ as, Reads s.heap u (toP q.2) as ∧ sysModules ∉ as) kvs ds) : ∃ as, Reads s.heap (.ref a) (toP (.dct ds)) as ∧ sysModules ∉ as := by
  obtain ⟨z, hd, vs, rel, o, es, ep, ho, hx, hdat, _, hp, _⟩ := dk_rd I.hok h
  have hall : ∀ (kvs : List (Key × V)) (ds : List (D × D)) (vs : List (Key × Value)) (es : List DictEntry), KV kvs vs → Pairs (mixKind X.prog X.w) es vs →
      Paired (fun (p : Key × V) (q : D × D) => kD p.1 = q.1 ∧ ∀ u, RelV p.2 u → ∃ as, Reads s.heap u (toP q.2) as ∧ sysModules ∉ as) kvs ds →
      ∃ as bs, ReadsAll s.heap (es.map (·.key)) ((toPk ds).map (·.1)) as ∧ ReadsAll s.heap (es.map (·.val)) ((toPk ds).map (·.2)) bs ∧ sysModules ∉ as ∧ sysModules ∉ bs := by
    intro kvs ds vs es r1
    induction r1 generalizing ds es with
    | nil =>
      intro hp hk
      cases hp; cases hk
      exact ⟨[], [], .nil, .nil, by simp, by simp⟩
    | @cons p q kr vr e t ih =>
      intro hp hk
      cases hp with
      | cons h1 h2 h3 =>
        cases hk with
        | @cons _ dq _ dr k1 k2 =>
          obtain ⟨as, bs, a1, a2, a3, a4⟩ := ih _ _ h3 k2
          obtain ⟨e1, e2⟩ := e
          obtain ⟨kd, f⟩ := k1
          obtain ⟨cs, c1, c2⟩ := f _ e2
          rw [← h2] at c1
          rw [← e1] at h1
          obtain ⟨fs, f1, f2⟩ := kD_keyIs (h := s.heap) h1
          rw [kd] at f1
          obtain ⟨dk, dv⟩ := dq
          refine ⟨fs ++ as, cs ++ bs, .cons f1 a1, .cons c1 a2, ?_, ?_⟩
          · simp [f2, a3]
          · simp [c2, a4]
  obtain ⟨as, bs, a1, a2, a3, a4⟩ := hall kvs ds vs es.toList rel hp hk
  refine ⟨a :: as ++ bs, .dict ho hx.1 hdat a1 a2, ?_⟩
  obtain ⟨u, hu⟩ := rd_some h
  have na := notSys I hs hu
  simp only [List.cons_append, List.mem_cons, List.mem_append, not_or]
  exact ⟨fun q => na q.symm, a3, a4⟩
mutual
theorem Rp.reads (I : Inv X pins σ H s) (hs : ∃ o, X.K.lookup sysModules = some o) (sub : Sub G H) : ∀ (d : D) (v : V) (u : Value), noIns d = true → Rp X.K G v d → RelV v u → ∃ as, Reads s.heap u (toP d) as ∧ sysModules ∉ as
  | .non, _, _, _, r, e => by cases r; cases e; exact ⟨_, .none, by simp⟩
  | .bl b, _, _, _, r, e => by cases r; cases e; exact ⟨_, .bool b, by simp⟩
  | .int i, _, _, _, r, e => by cases r; obtain ⟨t, rfl⟩ := e; exact ⟨_, .int i t, by simp⟩
  | .str x, _, _, _, r, e => by cases r; obtain ⟨t, rfl⟩ := e; exact ⟨_, .str x t, by simp⟩
  | .tup ds, v, u, f, r, e => by
    obtain ⟨a, vs, rfl, q, r⟩ := r.tupAt sub
    cases e
    obtain ⟨its, rv, ⟨o, ho, hc, n, hd⟩, _⟩ := I.tuple q
    obtain ⟨as, h1, h2⟩ := Rps.reads I hs sub ds vs its (by simpa [noIns] using f) r rv
    exact ⟨_, .tuple ho hc hd h1, h2⟩
  | .lst ds, v, u, f, r, e => by
    cases r with
    | lst g r =>
      cases e
      have g' := sub.lst g
      obtain ⟨its, rv, ⟨o, n, ho, hc, _, hd⟩, _⟩ := I.list (.inl (.inl g'))
      obtain ⟨as, h1, h2⟩ := Rps.reads I hs sub ds _ its (by simpa [noIns] using f) r rv
      refine ⟨_, .list ho hc hd h1, ?_⟩
      simp only [List.mem_cons, not_or]
      exact ⟨fun q => notSys I hs g' q.symm, h2⟩
  | .dct ds, v, u, f, r, e => by
    cases r with
    | dct g r =>
      cases e
      exact dct_reads I hs (sub.dct g) (Rpk.reads I hs sub ds _ (by simpa [noIns] using f) r)
  | .ins _, _, _, f, _, _ => by simp [noIns] at f
theorem Rps.reads (I : Inv X pins σ H s) (hs : ∃ o, X.K.lookup sysModules = some o) (sub : Sub G H) : ∀ (ds : List D) (vs : List V) (us : List Value), noInss ds = true → Rps X.K G vs ds → Vals vs us → ∃ as, ReadsAll s.heap us (toPs ds) as ∧ sysModules ∉ as
  | [], _, _, _, r, e => by cases r; cases e; exact ⟨_, .nil, by simp⟩
  | d :: ds, _, _, f, r, e => by
    have f' : noIns d = true ∧ noInss ds = true := by simpa [noInss] using f
    cases r with
    | cons r t =>
      cases e with
      | cons e1 e2 =>
        obtain ⟨as, h1, h2⟩ := Rp.reads I hs sub d _ _ f'.1 r e1
        obtain ⟨bs, h3, h4⟩ := Rps.reads I hs sub ds _ _ f'.2 t e2
        exact ⟨as ++ bs, .cons h1 h3, by simp [h2, h4]⟩
theorem Rpk.reads (I : Inv X pins σ H s) (hs : ∃ o, X.K.lookup sysModules = some o) (sub : Sub G H) : ∀ (ds : List (D × D)) (kvs : List (Key × V)), noInsk ds = true → Rpk X.K G kvs ds →
    Paired (fun (p : Key × V) (q : D × D) => kD p.1 = q.1 ∧ ∀ u, RelV p.2 u → ∃ as, Reads s.heap u (toP q.2) as ∧ sysModules ∉ as) kvs ds
  | [], _, _, r => by cases r; exact .nil
  | (k, d) :: ds, _, f, r => by
    have f' : (noIns k = true ∧ noIns d = true) ∧ noInsk ds = true := by simpa [noInsk, and_assoc] using f
    cases r with
    | cons c r t => exact .cons ⟨rfl, fun u e => Rp.reads I hs sub d _ u f'.1.2 r e⟩ (Rpk.reads I hs sub ds _ f'.2 t)
end
theorem RO.reads (I : Inv X pins σ H s) (hs : ∃ o, X.K.lookup sysModules = some o) (sub : Sub G H) : ∀ {n : Nat} {v : V} {d : D} {fp : List Addr} {u : Value}, RO X.K G B H n v d fp → noIns d = true → RelV v u → ∃ as, Reads s.heap u (toP d) as ∧ sysModules ∉ as
  | 0, v, d, fp, u, r, f, e => Rp.reads I hs sub d v u f r.2 e
  | n + 1, v, d, fp, u, r, f, e => by
    have ih := @RO.reads I hs sub n
    rcases r with ⟨c, _, r⟩ | ⟨b, vs, ds, g, rfl, rfl, rfl, nb, gb, hb, r⟩ | ⟨b, kvs, ds, g, rfl, rfl, rfl, nb, gb, hb, r⟩
    · exact Rp.reads I hs sub d v u f r e
    · cases e
      have hh : ∀ {vs : List V} {ds : List D} {g : List Addr}, ROs (RO X.K G B H n) vs ds g → noInss ds = true → ∀ us, Vals vs us → ∃ as, ReadsAll s.heap us (toPs ds) as ∧ sysModules ∉ as := by
        intro vs ds g h
        induction h with
        | nil => intro _ us e; cases e; exact ⟨_, .nil, by simp⟩
        | cons r t ih2 =>
          intro f us e
          have f' := Bool.and_eq_true_iff.mp (show (noIns _ && noInss _) = true from f)
          cases e with
          | cons e1 e2 =>
            obtain ⟨as, h1, h2⟩ := ih r f'.1 e1
            obtain ⟨bs, h3, h4⟩ := ih2 f'.2 _ e2
            exact ⟨as ++ bs, .cons h1 h3, by simp [h2, h4]⟩
      obtain ⟨its, rv, ⟨o, k, ho, hc, _, hd⟩, _⟩ := I.list (.inl (.inl hb))
      obtain ⟨as, h1, h2⟩ := hh r (by simpa [noIns] using f) _ rv
      refine ⟨_, .list ho hc hd h1, ?_⟩
      simp only [List.mem_cons, not_or]
      exact ⟨fun q => notSys I hs hb q.symm, h2⟩
    · cases e
      have hh : ∀ {kvs : List (Key × V)} {ds : List (D × D)} {g : List Addr}, ROk (RO X.K G B H n) kvs ds g → noInsk ds = true →
          Paired (fun (p : Key × V) (q : D × D) => kD p.1 = q.1 ∧ ∀ u, RelV p.2 u → ∃ as, Reads s.heap u (toP q.2) as ∧ sysModules ∉ as) kvs ds := by
        intro kvs ds g h
        induction h with
        | nil => intro _; exact .nil
        | cons c r t ih2 =>
          intro f
          have f' := Bool.and_eq_true_iff.mp (show (noIns _ && noIns _ && noInsk _) = true from f)
          exact .cons ⟨rfl, fun u e => ih r (Bool.and_eq_true_iff.mp f'.1).2 e⟩ (ih2 f'.2)
      exact dct_reads I hs (.inl hb) (hh r (by simpa [noIns] using f))
end

/-! ### what a built-in call asks and gives -/
def need1 : Bi → Bool
  | .tuple => true
  | .list => true
  | .dict => true
  | .sorted => true
  | _ => false
def lvB : Bi → Nat
  | .list => 1
  | .dict => 1
  | .sorted => 1
  | _ => 9
def rBi (K : PySem.W.Frag) (f : Bi) : List V → Hp → VK → Prop := fun xs H Q => ∃ B G b v m d r fp, xs = [v] ∧ StOk B G H b ∧ RO K G B H m v d fp ∧ (need1 f = true → m ≤ 1) ∧ biM f d = some r ∧
  ∀ w G' H' fp', Post B G H G' b H' → RO K G' B H' (lvB f) w r fp' → fp'.Nodup → (∀ a ∈ fp', H a = none) → Q w H'
section
variable {X : Cx} {n : Nat}
theorem wkC {f : Value} {r r' : List V → Hp → VK → Prop} (h : CallR X f r) (w : ∀ xs H Q, r' xs H Q → r xs H Q) : CallR X f r' := fun pins s σ H xs us Q I rx q => h pins s σ H xs us Q I rx (w xs H Q q)
/-- nothing made -/
theorem fin0 {B : Addr} {G : Hp} {b : Bg} {H : Hp} {K : PySem.W.Frag} {k : Nat} {Q : VK} {w : V} {r : D} (st : StOk B G H b) (hc : isCon r = false) (rp : Rp K G w r)
    (q : ∀ w G' H' fp', Post B G H G' b H' → RO K G' B H' k w r fp' → fp'.Nodup → (∀ a ∈ fp', H a = none) → Q w H') : Q w H :=
  q w G H [] (.refl st) (.nc hc rp) List.nodup_nil (by simp)
/-- a new list of frozen things -/
theorem finL {B : Addr} {G : Hp} {b : Bg} {H : Hp} {K : PySem.W.Frag} {k : Nat} {Q : VK} {p : Addr} {vs : List V} {ds : List D} (st : StOk B G H b) (hp : H p = none) (rp : Rps K G vs ds) (hk : k = 1 ∨ ds = [])
    (q : ∀ w G' H' fp', Post B G H G' b H' → RO K G' B H' k w (.lst ds) fp' → fp'.Nodup → (∀ a ∈ fp', H a = none) → Q w H') : Q (.ref p) (upd H p (.lst vs)) := by
  cases k with
  | zero =>
    rcases hk with hk | rfl
    · cases hk
    · cases rp
      have P := st.laid (o := .lst []) hp
      have hfp : ∀ a ∈ [p], a ≠ B ∧ G a = none ∧ ∃ o, (upd H p (.lst [])) a = some o ∧ ((∃ vs, o = .lst vs) ∨ ∃ kvs, o = .dK kvs) := by
        intro a ha
        have e : a = p := by simpa using ha
        subst e
        exact ⟨st.notB hp, st.gnone hp, _, upd_same, .inl ⟨_, rfl⟩⟩
      refine q _ (frz G (upd H p (.lst [])) [p]) _ [] ⟨fun a o e => frz_sub (fun a ha => (hfp a ha).2.1) a o e, fun a h => ?_, P.kp, P.st.frz hfp, P.cl⟩ ⟨rfl, .lst ((frz_in (by simp)).trans upd_same) .nil⟩ List.nodup_nil (by simp)
      by_cases z : a ∈ [p]
      · have e : a = p := by simpa using z
        subst e; exact .inr hp
      · rw [frz_out z] at h; exact .inl h
  | succ k =>
    refine q _ G _ [p] (st.laid hp) (.inr (.inl ⟨p, vs, ds, [], rfl, rfl, rfl, st.notB hp, st.gnone hp, upd_same, ?_⟩)) (by simp) (by simp [hp])
    rcases hk with hk | rfl
    · have e : k = 0 := by omega
      subst e; exact rp.ros
    · cases rp; exact .nil
/-- a new dict of frozen things -/
theorem finD {B : Addr} {G : Hp} {b : Bg} {H : Hp} {K : PySem.W.Frag} {Q : VK} {p : Addr} {kvs : List (Key × V)} {ds : List (D × D)} (st : StOk B G H b) (hp : H p = none) (rp : Rpk K G kvs ds)
    (q : ∀ w G' H' fp', Post B G H G' b H' → RO K G' B H' 1 w (.dct ds) fp' → fp'.Nodup → (∀ a ∈ fp', H a = none) → Q w H') : Q (.ref p) (upd H p (.dK kvs)) :=
  q _ G _ [p] (st.laid hp) (.inr (.inr ⟨p, kvs, ds, [], rfl, rfl, rfl, st.notB hp, st.gnone hp, upd_same, rp.rok⟩)) (by simp) (by simp [hp])
/-- a new tuple -/
theorem finT {B : Addr} {G : Hp} {b : Bg} {H : Hp} {K : PySem.W.Frag} {k : Nat} {Q : VK} {p : Addr} {vs : List V} {ds : List D} {o : Obj} (st : StOk B G H b) (hp : H p = none) (hd : o.dict = none) (rp : Rps K G vs ds)
    (q : ∀ w G' H' fp', Post B G H G' b H' → RO K G' B H' k w (.tup ds) fp' → fp'.Nodup → (∀ a ∈ fp', H a = none) → Q w H') : Q (.ref p) (upd H p (.frz o (.tup vs))) := by
  have P := st.laid (o := .frz o (.tup vs)) hp
  have hs : ∀ a u, G a = some u → (upd G p (.frz o (.tup vs))) a = some u := fun a u e => by
    by_cases z : a = p
    · subst z; rw [st.gnone hp] at e; cases e
    · rw [upd_ne z]; exact e
  refine q _ (upd G p (.frz o (.tup vs))) _ [] ⟨hs, fun a h => ?_, P.kp, ⟨fun a u e => ?_, ?_, P.st.bag⟩, P.cl⟩ (.nc rfl (.tup upd_same hd (rp.mono hs))) List.nodup_nil (by simp)
  · by_cases z : a = p
    · subst z; exact .inr hp
    · rw [upd_ne z] at h; exact .inl h
  · by_cases z : a = p
    · subst z; rw [upd_same] at e ⊢; exact .inl e
    · rw [upd_ne z] at e; exact P.st.sub a u e
  · rw [upd_ne (fun e => st.notB hp e.symm)]; exact st.gb
end
section
variable {X : Cx} {n : Nat}
theorem Rpk.keys {K : PySem.W.Frag} {G : Hp} {ds : List (D × D)} : ∀ {kvs : List (Key × V)}, Rpk K G kvs ds → Rps K G (kvs.map fun kv => kV kv.1) (ds.map (·.1)) := by
  induction ds with
  | nil => intro kvs h; cases h; exact .nil
  | cons d ds ih =>
    intro kvs h
    cases h with
    | @cons k _ _ _ _ c r t =>
      refine .cons ?_ (ih t)
      cases k with
      | inl i => exact .int i
      | inr x => exact .str x c
theorem ROk.keys {K : PySem.W.Frag} {G : Hp} {R : V → D → List Addr → Prop} {ds : List (D × D)} {f : List Addr} {kvs : List (Key × V)} (h : ROk R kvs ds f) : Rps K G (kvs.map fun kv => kV kv.1) (ds.map (·.1)) ∧ ds.map (·.1) = kvs.map fun kv => kD kv.1 := by
  induction h with
  | nil => exact ⟨.nil, rfl⟩
  | @cons k _ _ _ _ _ _ c r t ih =>
    refine ⟨.cons ?_ ih.1, by simp [ih.2]⟩
    cases k with
    | inl i => exact .int i
    | inr x => exact .str x c
theorem cb_len : CallR X (.builtin "len") (rBi X.K .len) := by
  intro pins s σ H xs us Q I r h
  obtain ⟨B, G, b, v, m, d, res, fp, rfl, st, ro, _, e, q⟩ := h
  cases d with
  | lst ds =>
    cases e
    obtain ⟨a, vs, f, rfl, hl, rs⟩ := ro.lstAt st.sub
    refine call_len_seq pins s σ H _ us Q I r ⟨a, vs, rfl, .inl (.inl (.inl hl)), ?_⟩
    rw [rs.length]
    exact fin0 (k := 9) st rfl (.int _) q
  | tup ds =>
    cases e
    obtain ⟨a, vs, rfl, hl, rs⟩ := ro.tupAt st.sub
    refine call_len_seq pins s σ H _ us Q I r ⟨a, vs, rfl, .inr hl, ?_⟩
    rw [rs.length]
    exact fin0 (k := 9) st rfl (.int _) q
  | str x =>
    cases e
    obtain ⟨rfl, hx⟩ := ro.str
    refine call_len_str pins s σ H _ us Q I r ⟨x, rfl, by rw [sizeLine_eq]; exact hx, ?_⟩
    exact fin0 (k := 9) st rfl (.int _) q
  | dct ds =>
    cases e
    obtain ⟨a, vs, f, rfl, hl, rs⟩ := ro.dctAt st.sub
    obtain ⟨u, rfl, rfl⟩ := vals1 r
    refine d_len I hl fun t s' I' => ⟨.int vs.length, H, I', ⟨t, rfl⟩, ?_⟩
    rw [rs.length]
    exact fin0 (k := 9) st rfl (.int _) q
  | _ => cases e

/-! ### dicts' entries put in -/
theorem keq_kD (a b : Key) : keq (kD a) (kD b) = decide (a = b) := by
  cases a with
  | inl i =>
    cases b with
    | inl j => rw [Bool.eq_iff_iff]; simp [keq, kD]
    | inr y => simp [keq, kD]
  | inr x =>
    cases b with
    | inl j => simp [keq, kD]
    | inr y => rw [Bool.eq_iff_iff]; simp [keq, kD]
theorem kD_of {d : D} (h : isKey d = true) : ∃ k, d = kD k := by
  cases d <;> first | exact ⟨.inl _, rfl⟩ | exact ⟨.inr _, rfl⟩ | cases h
theorem kV_of {K : PySem.W.Frag} {G : Hp} {v : V} {k : Key} (r : Rp K G v (kD k)) : v = kV k ∧ kOk k := by
  cases k with
  | inl i => cases r; exact ⟨rfl, trivial⟩
  | inr x => cases r with | str _ h => exact ⟨rfl, h⟩
section
variable {R : V → D → List Addr → Prop}
theorem ROk.any {kvs : List (Key × V)} {ds : List (D × D)} {f : List Addr} (h : ROk R kvs ds f) (k : Key) : dhas ds (kD k) = kvs.any fun kv => decide (kv.1 = k) := by
  induction h with
  | nil => rfl
  | cons c r t ih =>
    unfold dhas at ih ⊢
    rw [List.any_cons, List.any_cons, ih, keq_kD]
theorem ROk.find {kvs : List (Key × V)} {ds : List (D × D)} {f : List Addr} (h : ROk R kvs ds f) (k : Key) :
    (valV kvs k = none ∧ dget ds (kD k) = none) ∨ ∃ v d g, valV kvs k = some v ∧ dget ds (kD k) = some d ∧ R v d g ∧ ∀ a ∈ g, a ∈ f := by
  induction h with
  | nil => exact .inl ⟨rfl, rfl⟩
  | @cons k' v d f g kvs ds c r t ih =>
    by_cases e : k' = k
    · refine .inr ⟨v, d, f, valV_pos e, ?_, r, fun a ha => List.mem_append_left _ ha⟩
      unfold dget
      rw [List.find?_cons]
      simp only [keq_kD, decide_eq_true e]
      rfl
    · have e2 : dget ((kD k', d) :: ds) (kD k) = dget ds (kD k) := by
        unfold dget
        rw [List.find?_cons]
        simp only [keq_kD, decide_eq_false e]
      rcases ih with ⟨a1, a2⟩ | ⟨w, x, g', a1, a2, a3, a4⟩
      · exact .inl ⟨(valV_neg e).trans a1, e2.trans a2⟩
      · exact .inr ⟨w, x, g', (valV_neg e).trans a1, e2.trans a2, a3, fun a ha => List.mem_append_right _ (a4 a ha)⟩
end
section
variable {K : PySem.W.Frag} {G H : Hp} {B : Addr}
theorem Rpk.any {kvs : List (Key × V)} {ds : List (D × D)} (h : Rpk K G kvs ds) (k : Key) : dhas ds (kD k) = kvs.any fun kv => decide (kv.1 = k) := (h.rok (H := G) (B := 0)).any k
theorem Rpk.app {kvs kvs2 : List (Key × V)} {ds ds2 : List (D × D)} (h : Rpk K G kvs ds) (h2 : Rpk K G kvs2 ds2) : Rpk K G (kvs ++ kvs2) (ds ++ ds2) := by
  induction ds generalizing kvs with
  | nil => cases h; exact h2
  | cons d ds ih => cases h with | cons c r t => exact .cons c r (ih t)
theorem Rpk.repl {k : Key} {v : V} {d : D} (r : Rp K G v d) : ∀ {ds : List (D × D)} {kvs : List (Key × V)}, Rpk K G kvs ds →
    Rpk K G (kvs.map fun kv => if kv.1 = k then (kv.1, v) else kv) (ds.map fun p => if keq p.1 (kD k) then (p.1, d) else p)
  | [], _, h => by cases h; exact .nil
  | _ :: ds, _, h => by
    cases h with
    | @cons k' v' d' kvs _ c r' t =>
      have ih := Rpk.repl (k := k) r t
      simp only [List.map_cons, keq_kD]
      by_cases e : k' = k
      · rw [if_pos e, if_pos (decide_eq_true e)]; exact .cons c r ih
      · rw [if_neg e, if_neg (by simp [e])]; exact .cons c r' ih
theorem Rpk.put {kvs : List (Key × V)} {ds : List (D × D)} {k : Key} {v : V} {d : D} (h : Rpk K G kvs ds) (c : kOk k) (r : Rp K G v d) : Rpk K G (putK kvs k v) (dput ds (kD k) d) := by
  unfold putK dput
  rw [h.any k]
  by_cases e : (kvs.any fun kv => decide (kv.1 = k)) = true
  · rw [if_pos e, if_pos e]; exact h.repl r
  · rw [if_neg e, if_neg e]; exact h.app (.cons c r .nil)
theorem Rpk.merge : ∀ {ds2 : List (D × D)} {kvs kvs2 : List (Key × V)} {ds : List (D × D)}, Rpk K G kvs ds → Rpk K G kvs2 ds2 → Rpk K G (mergeK kvs kvs2) (dmerge ds ds2)
  | [], _, _, _, h, h2 => by cases h2; exact h
  | _ :: ds2, kvs, _, ds, h, h2 => by
    cases h2 with
    | cons c r t =>
      have e := Rpk.merge (Rpk.put h c r) t
      exact e
/-- a list of pairs -/
theorem Rps.pairs (s : Sub G H) : ∀ {ds : List D} {vs : List V} {out : List (D × D)}, Rps K G vs ds → dpairs ds = some out →
    ∃ ps kvs, vs = ps.map V.ref ∧ Paired (fun (p : Addr) (kv : Key × V) => SqT K H p [kV kv.1, kv.2]) ps kvs ∧ Rpk K G kvs out
  | [], _, out, h, e => by
    cases h; cases e
    exact ⟨[], [], rfl, .nil, .nil⟩
  | d :: ds, _, out, h, e => by
    cases h with
    | cons r t =>
      cases d with
      | tup ks =>
        match ks, e, r with
        | [k, v], e, r =>
          by_cases hk : isKey k = true
          · have e' : (dpairs ds).map (fun t => (k, v) :: t) = some out := by
              have := e
              unfold dpairs at this
              rw [if_pos hk] at this
              exact this
            obtain ⟨o2, h1, h2⟩ := Option.map_eq_some_iff.mp e'
            obtain ⟨ps, kvs, a1, a2, a3⟩ := Rps.pairs s t h1
            obtain ⟨a, ws, rfl, q, rr⟩ := r.tupAt s
            cases rr with
            | cons r1 rr =>
              cases rr with
              | cons r2 rr =>
                cases rr
                obtain ⟨kk, rfl⟩ := kD_of hk
                obtain ⟨rfl, ok⟩ := kV_of r1
                subst h2
                exact ⟨a :: ps, (kk, _) :: kvs, by rw [a1]; rfl, .cons q a2, .cons ok r2 a3⟩
          · unfold dpairs at e
            rw [if_neg hk] at e; cases e
        | [], e, _ => cases e
        | [_], e, _ => cases e
        | _ :: _ :: _ :: _, e, _ => cases e
      | _ => cases e
end
theorem cb_abs : CallR X (.builtin "abs") (rBi X.K .abs) := wkC call_abs fun xs H Q h => by
  obtain ⟨B, G, b, v, m, d, res, fp, rfl, st, ro, _, e, q⟩ := h
  cases d with
  | int i => cases e; cases ro.int; exact ⟨i, rfl, fin0 (k := 9) st rfl (.int _) q⟩
  | _ => cases e
theorem cb_int : CallR X (.type "int") (rBi X.K .int) := wkC call_int1 fun xs H Q h => by
  obtain ⟨B, G, b, v, m, d, res, fp, rfl, st, ro, _, e, q⟩ := h
  cases d with
  | int i => cases e; cases ro.int; exact .inl ⟨i, rfl, fin0 (k := 9) st rfl (.int _) q⟩
  | bl c => cases e; cases ro.bl; exact .inr ⟨c, rfl, fin0 (k := 9) st rfl (.int _) q⟩
  | _ => cases e
theorem cb_str : CallR X (.type "str") (rBi X.K .str) := wkC (CallR.or call_str_int SkE.call_str_str) fun xs H Q h => by
  obtain ⟨B, G, b, v, m, d, res, fp, rfl, st, ro, _, e, q⟩ := h
  cases d with
  | int i =>
    have e' : (if i.natAbs.log2 < 1920 ∧ (Str.ofString (toString i)).length ≤ line then some (D.str (toString i)) else none) = some res := e
    by_cases c : i.natAbs.log2 < 1920 ∧ (Str.ofString (toString i)).length ≤ line
    · rw [if_pos c] at e'; cases e'
      cases ro.int; exact .inl ⟨i, rfl, c.1, fin0 (k := 9) st rfl (.str _ c.2) q⟩
    · rw [if_neg c] at e'; cases e'
  | str x =>
    cases e
    obtain ⟨rfl, hx⟩ := ro.str
    exact .inr ⟨x, rfl, fin0 (k := 9) st rfl (.str _ hx) q⟩
  | _ => cases e
theorem cb_tuple : CallR X (.type "tuple") (rBi X.K .tuple) := wkC n_tupleOf fun xs H Q h => by
  obtain ⟨B, G, b, v, m, d, res, fp, rfl, st, ro, hm, e, q⟩ := h
  cases d with
  | lst ds =>
    cases e
    obtain ⟨a, vs, rfl, hl, rs⟩ := ro.lst1 st.sub (hm rfl)
    exact ⟨a, vs, rfl, .inl ⟨.inl (.inl hl), fun p o hp ho => finT st hp ho rs q⟩⟩
  | tup ds =>
    cases e
    obtain ⟨a, vs, rfl, hl, rs⟩ := ro.tupAt st.sub
    exact ⟨a, vs, rfl, .inr ⟨hl, fin0 (k := 9) st rfl (RO.ncRp rfl ro).2 q⟩⟩
  | _ => cases e
theorem cb_list (hx : XOk X n) : CallR X (.type "list") (rBi X.K .list) := wkC (CallR.or call_list_of (call_listD hx.calm)) fun xs H Q h => by
  obtain ⟨B, G, b, v, m, d, res, fp, rfl, st, ro, hm, e, q⟩ := h
  cases d with
  | lst ds =>
    cases e
    obtain ⟨a, vs, rfl, hl, rs⟩ := ro.lst1 st.sub (hm rfl)
    exact .inl ⟨a, vs, rfl, .inl (.inl (.inl hl)), fun p hp => finL st hp rs (.inl rfl) q⟩
  | tup ds =>
    cases e
    obtain ⟨a, vs, rfl, hl, rs⟩ := ro.tupAt st.sub
    exact .inl ⟨a, vs, rfl, .inr hl, fun p hp => finL st hp rs (.inl rfl) q⟩
  | dct ds =>
    cases e
    obtain ⟨a, vs, f, rfl, hl, rs⟩ := ro.dctAt st.sub
    exact .inr ⟨a, vs, rfl, hl, fun p hp => finL st hp rs.keys.1 (.inl rfl) q⟩
  | _ => cases e
theorem pairs_of2 {pins : List (Addr × Obj)} {σ : L2.St} {H : Hp} {s : Shared} (I : L2.Inv X pins σ H s) : ∀ {ps : List Addr} {kvs : List (Key × V)}, Paired (fun p kv => SqT X.K H p [kV kv.1, kv.2]) ps kvs →
    ∃ (pv : List (Value × Value)) (prs : List (Key × Value)), KV kvs prs ∧ prs.length = ps.length ∧ pv.length = ps.length ∧ ∀ (j : Nat) (u y : Value), pv[j]? = some (u, y) → ∃ (b : Addr) (k : Key), ps[j]? = some b ∧ IsTup s.heap b #[u, y] ∧ prs[j]? = some (k, y) ∧ keyIs k u = true
  | _, _, .nil => ⟨[], [], .nil, rfl, rfl, fun j u y e => by simp at e⟩
  | _, _, .cons (a := p) (b := kv) h t => by
    obtain ⟨pv, prs, r, hl, hl2, hp⟩ := pairs_of2 I t
    obtain ⟨its, rv, ht, _⟩ := I.tuple h
    obtain ⟨u, y, ei, ru, ry⟩ := vals2 rv
    subst ei
    refine ⟨(u, y) :: pv, (kv.1, y) :: prs, .cons ⟨rfl, ry⟩ r, by rw [List.length_cons, List.length_cons, hl], by rw [List.length_cons, List.length_cons, hl2], fun j u' y' e => ?_⟩
    cases j with
    | zero =>
      have e' : (u, y) = (u', y') := Option.some.inj e
      cases e'
      exact ⟨p, kv.1, rfl, ht, rfl, kV_is (P := X.prog) (w := X.w) ru⟩
    | succ j =>
      obtain ⟨b, k, e1, e2, e3, e4⟩ := hp j u' y' (by simpa using e)
      exact ⟨b, k, by simpa using e1, e2, by simpa using e3, e4⟩
/-- dict(xs) of a tuple of pairs -/
theorem call_dictPT (hcalm : X.calm = true) : CallR X (.type "dict") (fun xs H Q => ∃ (a : Addr) (ps : List Addr) (kvs : List (Key × V)), xs = [.ref a] ∧ SqT X.K H a (ps.map V.ref) ∧ ((∃ o vs, H a = some (.frz o (.tup vs)) ∧ o.dict = none) ∨ ∃ o, X.K.lookup a = some o ∧ o.dict = none) ∧
    Paired (fun p kv => SqT X.K H p [kV kv.1, kv.2]) ps kvs ∧ ∀ p, H p = none → Q (.ref p) (upd H p (.dK (mergeK [] kvs)))) := by
  intro pins s σ H xs us Q I r q
  obtain ⟨a, ps, kvs, ex, hq, nd, hp, q⟩ := q
  subst ex
  obtain ⟨u, eu, rx⟩ := vals1 r
  subst eu
  cases rx
  obtain ⟨its, rv, pl, hz⟩ := I.tuple hq
  have nod : ∃ ob, s.heap.get? a = some ob ∧ ob.dict = none := by
    rcases nd with ⟨ob, ws, e1, e2⟩ | ⟨ob, e1, e2⟩
    · exact ⟨ob, (I.hok a _ e1).1, e2⟩
    · exact ⟨ob, I.kIn a ob e1, e2⟩
  have ei := refs_at rv
  rw [List.length_map] at hz
  obtain ⟨pv, prs, rel, hl, hl2, hpr⟩ := pairs_of2 I hp
  obtain ⟨o, ho, hc, n, hdat⟩ := id pl
  obtain ⟨ob, ho2, hd⟩ := nod
  rw [ho] at ho2
  cases ho2
  have isz : its.toArray.size = ps.length := by simp [ei]
  refine PySem.call_dict_pairs (K := Key) (knd := mixKind X.prog X.w) (kvs := prs) (PairArg.tuple a its.toArray (fun j => ps.getD j 0) pv) (I.ok.hd hcalm) ⟨⟨o, n, ho, hc, hd, hdat⟩, ?_, fun j k v e => ?_⟩ ⟨by rw [hl, hl2], fun i k v e => ?_⟩ (by rw [hl2]; exact hz) fun h' tk hd' k => ?_
  · rw [isz, hl2]
  · obtain ⟨b, k2, e1, e2, e3, e4⟩ := hpr j k v e
    have eb : ps.getD j 0 = b := by rw [List.getD_eq_getElem?_getD, e1]; rfl
    refine ⟨?_, .inl ?_⟩
    · show its.toArray[j]? = some (.ref (ps.getD j 0))
      rw [eb, List.getElem?_toArray, ei, List.getElem?_map, e1]; rfl
    · show s.heap.IsTuple (ps.getD j 0) #[k, v]
      rw [eb]; exact e2
  · obtain ⟨b, k2, e1, e2, e3, e4⟩ := hpr i k v e
    exact ⟨k2, e3, e4⟩
  · have hm : (s.heap.objs.size == sysModules) = false := beq_eq_false_iff_ne.mpr (Nat.ne_of_gt I.big)
    have hlen : (mergeK [] kvs).length ≤ sizeLine := by
      refine Nat.le_trans (length_mergeK kvs []) ?_
      rw [List.length_nil, Nat.zero_add, rel.length, hl]
      exact hz
    exact ⟨.ref s.heap.objs.size, upd H s.heap.objs.size (.dK (mergeK [] kvs)), I.laid (t' := tk) (fun b o e => k b o (by simp) e) (Nat.le_refl _) (show ObjOk X.prog X.w _ _ _ (.dK (mergeK [] kvs)) from ⟨hlen, hm, merged [] prs, KV.merge rel .nil, hd'⟩), rfl, q _ (I.hok.fresh (Nat.le_refl _))⟩
theorem cb_dict (hx : XOk X n) : CallR X (.type "dict") (rBi X.K .dict) := wkC (CallR.or call_dictD (CallR.or (call_dictP hx.calm) (call_dictPT hx.calm))) fun xs H Q h => by
  obtain ⟨B, G, b, v, m, d, res, fp, rfl, st, ro, hm, e, q⟩ := h
  cases d with
  | dct ds =>
    cases e
    obtain ⟨a, vs, rfl, hl, rs⟩ := ro.dct1 st.sub (hm rfl)
    exact .inl ⟨a, vs, rfl, hl, fun p hp => finD st hp rs q⟩
  | lst ds =>
    obtain ⟨out, h1, h2⟩ := Option.map_eq_some_iff.mp (show (dpairs ds).map (fun kvs => D.dct (dmerge [] kvs)) = some res from e)
    subst h2
    obtain ⟨a, vs, rfl, hl, rs⟩ := ro.lst1 st.sub (hm rfl)
    obtain ⟨ps, kvs, rfl, pp, rk⟩ := rs.pairs st.sub h1
    exact .inr (.inl ⟨a, ps, kvs, rfl, .inl (.inl hl), pp, fun p hp => finD st hp (Rpk.merge .nil rk) q⟩)
  | tup ds =>
    obtain ⟨out, h1, h2⟩ := Option.map_eq_some_iff.mp (show (dpairs ds).map (fun kvs => D.dct (dmerge [] kvs)) = some res from e)
    subst h2
    have rp := (RO.ncRp rfl ro).2
    obtain ⟨a, vs, rfl, hv, rs⟩ := rp.tupAt st.sub
    obtain ⟨ps, kvs, rfl, pp, rk⟩ := rs.pairs st.sub h1
    refine .inr (.inr ⟨a, ps, kvs, rfl, hv, ?_, pp, fun p hp => finD st hp (Rpk.merge .nil rk) q⟩)
    cases rp with
    | tup e hd _ => exact .inl ⟨_, _, st.sub.tup e, hd⟩
    | ktup e _ =>
      obtain ⟨_, o, h1, h2, _⟩ := e
      exact .inr ⟨o, h1, h2⟩
  | _ => cases e
theorem allB_some : ∀ {ds : List D} {c : Bool}, allB ds = some c → ∃ bs : List Bool, ds = bs.map D.bl ∧ c = bs.all id
  | [], c, h => by cases h; exact ⟨[], rfl, rfl⟩
  | d :: ds, c, h => by
    cases d with
    | bl b =>
      obtain ⟨x, h1, h2⟩ := Option.map_eq_some_iff.mp (show (allB ds).map (fun c => b && c) = some c from h)
      obtain ⟨bs, h3, h4⟩ := allB_some h1
      exact ⟨b :: bs, by rw [h3]; rfl, by rw [← h2, h4]; rfl⟩
    | _ => cases h
theorem anyB_some : ∀ {ds : List D} {c : Bool}, anyB ds = some c → ∃ bs : List Bool, ds = bs.map D.bl ∧ c = bs.any id
  | [], c, h => by cases h; exact ⟨[], rfl, rfl⟩
  | d :: ds, c, h => by
    cases d with
    | bl b =>
      obtain ⟨x, h1, h2⟩ := Option.map_eq_some_iff.mp (show (anyB ds).map (fun c => b || c) = some c from h)
      obtain ⟨bs, h3, h4⟩ := anyB_some h1
      exact ⟨b :: bs, by rw [h3]; rfl, by rw [← h2, h4]; rfl⟩
    | _ => cases h
theorem sumI_some : ∀ {ds : List D} {c : Int}, sumI ds = some c → ∃ ns : List Int, ds = ns.map D.int ∧ c = ns.sum
  | [], c, h => by cases h; exact ⟨[], rfl, rfl⟩
  | d :: ds, c, h => by
    cases d with
    | int b =>
      obtain ⟨x, h1, h2⟩ := Option.map_eq_some_iff.mp (show (sumI ds).map (fun c => b + c) = some c from h)
      obtain ⟨bs, h3, h4⟩ := sumI_some h1
      exact ⟨b :: bs, by rw [h3]; rfl, by rw [← h2, h4, List.sum_cons]⟩
    | _ => cases h
theorem ROs.bls {K : PySem.W.Frag} {G H : Hp} {B : Addr} {m : Nat} {f : List Addr} : ∀ {bs : List Bool} {vs : List V}, ROs (RO K G B H m) vs (bs.map D.bl) f → vs = bs.map V.bl := by
  intro bs
  induction bs generalizing f with
  | nil => intro vs h; cases h; rfl
  | cons b bs ih => intro vs h; cases h with | cons r t => rw [r.bl, ih t]; rfl
theorem ROs.ints {K : PySem.W.Frag} {G H : Hp} {B : Addr} {m : Nat} {f : List Addr} : ∀ {bs : List Int} {vs : List V}, ROs (RO K G B H m) vs (bs.map D.int) f → vs = bs.map V.int := by
  intro bs
  induction bs generalizing f with
  | nil => intro vs h; cases h; rfl
  | cons b bs ih => intro vs h; cases h with | cons r t => rw [r.int, ih t]; rfl
theorem cb_all (hx : XOk X n) : CallR X (.builtin "all") (rBi X.K .all) := wkC (cr_all hx.calm) fun xs H Q h => by
  obtain ⟨B, G, b, v, m, d, res, fp, rfl, st, ro, hm, e, q⟩ := h
  cases d with
  | lst ds =>
    obtain ⟨c, h1, h2⟩ := Option.map_eq_some_iff.mp (show (allB ds).map D.bl = some res from e)
    subst h2
    obtain ⟨bs, rfl, rfl⟩ := allB_some h1
    obtain ⟨a, vs, f, rfl, hl, rs⟩ := ro.lstAt st.sub
    have e := rs.bls; subst e
    exact ⟨a, bs, rfl, .inl (.inl hl), fin0 (k := 9) st rfl (.bl _) q⟩
  | _ => cases e
theorem cb_any (hx : XOk X n) : CallR X (.builtin "any") (rBi X.K .any) := wkC (cr_any hx.calm) fun xs H Q h => by
  obtain ⟨B, G, b, v, m, d, res, fp, rfl, st, ro, hm, e, q⟩ := h
  cases d with
  | lst ds =>
    obtain ⟨c, h1, h2⟩ := Option.map_eq_some_iff.mp (show (anyB ds).map D.bl = some res from e)
    subst h2
    obtain ⟨bs, rfl, rfl⟩ := anyB_some h1
    obtain ⟨a, vs, f, rfl, hl, rs⟩ := ro.lstAt st.sub
    have e := rs.bls; subst e
    exact ⟨a, bs, rfl, .inl (.inl hl), fin0 (k := 9) st rfl (.bl _) q⟩
  | _ => cases e
theorem cb_sum (hx : XOk X n) : CallR X (.builtin "sum") (rBi X.K .sum) := wkC (cr_sum hx.calm) fun xs H Q h => by
  obtain ⟨B, G, b, v, m, d, res, fp, rfl, st, ro, hm, e, q⟩ := h
  cases d with
  | lst ds =>
    obtain ⟨c, h1, h2⟩ := Option.map_eq_some_iff.mp (show (sumI ds).map D.int = some res from e)
    subst h2
    obtain ⟨bs, rfl, rfl⟩ := sumI_some h1
    obtain ⟨a, vs, f, rfl, hl, rs⟩ := ro.lstAt st.sub
    have e := rs.ints; subst e
    exact ⟨a, bs, rfl, .inl (.inl hl), fin0 (k := 9) st rfl (.int _) q⟩
  | _ => cases e
theorem cb_repr (hx : XOk X n) : CallR X (.builtin "repr") (rBi X.K .repr) := by
  intro pins s σ H xs us Q I r h
  obtain ⟨B, G, b, v, m, d, res, fp, rfl, st, ro, _, e, q⟩ := h
  have e' : (if showOk d then some (D.str (toP d).shown) else none) = some res := e
  by_cases c : showOk d = true
  · rw [if_pos c] at e'
    cases e'
    unfold showOk at c
    obtain ⟨c, c4⟩ := Bool.and_eq_true_iff.mp c
    obtain ⟨c, c3⟩ := Bool.and_eq_true_iff.mp c
    obtain ⟨c1, c2⟩ := Bool.and_eq_true_iff.mp c
    have c3 := of_decide_eq_true c3
    have c4 := of_decide_eq_true c4
    have hsz : (toP d).shown.length ≤ sizeLine := by rw [sizeLine_eq]; exact c3
    obtain ⟨u, rfl, rv⟩ := vals1 r
    have qq : Q (.str (toP d).shown) H := fin0 (k := 9) st rfl (.str _ c3) q
    obtain ⟨as, rd, ns⟩ := ro.reads I hx.sys st.sub c1 rv
    have big : ∀ a : Addr, u = .ref a → wpAny (model X.prog X.w) X.A (call (.builtin "repr") [u]) (EP X pins σ Q) X.xe s := fun a ea => by
      subst ea
      have hu := hx.room.units
      exact repr_of_reads' rd c2 (fun _ => ns) hx.gd (by rw [depth_toP]; omega) (fun _ _ z => z) (fun h' u tk k => ⟨.str _, H, I.kept k, ⟨u, rfl⟩, qq⟩) hsz
    cases d with
    | non =>
      cases rd
      exact P.repr_of_none ⟨.str _, H, I.tok _, ⟨_, rfl⟩, qq⟩
    | bl y =>
      cases rd
      exact P.repr_of_bool ⟨.str _, H, I.tok _, ⟨_, rfl⟩, qq⟩
    | int i =>
      cases rd
      have hi : i.natAbs.log2 < 1920 := by simpa [toP, PyData.showable] using c2
      exact P.repr_of_int hi ⟨.str _, H, I.tok _, ⟨_, rfl⟩, qq⟩
    | str x =>
      cases rd
      exact P.repr_of_str ⟨.str _, H, I.tok _, ⟨_, rfl⟩, qq⟩ hsz
    | tup ds => cases rd; exact big _ rfl
    | lst ds => cases rd; exact big _ rfl
    | dct ds => cases rd; exact big _ rfl
    | ins k => simp [noIns] at c1
  · rw [if_neg c] at e'; cases e'
end

/-! ### k in d -/
section
variable {X : Cx} {n : Nat}
theorem op_inD (hx : XOk X n) : OpR X (compareOp .In) (fun x y H Q => ∃ a kvs k, y = .ref a ∧ x = kV k ∧ Rd H a (.dK kvs) ∧ Q (.bl (kvs.any fun kv => decide (kv.1 = k))) H) := by
  intro pins s σ H x y v u Q I rx ry h
  obtain ⟨a, kvs, k, rfl, rfl, hd, q⟩ := h
  cases ry
  have hu := hx.room.units
  have g : DGet H a (kV k) (valV kvs k) := .inl ⟨kvs, k, hd, rfl, rfl⟩
  refine d_in (by omega) I g rx fun s' I' => ⟨.bl _, H, I', ?_, q⟩
  rw [valV_any]
  rfl
theorem op_notInD (hx : XOk X n) : OpR X (compareOp .NotIn) (fun x y H Q => ∃ a kvs k, y = .ref a ∧ x = kV k ∧ Rd H a (.dK kvs) ∧ Q (.bl (!kvs.any fun kv => decide (kv.1 = k))) H) := by
  intro pins s σ H x y v u Q I rx ry h
  obtain ⟨a, kvs, k, rfl, rfl, hd, q⟩ := h
  cases ry
  have hu := hx.room.units
  have g : DGet H a (kV k) (valV kvs k) := .inl ⟨kvs, k, hd, rfl, rfl⟩
  refine d_notIn (by omega) I g rx fun s' I' => ⟨.bl _, H, I', ?_, q⟩
  rw [valV_any]
  rfl
end
end Dn

set_option Elab.async false
set_option linter.all false
set_option maxRecDepth 100000
/-! Dn, part F2: sorted. -/
namespace Dn
open PySem PySem.Spec PyProof.Rows L2
section
variable {X : Cx} {n : Nat}
theorem ite_optF {α : Type} {c : Prop} [Decidable c] {x r : α} (h : (if c then some x else none) = some r) : c ∧ x = r := by
  by_cases q : c
  · rw [if_pos q] at h; exact ⟨q, Option.some.inj h⟩
  · rw [if_neg q] at h; cases h
theorem alike_all {ds : List D} (h : alikeB ds = true) : (∀ d ∈ ds, flat d = true ∧ dep d ≤ 60 ∧ ∀ e ∈ ds, PySem.W.alike (toP d) (toP e) = true) ∧ ((∀ d ∈ ds, tupNe d = true) ∨ ∀ d ∈ ds, notTup d = true) := by
  unfold alikeB at h
  obtain ⟨h1, h2⟩ := Bool.and_eq_true_iff.mp h
  refine ⟨fun d hd => ?_, ?_⟩
  · have q := List.all_eq_true.mp h1 d hd
    obtain ⟨q, q3⟩ := Bool.and_eq_true_iff.mp q
    obtain ⟨q1, q2⟩ := Bool.and_eq_true_iff.mp q
    exact ⟨q1, of_decide_eq_true q2, fun e he => List.all_eq_true.mp q3 e he⟩
  · rcases Bool.or_eq_true_iff.mp h2 with h | h
    · exact .inl (List.all_eq_true.mp h)
    · exact .inr (List.all_eq_true.mp h)
theorem noIns_of : ∀ d : D, flat d = true → noIns d = true
  | .non, _ => rfl
  | .bl _, _ => rfl
  | .int _, _ => rfl
  | .str _, _ => rfl
  | .tup xs, h => by
    have hh : flats xs = true := by simpa [flat] using h
    have : noInss xs = true := noInss_of xs hh
    simpa [noIns] using this
  | .lst xs, h => by
    have hh : flats xs = true := by simpa [flat] using h
    have : noInss xs = true := noInss_of xs hh
    simpa [noIns] using this
  | .dct _, h => by simp [flat] at h
  | .ins _, h => by simp [flat] at h
where noInss_of : ∀ ds : List D, flats ds = true → noInss ds = true
  | [], _ => rfl
  | d :: ds, h => by
    have h' : (flat d && flats ds) = true := by simpa [flats] using h
    obtain ⟨h1, h2⟩ := Bool.and_eq_true_iff.mp h'
    simp [noInss, noIns_of d h1, noInss_of ds h2]
theorem each_rps {K : PySem.W.Frag} {G : Hp} : ∀ {ds : List D} {us : List Value}, PySem.W.EachIs (fun u d => ∃ x : V, RelV x u ∧ Rp K G x d) us ds → ∃ vs, Vals vs us ∧ Rps K G vs ds := by
  intro ds us h
  induction h with
  | nil => exact ⟨[], .nil, .nil⟩
  | cons r t ih =>
    obtain ⟨x, r1, r2⟩ := r
    obtain ⟨vs, h1, h2⟩ := ih
    exact ⟨x :: vs, .cons r1 h1, .cons r2 h2⟩
theorem ros_ex {α β : Type} {K : PySem.W.Frag} {G : Hp} {R : Value → D → Prop} : ∀ {ds : List D} {vs : List V} {us : List Value}, Vals vs us → Rps K G vs ds → (∀ x u d, d ∈ ds → RelV x u → Rp K G x d → R u d) → PySem.W.EachIs R us ds
  | [], _, _, rv, r, h => by cases r; cases rv; exact .nil
  | d :: ds, _, _, rv, r, h => by
    cases r with
    | cons r1 r2 =>
      cases rv with
      | cons v1 v2 => exact .cons (h _ _ _ List.mem_cons_self v1 r1) (ros_ex (α := α) (β := β) v2 r2 fun x u d hd => h x u d (List.mem_cons_of_mem _ hd))
/-- sorted of a list of alike things -/
theorem call_sortL (hx : XOk X n) : CallR X (.builtin "sorted") (fun xs H Q => ∃ B G b v m ds fp, xs = [v] ∧ StOk B G H b ∧ RO X.K G B H m v (.lst ds) fp ∧ m ≤ 1 ∧ alikeB ds = true ∧
    ∀ w G' H' fp', Post B G H G' b H' → RO X.K G' B H' 1 w (.lst (ds.mergeSort leD)) fp' → fp'.Nodup → (∀ a ∈ fp', H a = none) → Q w H') := by
  intro pins s σ H xs us Q I rx h
  obtain ⟨B, G, b, v, m, ds, fp, rfl, st, ro, hm, hal, q⟩ := h
  obtain ⟨a, vs, rfl, hl, rs⟩ := ro.lst1 st.sub hm
  obtain ⟨u, rfl, ru⟩ := vals1 rx
  obtain rfl : u = Value.ref a := ru
  obtain ⟨its, rv, pl, hz⟩ := I.list (.inl (.inl hl))
  obtain ⟨a1, a2⟩ := alike_all hal
  have hun := hx.room.units
  refine PySem.W.sorted_data (enc := toP) (bs := ds) (R := fun u d => ∃ x : V, RelV x u ∧ Rp X.K G x d) pl.isList (ros_ex (α := Unit) (β := Unit) rv rs fun x u d _ h1 h2 => ⟨x, h1, h2⟩)
    (ros_ex (α := Unit) (β := Unit) rv rs fun x u d hd h1 h2 => ?_) (fun d hd e he => ?_) ?_ (by rw [← rs.length]; exact hz) (fun d hd => ?_) fun out ho eo => ?_
  · obtain ⟨as, r, _⟩ := h2.reads I hx.sys st.sub d x u (noIns_of d (a1 d hd).1) h1
    exact ⟨as, r⟩
  · obtain ⟨d2, hd2, rfl⟩ := List.mem_map.mp hd
    obtain ⟨e2, he2, rfl⟩ := List.mem_map.mp he
    exact (a1 d2 hd2).2.2 e2 he2
  · rcases a2 with z | z
    · refine .inl fun d hd => ?_
      obtain ⟨d, hd2, rfl⟩ := List.mem_map.mp hd
      have q := z d hd2
      cases d with
      | tup xs =>
        cases xs with
        | nil => cases q
        | cons x xs => exact ⟨toP x, toPs xs, by simp [toP, toPs]⟩
      | _ => cases q
    · refine .inr fun d hd => ?_
      obtain ⟨d, hd2, rfl⟩ := List.mem_map.mp hd
      have q := z d hd2
      have f := (a1 d hd2).1
      cases d with
      | tup xs => cases q
      | non => cases q
      | ins k => simp [flat] at f
      | dct k => simp [flat] at f
      | _ => exact ⟨by simp [toP], fun xs => by simp [toP]⟩
  · rw [depth_toP]
    have := (a1 d hd).2.1
    omega
  · obtain ⟨vs2, v2, r2⟩ := each_rps eo
    have e : ds.mergeSort (PySem.W.dataLe false toP) = ds.mergeSort leD := by rw [PySem.W.dataLe_eq]; rfl
    rw [e] at r2
    obtain ⟨ep, hat⟩ := PyProof.Rows.sortedAll_at s.heap its out.toArray
    have hlen : vs2.length ≤ sizeLine := by rw [r2.length, List.length_mergeSort, ← rs.length]; exact hz
    exact ⟨.ref _, upd H (s.heap.objs.size + 1) (.lst vs2), I.laid (t' := s.toks) (fun _ _ => PyProof.Rows.sortedAll_old) (Nat.le_succ _) ⟨hlen, out, ep, v2, hat⟩, rfl, finL (k := 1) st (I.hok.fresh (Nat.le_succ _)) r2 (.inl rfl) q⟩
/-- a tuple with this key in front -/
def FirstKey (h : Heap) (v : Value) (k : Key) : Prop := ∃ a o xs n f, v = .ref a ∧ h.get? a = some o ∧ o.cls = .type "tuple" ∧ o.data = .seq xs n ∧ xs[0]? = some f ∧ keyIs k f = true
theorem keyIs_one {k k' : Key} {f : Value} (h : keyIs k f = true) (h' : keyIs k' f = true) : k = k' := by
  rcases keyIs_shape h with ⟨i, t, rfl, rfl⟩ | ⟨x, t, rfl, rfl⟩
  · rcases keyIs_shape h' with ⟨j, u, rfl, e⟩ | ⟨y, u, rfl, e⟩
    · injection e with e1 _; rw [e1]
    · cases e
  · rcases keyIs_shape h' with ⟨j, u, rfl, e⟩ | ⟨y, u, rfl, e⟩
    · cases e
    · injection e with e1 _; rw [e1]
theorem FirstKey.one {h : Heap} {v : Value} {s s' : Key} (r : FirstKey h v s) (r' : FirstKey h v s') : s = s' := by
  obtain ⟨a, o, xs, n, t, rfl, h1, h2, h3, h4, h5⟩ := r
  obtain ⟨a', o', xs', n', t', e, k1, k2, k3, k4, k5⟩ := r'
  injection e with e
  subst e
  rw [h1] at k1
  obtain rfl := Option.some.inj k1
  rw [h3] at k3
  injection k3 with e1 e2
  subst e1
  rw [h4] at k4
  obtain rfl := Option.some.inj k4
  exact keyIs_one h5 k5
theorem FirstKey.of {h : Heap} {v : Value} {k : Key} {r : List PyData} {as : List Addr} (q : PySem.Reads h v (.tuple (toP (kD k) :: r)) as) : FirstKey h v k := by
  cases q with
  | @tuple a o xs n _ _ h1 h2 h3 h4 =>
    cases e : xs.toList with
    | nil => rw [e] at h4; cases h4
    | cons f fr =>
      rw [e] at h4
      cases h4 with
      | cons r1 r2 =>
        refine ⟨a, o, xs, n, f, rfl, h1, h2, h3, by rw [← Array.getElem?_toList, e]; rfl, ?_⟩
        cases k with
        | inl i => cases r1 with | int _ t => exact beq_self_eq_true i
        | inr s => cases r1 with | str _ t => exact beq_self_eq_true s
noncomputable def fstKind (h : Heap) (vs : List Value) : PyProof.Rows.KeyKind where
  toKeyOrd := PyProof.Rows.listOrd PyProof.Rows.itemOrd
  keyOf v := open Classical in if q : ∃ s, v ∈ vs ∧ FirstKey h v s then some (PySem.W.keyToks (toP (kD q.choose))) else none
  dflt := ([] : List (Int ⊕ List Nat))
theorem fstKind_some {h : Heap} {vs : List Value} {v : Value} {s : Key} (hv : v ∈ vs) (r : FirstKey h v s) : (fstKind h vs).keyOf v = some (PySem.W.keyToks (toP (kD s))) := by
  have q : ∃ s, v ∈ vs ∧ FirstKey h v s := ⟨s, hv, r⟩
  have e : (fstKind h vs).keyOf v = some (PySem.W.keyToks (toP (kD q.choose))) := by
    show (open Classical in if q : ∃ s, v ∈ vs ∧ FirstKey h v s then some (PySem.W.keyToks (toP (kD q.choose))) else none) = _
    rw [dif_pos q]
  rw [e, q.choose_spec.2.one r]
theorem fstKind_inv {h : Heap} {vs : List Value} {v : Value} {k : List (Int ⊕ List Nat)} (e : (fstKind h vs).keyOf v = some k) : ∃ s, v ∈ vs ∧ FirstKey h v s ∧ k = PySem.W.keyToks (toP (kD s)) := by
  by_cases q : ∃ s, v ∈ vs ∧ FirstKey h v s
  · obtain ⟨s, h1, h2⟩ := q
    rw [fstKind_some h1 h2] at e
    exact ⟨s, h1, h2, (Option.some.inj e).symm⟩
  · have e' : (fstKind h vs).keyOf v = none := by
      show (open Classical in if q : ∃ s, v ∈ vs ∧ FirstKey h v s then some (PySem.W.keyToks (toP (kD q.choose))) else none) = _
      rw [dif_neg q]
      rfl
    rw [e'] at e
    exact absurd e (by simp)
theorem kat_self {prog : Program} {w : World} {A : Around} {b fin : Bool} {Q : Bool → Shared → Prop} {s : Shared} (h : Q fin s) : ∀ (vs : List Value) (i : Nat), PySem.W.KatLex prog w A b fin Q (vs.zip vs) i s
  | [], i => PySem.W.kat_nil h
  | v :: vs, i => by
    rw [List.zip_cons_cons]
    refine PySem.W.kat_cons ?_
    unfold eqBool
    refine wpAny_holding ?_
    rw [if_pos (beq_self_eq_true v)]
    exact wpAny_bind (wpAny_rule (wpAny_pure (PySem.W.kat_yes (kat_self h vs (i + 1)))))
/-- all texts, or all numbers -/
def OneSort (ks : List Key) : Prop := (∀ k ∈ ks, ∃ s, k = .inr s) ∨ ∀ k ∈ ks, ∃ i, k = .inl i
theorem dataLt_self (k : Key) : PySem.W.dataLt (toP (kD k)) (toP (kD k)) = false := by
  cases k with
  | inl i => exact (PySem.W.dataLt_int i i).trans (decide_eq_false (Int.lt_irrefl _))
  | inr s => exact (PySem.W.dataLt_str s s).trans (decide_eq_false (List.lt_irrefl _))
theorem fst_sorts {prog : Program} {w : World} {A : Around} {s : Shared} {vs : List Value} {ss : List Key} (hu : A.units < cLine) (e : PySem.W.EachIs (fun v t => FirstKey s.heap v t) vs ss) (hn : ss.Nodup) (ho : OneSort ss) :
    PySem.W.SortsAt prog w A s (fstKind s.heap vs) vs := by
  have inj : ∀ v ∈ vs, ∀ v' ∈ vs, ∀ t, FirstKey s.heap v t → FirstKey s.heap v' t → v = v' := by
    clear hu ho
    induction e with
    | nil => intro v hv; cases hv
    | @cons v0 t0 vs' ss' r t ih =>
      obtain ⟨hn1, hn2⟩ := List.nodup_cons.mp hn
      have out : ∀ v ∈ vs', ∀ t, FirstKey s.heap v t → FirstKey s.heap v0 t → False := fun v hv t' q1 q2 => by
        obtain ⟨t2, h2, q3⟩ := PySem.W.EachIs.left t v hv
        rw [r.one q2, q1.one q3] at hn1
        exact hn1 h2
      intro v hv v' hv' t' q1 q2
      rcases List.mem_cons.mp hv with rfl | hv
      · rcases List.mem_cons.mp hv' with rfl | hv'
        · rfl
        · exact (out v' hv' t' q2 q1).elim
      · rcases List.mem_cons.mp hv' with e | hv'
        · exact (out v hv t' q1 (e ▸ q2)).elim
        · exact ih hn2 v hv v' hv' t' q1 q2
  have inS : ∀ v ∈ vs, ∀ t, FirstKey s.heap v t → t ∈ ss := fun v hv t q => by
    obtain ⟨t2, h2, q2⟩ := PySem.W.EachIs.left e v hv
    rw [q.one q2]; exact h2
  have two : ∀ t t', t ∈ ss → t' ∈ ss → (∃ x y, t = .inr x ∧ t' = .inr y) ∨ ∃ x y, t = .inl x ∧ t' = .inl y := fun t t' h h' => by
    rcases ho with ho | ho
    · obtain ⟨x, rfl⟩ := ho t h
      obtain ⟨y, rfl⟩ := ho t' h'
      exact .inl ⟨x, y, rfl, rfl⟩
    · obtain ⟨x, rfl⟩ := ho t h
      obtain ⟨y, rfl⟩ := ho t' h'
      exact .inr ⟨x, y, rfl, rfl⟩
  refine ⟨fun v hv => ?_, tuples' true, ?_, fun h2 E Q hq => ?_⟩
  · obtain ⟨t, ht, r⟩ := e.left v hv
    exact ⟨_, fstKind_some hv r⟩
  · intro E x y a b Q ha hb hq
    obtain ⟨t, h1, h2, rfl⟩ := fstKind_inv ha
    obtain ⟨t', k1, k2, rfl⟩ := fstKind_inv hb
    have hq' : Q (PySem.W.dataLt (toP (kD t)) (toP (kD t'))) s := hq
    by_cases ht : t = t'
    · subst ht
      obtain rfl := inj x h1 y k1 t h2 k2
      obtain ⟨l, o, xs, n, tk, rfl, g1, g2, g3, g4, g5⟩ := h2
      refine PySem.W.kat_lt g1 g3 g1 g3 (kat_self ?_ _ _)
      rw [dataLt_self] at hq'
      rw [decide_eq_false (Nat.lt_irrefl _)]
      exact hq'
    · have tt := two t t' (inS _ h1 _ h2) (inS _ k1 _ k2)
      obtain ⟨l, o, xs, n, f, rfl, g1, g2, g3, g4, g5⟩ := h2
      obtain ⟨l', o', xs', n', f', rfl, j1, j2, j3, j4, j5⟩ := k2
      refine PySem.W.kat_lt g1 g3 j1 j3 ?_
      rw [← Array.getElem?_toList] at g4 j4
      cases e1 : xs.toList with
      | nil => rw [e1] at g4; cases g4
      | cons f2 fr =>
        cases e2 : xs'.toList with
        | nil => rw [e2] at j4; cases j4
        | cons f2' fr' =>
          rw [e1] at g4
          rw [e2] at j4
          obtain rfl : f2 = f := by simpa using g4
          obtain rfl : f2' = f' := by simpa using j4
          rw [List.zip_cons_cons]
          rcases tt with ⟨x, y, rfl, rfl⟩ | ⟨x, y, rfl, rfl⟩
          · rcases keyIs_shape g5 with ⟨_, _, e, _⟩ | ⟨x', tk, e, rfl⟩
            · cases e
            · cases e
              rcases keyIs_shape j5 with ⟨_, _, e, _⟩ | ⟨y', tk', e, rfl⟩
              · cases e
              · cases e
                refine PySem.W.kat_cons (PyProof.Rows.eqBool_str ?_)
                have hne : (x == y) = false := by simpa using fun z => ht (congrArg Sum.inr z)
                rw [hne]
                exact PySem.W.kat_no (PySem.W.oneLt_alike (fun _ xs => by simp) (.str x tk) (.str y tk') (by simp [PySem.W.alike]) (by simp) (by simpa [PyData.depth] using hu) hq')
          · rcases keyIs_shape g5 with ⟨x', tk, e, rfl⟩ | ⟨_, _, e, _⟩
            · cases e
              rcases keyIs_shape j5 with ⟨y', tk', e, rfl⟩ | ⟨_, _, e, _⟩
              · cases e
                refine PySem.W.kat_cons (PySem.wpAny_eqBool_int ?_)
                have hne : (x == y) = false := by simpa using fun z => ht (congrArg Sum.inl z)
                rw [hne]
                exact PySem.W.kat_no (PySem.W.oneLt_alike (fun _ xs => by simp) (.int x tk) (.int y tk') (by simp [PySem.W.alike]) (by simp) (by simpa [PyData.depth] using hu) hq')
              · cases e
            · cases e
  · obtain ⟨fs, t1, t2, t3⟩ : ∃ fs, PySem.W.KatTups s.heap vs fs ∧ fs.length = vs.length ∧ ∀ f ∈ fs, ∃ k ∈ ss, keyIs k f = true := by
      clear h2 inj hn ho inS two
      induction e with
      | nil => exact ⟨[], .nil, rfl, by simp⟩
      | @cons v0 k0 vs' ss' r t ih =>
        obtain ⟨fs, t1, t2, t3⟩ := ih
        obtain ⟨l, o, xs, n, tk, rfl, g1, g2, g3, g4, g5⟩ := r
        refine ⟨_ :: fs, .cons g1 g2 g3 g4 t1, by simp [t2], fun f hf => ?_⟩
        rcases List.mem_cons.mp hf with rfl | hf
        · exact ⟨k0, List.mem_cons_self, g5⟩
        · obtain ⟨k, hk, q⟩ := t3 f hf
          exact ⟨k, List.mem_cons_of_mem _ hk, q⟩
    rcases ho with ho | ho
    · refine PySem.W.kat_kind (T := .type "str") t1 (by omega) (fun f hf => ?_) (beq_self_eq_true _) hq
      obtain ⟨k, hk, q⟩ := t3 f hf
      obtain ⟨s, rfl⟩ := ho k hk
      rcases keyIs_shape q with ⟨_, _, e, _⟩ | ⟨x', tk, e, rfl⟩
      · cases e
      · exact PySem.W.looks_reads (.str x' tk)
    · refine PySem.W.kat_kind (T := .type "int") t1 (by omega) (fun f hf => ?_) (beq_self_eq_true _) hq
      obtain ⟨k, hk, q⟩ := t3 f hf
      obtain ⟨s, rfl⟩ := ho k hk
      rcases keyIs_shape q with ⟨x', tk, e, rfl⟩ | ⟨_, _, e, _⟩
      · exact PySem.W.looks_reads (.int x' tk)
      · cases e
theorem fstK_some {d : D} {k : Key} (h : fstK d = some k) : ∃ r, d = .tup (kD k :: r) := by
  match d, h with
  | .tup (.str s :: r), h => cases h; exact ⟨r, rfl⟩
  | .tup (.int i :: r), h => cases h; exact ⟨r, rfl⟩
theorem first_all {ds : List D} (h : firstB ds = true) : ∃ ss : List Key, ss.Nodup ∧ OneSort ss ∧ PySem.W.EachIs (fun d s => noIns d = true ∧ fstK d = some s) ds ss := by
  unfold firstB at h
  obtain ⟨h1, h3⟩ := Bool.and_eq_true_iff.mp h
  obtain ⟨h1, h2⟩ := Bool.and_eq_true_iff.mp h1
  have h2 := of_decide_eq_true h2
  have key : ∀ ds : List D, (ds.all fun d => noIns d) = true → (∀ d ∈ ds, (fstK d).isSome = true) → ∃ ss : List Key, ds.map fstK = ss.map some ∧ PySem.W.EachIs (fun d s => noIns d = true ∧ fstK d = some s) ds ss := by
    intro ds
    induction ds with
    | nil => intro _ _; exact ⟨[], rfl, .nil⟩
    | cons d ds ih =>
      intro h g
      obtain ⟨q1, q2⟩ := Bool.and_eq_true_iff.mp (show (noIns d && ds.all fun d => noIns d) = true from h)
      obtain ⟨ss, e1, e2⟩ := ih q2 fun x hx => g x (List.mem_cons_of_mem _ hx)
      obtain ⟨k, hk⟩ := Option.isSome_iff_exists.mp (g d List.mem_cons_self)
      exact ⟨k :: ss, by simp [hk, e1], .cons ⟨q1, hk⟩ e2⟩
  have all : ∀ d ∈ ds, (fstK d).isSome = true := by
    rcases Bool.or_eq_true_iff.mp h3 with z | z
    · intro d hd
      have q := List.all_eq_true.mp z d hd
      cases e : fstK d with
      | none => rw [e] at q; cases q
      | some k => rfl
    · intro d hd
      have q := List.all_eq_true.mp z d hd
      cases e : fstK d with
      | none => rw [e] at q; cases q
      | some k => rfl
  obtain ⟨ss, e1, e2⟩ := key ds h1 all
  have right : ∀ k ∈ ss, ∃ d ∈ ds, fstK d = some k := by
    have gen : ∀ {ds : List D} {ss : List Key}, PySem.W.EachIs (fun d s => noIns d = true ∧ fstK d = some s) ds ss → ∀ k ∈ ss, ∃ d ∈ ds, fstK d = some k := by
      intro ds ss e
      induction e with
      | nil => intro k hk; cases hk
      | cons r t ih =>
        intro k hk
        rcases List.mem_cons.mp hk with rfl | hk
        · exact ⟨_, List.mem_cons_self, r.2⟩
        · obtain ⟨d, hd, q⟩ := ih k hk
          exact ⟨d, List.mem_cons_of_mem _ hd, q⟩
    exact gen e2
  rw [e1] at h2
  refine ⟨ss, List.Pairwise.of_map some (fun a b hab e => hab (congrArg some e)) h2, ?_, e2⟩
  rcases Bool.or_eq_true_iff.mp h3 with z | z
  · refine .inl fun k hk => ?_
    obtain ⟨d, hd, e⟩ := right k hk
    have q := List.all_eq_true.mp z d hd
    rw [e] at q
    cases k with
    | inl i => cases q
    | inr s => exact ⟨s, rfl⟩
  · refine .inr fun k hk => ?_
    obtain ⟨d, hd, e⟩ := right k hk
    have q := List.all_eq_true.mp z d hd
    rw [e] at q
    cases k with
    | inl i => exact ⟨i, rfl⟩
    | inr s => cases q
theorem fstD_key {d : D} {k : Key} (h : fstK d = some k) : fstD d = kD k := by
  unfold fstD
  rw [h]
  cases k <;> rfl
theorem each_fst {h : Heap} {R : Value → D → Prop} : ∀ {us : List Value} {ds : List D} {ss : List Key}, PySem.W.EachIs (fun u d => ∃ as, PySem.Reads h u (toP d) as) us ds → PySem.W.EachIs (fun d s => noIns d = true ∧ fstK d = some s) ds ss → PySem.W.EachIs (fun u s => FirstKey h u s) us ss
  | _, _, _, .nil, q => by cases q; exact .nil
  | _, _, _, .cons r t, q => by
    cases q with
    | cons q1 q2 =>
      obtain ⟨as, r⟩ := r
      obtain ⟨_, q1⟩ := q1
      obtain ⟨l, rfl⟩ := fstK_some q1
      exact .cons (FirstKey.of (r := toPs l) (as := as) (by simpa [toP, toPs] using r)) (each_fst (R := R) t q2)
theorem each_memL {α β : Type} {R : α → β → Prop} : ∀ {as : List α} {bs : List β}, PySem.W.EachIs R as bs → PySem.W.EachIs (fun a b => R a b ∧ a ∈ as) as bs
  | _, _, .nil => .nil
  | _, _, .cons h t => .cons ⟨h, List.mem_cons_self ..⟩ ((each_memL t).mono fun _ _ q => ⟨q.1, List.mem_cons_of_mem _ q.2⟩)
/-- sorted, over the heap: tuples with unlike keys in front -/
theorem fst_data {prog : Program} {w : World} {A : Around} {s : Shared} {us : List Value} {ds : List D} {R : Value → D → Prop} (hu : A.units < cLine) (eR : PySem.W.EachIs R us ds) (er : PySem.W.EachIs (fun u d => ∃ as, PySem.Reads s.heap u (toP d) as) us ds) (hal : firstB ds = true) :
    ∃ κ : PyProof.Rows.KeyKind, PySem.W.SortsAt prog w A s κ us ∧ PySem.W.EachIs R (PySem.W.sortVals κ false us us) (ds.mergeSort fstLe) := by
  obtain ⟨ss, hn, ho, ef⟩ := first_all hal
  have e2 := each_fst (R := fun _ _ => True) er ef
  refine ⟨fstKind s.heap us, fst_sorts hu e2 hn ho, ?_⟩
  have hk : PySem.W.EachIs (fun v d => (fstKind s.heap us).keyOf v = some (PySem.W.keyToks (toP (fstD d)))) us ds :=
    (each_memL (PySem.W.each_mem er)).mono fun v d hv => by
      obtain ⟨⟨⟨as, r⟩, h1⟩, h2⟩ := hv
      obtain ⟨t, _, _, q⟩ := PySem.W.EachIs.left ef d h1
      rw [fstD_key q]
      obtain ⟨l, rfl⟩ := fstK_some q
      exact fstKind_some h2 (FirstKey.of (r := toPs l) (as := as) (by simpa [toP, toPs] using r))
  exact PySem.W.sortVals_each (rev := false) _ eR hk
/-- sorted of a list of tuples with unlike texts in front -/
theorem call_sortF (hx : XOk X n) : CallR X (.builtin "sorted") (fun xs H Q => ∃ B G b v m ds fp, xs = [v] ∧ StOk B G H b ∧ RO X.K G B H m v (.lst ds) fp ∧ m ≤ 1 ∧ firstB ds = true ∧
    ∀ w G' H' fp', Post B G H G' b H' → RO X.K G' B H' 1 w (.lst (ds.mergeSort fstLe)) fp' → fp'.Nodup → (∀ a ∈ fp', H a = none) → Q w H') := by
  intro pins s σ H xs us Q I rx h
  obtain ⟨B, G, b, v, m, ds, fp, rfl, st, ro, hm, hal, q⟩ := h
  obtain ⟨a, vs, rfl, hl, rs⟩ := ro.lst1 st.sub hm
  obtain ⟨u, rfl, ru⟩ := vals1 rx
  obtain rfl : u = Value.ref a := ru
  obtain ⟨its, rv, pl, hz⟩ := I.list (.inl (.inl hl))
  obtain ⟨ss, _, _, ef⟩ := first_all hal
  have hun := hx.room.units
  have er : PySem.W.EachIs (fun u d => ∃ as, PySem.Reads s.heap u (toP d) as) its ds := ros_ex (α := Unit) (β := Unit) rv rs fun x u d hd h1 h2 => by
    have hni : noIns d = true := by
      obtain ⟨t, _, h3, _⟩ := PySem.W.EachIs.left ef d hd
      exact h3
    obtain ⟨as, r, _⟩ := h2.reads I hx.sys st.sub d x u hni h1
    exact ⟨as, r⟩
  have er2 : PySem.W.EachIs (fun u d => ∃ as, PySem.Reads (PySem.W.sortingHeap (PySem.W.copyHeap s.heap its) (s.heap.objs.size + 1) its) u (toP d) as) its ds :=
    er.mono fun _ _ ⟨as, r⟩ => ⟨as, PyProof.Rows.Reads.keeps (fun _ _ => PySem.W.sorting_copy_old) r⟩
  have eR : PySem.W.EachIs (fun u d => ∃ x : V, RelV x u ∧ Rp X.K G x d) its ds := ros_ex (α := Unit) (β := Unit) rv rs fun x u d _ h1 h2 => ⟨x, h1, h2⟩
  obtain ⟨κ, hS, eo⟩ := fst_data (prog := X.prog) (w := X.w) (A := X.A.in1.in1) (s := { s with heap := PySem.W.sortingHeap (PySem.W.copyHeap s.heap its) (s.heap.objs.size + 1) its }) (by show _ + 1 + 1 < cLine; omega) eR er2 hal
  refine PySem.W.sorted_vals (κ := κ) pl.isList hS (by rw [eR.length, ← rs.length]; exact hz) ?_
  obtain ⟨vs2, v2, r2⟩ := each_rps eo
  obtain ⟨ep, hat⟩ := PyProof.Rows.sortedAll_at s.heap its (PySem.W.sortVals κ false its its).toArray
  have hlen : vs2.length ≤ sizeLine := by rw [r2.length, List.length_mergeSort, ← rs.length]; exact hz
  exact ⟨.ref _, upd H (s.heap.objs.size + 1) (.lst vs2), I.laid (t' := s.toks) (fun _ _ => PyProof.Rows.sortedAll_old) (Nat.le_succ _) ⟨hlen, _, ep, v2, hat⟩, rfl, finL (k := 1) st (I.hok.fresh (Nat.le_succ _)) r2 (.inl rfl) q⟩
def leS (a b : Str) : Bool := decide (a.cps.toList ≤ b.cps.toList)
theorem leD_str (a b : Str) : leD (.str a) (.str b) = leS a b := by
  show (!PySem.W.dataLt (.str b) (.str a)) = _
  rw [PySem.W.dataLt_str, PySem.W.not_lt_str]
  rfl
theorem leD_int (a b : Int) : leD (.int a) (.int b) = decide (a ≤ b) := by
  show (!PySem.W.dataLt (.int b) (.int a)) = _
  rw [PySem.W.dataLt_int, PySem.W.not_lt_int]
theorem leS_trans (a b c : Str) (h1 : leS a b = true) (h2 : leS b c = true) : leS a c = true := decide_eq_true (List.le_trans (of_decide_eq_true h1) (of_decide_eq_true h2))
theorem leS_total (a b : Str) : (leS a b || leS b a) = true := by
  rcases List.le_total a.cps.toList b.cps.toList with h | h
  · simp [leS, h]
  · simp [leS, h]
theorem leS_anti {a b : Str} (h1 : leS a b = true) (h2 : leS b a = true) : a = b := PySem.W.str_of_cps (List.le_antisymm (of_decide_eq_true h1) (of_decide_eq_true h2))
theorem sort_strs (ks : List Str) : (ks.map D.str).mergeSort leD = (ks.mergeSort leS).map D.str := (List.map_mergeSort fun a _ b _ => (leD_str a b).symm).symm
def leI (a b : Int) : Bool := decide (a ≤ b)
theorem sort_ints (ks : List Int) : (ks.map D.int).mergeSort leD = (ks.mergeSort leI).map D.int := (List.map_mergeSort fun a _ b _ => (leD_int a b).symm).symm
theorem ltCps_dec (x y : Str) : ltCps x.cps.toList y.cps.toList = decide (x.cps.toList < y.cps.toList) := ltCps_eq _ _
theorem rising_pw : ∀ {ys : List Str} {p : Str}, risingS p ys = true → (∀ y ∈ ys, leS p y = true) ∧ ys.Pairwise fun a b => leS a b = true
  | [], _, _ => ⟨by simp, .nil⟩
  | y :: ys, p, h => by
    have h' : (!ltCps y.cps.toList p.cps.toList && risingS y ys) = true := h
    obtain ⟨h1, h2⟩ := Bool.and_eq_true_iff.mp h'
    obtain ⟨i1, i2⟩ := rising_pw h2
    have py : leS p y = true := by
      rw [ltCps_dec, PySem.W.not_lt_str] at h1
      exact h1
    refine ⟨fun z hz => ?_, List.pairwise_cons.mpr ⟨i1, i2⟩⟩
    rcases List.mem_cons.mp hz with rfl | hz
    · exact py
    · exact leS_trans _ _ _ py (i1 z hz)
theorem sorted_eq {ys ks : List Str} (hp : ys.Perm ks) (hs : sortedS ys = true) : ys = ks.mergeSort leS := by
  have pw : ys.Pairwise fun a b => leS a b = true := by
    cases ys with
    | nil => exact .nil
    | cons y ys => obtain ⟨i1, i2⟩ := rising_pw (show risingS y ys = true from hs); exact List.pairwise_cons.mpr ⟨i1, i2⟩
  exact List.Perm.eq_of_pairwise (fun a b _ _ h1 h2 => leS_anti h1 h2) pw (List.pairwise_mergeSort leS_trans leS_total ks) (hp.trans (List.mergeSort_perm ks leS).symm)
theorem sorted_eqI {ys ks : List Int} (hp : ys.Perm ks) (hs : ys.Pairwise (· ≤ ·)) : ys = ks.mergeSort leI := by
  have pw : ys.Pairwise fun a b => leI a b = true := hs.imp fun h => decide_eq_true h
  exact List.Perm.eq_of_pairwise (fun a b _ _ h1 h2 => Int.le_antisymm (of_decide_eq_true h1) (of_decide_eq_true h2)) pw
    (List.pairwise_mergeSort (le := leI) (fun a b c h1 h2 => decide_eq_true (Int.le_trans (of_decide_eq_true h1) (of_decide_eq_true h2))) (fun a b => by rcases Int.le_total a b with h | h <;> simp [leI, h]) ks) (hp.trans (List.mergeSort_perm ks _).symm)
theorem keys_str {K : PySem.W.Frag} {G : Hp} : ∀ {ds : List (D × D)} {kvs : List (Key × V)}, Rpk K G kvs ds → ds.all isStrKey = true → ∃ ks : List Str, kvs.map (·.1) = ks.map Sum.inr ∧ ds.map (·.1) = ks.map D.str ∧ ∀ s ∈ ks, s.length ≤ line
  | [], _, h, _ => by cases h; exact ⟨[], rfl, rfl, by simp⟩
  | d :: ds, _, h, hk => by
    cases h with
    | @cons k v d' kvs _ c r t =>
      obtain ⟨h1, h2⟩ := Bool.and_eq_true_iff.mp (show (isStrKey (kD k, d') && ds.all isStrKey) = true from hk)
      obtain ⟨ks, e1, e2, e3⟩ := keys_str t h2
      cases k with
      | inl i => cases h1
      | inr s => exact ⟨s :: ks, by simp [e1], by simp [e2, kD], fun z hz => by
          rcases List.mem_cons.mp hz with rfl | hz
          · exact c
          · exact e3 z hz⟩
theorem keys_int {K : PySem.W.Frag} {G : Hp} : ∀ {ds : List (D × D)} {kvs : List (Key × V)}, Rpk K G kvs ds → ds.all isIntKey = true → ∃ ks : List Int, kvs.map (·.1) = ks.map Sum.inl ∧ ds.map (·.1) = ks.map D.int
  | [], _, h, _ => by cases h; exact ⟨[], rfl, rfl⟩
  | d :: ds, _, h, hk => by
    cases h with
    | @cons k v d' kvs _ c r t =>
      obtain ⟨h1, h2⟩ := Bool.and_eq_true_iff.mp (show (isIntKey (kD k, d') && ds.all isIntKey) = true from hk)
      obtain ⟨ks, e1, e2⟩ := keys_int t h2
      cases k with
      | inl i => exact ⟨i :: ks, by simp [e1], by simp [e2, kD]⟩
      | inr s => cases h1
theorem rps_strs {K : PySem.W.Frag} {G : Hp} : ∀ {ys : List Str}, (∀ s ∈ ys, s.length ≤ line) → Rps K G (ys.map V.str) (ys.map D.str)
  | [], _ => .nil
  | y :: ys, h => .cons (.str y (h y List.mem_cons_self)) (rps_strs fun s hs => h s (List.mem_cons_of_mem _ hs))
theorem rps_ints {K : PySem.W.Frag} {G : Hp} : ∀ {ys : List Int}, Rps K G (ys.map V.int) (ys.map D.int)
  | [] => .nil
  | y :: ys => .cons (.int y) rps_ints
theorem cb_sorted (hx : XOk X n) : CallR X (.builtin "sorted") (rBi X.K .sorted) :=
  wkC (CallR.or (CallR.or (call_sortL hx) (call_sortF hx)) (CallR.or (call_sortedD hx.calm) (call_sortedDI hx.calm))) fun xs H Q h => by
  obtain ⟨B, G, b, v, m, d, res, fp, rfl, st, ro, hm, e, q⟩ := h
  cases d with
  | lst ds =>
    have e' : (if firstB ds = true then some (D.lst (ds.mergeSort fstLe)) else if alikeB ds = true then some (D.lst (ds.mergeSort leD)) else none) = some res := e
    by_cases cf : firstB ds = true
    · rw [if_pos cf] at e'
      obtain rfl := Option.some.inj e'
      exact .inl (.inr ⟨B, G, b, v, m, ds, fp, rfl, st, ro, hm rfl, cf, q⟩)
    · rw [if_neg cf] at e'
      obtain ⟨c, rfl⟩ := ite_optF e'
      exact .inl (.inl ⟨B, G, b, v, m, ds, fp, rfl, st, ro, hm rfl, c, q⟩)
  | dct ds =>
    obtain ⟨c, rfl⟩ := ite_optF (show (if ((ds.all isStrKey || ds.all isIntKey) && decide (ds.length < 64)) = true then some (D.lst ((ds.map (·.1)).mergeSort leD)) else none) = some res from e)
    obtain ⟨c1, c2⟩ := Bool.and_eq_true_iff.mp c
    have c2 := of_decide_eq_true c2
    obtain ⟨a, vs, rfl, hl, rk⟩ := ro.dct1 st.sub (hm rfl)
    rcases Bool.or_eq_true_iff.mp c1 with c | c
    · obtain ⟨ks, e1, e2, e3⟩ := keys_str rk c
      refine .inr (.inl ⟨a, vs, ks, rfl, hl, e1, ?_, fun ys p hp hs hn => ?_⟩)
      · have := congrArg List.length e2
        simp at this
        omega
      · rw [e2, sort_strs, ← sorted_eq hp hs] at q
        exact finL (k := 1) st hn (rps_strs fun s hs => e3 s (hp.mem_iff.mp hs)) (.inl rfl) q
    · obtain ⟨ks, e1, e2⟩ := keys_int rk c
      refine .inr (.inr ⟨a, vs, ks, rfl, hl, e1, ?_, fun ys p hp hs hn => ?_⟩)
      · have := congrArg List.length e2
        simp at this
        omega
      · rw [e2, sort_ints, ← sorted_eqI hp hs] at q
        exact finL (k := 1) st hn rps_ints (.inl rfl) q
  | _ => cases e
end
end Dn

set_option Elab.async false
set_option linter.all false
set_option maxRecDepth 100000
/-! Dn, part G: expressions, one by one. -/
namespace Dn
open PySem PySem.Spec PyProof.Rows L2
section
variable {X : Cx} {C : Cn} {Γ : Gam} {m n : Nat} {a b c : Expr} {ea eb ec : Ex} {pos : Pos}

/-- an end where nothing is made -/
theorem q0 {K : PySem.W.Frag} {B : Addr} {G H : Hp} {bg : Bg} {k : Nat} {ch : Bool} {w : V} {r : D} {Q : V → Hp → Prop} (st : StOk B G H bg) (hc : isCon r = false) (rp : Rp K G w r)
    (q : ∀ v G' H' fp, Post B G H G' bg H' → RO K G' B H' k v r fp → (ch = false → fp.Nodup ∧ ∀ a ∈ fp, H a = none) → Q v H') : Q w H :=
  q w G H [] (.refl st) (.nc hc rp) fun _ => ⟨List.nodup_nil, by simp⟩
theorem s_int {i : Int} {j} : PE X (.Constant (.int i) j pos) (rd C m Γ (.ki i)) := wkE pe_int fun σ H Q hh => by
  obtain ⟨B, G, b, ρ, d, b', st, en, he, q⟩ := rd_out hh
  obtain ⟨rfl, rfl⟩ := ret_some he
  exact q0 st rfl (.int _) q
theorem s_bl {i : Bool} {j} : PE X (.Constant (.bool i) j pos) (rd C m Γ (.kb i)) := wkE pe_bl fun σ H Q hh => by
  obtain ⟨B, G, b, ρ, d, b', st, en, he, q⟩ := rd_out hh
  obtain ⟨rfl, rfl⟩ := ret_some he
  exact q0 st rfl (.bl _) q
theorem s_non {j} : PE X (.Constant .none j pos) (rd C m Γ .kn) := wkE pe_non fun σ H Q hh => by
  obtain ⟨B, G, b, ρ, d, b', st, en, he, q⟩ := rd_out hh
  obtain ⟨rfl, rfl⟩ := ret_some he
  exact q0 st rfl .non q
theorem s_str {x : Str} {j} (hx : x.length ≤ line) : PE X (.Constant (.str x) j pos) (rd C m Γ (.ks x)) := wkE pe_str fun σ H Q hh => by
  obtain ⟨B, G, b, ρ, d, b', st, en, he, q⟩ := rd_out hh
  obtain ⟨rfl, rfl⟩ := ret_some he
  exact q0 st rfl (.str _ hx) q
/-- a slot -/
theorem s_var {i : Nat} {x : Str} (hN : X.N[i]? = some x) (hv : Vis X.env.scope x) (hl : lvl Γ i ≤ m) (hd : (x == ("__debug__" : Str)) = false) (hcd : (x == ("__classdict__" : Str)) = false) : PE X (.Name x pos) (rd C m Γ (.var i)) :=
  wkE (pe_var hN hv hd hcd) fun σ H Q hh => by
  obtain ⟨B, G, b, ρ, d, b', st, en, he, q⟩ := rd_out hh
  obtain ⟨e, rfl⟩ := lift_some he
  obtain ⟨v, fp, h1, h2, h3⟩ := en.get e
  refine ⟨v, h1, q v G H fp (.refl st) ?_ fun z => by cases z⟩
  show RO C.K G B H (min m (lvl Γ i)) v d fp
  rw [Nat.min_eq_right hl]
  exact h2
/-- a constant of the module -/
structure GlobOk (K : PySem.W.Frag) (u : Value) (d : D) : Prop where
  con : isCon d = false
  rel : ∃ v, RelV v u ∧ ∀ G, Rp K G v d
theorem s_glob {x : Str} {d : D} {u : Value} (hK : C.K = X.K) (hg : Gl X x) (hm : X.mg x = some u) (g : GlobOk X.K u d) (hd : (x == ("__debug__" : Str)) = false) : PE X (.Name x pos) (rd C m Γ (.glo x d)) := by
  obtain ⟨hc, v, r, hr⟩ := g
  refine wkE (pe_glob hg hm r hd) fun σ H Q hh => ?_
  obtain ⟨B, G, b, ρ, d', b', st, en, he, q⟩ := rd_out hh
  obtain ⟨rfl, rfl⟩ := ret_some he
  exact q0 st hc (by rw [hK]; exact hr G) q

/-- two operands -/
theorem two {ma mb : Nat} {R : V → V → Hp → Prop} {σ : L2.St} {H : Hp} {B : Addr} {G : Hp} {bg b1 b2 : Bg} {ρ : Rho} {x y : D} (st : StOk B G H bg) (en : EnvOk C.K B G H C.bs Γ σ ρ) (h1 : ev C.Φ ρ ea bg = some (x, b1)) (h2 : ev C.Φ ρ eb b1 = some (y, b2))
    (q : ∀ v w G' H' f g k1 k2, k1 ≤ ma → k2 ≤ mb → Post B G H G' b2 H' → RO C.K G' B H' k1 v x f → RO C.K G' B H' k2 w y g → R v w H') :
    rd C ma Γ ea σ H fun v H1 => rd C mb Γ eb σ H1 fun w H2 => R v w H2 :=
  ⟨B, G, bg, ρ, x, b1, st, en, h1, fun v G1 H1 f P1 ⟨k1, a1, _, R1⟩ _ => ⟨B, G1, b1, ρ, y, b2, P1.st, en.post P1, h2, fun w G2 H2 g P2 ⟨k2, a2, _, R2⟩ _ => q v w G2 H2 f g k1 k2 (by omega) (by omega) (P1.trans P2) (R1.post P2) R2⟩⟩
theorem qP {K : PySem.W.Frag} {B : Addr} {G H G1 H1 : Hp} {b1 : Bg} {k : Nat} {ch : Bool} {r : D} {Q : V → Hp → Prop} (P : Post B G H G1 b1 H1)
    (q : ∀ v G' H' fp, Post B G H G' b1 H' → RO K G' B H' k v r fp → (ch = false → fp.Nodup ∧ ∀ a ∈ fp, H a = none) → Q v H') :
    ∀ v G' H' fp, Post B G1 H1 G' b1 H' → RO K G' B H' k v r fp → (fp.Nodup ∧ ∀ a ∈ fp, H1 a = none) → Q v H' := fun v G' H' fp P2 R F =>
  q v G' H' fp (P.trans P2) R fun _ => ⟨F.1, fun a ha => by
    have h1 := F.2 a ha
    cases e : H a with
    | none => rfl
    | some o =>
      have nb : a ≠ B := (R.fp a ha).1
      rw [P.kp a o nb e] at h1; cases h1⟩
/-- .. nothing made -/
theorem qP0 {K : PySem.W.Frag} {B : Addr} {G H G1 H1 : Hp} {b1 : Bg} {k : Nat} {ch : Bool} {w : V} {r : D} {Q : V → Hp → Prop} (P : Post B G H G1 b1 H1) (hc : isCon r = false) (rp : Rp K G1 w r)
    (q : ∀ v G' H' fp, Post B G H G' b1 H' → RO K G' B H' k v r fp → (ch = false → fp.Nodup ∧ ∀ a ∈ fp, H a = none) → Q v H') : Q w H1 :=
  q w G1 H1 [] P (.nc hc rp) fun _ => ⟨List.nodup_nil, by simp⟩

/-! ### comparisons -/
def opOf : Co → CmpOp
  | .eq => .Eq | .ne => .NotEq | .lt => .Lt | .le => .LtE | .gt => .Gt | .ge => .GtE | .isin => .In | .notin => .NotIn
/-- a comparison of held data -/
def rCmp (K : PySem.W.Frag) (op : Co) : R2 := fun x y H Q => ∃ B G b d e f g m n c, StOk B G H b ∧ RO K G B H m x d f ∧ RO K G B H n y e g ∧ cmpD op d e = some c ∧ Q (.bl c) H
theorem cmp_in {K : PySem.W.Frag} {B : Addr} {G H : Hp} {m n : Nat} {x y : V} {d : D} {es : List D} {f g : List Addr} (st : Sub G H) (rx : RO K G B H m x d f) (ok : inOk d es = true) :
    (RO K G B H n y (.lst es) g → Dp K H x (toP d) ∧ Dp K H y (toP (.lst es))) ∧ (RO K G B H n y (.tup es) g → Dp K H x (toP d) ∧ Dp K H y (toP (.tup es))) := by
  obtain ⟨f1, f2, _⟩ := inOk_all ok
  exact ⟨fun r => ⟨rx.dp st f1, r.dp st (by simpa [flat] using f2)⟩, fun r => ⟨rx.dp st f1, r.dp st (by simpa [flat] using f2)⟩⟩
theorem ite_opt {α : Type} {c : Prop} [Decidable c] {x r : α} (h : (if c then some x else none) = some r) : c ∧ x = r := by
  by_cases q : c
  · rw [if_pos q] at h; cases h; exact ⟨q, rfl⟩
  · rw [if_neg q] at h; cases h
theorem op_cmp (hx : XOk X n) : ∀ op, OpR X (compareOp (opOf op)) (rCmp X.K op)
  | .eq => wkOp (op_eqF hx) fun x y H Q ⟨B, G, b, d, e, f, g, m, n, c, st, r1, r2, h, q⟩ => by
    obtain ⟨ok, rfl⟩ := ite_opt (show (if eqOk d e = true then some (eqD d e) else none) = some c from h)
    obtain ⟨f1, f2, _⟩ := eqOk_and ok
    exact ⟨d, e, r1.dp st.sub f1, r2.dp st.sub f2, ok, q⟩
  | .ne => wkOp (op_neF hx) fun x y H Q ⟨B, G, b, d, e, f, g, m, n, c, st, r1, r2, h, q⟩ => by
    obtain ⟨ok, rfl⟩ := ite_opt (show (if eqOk d e = true then some (!eqD d e) else none) = some c from h)
    obtain ⟨f1, f2, _⟩ := eqOk_and ok
    exact ⟨d, e, r1.dp st.sub f1, r2.dp st.sub f2, ok, q⟩
  | .lt => wkOp (OpR.or op_lt op_lt_str) fun x y H Q ⟨B, G, b, d, e, f, g, m, n, c, st, r1, r2, h, q⟩ => by
    cases d <;> cases e <;> first
      | (cases h; cases r1.int; cases r2.int; exact .inl ⟨_, _, rfl, rfl, q⟩)
      | (cases h; obtain ⟨rfl, _⟩ := r1.str; obtain ⟨rfl, _⟩ := r2.str; exact .inr ⟨_, _, rfl, rfl, q⟩)
      | cases h
  | .le => wkOp op_le fun x y H Q ⟨B, G, b, d, e, f, g, m, n, c, st, r1, r2, h, q⟩ => by
    cases d <;> cases e <;> first
      | (cases h; cases r1.int; cases r2.int; exact ⟨_, _, rfl, rfl, q⟩)
      | cases h
  | .gt => wkOp op_gt fun x y H Q ⟨B, G, b, d, e, f, g, m, n, c, st, r1, r2, h, q⟩ => by
    cases d <;> cases e <;> first
      | (cases h; cases r1.int; cases r2.int; exact ⟨_, _, rfl, rfl, q⟩)
      | cases h
  | .ge => wkOp op_ge fun x y H Q ⟨B, G, b, d, e, f, g, m, n, c, st, r1, r2, h, q⟩ => by
    cases d <;> cases e <;> first
      | (cases h; cases r1.int; cases r2.int; exact ⟨_, _, rfl, rfl, q⟩)
      | cases h
  | .isin => wkOp (OpR.or (op_inF hx) (OpR.or op_in_str (op_inD hx))) fun x y H Q ⟨B, G, b, d, e, f, g, m, n, c, st, r1, r2, h, q⟩ => by
    cases e with
    | lst es =>
      obtain ⟨ok, rfl⟩ := ite_opt (show (if inOk d es = true then some (es.any fun y => eqD y d) else none) = some c by cases d <;> exact h)
      obtain ⟨a1, a2⟩ := (cmp_in (n := n) (g := g) st.sub r1 ok).1 r2
      exact .inl ⟨d, es, a1, .inl a2, ok, q⟩
    | tup es =>
      obtain ⟨ok, rfl⟩ := ite_opt (show (if inOk d es = true then some (es.any fun y => eqD y d) else none) = some c by cases d <;> exact h)
      obtain ⟨a1, a2⟩ := (cmp_in (n := n) (g := g) st.sub r1 ok).2 r2
      exact .inl ⟨d, es, a1, .inr a2, ok, q⟩
    | str t =>
      cases d with
      | str w =>
        cases h
        obtain ⟨rfl, _⟩ := r1.str
        obtain ⟨rfl, _⟩ := r2.str
        exact .inr (.inl ⟨w, t, rfl, rfl, q⟩)
      | _ => cases h
    | dct kvs =>
      obtain ⟨ok, rfl⟩ := ite_opt (show (if isKey d = true then some (dhas kvs d) else none) = some c by cases d <;> exact h)
      obtain ⟨k, rfl⟩ := kD_of ok
      obtain ⟨rfl, _⟩ := kV_of (RO.ncRp (by cases k <;> rfl) r1).2
      obtain ⟨a, vs, ff, rfl, hd, rk⟩ := r2.dctAt st.sub
      refine .inr (.inr ⟨a, vs, k, rfl, rfl, hd, ?_⟩)
      rw [rk.any k] at q
      exact q
    | _ => cases d <;> cases h
  | .notin => wkOp (OpR.or (op_notInF hx) (OpR.or op_notin_str (op_notInD hx))) fun x y H Q ⟨B, G, b, d, e, f, g, m, n, c, st, r1, r2, h, q⟩ => by
    cases e with
    | lst es =>
      obtain ⟨ok, rfl⟩ := ite_opt (show (if inOk d es = true then some (!es.any fun y => eqD y d) else none) = some c by cases d <;> exact h)
      obtain ⟨a1, a2⟩ := (cmp_in (n := n) (g := g) st.sub r1 ok).1 r2
      exact .inl ⟨d, es, a1, .inl a2, ok, q⟩
    | tup es =>
      obtain ⟨ok, rfl⟩ := ite_opt (show (if inOk d es = true then some (!es.any fun y => eqD y d) else none) = some c by cases d <;> exact h)
      obtain ⟨a1, a2⟩ := (cmp_in (n := n) (g := g) st.sub r1 ok).2 r2
      exact .inl ⟨d, es, a1, .inr a2, ok, q⟩
    | str t =>
      cases d with
      | str w =>
        cases h
        obtain ⟨rfl, _⟩ := r1.str
        obtain ⟨rfl, _⟩ := r2.str
        exact .inr (.inl ⟨w, t, rfl, rfl, q⟩)
      | _ => cases h
    | dct kvs =>
      obtain ⟨ok, rfl⟩ := ite_opt (show (if isKey d = true then some (!dhas kvs d) else none) = some c by cases d <;> exact h)
      obtain ⟨k, rfl⟩ := kD_of ok
      obtain ⟨rfl, _⟩ := kV_of (RO.ncRp (by cases k <;> rfl) r1).2
      obtain ⟨a, vs, ff, rfl, hd, rk⟩ := r2.dctAt st.sub
      refine .inr (.inr ⟨a, vs, k, rfl, rfl, hd, ?_⟩)
      rw [rk.any k] at q
      exact q
    | _ => cases d <;> cases h
end
end Dn

set_option Elab.async false
set_option linter.all false
set_option maxRecDepth 100000
/-! Dn, part H: expressions, one by one, further. -/
namespace Dn
open PySem PySem.Spec PyProof.Rows L2
section
variable {X : Cx} {C : Cn} {Γ : Gam} {m n ma mb mc : Nat} {a b c : Expr} {ea eb ec : Ex} {pos : Pos}

/-- a test -/
def rt (C : Cn) (Γ : Gam) (e : Ex) : TT := fun σ H Q => ∃ B G b ρ c b', StOk B G H b ∧ EnvOk C.K B G H C.bs Γ σ ρ ∧ bnd (ev C.Φ ρ e) boolOf b = some (c, b') ∧ ∀ G' H', Post B G H G' b' H' → Q c H'
theorem bool_some {C : Cn} {ρ : Rho} {e : Ex} {b b' : Bg} {c : Bool} (h : bnd (ev C.Φ ρ e) boolOf b = some (c, b')) : ev C.Φ ρ e b = some (.bl c, b') := by
  obtain ⟨d, b1, h1, h2⟩ := bnd_some h
  obtain ⟨rfl, rfl⟩ := boolOf_some h2
  exact h1
theorem t_rd {σ : L2.St} {H : Hp} {Q : Bool → Hp → Prop} (h : rt C Γ ea σ H Q) : rd C m Γ ea σ H fun v H' => ∃ c, v = .bl c ∧ Q c H' := by
  obtain ⟨B, G, b, ρ, c, b', st, en, he, q⟩ := h
  exact ⟨B, G, b, ρ, _, b', st, en, bool_some he, fun v G' H' fp P ⟨_, _, _, R⟩ _ => ⟨c, R.bl, q G' H' P⟩⟩
theorem t_val (h : PE X a (rd C m Γ ea)) (he : ∀ whole, isTrue a X.env whole = (do let v ← whole; standAt a.pos; holding [v] (truthy v))) : PT X a (rt C Γ ea) :=
  wkT (pt_val h he) fun σ H Q h => t_rd h
theorem s_cmp {op : Co} (hK : C.K = X.K) (hx : XOk X n) (ha : PE X a (rd C ma Γ ea)) (hb : PE X b (rd C mb Γ eb)) (hm : behindInMarks (opOf op) b = false) : PE X (.Compare a [opOf op] [b] pos) (rd C m Γ (.cmp op ea eb)) :=
  wkE (pe_cmpR (op_cmp hx op) ha hb hm) fun σ H Q hh => by
  obtain ⟨B, G, bg, ρ, d, b', st, en, he, q⟩ := rd_out hh
  obtain ⟨x, b1, h1, he1⟩ := bnd_some he
  obtain ⟨y, b2, h2, he2⟩ := bnd_some he1
  obtain ⟨t, b3, h3, he3⟩ := bnd_some he2
  obtain ⟨k3, rfl⟩ := lift_some h3
  obtain ⟨rfl, rfl⟩ := ret_some he3
  exact two st en h1 h2 fun v w G' H' f g _ _ _ _ P R1 R2 => ⟨B, G', _, x, y, f, g, _, _, t, P.st, by rw [← hK]; exact R1, by rw [← hK]; exact R2, k3, qP0 P rfl (.bl _) q⟩
theorem t_cmp {op : Co} (hK : C.K = X.K) (hx : XOk X n) (ha : PE X a (rd C ma Γ ea)) (hb : PE X b (rd C mb Γ eb)) (hm : behindInMarks (opOf op) b = false) : PT X (.Compare a [opOf op] [b] pos) (rt C Γ (.cmp op ea eb)) :=
  wkT (pt_cmpR (op_cmp hx op) ha hb hm) fun σ H Q ⟨B, G, bg, ρ, d, b', st, en, he, q⟩ => by
  obtain ⟨x, b1, h1, he1⟩ := bnd_some (bool_some he)
  obtain ⟨y, b2, h2, he2⟩ := bnd_some he1
  obtain ⟨t, b3, h3, he3⟩ := bnd_some he2
  obtain ⟨k3, rfl⟩ := lift_some h3
  obtain ⟨e1, rfl⟩ := ret_some he3
  cases e1
  exact two st en h1 h2 fun v w G' H' f g _ _ _ _ P R1 R2 => ⟨B, G', _, x, y, f, g, _, _, _, P.st, by rw [← hK]; exact R1, by rw [← hK]; exact R2, k3, _, rfl, q G' H' P⟩
theorem chn_rd {op op' : Co} {σ : L2.St} {H : Hp} {Q : V → Hp → Prop} (hK : C.K = X.K) (h : rd C m Γ (.chn op op' ea eb ec) σ H Q) : tChain (rCmp X.K op) (rCmp X.K op') (rd C ma Γ ea) (rd C mb Γ eb) (rd C mc Γ ec) σ H Q := by
  obtain ⟨B, G, bg, ρ, d, b', st, en, he, q⟩ := rd_out h
  obtain ⟨x, b1, h1, he1⟩ := bnd_some he
  obtain ⟨y, b2, h2, he2⟩ := bnd_some he1
  obtain ⟨t, b3, h3, he3⟩ := bnd_some he2
  obtain ⟨k3, rfl⟩ := lift_some h3
  refine two st en h1 h2 fun v w G' H' f g _ _ _ _ P R1 R2 => ⟨B, G', _, x, y, f, g, _, _, t, P.st, by rw [← hK]; exact R1, by rw [← hK]; exact R2, k3, t, rfl, ?_⟩
  rcases ite_some he3 with ⟨c, he4⟩ | ⟨c, he4⟩
  · rw [if_pos c]
    obtain ⟨z, b4, h4, he5⟩ := bnd_some he4
    obtain ⟨u, b5, h5, he6⟩ := bnd_some he5
    obtain ⟨k5, rfl⟩ := lift_some h5
    obtain ⟨rfl, rfl⟩ := ret_some he6
    exact ⟨B, G', _, ρ, z, _, P.st, en.post P, h4, fun w' G2 H2 g2 P2 ⟨_, _, _, R3⟩ _ => ⟨B, G2, _, y, z, g, g2, _, _, u, P2.st, by rw [← hK]; exact R2.post P2, by rw [← hK]; exact R3, k5, qP0 (P.trans P2) rfl (.bl _) q⟩⟩
  · rw [if_neg c]
    obtain ⟨rfl, rfl⟩ := ret_some he4
    exact qP0 P rfl (.bl _) q
theorem s_chn {op op' : Co} (hK : C.K = X.K) (hx : XOk X n) (ha : PE X a (rd C ma Γ ea)) (hb : PE X b (rd C mb Γ eb)) (hc : PE X c (rd C mc Γ ec)) (hm : lastMarks [opOf op, opOf op'] [b, c] = false) :
    PE X (.Compare a [opOf op, opOf op'] [b, c] pos) (rd C m Γ (.chn op op' ea eb ec)) := wkE (pe_chain (op_cmp hx op) (op_cmp hx op') ha hb hc hm) fun σ H Q h => chn_rd hK h
theorem t_chn {op op' : Co} (hK : C.K = X.K) (hx : XOk X n) (ha : PE X a (rd C ma Γ ea)) (hb : PE X b (rd C mb Γ eb)) (hc : PE X c (rd C mc Γ ec)) (hm : lastMarks [opOf op, opOf op'] [b, c] = false) :
    PT X (.Compare a [opOf op, opOf op'] [b, c] pos) (rt C Γ (.chn op op' ea eb ec)) := wkT (pt_chain (op_cmp hx op) (op_cmp hx op') ha hb hc hm) fun σ H Q h => chn_rd hK (t_rd (m := 9) h)

/-! ### is None, is True -/
theorem ev_isn {ρ : Rho} : ev C.Φ ρ (.isn ea) = bnd (ev C.Φ ρ ea) fun x => ret (.bl (isNon x)) := rfl
theorem ev_ntn {ρ : Rho} : ev C.Φ ρ (.ntn ea) = bnd (ev C.Φ ρ ea) fun x => ret (.bl (!isNon x)) := rfl
theorem RO.isNon {K : PySem.W.Frag} {G H : Hp} {B : Addr} {k : Nat} {v : V} {d : D} {fp : List Addr} (r : RO K G B H k v d fp) : decide (v = .non) = isNon d := by
  cases d with
  | non => rw [r.non]; rfl
  | bl c => rw [r.bl]; rfl
  | int c => rw [r.int]; rfl
  | str c => rw [r.str.1]; rfl
  | tup ds =>
    cases (RO.ncRp rfl r).2 with
    | tup _ _ => rfl
    | ktup _ _ => rfl
  | ins c => cases (RO.ncRp rfl r).2
  | lst ds =>
    cases k with
    | zero => cases r.2; rfl
    | succ k => rcases r with ⟨q, _⟩ | ⟨_, _, _, _, rfl, _⟩ | ⟨_, _, _, _, rfl, _⟩ <;> first | rfl | cases q
  | dct ds =>
    cases k with
    | zero => cases r.2; rfl
    | succ k => rcases r with ⟨q, _⟩ | ⟨_, _, _, _, rfl, _⟩ | ⟨_, _, _, _, rfl, _⟩ <;> first | rfl | cases q
theorem isn_rd {σ : L2.St} {H : Hp} {Q : V → Hp → Prop} (h : rd C m Γ (.isn ea) σ H Q) : tIsN (rd C ma Γ ea) σ H Q := by
  obtain ⟨B, G, bg, ρ, d, b', st, en, he, q⟩ := rd_out h
  rw [ev_isn] at he
  obtain ⟨x, b1, h1, he1⟩ := bnd_some he
  obtain ⟨rfl, rfl⟩ := ret_some he1
  refine ⟨B, G, bg, ρ, x, _, st, en, h1, fun v G' H' f P ⟨_, _, _, R⟩ _ => ?_⟩
  show Q (.bl (decide (v = .non))) H'
  rw [R.isNon]
  exact qP0 P rfl (.bl _) q
theorem ntn_rd {σ : L2.St} {H : Hp} {Q : V → Hp → Prop} (h : rd C m Γ (.ntn ea) σ H Q) : tNotN (rd C ma Γ ea) σ H Q := by
  obtain ⟨B, G, bg, ρ, d, b', st, en, he, q⟩ := rd_out h
  rw [ev_ntn] at he
  obtain ⟨x, b1, h1, he1⟩ := bnd_some he
  obtain ⟨rfl, rfl⟩ := ret_some he1
  refine ⟨B, G, bg, ρ, x, _, st, en, h1, fun v G' H' f P ⟨_, _, _, R⟩ _ => ?_⟩
  show Q (.bl (!decide (v = .non))) H'
  rw [R.isNon]
  exact qP0 P rfl (.bl _) q
theorem s_isn {j p2} (ha : PE X a (rd C ma Γ ea)) : PE X (.Compare a [.Is] [.Constant .none j p2] pos) (rd C m Γ (.isn ea)) := wkE (pe_cmp (pc_isN ha) rfl) fun σ H Q h => isn_rd h
theorem t_isn {j p2} (ha : PE X a (rd C ma Γ ea)) : PT X (.Compare a [.Is] [.Constant .none j p2] pos) (rt C Γ (.isn ea)) := wkT (pt_cmp (pc_isN ha) rfl) fun σ H Q h => isn_rd (t_rd (m := 9) h)
theorem s_ntn {j p2} (ha : PE X a (rd C ma Γ ea)) : PE X (.Compare a [.IsNot] [.Constant .none j p2] pos) (rd C m Γ (.ntn ea)) := wkE (pe_cmp (pc_notN ha) rfl) fun σ H Q h => ntn_rd h
theorem t_ntn {j p2} (ha : PE X a (rd C ma Γ ea)) : PT X (.Compare a [.IsNot] [.Constant .none j p2] pos) (rt C Γ (.ntn ea)) := wkT (pt_cmp (pc_notN ha) rfl) fun σ H Q h => ntn_rd (t_rd (m := 9) h)
theorem isb_rd {t : Bool} {σ : L2.St} {H : Hp} {Q : V → Hp → Prop} (h : rd C m Γ (.isb t ea) σ H Q) : tOp rIsB (rd C ma Γ ea) (tC (.bl t)) σ H Q := by
  obtain ⟨B, G, bg, ρ, d, b', st, en, he, q⟩ := rd_out h
  obtain ⟨x, b1, h1, he1⟩ := bnd_some he
  obtain ⟨c, b2, h2, he2⟩ := bnd_some he1
  obtain ⟨rfl, rfl⟩ := boolOf_some h2
  obtain ⟨rfl, rfl⟩ := ret_some he2
  exact ⟨B, G, bg, ρ, _, _, st, en, h1, fun v G' H' f P ⟨_, _, _, R⟩ _ => ⟨c, t, R.bl, rfl, by rw [show decide (c = t) = (c == t) by cases c <;> cases t <;> rfl]; exact qP0 P rfl (.bl _) q⟩⟩
theorem s_isb {t : Bool} {j p2} (ha : PE X a (rd C ma Γ ea)) : PE X (.Compare a [.Is] [.Constant (.bool t) j p2] pos) (rd C m Γ (.isb t ea)) := wkE (pe_cmpR op_isBl ha pe_bl (nomark _)) fun σ H Q h => isb_rd h
theorem t_isb {t : Bool} {j p2} (ha : PE X a (rd C ma Γ ea)) : PT X (.Compare a [.Is] [.Constant (.bool t) j p2] pos) (rt C Γ (.isb t ea)) := wkT (pt_cmpR op_isBl ha pe_bl (nomark _)) fun σ H Q h => isb_rd (t_rd (m := 9) h)

/-! ### and, or, not, if -/
variable {rest : List Expr}
theorem and_rd {σ : L2.St} {H : Hp} {Q : V → Hp → Prop} {tb : TE} (hb : ∀ σ H Q, rd C mb Γ eb σ H Q → tb σ H Q) (h : rd C m Γ (.and_ ea eb) σ H Q) : tAndV (rd C ma Γ ea) tb σ H Q := by
  obtain ⟨B, G, bg, ρ, d, b', st, en, he, q⟩ := rd_out h
  obtain ⟨x, b1, h1, he1⟩ := bnd_some he
  obtain ⟨c, b2, h2, he2⟩ := bnd_some he1
  obtain ⟨rfl, rfl⟩ := boolOf_some h2
  refine ⟨B, G, bg, ρ, _, _, st, en, h1, fun v G' H' f P ⟨_, _, _, R⟩ _ => ⟨c, R.bl, ?_⟩⟩
  rcases ite_some he2 with ⟨e, he3⟩ | ⟨e, he3⟩
  · rw [if_pos e]
    obtain ⟨y, b3, h3, he4⟩ := bnd_some he3
    obtain ⟨c2, b4, h4, he5⟩ := bnd_some he4
    obtain ⟨rfl, rfl⟩ := boolOf_some h4
    obtain ⟨rfl, rfl⟩ := ret_some he5
    exact hb _ _ _ ⟨B, G', _, ρ, _, _, P.st, en.post P, h3, fun v2 G2 H2 f2 P2 ⟨_, _, _, R2⟩ _ => by rw [R2.bl]; exact qP0 (P.trans P2) rfl (.bl _) q⟩
  · rw [if_neg e]
    obtain ⟨rfl, rfl⟩ := ret_some he3
    exact qP0 P rfl (.bl _) q
theorem or_rd {σ : L2.St} {H : Hp} {Q : V → Hp → Prop} {tb : TE} (hb : ∀ σ H Q, rd C mb Γ eb σ H Q → tb σ H Q) (h : rd C m Γ (.or_ ea eb) σ H Q) : tOrV (rd C ma Γ ea) tb σ H Q := by
  obtain ⟨B, G, bg, ρ, d, b', st, en, he, q⟩ := rd_out h
  obtain ⟨x, b1, h1, he1⟩ := bnd_some he
  obtain ⟨c, b2, h2, he2⟩ := bnd_some he1
  obtain ⟨rfl, rfl⟩ := boolOf_some h2
  refine ⟨B, G, bg, ρ, _, _, st, en, h1, fun v G' H' f P ⟨_, _, _, R⟩ _ => ⟨c, R.bl, ?_⟩⟩
  rcases ite_some he2 with ⟨e, he3⟩ | ⟨e, he3⟩
  · rw [if_pos e]
    obtain ⟨rfl, rfl⟩ := ret_some he3
    exact qP0 P rfl (.bl _) q
  · rw [if_neg e]
    obtain ⟨y, b3, h3, he4⟩ := bnd_some he3
    obtain ⟨c2, b4, h4, he5⟩ := bnd_some he4
    obtain ⟨rfl, rfl⟩ := boolOf_some h4
    obtain ⟨rfl, rfl⟩ := ret_some he5
    exact hb _ _ _ ⟨B, G', _, ρ, _, _, P.st, en.post P, h3, fun v2 G2 H2 f2 P2 ⟨_, _, _, R2⟩ _ => by rw [R2.bl]; exact qP0 (P.trans P2) rfl (.bl _) q⟩
theorem s_and (ha : PE X a (rd C ma Γ ea)) (hb : PE X (.BoolOp .And (b :: rest) pos) (rd C mb Γ eb)) : PE X (.BoolOp .And (a :: b :: rest) pos) (rd C m Γ (.and_ ea eb)) := wkE (pe_and ha hb) fun σ H Q h => and_rd (fun _ _ _ z => z) h
theorem s_or (ha : PE X a (rd C ma Γ ea)) (hb : PE X (.BoolOp .Or (b :: rest) pos) (rd C mb Γ eb)) : PE X (.BoolOp .Or (a :: b :: rest) pos) (rd C m Γ (.or_ ea eb)) := wkE (pe_or ha hb) fun σ H Q h => or_rd (fun _ _ _ z => z) h
theorem and_rt {σ : L2.St} {H : Hp} {Q : Bool → Hp → Prop} (h : rt C Γ (.and_ ea eb) σ H Q) : tAnd (rt C Γ ea) (rt C Γ eb) σ H Q := by
  obtain ⟨B, G, bg, ρ, d, b', st, en, he, q⟩ := h
  obtain ⟨x, b1, h1, he1⟩ := bnd_some (bool_some he)
  obtain ⟨c, b2, h2, he2⟩ := bnd_some he1
  refine ⟨B, G, bg, ρ, c, b2, st, en, by unfold bnd; rw [h1]; exact h2, fun G' H' P => ?_⟩
  rcases ite_some he2 with ⟨e, he3⟩ | ⟨e, he3⟩
  · rw [if_pos e]
    obtain ⟨y, b3, h3, he4⟩ := bnd_some he3
    obtain ⟨c2, b4, h4, he5⟩ := bnd_some he4
    obtain ⟨e1, rfl⟩ := ret_some he5
    cases e1
    exact ⟨B, G', _, ρ, _, _, P.st, en.post P, by unfold bnd; rw [h3]; exact h4, fun G2 H2 P2 => q G2 H2 (P.trans P2)⟩
  · rw [if_neg e]
    obtain ⟨e1, rfl⟩ := ret_some he3
    cases e1
    exact q G' H' P
theorem or_rt {σ : L2.St} {H : Hp} {Q : Bool → Hp → Prop} (h : rt C Γ (.or_ ea eb) σ H Q) : tOr (rt C Γ ea) (rt C Γ eb) σ H Q := by
  obtain ⟨B, G, bg, ρ, d, b', st, en, he, q⟩ := h
  obtain ⟨x, b1, h1, he1⟩ := bnd_some (bool_some he)
  obtain ⟨c, b2, h2, he2⟩ := bnd_some he1
  refine ⟨B, G, bg, ρ, c, b2, st, en, by unfold bnd; rw [h1]; exact h2, fun G' H' P => ?_⟩
  rcases ite_some he2 with ⟨e, he3⟩ | ⟨e, he3⟩
  · rw [if_pos e]
    obtain ⟨e1, rfl⟩ := ret_some he3
    cases e1
    exact q G' H' P
  · rw [if_neg e]
    obtain ⟨y, b3, h3, he4⟩ := bnd_some he3
    obtain ⟨c2, b4, h4, he5⟩ := bnd_some he4
    obtain ⟨e1, rfl⟩ := ret_some he5
    cases e1
    exact ⟨B, G', _, ρ, _, _, P.st, en.post P, by unfold bnd; rw [h3]; exact h4, fun G2 H2 P2 => q G2 H2 (P.trans P2)⟩
theorem wkW {e : Expr} {t t' : TT} (h : PW X e t) (w : ∀ σ H Q, t' σ H Q → t σ H Q) : PW X e t' := ⟨fun wh pins s σ H Q I q => h.run wh pins s σ H Q I (w σ H Q q)⟩
theorem w_and (ha : PT X a (rt C Γ ea)) (hb : PW X (.BoolOp .And (b :: rest) pos) (rt C Γ eb)) : PW X (.BoolOp .And (a :: b :: rest) pos) (rt C Γ (.and_ ea eb)) := wkW (pw_and ha hb) fun σ H Q h => and_rt h
theorem w_or (ha : PT X a (rt C Γ ea)) (hb : PW X (.BoolOp .Or (b :: rest) pos) (rt C Γ eb)) : PW X (.BoolOp .Or (a :: b :: rest) pos) (rt C Γ (.or_ ea eb)) := wkW (pw_or ha hb) fun σ H Q h => or_rt h
theorem s_not (ha : PE X a (rd C ma Γ ea)) : PE X (.UnaryOp .Not a pos) (rd C m Γ (.not_ ea)) := wkE (pe_not ha) fun σ H Q hh => by
  obtain ⟨B, G, bg, ρ, d, b', st, en, he, q⟩ := rd_out hh
  obtain ⟨x, b1, h1, he1⟩ := bnd_some he
  obtain ⟨c, b2, h2, he2⟩ := bnd_some he1
  obtain ⟨rfl, rfl⟩ := boolOf_some h2
  obtain ⟨rfl, rfl⟩ := ret_some he2
  exact ⟨B, G, bg, ρ, _, _, st, en, h1, fun v G' H' f P ⟨_, _, _, R⟩ _ => ⟨c, R.bl, qP0 P rfl (.bl _) q⟩⟩
theorem t_not (ha : PT X a (rt C Γ ea)) : PT X (.UnaryOp .Not a pos) (rt C Γ (.not_ ea)) := wkT (pt_not ha) fun σ H Q ⟨B, G, bg, ρ, d, b', st, en, he, q⟩ => by
  obtain ⟨x, b1, h1, he1⟩ := bnd_some (bool_some he)
  obtain ⟨c, b2, h2, he2⟩ := bnd_some he1
  obtain ⟨e1, rfl⟩ := ret_some he2
  cases e1
  exact ⟨B, G, bg, ρ, c, _, st, en, by unfold bnd; rw [h1]; exact h2, fun G' H' P => q G' H' P⟩
theorem RO.cast {K : PySem.W.Frag} {G H : Hp} {B : Addr} {j k : Nat} {v : V} {d : D} {fp : List Addr} (r : RO K G B H j v d fp) (e : j = k) : RO K G B H k v d fp := e ▸ r
/-- an end with one evaluation ahead -/
theorem qT {B : Addr} {K : PySem.W.Frag} {G H G1 H1 G2 H2 : Hp} {b1 b2 : Bg} {k : Nat} {ch : Bool} {v : V} {r : D} {fp : List Addr} {Q : V → Hp → Prop} (P : Post B G H G1 b1 H1) (P2 : Post B G1 H1 G2 b2 H2)
    (R : RO K G2 B H2 k v r fp) (F : fp.Nodup ∧ ∀ a ∈ fp, H1 a = none)
    (q : ∀ v G' H' fp, Post B G H G' b2 H' → RO K G' B H' k v r fp → (ch = false → fp.Nodup ∧ ∀ a ∈ fp, H a = none) → Q v H') : Q v H2 :=
  q v G2 H2 fp (P.trans P2) R fun _ => ⟨F.1, fun a ha => by
    have h1 := F.2 a ha
    cases e : H a with
    | none => rfl
    | some o => rw [P.kp a o (R.fp a ha).1 e] at h1; cases h1⟩
theorem ite_br {k : Nat} {e : Ex} {B : Addr} {G H G1 H1 : Hp} {b1 b2 : Bg} {ρ : Rho} {σ : L2.St} {r : D} {Q : V → Hp → Prop} (P : Post B G H G1 b1 H1) (en : EnvOk C.K B G1 H1 C.bs Γ σ ρ) (he : ev C.Φ ρ e b1 = some (r, b2)) (hm9 : m ≤ 9) (hk : k ≤ lv C.own Γ e) (hc : chain e = false ∨ lv C.own Γ e = 0)
    (q : ∀ v G' H' fp, Post B G H G' b2 H' → RO C.K G' B H' (min m k) v r fp → (false = false → fp.Nodup ∧ ∀ a ∈ fp, H a = none) → Q v H') : rd C 9 Γ e σ H1 Q :=
  ⟨B, G1, b1, ρ, r, b2, P.st, en, he, fun v G2 H2 fp P2 ⟨kk, k1, k2, R⟩ F => by
    cases hce : chain e with
    | true =>
      have h0 : lv C.own Γ e = 0 := by
        rcases hc with z | z
        · rw [hce] at z; cases z
        · exact z
      have R0 : RO C.K G2 B H2 0 v r fp := R.cast (by omega)
      have R1 : RO C.K G2 B H2 (min m k) v r fp := R.cast (by omega)
      exact q v G2 H2 fp (P.trans P2) R1 fun _ => ⟨by rw [R0.1]; exact List.nodup_nil, by rw [R0.1]; simp⟩
    | false =>
      obtain ⟨f1, f2⟩ := F hce
      have k3 := k2 hce
      obtain ⟨G3, fp3, P3, R3, n3, h3, _⟩ := P2.lower (m := min m k) (by omega) R f1 f2
      exact qT P P3 R3 ⟨n3, h3⟩ q⟩
theorem s_ite (hm : m ≤ 9) (hc : PT X c (rt C Γ ec)) (ha : PE X a (rd C 9 Γ ea)) (hb : PE X b (rd C 9 Γ eb)) (oa : chain ea = false ∨ lv C.own Γ ea = 0) (ob : chain eb = false ∨ lv C.own Γ eb = 0) : PE X (.IfExp c a b pos) (rd C m Γ (.ite ec ea eb)) :=
  wkE (pe_ifExp hc ha hb) fun σ H Q hh => by
  obtain ⟨B, G, bg, ρ, d, b', st, en, he, q⟩ := rd_out hh
  obtain ⟨x, b1, h1, he1⟩ := bnd_some he
  obtain ⟨t, b2, h2, he2⟩ := bnd_some he1
  refine ⟨B, G, bg, ρ, t, b2, st, en, by unfold bnd; rw [h1]; exact h2, fun G' H' P => ?_⟩
  rcases ite_some he2 with ⟨e, he3⟩ | ⟨e, he3⟩
  · rw [if_pos e]
    exact ite_br P (en.post P) he3 hm (Nat.min_le_left _ _) oa q
  · rw [if_neg e]
    exact ite_br P (en.post P) he3 hm (Nat.min_le_right _ _) ob q
end
end Dn

set_option Elab.async false
set_option linter.all false
set_option maxRecDepth 100000
/-! Dn, part I: operators, items, displays, calls. -/
namespace Dn
open PySem PySem.Spec PyProof.Rows L2
section
variable {X : Cx} {C : Cn} {Γ : Gam} {m n ma mb mc : Nat} {a b c : Expr} {ea eb ec : Ex} {pos : Pos}

/-! ### operators -/
def bopOf : Bo → Operator
  | .add => .Add | .sub => .Sub | .mul => .Mult | .fdiv => .FloorDiv | .mod => .Mod | .pow => .Pow
def rBin (K : PySem.W.Frag) (op : Bo) : R2 := fun x y H Q => ∃ B G b d e f g m n r, StOk B G H b ∧ RO K G B H m x d f ∧ RO K G B H n y e g ∧ m ≤ 1 ∧ n ≤ 1 ∧ binD op d e = some r ∧
  ∀ w G' H' fp, Post B G H G' b H' → RO K G' B H' 1 w r fp → fp.Nodup → (∀ a ∈ fp, H a = none) → Q w H'
theorem smallI_ok {i : Int} (h : smallI i = true) : -(2 ^ 64) < i ∧ i < 2 ^ 64 := by
  unfold smallI at h
  obtain ⟨h1, h2⟩ := Bool.and_eq_true_iff.mp h
  exact ⟨of_decide_eq_true h1, of_decide_eq_true h2⟩
theorem med_ok {i j : Int} (h1 : medI i = true) (h2 : medI j = true) : CMulX i j := by
  unfold medI at h1 h2
  exact mulx_ok (of_decide_eq_true h1) (of_decide_eq_true h2) (by unfold medE; decide)
theorem op_bin : ∀ op, OpR X (binaryOp (bopOf op)) (rBin X.K op)
  | .add => wkOp (OpR.or op_add (OpR.or op_add_str (OpR.or op_cat n_catT))) fun x y H Q ⟨B, G, b, d, e, f, g, m, n, r, st, r1, r2, hm, hn, h, q⟩ => by
    cases d with
    | int i =>
      cases e with
      | int j => cases h; cases r1.int; cases r2.int; exact .inl ⟨_, _, rfl, rfl, fin0 (k := 1) st rfl (.int _) q⟩
      | _ => cases h
    | str i =>
      cases e with
      | str j =>
        obtain ⟨c, rfl⟩ := ite_opt (show (if i.length + j.length ≤ line then some (D.str (i ++ j)) else none) = some r from h)
        obtain ⟨rfl, _⟩ := r1.str
        obtain ⟨rfl, _⟩ := r2.str
        have hl : (i ++ j).length ≤ line := by
          show (i.cps ++ j.cps).size ≤ line
          rw [Array.size_append]; exact c
        exact .inr (.inl ⟨i, j, rfl, rfl, by rw [sizeLine_eq]; exact c, fin0 (k := 1) st rfl (.str _ hl) q⟩)
      | _ => cases h
    | lst xs =>
      cases e with
      | lst ys =>
        obtain ⟨c, rfl⟩ := ite_opt (show (if xs.length + ys.length ≤ line then some (D.lst (xs ++ ys)) else none) = some r from h)
        obtain ⟨a1, vs, rfl, h1, s1⟩ := r1.lst1 st.sub hm
        obtain ⟨a2, ws, rfl, h2, s2⟩ := r2.lst1 st.sub hn
        exact .inr (.inr (.inl ⟨a1, a2, vs, ws, rfl, rfl, h1, h2, by rw [s1.length, s2.length, sizeLine_eq]; exact c, fun p hp => finL st hp (s1.append s2) (.inl rfl) q⟩))
      | _ => cases h
    | tup xs =>
      cases e with
      | tup ys =>
        obtain ⟨c, rfl⟩ := ite_opt (show (if xs.length + ys.length ≤ line then some (D.tup (xs ++ ys)) else none) = some r from h)
        obtain ⟨a1, vs, rfl, h1, s1⟩ := r1.tupAt st.sub
        obtain ⟨a2, ws, rfl, h2, s2⟩ := r2.tupAt st.sub
        have l1 := s1.length
        have l2 := s2.length
        have p1 := (RO.ncRp rfl r1).2
        have p2 := (RO.ncRp rfl r2).2
        refine .inr (.inr (.inr ⟨a1, a2, vs, ws, rfl, rfl, h1, h2, by rw [l1, l2, sizeLine_eq]; exact c, fun e0 => ?_, fun _ e0 => ?_, fun _ _ p o hp ho => finT st hp ho (s1.append s2) q⟩))
        · have e1 : xs = [] := List.eq_nil_of_length_eq_zero (by rw [← l1, e0]; rfl)
          subst e1
          exact fin0 (k := 1) st rfl p2 q
        · have e1 : ys = [] := List.eq_nil_of_length_eq_zero (by rw [← l2, e0]; rfl)
          subst e1
          rw [List.append_nil] at q
          exact fin0 (k := 1) st rfl p1 q
      | _ => cases h
    | _ => cases h
  | .sub => wkOp op_sub fun x y H Q ⟨B, G, b, d, e, f, g, m, n, r, st, r1, r2, hm, hn, h, q⟩ => by
    cases d <;> cases e <;> first
      | (cases h; cases r1.int; cases r2.int; exact ⟨_, _, rfl, rfl, fin0 (k := 1) st rfl (.int _) q⟩)
      | cases h
  | .mul => wkOp (OpR.or op_mul op_mulX) fun x y H Q ⟨B, G, b, d, e, f, g, m, n, r, st, r1, r2, hm, hn, h, q⟩ => by
    cases d with
    | int i =>
      cases e with
      | int j =>
        obtain ⟨c, rfl⟩ := ite_opt (show (if (smallI i || smallI j || (medI i && medI j)) = true then some (D.int (i * j)) else none) = some r from h)
        cases r1.int; cases r2.int
        rcases Bool.or_eq_true_iff.mp c with c | c
        · refine .inl ⟨_, _, rfl, rfl, ?_, fin0 (k := 1) st rfl (.int _) q⟩
          rcases Bool.or_eq_true_iff.mp c with c | c
          · exact .inl (smallI_ok c)
          · exact .inr (smallI_ok c)
        · obtain ⟨c1, c2⟩ := Bool.and_eq_true_iff.mp c
          exact .inr ⟨_, _, rfl, rfl, med_ok c1 c2, fin0 (k := 1) st rfl (.int _) q⟩
      | _ => cases h
    | _ => cases h
  | .fdiv => wkOp op_fdivN fun x y H Q ⟨B, G, b, d, e, f, g, m, n, r, st, r1, r2, hm, hn, h, q⟩ => by
    cases d with
    | int i =>
      cases e with
      | int j =>
        obtain ⟨c, rfl⟩ := ite_opt (show (if j ≠ 0 ∧ j.natAbs < 1073741824 then some (D.int (i.fdiv j)) else none) = some r from h)
        cases r1.int; cases r2.int
        exact ⟨_, _, rfl, rfl, c, fin0 (k := 1) st rfl (.int _) q⟩
      | _ => cases h
    | _ => cases h
  | .mod => wkOp op_modN fun x y H Q ⟨B, G, b, d, e, f, g, m, n, r, st, r1, r2, hm, hn, h, q⟩ => by
    cases d with
    | int i =>
      cases e with
      | int j =>
        obtain ⟨c, rfl⟩ := ite_opt (show (if j ≠ 0 then some (D.int (i.fmod j)) else none) = some r from h)
        cases r1.int; cases r2.int
        exact ⟨_, _, rfl, rfl, c, fin0 (k := 1) st rfl (.int _) q⟩
      | _ => cases h
    | _ => cases h
  | .pow => wkOp op_pow fun x y H Q ⟨B, G, b, d, e, f, g, m, n, r, st, r1, r2, hm, hn, h, q⟩ => by
    cases d with
    | int i =>
      cases e with
      | int j =>
        obtain ⟨c, rfl⟩ := ite_opt (show (if 0 ≤ j ∧ j ≤ 1000000 ∧ i.natAbs < 2 ^ 64 then some (D.int (i ^ j.toNat)) else none) = some r from h)
        cases r1.int; cases r2.int
        exact ⟨_, _, rfl, rfl, c, fin0 (k := 1) st rfl (.int _) q⟩
      | _ => cases h
    | _ => cases h
/-- a new thing's end behind an evaluation, at a lower level -/
theorem qL {K : PySem.W.Frag} {B : Addr} {G H G1 H1 : Hp} {b1 : Bg} {j k : Nat} {ch : Bool} {r : D} {Q : V → Hp → Prop} (P : Post B G H G1 b1 H1) (hk : k ≤ j)
    (q : ∀ v G' H' fp, Post B G H G' b1 H' → RO K G' B H' k v r fp → (ch = false → fp.Nodup ∧ ∀ a ∈ fp, H a = none) → Q v H') :
    ∀ v G' H' fp, Post B G1 H1 G' b1 H' → RO K G' B H' j v r fp → fp.Nodup → (∀ a ∈ fp, H1 a = none) → Q v H' := fun v G' H' fp P2 R F1 F2 => by
  obtain ⟨G3, fp3, P3, R3, n3, h3, _⟩ := P2.lower (m := k) hk R F1 F2
  exact qT P P3 R3 ⟨n3, h3⟩ q
theorem s_bin {op : Bo} (hK : C.K = X.K) (ha : PE X a (rd C 1 Γ ea)) (hb : PE X b (rd C 1 Γ eb)) : PE X (.BinOp a (bopOf op) b pos) (rd C m Γ (.bin op ea eb)) :=
  wkE (pe_op (op_bin op) ha hb) fun σ H Q hh => by
  obtain ⟨B, G, bg, ρ, d, b', st, en, he, q⟩ := rd_out hh
  obtain ⟨x, b1, h1, he1⟩ := bnd_some he
  obtain ⟨y, b2, h2, he2⟩ := bnd_some he1
  obtain ⟨k3, rfl⟩ := lift_some he2
  refine two st en h1 h2 fun v w G' H' f g _ _ q1 q2 P R1 R2 => ⟨B, G', _, x, y, f, g, _, _, d, P.st, by rw [← hK]; exact R1, by rw [← hK]; exact R2, q1, q2, k3, ?_⟩
  rw [← hK]
  exact qL P (Nat.min_le_right _ _) q
theorem s_neg (ha : PE X a (rd C ma Γ ea)) : PE X (.UnaryOp .USub a pos) (rd C m Γ (.neg ea)) := wkE (pe_un un_neg ha) fun σ H Q hh => by
  obtain ⟨B, G, bg, ρ, d, b', st, en, he, q⟩ := rd_out hh
  obtain ⟨x, b1, h1, he1⟩ := bnd_some he
  obtain ⟨i, b2, h2, he2⟩ := bnd_some he1
  obtain ⟨rfl, rfl⟩ := intOf_some h2
  obtain ⟨rfl, rfl⟩ := ret_some he2
  exact ⟨B, G, bg, ρ, _, _, st, en, h1, fun v G' H' f P ⟨_, _, _, R⟩ _ => ⟨i, R.int, qP0 P rfl (.int _) q⟩⟩

/-! ### items -/
def isSl : Expr → Bool
  | .Slice _ _ _ _ => true
  | _ => false
theorem plainIx_of {b : Expr} (h : isSl b = false) : PlainIx b := fun o i => by
  cases b <;> first | rfl | cases h
/-- an item that is read: of a list, a tuple, a text -/
theorem atI_map {α β : Type} {xs : List α} {ys : List β} (hl : xs.length = ys.length) {i : Int} {y : β} (h : atI ys i = some y) : ∃ (j : Nat) (x : α), ys[j]? = some y ∧ xs[j]? = some x ∧ atI xs i = some x := by
  unfold atI at h ⊢
  rw [hl]
  obtain ⟨j, h1, h2⟩ := Option.bind_eq_some_iff.mp h
  have hj : j < ys.length := (List.getElem?_eq_some_iff.mp h2).1
  have hx : xs[j]? = some xs[j] := List.getElem?_eq_getElem (by omega)
  exact ⟨j, _, h2, hx, by rw [h1]; exact hx⟩
theorem str1 (c : Nat) : (⟨#[c]⟩ : Str).length ≤ line := by
  show 1 ≤ line
  decide
theorem s_idx (hK : C.K = X.K) (hx : XOk X n) (ha : PE X a (rd C (m + 1) Γ ea)) (hb : PE X b (rd C 9 Γ eb)) (hs : isSl b = false) : PE X (.Subscript a b pos) (rd C m Γ (.idx ea eb)) := by
  have hu := hx.room.units
  refine wkE (orE (pe_ix ix_seq ha hb (plainIx_of hs)) (pe_dget (by omega) ha hb (plainIx_of hs))) fun σ H Q hh => ?_
  obtain ⟨B, G, bg, ρ, d, b', st, en, he, q⟩ := hh
  obtain ⟨x, b1, h1, he1⟩ := bnd_some he
  obtain ⟨y, b2, h2, he2⟩ := bnd_some he1
  obtain ⟨e3, rfl⟩ := lift_some he2
  have fin : ∀ {v w : V} {G' H' : Hp} {k : Nat} {g : List Addr}, Post B G H G' b' H' → k ≤ min m (lv C.own Γ ea - 1) → RO C.K G' B H' k w d g → Q w H' := fun {v w G' H' k g} P hk R =>
    q w G' H' g P ⟨k, hk, (fun z => by cases z), R⟩ fun z => by cases z
  cases x with
  | lst xs =>
    cases y with
    | int i =>
      refine .inl ⟨B, G, bg, ρ, _, b1, st, en, h1, fun v G1 H1 f P1 ⟨k1, a1, _, R1⟩ _ => ⟨B, G1, b1, ρ, _, _, P1.st, en.post P1, h2, fun w G2 H2 g P2 ⟨_, _, _, R2⟩ _ => ?_⟩⟩
      obtain ⟨p, vs, ff, rfl, hl, rs⟩ := (R1.post P2).lstAt P2.st.sub
      obtain ⟨j, u, hj, hu2, hat⟩ := atI_map rs.length e3
      obtain ⟨u', g', hu3, R3, _⟩ := rs.get hj
      rw [hu2] at hu3; cases hu3
      exact .inl ⟨p, vs, i, u, rfl, R2.int, .inl (.inl hl), hat, fin (v := u) (P1.trans P2) (by omega) R3⟩
    | _ => cases e3
  | tup xs =>
    cases y with
    | int i =>
      refine .inl ⟨B, G, bg, ρ, _, b1, st, en, h1, fun v G1 H1 f P1 ⟨k1, a1, _, R1⟩ _ => ⟨B, G1, b1, ρ, _, _, P1.st, en.post P1, h2, fun w G2 H2 g P2 ⟨_, _, _, R2⟩ _ => ?_⟩⟩
      obtain ⟨p, vs, rfl, hl, rs⟩ := (R1.post P2).tupAt P2.st.sub
      obtain ⟨j, u, hj, hu2, hat⟩ := atI_map rs.length e3
      obtain ⟨u', hu3, R3⟩ := rs.get hj
      rw [hu2] at hu3; cases hu3
      exact .inr (.inl ⟨p, vs, i, u, rfl, R2.int, by rw [← hK]; exact hl, hat, fin (v := u) (g := []) (P1.trans P2) (Nat.zero_le _) ⟨rfl, R3⟩⟩)
    | _ => cases e3
  | str t =>
    cases y with
    | int i =>
      refine .inl ⟨B, G, bg, ρ, _, b1, st, en, h1, fun v G1 H1 f P1 ⟨k1, a1, _, R1⟩ _ => ⟨B, G1, b1, ρ, _, _, P1.st, en.post P1, h2, fun w G2 H2 g P2 ⟨_, _, _, R2⟩ _ => ?_⟩⟩
      obtain ⟨c, hc, rfl⟩ := Option.map_eq_some_iff.mp (show (atI t.cps.toList i).map (fun c => D.str ⟨#[c]⟩) = some d from e3)
      obtain ⟨rfl, ht⟩ := R1.str
      exact .inr (.inr ⟨t, i, c, rfl, R2.int, by rw [sizeLine_eq]; exact ht, hc, fin (v := .str ⟨#[c]⟩) (g := []) (P1.trans P2) (Nat.zero_le _) ⟨rfl, .str _ (str1 c)⟩⟩)
    | _ => cases e3
  | dct kvs =>
    have e4 : (if isKey y = true then dget kvs y else none) = some d := e3
    by_cases hk : isKey y = true
    · rw [if_pos hk] at e4
      refine .inr ⟨B, G, bg, ρ, _, b1, st, en, h1, fun v G1 H1 f P1 ⟨k1, a1, _, R1⟩ _ => ⟨B, G1, b1, ρ, _, _, P1.st, en.post P1, h2, fun w G2 H2 g P2 ⟨_, _, _, R2⟩ _ => ?_⟩⟩
      obtain ⟨kk, rfl⟩ := kD_of hk
      obtain ⟨rfl, _⟩ := kV_of (RO.ncRp (by cases kk <;> rfl) R2).2
      obtain ⟨p, vs, ff, rfl, hd, rk⟩ := (R1.post P2).dctAt P2.st.sub
      rcases rk.find kk with ⟨_, z⟩ | ⟨u, d', g', z1, z2, R3, _⟩
      · rw [z] at e4; cases e4
      · rw [z2] at e4
        cases e4
        exact ⟨p, u, rfl, .inl ⟨vs, kk, hd, rfl, z1.symm⟩, fin (v := u) (P1.trans P2) (by omega) R3⟩
    · rw [if_neg hk] at e4; cases e4
  | _ => cases e3

/-! ### lists of expressions -/
def Exs.len : Exs → Nat
  | .nil => 0
  | .cons _ es => es.len + 1
/-- frozen, from the left -/
def ra (C : Cn) (Γ : Gam) (es : Exs) : TA := fun σ H Q => ∃ B G b ρ ds b', StOk B G H b ∧ EnvOk C.K B G H C.bs Γ σ ρ ∧ evs C.Φ ρ es b = some (ds, b') ∧ ∀ vs G' H', Post B G H G' b' H' → Rps C.K G' vs ds → Q vs H'
def noStar : Expr → Bool
  | .Starred _ _ => false
  | _ => true
theorem star_of {e : Expr} (h : noStar e = true) (es : List Expr) (env : Env) : starEach (e :: es) env = (false, eval e env) :: starEach es env := by
  cases e <;> first | rfl | cases h
variable {es : List Expr} {ees : Exs}
theorem a_nil : PA X [] (ra C Γ .nil) := wkA pa_nil fun σ H Q ⟨B, G, b, ρ, ds, b', st, en, he, q⟩ => by
  obtain ⟨rfl, rfl⟩ := ret_some he
  exact q [] G H (.refl st) .nil
theorem a_cons (ha : PE X a (rd C 0 Γ ea)) (hr : PA X es (ra C Γ ees)) (hs : noStar a = true) : PA X (a :: es) (ra C Γ (.cons ea ees)) :=
  wkA (pa_cons ha hr (star_of hs _ _)) fun σ H Q ⟨B, G, b, ρ, ds, b', st, en, he, q⟩ => by
  obtain ⟨x, b1, h1, he1⟩ := bnd_some he
  obtain ⟨xs, b2, h2, he2⟩ := bnd_some he1
  obtain ⟨rfl, rfl⟩ := ret_some he2
  refine ⟨B, G, b, ρ, x, b1, st, en, h1, fun v G1 H1 f P1 ⟨k, hk, _, R⟩ _ => ⟨B, G1, b1, ρ, xs, _, P1.st, en.post P1, h2, fun vs G2 H2 P2 R2 => q (v :: vs) G2 H2 (P1.trans P2) (.cons ?_ R2)⟩⟩
  have R0 : RO C.K G1 B H1 0 v x f := R.cast (by omega)
  exact R0.zero.mono P2.gs
theorem evs_len {Φ : Nat → List D → M D} {ρ : Rho} : ∀ {es : Exs} {b b' : Bg} {ds : List D}, evs Φ ρ es b = some (ds, b') → ds.length = es.len
  | .nil, b, b', ds, h => by obtain ⟨rfl, rfl⟩ := ret_some h; rfl
  | .cons e es, b, b', ds, h => by
    obtain ⟨x, b1, h1, h2⟩ := bnd_some h
    obtain ⟨xs, b2, h3, h4⟩ := bnd_some h2
    obtain ⟨rfl, rfl⟩ := ret_some h4
    show xs.length + 1 = es.len + 1
    rw [evs_len h3]
/-- a new list, a new tuple at any level -/
theorem qPL {K : PySem.W.Frag} {B : Addr} {G H G1 H1 : Hp} {b1 : Bg} {j k : Nat} {ch : Bool} {r : D} {Q : V → Hp → Prop} (P : Post B G H G1 b1 H1) (hk : k ≤ j)
    (q : ∀ v G' H' fp, Post B G H G' b1 H' → RO K G' B H' k v r fp → (ch = false → fp.Nodup ∧ ∀ a ∈ fp, H a = none) → Q v H')
    (f : (∀ v G' H' fp, Post B G1 H1 G' b1 H' → RO K G' B H' j v r fp → fp.Nodup → (∀ a ∈ fp, H1 a = none) → Q v H') → Q v H1) : Q v H1 := f (qL P hk q)
theorem s_tup {x1} (h : PA X es (ra C Γ ees)) (hl : ees.len ≤ line) : PE X (.Tuple es x1 pos) (rd C m Γ (.tup ees)) := wkE (n_tup h) fun σ H Q hh => by
  obtain ⟨B, G, bg, ρ, d, b', st, en, he, q⟩ := rd_out hh
  obtain ⟨xs, b1, h1, he1⟩ := bnd_some he
  obtain ⟨rfl, rfl⟩ := ret_some he1
  refine ⟨B, G, bg, ρ, xs, _, st, en, h1, fun vs G1 H1 P R => ⟨by rw [R.length, evs_len h1, sizeLine_eq]; exact hl, fun p o hp ho => finT (k := 9) P.st hp ho R (qL P (by show min m 9 ≤ 9; omega) q)⟩⟩
theorem s_lst (h : PA X es (ra C Γ ees)) (hl : ees.len ≤ line) : PE X (.List es pos) (rd C m Γ (.lst ees)) := wkE (pe_lst h) fun σ H Q hh => by
  obtain ⟨B, G, bg, ρ, d, b', st, en, he, q⟩ := rd_out hh
  obtain ⟨xs, b1, h1, he1⟩ := bnd_some he
  obtain ⟨rfl, rfl⟩ := ret_some he1
  refine ⟨B, G, bg, ρ, xs, _, st, en, h1, fun vs G1 H1 P R => ⟨by rw [R.length, evs_len h1, sizeLine_eq]; exact hl, fun p hp => ?_⟩⟩
  cases ees with
  | nil =>
    have e0 : xs = [] := List.eq_nil_of_length_eq_zero (evs_len h1)
    subst e0
    exact finL (k := 9) P.st hp R (.inr rfl) (qL P (by show min m 9 ≤ 9; omega) q)
  | cons _ _ => exact finL (k := 1) P.st hp R (.inl rfl) (qL P (by show min m 1 ≤ 1; omega) q)
end
end Dn

set_option Elab.async false
set_option linter.all false
set_option maxRecDepth 100000
/-! Dn, part J: slices, built-in functions. -/
namespace Dn
open PySem PySem.Spec PyProof.Rows L2
section
variable {X : Cx} {C : Cn} {Γ : Gam} {m n ma mb mc : Nat} {a b c : Expr} {ea eb ec : Ex} {pos p2 : Pos}

/-! ### slices -/
def ro (C : Cn) (Γ : Gam) (e : Oe) : TO := fun σ H Q => ∃ B G b ρ i b', StOk B G H b ∧ EnvOk C.K B G H C.bs Γ σ ρ ∧ evo C.Φ ρ e b = some (i, b') ∧ ∀ G' H', Post B G H G' b' H' → Q i H'
theorem wkO {e : Option Expr} {t t' : TO} (h : PO X e t) (w : ∀ σ H Q, t' σ H Q → t σ H Q) : PO X e t' := ⟨fun pins s σ H Q I q => h.run pins s σ H Q I (w σ H Q q)⟩
theorem o_no : PO X none (ro C Γ .no) := wkO po_none fun σ H Q ⟨B, G, b, ρ, i, b', st, en, he, q⟩ => by
  obtain ⟨rfl, rfl⟩ := ret_some he
  exact q G H (.refl st)
theorem o_yes (ha : PE X a (rd C ma Γ ea)) : PO X (some a) (ro C Γ (.yes ea)) := wkO (po_some ha) fun σ H Q ⟨B, G, b, ρ, i, b', st, en, he, q⟩ => by
  obtain ⟨x, b1, h1, he1⟩ := bnd_some he
  obtain ⟨j, b2, h2, he2⟩ := bnd_some he1
  obtain ⟨rfl, rfl⟩ := intOf_some h2
  obtain ⟨rfl, rfl⟩ := ret_some he2
  exact ⟨B, G, b, ρ, _, _, st, en, h1, fun v G' H' fp P ⟨_, _, _, R⟩ _ => ⟨j, R.int, q G' H' P⟩⟩
theorem Rps.cut {K : PySem.W.Frag} {G : Hp} {vs : List V} {ds : List D} (h : Rps K G vs ds) (lo hi : Option Int) : Rps K G (cutV vs lo hi) (cutG ds lo hi) := by
  unfold cutV cutG
  rw [h.length]
  exact (h.drop _).take _
theorem cutG_all {α : Type} (xs : List α) (lo hi : Option Int) (h : HT.sIx xs.length 0 lo = 0 ∧ HT.sIx xs.length xs.length hi = xs.length) : cutG xs lo hi = xs := by
  unfold cutG
  rw [h.1, h.2]
  simp
theorem s_slc {lo hi : Option Expr} {elo ehi : Oe} (hK : C.K = X.K) (ha : PE X a (rd C 1 Γ ea)) (hl : PO X lo (ro C Γ elo)) (hh : PO X hi (ro C Γ ehi)) :
    PE X (.Subscript a (.Slice lo hi none p2) pos) (rd C m Γ (.slc ea elo ehi)) :=
  wkE (pe_slice (SlR.or sl_list (SlR.or n_slT sl_str)) ha hl hh) fun σ H Q hh => by
  obtain ⟨B, G, bg, ρ, d, b', st, en, he, q⟩ := rd_out hh
  obtain ⟨x, b1, h1, he1⟩ := bnd_some he
  obtain ⟨l, b2, h2, he2⟩ := bnd_some he1
  obtain ⟨u, b3, h3, he3⟩ := bnd_some he2
  obtain ⟨e3, rfl⟩ := lift_some he3
  refine ⟨B, G, bg, ρ, x, b1, st, en, h1, fun v G1 H1 f P1 ⟨k1, a1, _, R1⟩ _ => ⟨B, G1, b1, ρ, l, b2, P1.st, en.post P1, h2, fun G2 H2 P2 => ⟨B, G2, b2, ρ, u, _, P2.st, en.post (P1.trans P2), h3, fun G3 H3 P3 => ?_⟩⟩⟩
  have P := (P1.trans P2).trans P3
  have R := R1.post (P2.trans P3)
  have hm1 : min m 1 ≤ 1 := Nat.min_le_right _ _
  cases x with
  | lst xs =>
    cases e3
    obtain ⟨p, vs, rfl, hv, rs⟩ := R.lst1 P3.st.sub (by omega)
    refine .inl ⟨p, vs, rfl, by rw [← hK]; exact .inl (.inl hv), fun p hp => ?_⟩
    exact finL (k := 1) P3.st hp (rs.cut l u) (.inl rfl) (qL P hm1 q)
  | tup xs =>
    cases e3
    obtain ⟨p, vs, rfl, hv, rs⟩ := R.tupAt P3.st.sub
    have rr := (RO.ncRp rfl R).2
    refine .inr (.inl ⟨p, vs, rfl, by rw [← hK]; exact hv, fun e => ?_, fun _ p o hp ho => ?_⟩)
    · rw [rs.length] at e
      rw [cutG_all _ _ _ e] at q
      exact qP0 P rfl rr q
    · exact finT (k := 1) P3.st hp ho (rs.cut l u) (qL P hm1 q)
  | str t =>
    cases e3
    obtain ⟨rfl, ht⟩ := R.str
    exact .inr (.inr ⟨t, rfl, by rw [sizeLine_eq]; exact ht, qP0 P rfl (.str _ (Nat.le_trans (cutS_length _ _ _) ht)) q⟩)
  | _ => cases e3

/-! ### built-in functions -/
def biOf : Bi → String
  | .len => "len" | .tuple => "tuple" | .list => "list" | .dict => "dict" | .sorted => "sorted" | .abs => "abs" | .int => "int" | .str => "str" | .repr => "repr" | .all => "all" | .any => "any" | .sum => "sum"
def biTy : Bi → Bool
  | .tuple => true | .list => true | .dict => true | .int => true | .str => true
  | _ => false
def biV (f : Bi) : Value := if biTy f then .type (biOf f) else .builtin (biOf f)
theorem lv_bi {own : Nat → Nat} {f : Bi} : lv own Γ (.bi f ea) = lvB f := by cases f <;> rfl
theorem boot_bi (f : Bi) : bootBuiltins (Str.ofString (biOf f)) = some (biV f) := by cases f <;> decide +kernel
theorem bi_free (hx : XOk X n) (f : Bi) : X.mg (Str.ofString (biOf f)) = none := hx.free _ (by cases f <;> decide)
theorem s_bi {f : Bi} {y : Str} {p : Pos} (hy : y = Str.ofString (biOf f)) (hK : C.K = X.K) (hx : XOk X n) (hc : CallR X (biV f) (rBi X.K f)) (hg : Gl X y) (ha : PE X a (rd C ma Γ ea)) (hm : need1 f = true → ma ≤ 1) (ns : noStar a = true) :
    PE X (.Call (.Name y p) [a] [] pos) (rd C m Γ (.bi f ea)) := by
  subst hy
  have hs : starEach [a] X.env = (false, eval a X.env) :: starEach [] X.env := star_of ns _ _
  have key : PE X (.Call (.Name (Str.ofString (biOf f)) p) [a] [] pos) (tCB (rBi X.K f) (tCons (rd C ma Γ ea) tNil)) := by
    have hn : Str.ofString (biOf f) ≠ "__name__" := by cases f <;> decide
    have hd : (Str.ofString (biOf f) == ("__debug__" : Str)) = false := by cases f <;> decide
    by_cases ht : biTy f = true
    · have hv : biV f = .type (biOf f) := if_pos ht
      exact pe_callTy (hv ▸ hc) hg (bi_free hx f) (hv ▸ boot_bi f) (pa_cons ha pa_nil hs) hn hd hs rfl
    · have hv : biV f = .builtin (biOf f) := if_neg ht
      exact pe_callB (hv ▸ hc) hg (bi_free hx f) (hv ▸ boot_bi f) (pa_cons ha pa_nil hs) hn hd hs rfl
  refine wkE key fun σ H Q hh => ?_
  obtain ⟨B, G, bg, ρ, d, b', st, en, he, q⟩ := rd_out hh
  obtain ⟨x, b1, h1, he1⟩ := bnd_some he
  obtain ⟨k3, rfl⟩ := lift_some he1
  rw [lv_bi] at q
  exact ⟨B, G, bg, ρ, x, _, st, en, h1, fun v G' H' f' P ⟨k, hk, _, R⟩ _ => ⟨B, G', _, v, k, x, d, f', rfl, P.st, by rw [← hK]; exact R, fun z => Nat.le_trans hk (Nat.le_trans (Nat.min_le_left _ _) (hm z)), k3, by rw [← hK]; exact qL P (Nat.min_le_right _ _) q⟩⟩
end
end Dn

set_option Elab.async false
set_option linter.all false
set_option maxRecDepth 100000
/-! Dn, part J2: t.index(x). -/
namespace Dn
open PySem PySem.Spec PyProof.Rows L2
section
variable {X : Cx} {C : Cn} {Γ : Gam} {m n ma mb mc : Nat} {a b c : Expr} {ea eb ec : Ex} {pos p2 apos cpos : Pos}
/-- a tuple whose object has no dict -/
def tyT (K : PySem.W.Frag) (x : V) (H : Hp) : Prop := ∃ p, x = .ref p ∧ (∃ vs, SqT K H p vs) ∧ ((∃ o vs, H p = some (.frz o (.tup vs)) ∧ o.dict = none) ∨ ∃ o, K.lookup p = some o ∧ o.dict = none)
theorem e_tupMeth {o e : Expr} {name : Str} {id : String} {r : V → List V → Hp → VK → Prop} {to : TE} {t : TA} (slot : Slot "tuple" name id) (hty : typeOf (.builtin id) = pure (.type "method_descriptor")) (hm : MtR X id r) (ho : PE X o to) (ha : PA X [e] t) (ns : noStar e = true)
    (hbase : attributeBase o name X.env (eval o X.env) = eval o X.env) (hline : (apos.endLine == cpos.line) = true) :
    PE X (.Call (.Attribute o name apos) [e] [] cpos) (fun σ H Q => to σ H fun x H1 => tyT X.K x H1 ∧ t σ H1 fun xs H2 => r x xs H2 Q) := by
  have hs : starEach [e] X.env = (false, eval e X.env) :: starEach [] X.env := star_of ns _ _
  refine ⟨fun pins s σ H Q I h => wpAny_Call_method_late hbase (by rw [hs]; rfl) hline rfl (thn (ho.run pins s σ H _ I h) fun v s1 ⟨x, H1, I1, r1, ty, q1⟩ => ?_)⟩
  obtain ⟨p, rfl, ⟨vs, hq⟩, hd⟩ := ty
  cases r1
  obtain ⟨its, _, pl, _⟩ := I1.tuple hq
  have nod : ∃ ob, s1.heap.get? p = some ob ∧ ob.dict = none := by
    rcases hd with ⟨ob, ws, e1, e2⟩ | ⟨ob, e1, e2⟩
    · exact ⟨ob, (I1.hok p _ e1).1, e2⟩
    · exact ⟨ob, I1.kIn p ob e1, e2⟩
  refine ⟨"tuple", id, PySem.F.plainAttrs_tuple, slot, hty, pl.typeIs, fun a e => by cases e; exact nod, ?_⟩
  have hA := ha.run cpos pins s1 σ H1 _ I1 q1
  rw [hs] at hA ⊢
  refine Calls.callWith_builtin rfl (Calls.evalArgs_plain (thn hA fun us s2 ⟨vs, H2, I2, r2, q2⟩ => hm pins s2 σ H2 (.ref p) vs (.ref p) us Q I2 (show RelV (.ref p) (.ref p) from rfl) r2 q2))
theorem strsOf_ok {K : PySem.W.Frag} {G : Hp} : ∀ {ds : List D} {vs : List V} {ss : List Str}, Rps K G vs ds → strsOf ds = some ss → vs = ss.map V.str
  | [], _, ss, h, e => by cases h; cases e; rfl
  | d :: ds, _, ss, h, e => by
    cases h with
    | cons r t =>
      cases d with
      | str s =>
        obtain ⟨t2, h1, h2⟩ := Option.map_eq_some_iff.mp (show (strsOf ds).map (fun t => s :: t) = some ss from e)
        subst h2
        cases r
        rw [strsOf_ok t h1]
        rfl
      | _ => cases e
theorem idxOfS_ok : ∀ {z : Str} {ys : List Str} {j : Nat}, idxOfS z ys = some j → ys[j]? = some z ∧ ∀ m, m < j → ys[m]? ≠ some z
  | z, [], j, h => by cases h
  | z, y :: ys, j, h => by
    unfold idxOfS at h
    by_cases e : y = z
    · rw [if_pos e] at h; cases h; subst e; exact ⟨rfl, fun m hm => absurd hm (Nat.not_lt_zero _)⟩
    · rw [if_neg e] at h
      obtain ⟨i, h1, h2⟩ := Option.map_eq_some_iff.mp h
      subst h2
      obtain ⟨h3, h4⟩ := idxOfS_ok h1
      refine ⟨by simpa using h3, fun m hm => ?_⟩
      cases m with
      | zero => simpa using e
      | succ m => simpa using h4 m (by omega)
theorem s_index (hK : C.K = X.K) (ha : PE X a (rd C 9 Γ ea)) (hb : PE X b (rd C 9 Γ eb)) (ns : noStar b = true) (hbase : attributeBase a "index" X.env (eval a X.env) = eval a X.env) (hline : (apos.endLine == cpos.line) = true) :
    PE X (.Call (.Attribute a "index" apos) [b] [] cpos) (rd C m Γ (.index ea eb)) :=
  wkE (e_tupMeth PySem.F.slot_tuple_index PySem.F.type_tuple_index mt_tup_index ha (pa_cons hb pa_nil (star_of ns _ _)) ns hbase hline) fun σ H Q hh => by
  obtain ⟨B, G, bg, ρ, d, b', st, en, he, q⟩ := rd_out hh
  obtain ⟨x, b1, h1, he1⟩ := bnd_some he
  obtain ⟨y, b2, h2, he2⟩ := bnd_some he1
  obtain ⟨e3, rfl⟩ := lift_some he2
  cases x with
  | tup xs =>
    cases y with
    | str z =>
      obtain ⟨ss, e4, e5⟩ := Option.bind_eq_some_iff.mp (show ((strsOf xs).bind fun ss => (idxOfS z ss).map fun (n : Nat) => D.int (n : Int)) = some d from e3)
      obtain ⟨j, e6, rfl⟩ := Option.map_eq_some_iff.mp e5
      obtain ⟨j1, j2⟩ := idxOfS_ok e6
      refine ⟨B, G, bg, ρ, _, b1, st, en, h1, fun v G1 H1 f P1 ⟨k1, a1, _, R1⟩ _ => ?_⟩
      have rp := (RO.ncRp rfl R1).2
      obtain ⟨p, vs, rfl, hv, rs⟩ := rp.tupAt P1.st.sub
      refine ⟨⟨p, rfl, ⟨vs, by rw [← hK]; exact hv⟩, ?_⟩, B, G1, b1, ρ, _, _, P1.st, en.post P1, h2, fun w G2 H2 g P2 ⟨_, _, _, R2⟩ _ => ?_⟩
      · cases rp with
        | tup e hd _ => exact .inl ⟨_, _, P1.st.sub.tup e, hd⟩
        | ktup e _ => obtain ⟨o, e1, e2, _⟩ := e.2; exact .inr ⟨o, by rw [← hK]; exact e1, e2⟩
      · have rp2 := (RO.ncRp rfl (R1.post P2)).2
        obtain ⟨p', vs', e7, hv', rs'⟩ := rp2.tupAt P2.st.sub
        cases e7
        obtain ⟨rfl, _⟩ := R2.str
        have ev := strsOf_ok rs' e4
        subst ev
        exact ⟨p, ss, z, j, rfl, rfl, by rw [← hK]; exact hv', j1, j2, qP0 (P1.trans P2) rfl (.int _) q⟩
    | _ => cases e3
  | _ => cases e3
end
end Dn

set_option Elab.async false
set_option linter.all false
set_option maxRecDepth 100000
/-! Dn, part J3: the bag, read. -/
namespace Dn
open PySem PySem.Spec PyProof.Rows L2
section
variable {X : Cx} {C : Cn} {Γ : Gam} {m n i : Nat} {x : Str} {pos p1 p2 p3 p4 p5 p6 p7 p8 p9 p10 p11 p12 : Pos} {j1 j2 j3 j4 j5 : Nat}
structure SlotM (X : Cx) (i : Nat) (x : Str) : Prop where
  ix : X.N[i]? = some x
  vis : Vis X.env.scope x
  deb : (x == ("__debug__" : Str)) = false
  cd : (x == ("__classdict__" : Str)) = false
theorem atI_nat {α : Type} {xs : List α} {k : Nat} {v : α} (h : xs[k]? = some v) : atI xs (k : Int) = some v := by
  have hk : k < xs.length := (List.getElem?_eq_some_iff.mp h).1
  unfold atI ixN
  rw [if_pos (by omega), if_pos (by omega)]
  simpa using h
theorem s_bgi {k : Nat} (hs : SlotM X i x) (hb : C.bs = some i) : PE X (.Subscript (.Name x p1) (.Constant (.int (k : Int)) j1 p2) pos) (rd C m Γ (.bgi k)) :=
  wkE (pe_ix ix_seq (pe_var hs.ix hs.vis hs.deb hs.cd) pe_int (plainIx_of rfl)) fun σ H Q hh => by
  obtain ⟨B, G, b, ρ, d, b', st, en, he, q⟩ := rd_out hh
  obtain ⟨iv, e1, e2⟩ := Option.map_eq_some_iff.mp (show (bgGet k b).map (fun i => (D.int i, b)) = some (d, b') from he)
  cases e2
  obtain ⟨ok, Ca, nC, h1, h2⟩ := st.bag
  refine ⟨.ref B, (en.bag i hb).1, .inl ⟨B, _, (k : Int), .int iv, rfl, rfl, .inl (.inl h1), atI_nat ?_, q0 st rfl (.int _) q⟩⟩
  match k, e1 with
  | 0, e1 => cases e1; rfl
  | 1, e1 => cases e1; rfl
  | 2, e1 => cases e1; rfl
theorem cutV_map (xs : List Int) (lo hi : Option Int) : cutV (xs.map V.int) lo hi = (cutG xs lo hi).map V.int := by
  unfold cutV cutG
  rw [List.length_map, ← List.map_drop, ← List.map_take]
/-- (bag[3][bag[2]:] + [0])[0] -/
theorem s_bgc (hs : SlotM X i x) (hb : C.bs = some i) :
    PE X (.Subscript (.BinOp (.Subscript (.Subscript (.Name x p1) (.Constant (.int ((3 : Nat) : Int)) j1 p2) p3) (.Slice (some (.Subscript (.Name x p4) (.Constant (.int ((2 : Nat) : Int)) j2 p5) p6)) none none p7) p8) .Add (.List [.Constant (.int 0) j3 p9] p10) p11) (.Constant (.int ((0 : Nat) : Int)) j4 p12) pos) (rd C m Γ .bgc) :=
  wkE (pe_ix ix_seq (pe_op op_cat (pe_slice sl_list (pe_ix ix_seq (pe_var hs.ix hs.vis hs.deb hs.cd) pe_int (plainIx_of rfl)) (po_some (pe_ix ix_seq (pe_var hs.ix hs.vis hs.deb hs.cd) pe_int (plainIx_of rfl))) po_none) (pe_lst (pa_cons pe_int pa_nil))) pe_int (plainIx_of rfl)) fun σ H Q hh => by
  obtain ⟨B, G, b, ρ, d, b', st, en, he, q⟩ := rd_out hh
  have e2 : some (D.int ((cutG b.cells (some b.ix) none ++ [0]).headD 0), b) = some (d, b') := he
  cases e2
  obtain ⟨ok, Ca, nC, h1, h2⟩ := st.bag
  have hv := (en.bag i hb).1
  have cl : (cutV (b.cells.map V.int) (some b.ix) none).length + 1 ≤ sizeLine := by
    have h3 := cutV_length (b.cells.map V.int) (some b.ix) none
    rw [List.length_map] at h3
    have h4 := ok.sz
    rw [sizeLine_eq]
    omega
  -- the whole: read the list of cells, the place, cut; the one zero; both in one; its first
  refine ⟨.ref B, hv, .inl ⟨B, _, ((3 : Nat) : Int), .ref Ca, rfl, rfl, .inl (.inl h1), atI_nat rfl, .ref B, hv, .inl ⟨B, _, ((2 : Nat) : Int), .int b.ix, rfl, rfl, .inl (.inl h1), atI_nat rfl, b.ix, rfl, Ca, _, rfl, .inl (.inl h2), fun p1 hp1 => ?_⟩⟩⟩
  have P1 := st.laid (o := .lst (cutV (b.cells.map V.int) (some b.ix) none)) hp1
  refine ⟨by rw [sizeLine_eq]; decide, fun p2 hp2 => ?_⟩
  have P2 := P1.trans (P1.st.laid (o := .lst [.int 0]) hp2)
  have n12 : p1 ≠ p2 := fun z => by rw [← z, upd_same] at hp2; cases hp2
  refine ⟨p1, p2, _, _, rfl, rfl, by rw [upd_ne n12, upd_same], upd_same, cl, fun p3 hp3 => ?_⟩
  have P3 := P2.trans (P2.st.laid (o := .lst (cutV (b.cells.map V.int) (some b.ix) none ++ [.int 0])) hp3)
  have el : (cutV (b.cells.map V.int) (some b.ix) none ++ [V.int 0])[0]? = some (V.int ((cutG b.cells (some b.ix) none ++ [0]).headD 0)) := by
    rw [cutV_map]
    cases cutG b.cells (some b.ix) none with
    | nil => rfl
    | cons c r => rfl
  exact .inl ⟨p3, _, ((0 : Nat) : Int), _, rfl, rfl, .inl (.inl upd_same), atI_nat el, qP0 P3 rfl (.int _) q⟩
end
end Dn

set_option Elab.async false
set_option linter.all false
set_option maxRecDepth 100000
/-! Dn, part K: targets, what is walked, list comprehensions. -/
namespace Dn
open PySem PySem.Spec PyProof.Rows L2
section
variable {K : PySem.W.Frag} {G G' H H' : Hp} {B : Addr} {b b' : Bg} {bs : Option Nat} {Γ : Gam} {σ : L2.St} {ρ : Rho} {v : V} {d : D}
/-! ### slots written -/
open Classical in
/-- an owned thing put into a slot: it is new, or known to none -/
theorem EnvOk.setO (e : EnvOk K B G H bs Γ σ ρ) {Γ' : Gam} {i : Nat} {n : Nat} {fp : List Addr} (hi : i < ρ.length) (hl : lvl Γ' i = n) (hΓ : ∀ j, j ≠ i → lvl Γ' j = lvl Γ j) (hb : bs ≠ some i) (r : RO K G B H n v d fp) (nd : fp.Nodup)
    (hn : ∀ j w x g, j ≠ i → ρ[j]? = some (some x) → σ[j]? = some (some w) → RO K G B H (lvl Γ j) w x g → ∀ a ∈ g, a ∉ fp) : EnvOk K B G H bs Γ' (σ.set i (some v)) (ρ.set i (some d)) := by
  obtain ⟨f, h1, h2⟩ := e.own
  refine ⟨by rw [List.length_set, List.length_set, e.len], ⟨fun j => if j = i then fp else if (∃ x, ρ[j]? = some (some x)) then f j else [], fun j x hx => ?_, fun j k n a ha hc => ?_⟩, fun j hj => ?_⟩
  · by_cases q : j = i
    · subst q
      rw [List.getElem?_set_self hi] at hx
      cases hx
      refine ⟨v, by rw [List.getElem?_set_self (by rw [e.len]; exact hi)], ?_, ?_⟩
      · dsimp only; rw [if_pos rfl, hl]; exact r
      · dsimp only; rw [if_pos rfl]; exact nd
    · rw [List.getElem?_set_ne (Ne.symm q)] at hx
      obtain ⟨w, a1, a2, a3⟩ := h1 j x hx
      dsimp only
      rw [if_neg q, if_pos ⟨x, hx⟩, hΓ j q]
      exact ⟨w, by rw [List.getElem?_set_ne (Ne.symm q)]; exact a1, a2, a3⟩
  · have key : ∀ j, j ≠ i → ∀ a, a ∈ (if (∃ x, ρ[j]? = some (some x)) then f j else []) → a ∉ fp := fun j q a ha => by
      by_cases z : ∃ x, ρ[j]? = some (some x)
      · rw [if_pos z] at ha
        obtain ⟨x, hx⟩ := z
        obtain ⟨w, a1, a2, a3⟩ := h1 j x hx
        exact hn j w x (f j) q hx a1 a2 a ha
      · rw [if_neg z] at ha; simp at ha
    dsimp only at ha hc
    by_cases q : j = i
    · rw [if_pos q] at ha
      rw [if_neg (fun z => n (q.trans z.symm))] at hc
      exact key k (fun z => n (q.trans z.symm)) a hc ha
    · rw [if_neg q] at ha
      by_cases q2 : k = i
      · rw [if_pos q2] at hc; exact key j q a ha hc
      · rw [if_neg q2] at hc
        by_cases z : ∃ x, ρ[j]? = some (some x)
        · rw [if_pos z] at ha
          by_cases z2 : ∃ x, ρ[k]? = some (some x)
          · rw [if_pos z2] at hc; exact h2 j k n a ha hc
          · rw [if_neg z2] at hc; simp at hc
        · rw [if_neg z] at ha; simp at ha
  · have q : j ≠ i := fun z => hb (z ▸ hj)
    rw [List.getElem?_set_ne (Ne.symm q), List.getElem?_set_ne (Ne.symm q)]
    exact e.bag j hj
theorem EnvOk.set0 (e : EnvOk K B G H bs Γ σ ρ) {i : Nat} (hi : i < ρ.length) (hl : lvl Γ i = 0) (hb : bs ≠ some i) (r : Rp K G v d) : EnvOk K B G H bs Γ (σ.set i (some v)) (ρ.set i (some d)) :=
  e.setO (n := 0) (fp := []) hi hl (fun _ _ => rfl) hb ⟨rfl, r⟩ List.nodup_nil fun _ _ _ _ _ _ _ _ _ _ => by simp
/-- slots forgotten -/
theorem EnvOk.unset (e : EnvOk K B G H bs Γ σ ρ) {i : Nat} (hb : bs ≠ some i) : EnvOk K B G H bs Γ (σ.set i none) (ρ.set i none) := by
  obtain ⟨f, h1, h2⟩ := e.own
  refine ⟨by rw [List.length_set, List.length_set, e.len], ⟨f, fun j x hx => ?_, h2⟩, fun j hj => ?_⟩
  · by_cases q : j = i
    · subst q
      by_cases hi : j < ρ.length
      · rw [List.getElem?_set_self hi] at hx; cases hx
      · rw [List.getElem?_eq_none (by rw [List.length_set]; omega)] at hx; cases hx
    · rw [List.getElem?_set_ne (Ne.symm q)] at hx ⊢
      exact h1 j x hx
  · have q : j ≠ i := fun z => hb (z ▸ hj)
    rw [List.getElem?_set_ne (Ne.symm q), List.getElem?_set_ne (Ne.symm q)]
    exact e.bag j hj
theorem EnvOk.wipe (e : EnvOk K B G H bs Γ σ ρ) : ∀ {vs : List Nat}, (∀ i ∈ vs, bs ≠ some i) → EnvOk K B G H bs Γ (L2.wipe σ vs) (wipeR ρ vs)
  | [], _ => e
  | i :: vs, h => (EnvOk.wipe e fun j hj => h j (List.mem_cons_of_mem _ hj)).unset (h i List.mem_cons_self)
theorem wipeR_len (ρ : Rho) : ∀ vs : List Nat, (wipeR ρ vs).length = ρ.length
  | [] => rfl
  | v :: vs => by unfold wipeR; rw [List.length_set, wipeR_len ρ vs]
theorem wipeR_out {ρ : Rho} {i : Nat} {x : D} : ∀ {vs : List Nat}, (wipeR ρ vs)[i]? = some (some x) → i ∉ vs
  | [], _ => by simp
  | v :: vs, h => by
    unfold wipeR at h
    by_cases q : i = v
    · subst q
      by_cases hi : i < (wipeR ρ vs).length
      · rw [List.getElem?_set_self hi] at h; cases h
      · rw [List.getElem?_eq_none (by rw [List.length_set]; omega)] at h; cases h
    · rw [List.getElem?_set_ne (Ne.symm q)] at h
      intro z
      rcases List.mem_cons.mp z with z | z
      · exact q z
      · exact wipeR_out h z
/-- other levels where nothing is held, lower ones anywhere: levels by equality -/
theorem EnvOk.lvls (e : EnvOk K B G H bs Γ σ ρ) {Γ' : Gam} (h : ∀ i x, ρ[i]? = some (some x) → lvl Γ' i = lvl Γ i) : EnvOk K B G H bs Γ' σ ρ := by
  obtain ⟨f, h1, h2⟩ := e.own
  refine ⟨e.len, ⟨f, fun j x hx => ?_, h2⟩, e.bag⟩
  rw [h j x hx]
  exact h1 j x hx
theorem lvl_setz (Γ : Gam) (l : List Nat) (i : Nat) : lvl (setz Γ l) i = if l.contains i = true then 0 else lvl Γ i := by
  unfold setz
  show (List.map _ _).getD i 0 = _
  rw [List.getD_eq_getElem?_getD, List.getElem?_map]
  by_cases hi : i < Γ.length
  · rw [List.getElem?_range hi]; rfl
  · rw [List.getElem?_eq_none (by rw [List.length_range]; omega)]
    have z : lvl Γ i = 0 := by unfold lvl; rw [List.getD_eq_getElem?_getD, List.getElem?_eq_none (by omega)]; rfl
    rw [z]; simp
theorem EnvOk.blk (e : EnvOk K B G H bs Γ σ ρ) {vs : List Nat} (h : ∀ i ∈ vs, bs ≠ some i) : EnvOk K B G H bs (setz Γ vs) (L2.wipe σ vs) (wipeR ρ vs) :=
  (e.wipe h).lvls fun i x hx => by
    rw [lvl_setz, if_neg]
    have := wipeR_out hx
    simpa using this
end

/-! ### targets -/
section
variable {X : Cx} {C : Cn} {Γ : Gam} {m n ma mb mc : Nat} {a b c : Expr} {ea eb ec : Ex} {pos p2 : Pos}
/-- the slots' levels are none, none is the bag -/
def tgOk (C : Cn) (Γ : Gam) (l : List Nat) : Prop := ∀ i ∈ l, lvl Γ i = 0 ∧ C.bs ≠ some i
/-- a tuple or a list that can be unpacked now -/
def unp (K : PySem.W.Frag) (G H : Hp) (v : V) (d : D) : Prop := ∃ T vs ds, v = .ref T ∧ ((d = .tup ds ∧ SqT K H T vs) ∨ (d = .lst ds ∧ SqL K H T vs)) ∧ Rps K G vs ds
/-- what a target takes -/
def relG (K : PySem.W.Frag) (G H : Hp) : Tg → V → D → Prop
  | .nm _, v, d => Rp K G v d
  | .tp _, v, d => unp K G H v d
theorem Rp.relG {K : PySem.W.Frag} {G H : Hp} {v : V} {d : D} {ρ ρ' : Rho} (s : Sub G H) (r : Rp K G v d) : ∀ {t : Tg}, bindT t d ρ = some ρ' → Dn.relG K G H t v d
  | .nm _, _ => r
  | .tp ts, e => by
    cases d with
    | tup ds =>
      obtain ⟨a, vs, rfl, h, rs⟩ := r.tupAt s
      exact ⟨a, vs, ds, rfl, .inl ⟨rfl, h⟩, rs⟩
    | lst ds =>
      cases r with
      | lst g rs => exact ⟨_, _, ds, rfl, .inr ⟨rfl, .inl (.inl (s.lst g))⟩, rs⟩
    | _ => unfold bindT at e; cases e
/-- J: what is known of the slots, kept when one of them is given a frozen thing -/
def rg (K : PySem.W.Frag) (t : Tg) : TG := fun v σ H Q => ∃ (J : L2.St → Rho → Prop) (G : Hp) (ρ : Rho) (d : D) (ρ' : Rho), Sub G H ∧ relG K G H t v d ∧ J σ ρ ∧
  (∀ i ∈ slots t, ∀ σ ρ v d, i < ρ.length → J σ ρ → Rp K G v d → J (σ.set i (some v)) (ρ.set i (some d))) ∧ bindT t d ρ = some ρ' ∧ ∀ σ', J σ' ρ' → (∀ vs, (∀ i ∈ slots t, i ∈ vs) → wipe σ' vs = wipe σ vs) → Q σ' H
def rgs (K : PySem.W.Frag) (ts : List Tg) : TGs := fun vs σ H Q => ∃ (J : L2.St → Rho → Prop) (G : Hp) (ρ : Rho) (ds : List D) (ρ' : Rho), Sub G H ∧ Rps K G vs ds ∧ J σ ρ ∧
  (∀ i ∈ slotss ts, ∀ σ ρ v d, i < ρ.length → J σ ρ → Rp K G v d → J (σ.set i (some v)) (ρ.set i (some d))) ∧ bindTs ts ds ρ = some ρ' ∧ ∀ σ', J σ' ρ' → (∀ vs, (∀ i ∈ slotss ts, i ∈ vs) → wipe σ' vs = wipe σ vs) → Q σ' H
theorem wipe_set {σ : L2.St} {i : Nat} {x : Option V} : ∀ {vs : List Nat}, i ∈ vs → wipe (σ.set i x) vs = wipe σ vs
  | [], h => by simp at h
  | v :: vs, h => by
    unfold wipe
    by_cases q : i ∈ vs
    · rw [wipe_set q]
    · have e : v = i := by
        rcases List.mem_cons.mp h with z | z
        · exact z.symm
        · exact absurd z q
      subst e
      have key : ∀ {vs : List Nat}, v ∉ vs → wipe (σ.set v x) vs = (wipe σ vs).set v x := by
        intro vs
        induction vs with
        | nil => intro _; rfl
        | cons w ws ih =>
          intro hn
          have h1 : v ≠ w := fun z => hn (z ▸ List.mem_cons_self)
          unfold wipe
          rw [ih fun z => hn (List.mem_cons_of_mem _ z), List.set_comm _ _ h1]
      rw [key q, List.set_set]
theorem wkGs {ts : List Expr} {t t' : TGs} (h : PGs X ts t) (w : ∀ vs σ H Q, t' vs σ H Q → t vs σ H Q) : PGs X ts t' := ⟨fun pins s σ H vs us Q I r q => h.run pins s σ H vs us Q I r (w vs σ H Q q)⟩
theorem orG {tg : Expr} {t t' : TG} (h : PG X tg t) (h' : PG X tg t') : PG X tg (fun v σ H Q => t v σ H Q ∨ t' v σ H Q) := ⟨fun pins s σ H v u Q I r q => q.elim (h.run pins s σ H v u Q I r) (h'.run pins s σ H v u Q I r)⟩
theorem orI {tg it : Expr} {t t' : TI} (h : PI X tg it t) (h' : PI X tg it t') : PI X tg it (fun σ H R => t σ H R ∨ t' σ H R) := ⟨fun pins s σ H R I q => q.elim (h.run pins s σ H R I) (h'.run pins s σ H R I)⟩
theorem g_nm {i : Nat} {x : Str} (hN : X.N.Nodup) (hi : X.N[i]? = some x) (hx : Loc X.env.scope x) (hf : X.fn x = true ∨ X.env.scope.names.lookup x = some .local) : PG X (.Name x pos) (rg X.K (.nm i)) :=
  wkG (pg_name hN hi hx hf) fun v σ H Q ⟨J, G, ρ, d, ρ', sub, r, j, cl, e, q⟩ => by
  unfold bindT at e
  by_cases h : i < ρ.length
  · rw [if_pos h] at e
    cases e
    exact q _ (cl i List.mem_cons_self σ ρ v d h j r) fun vs hv => wipe_set (hv i List.mem_cons_self)
  · rw [if_neg h] at e; cases e
theorem bindTs_len : ∀ {ts : List Tg} {ds : List D} {ρ ρ' : Rho}, bindTs ts ds ρ = some ρ' → ds.length = ts.length
  | [], [], _, _, _ => rfl
  | [], _ :: _, _, _, h => by unfold bindTs at h; cases h
  | _ :: _, [], _, _, h => by unfold bindTs at h; cases h
  | t :: ts, x :: xs, ρ, ρ', h => by
    unfold bindTs at h
    obtain ⟨r, h1, h2⟩ := Option.bind_eq_some_iff.mp h
    simp [bindTs_len h2]
theorem gs_nil : PGs X [] (rgs X.K []) := wkGs pgs_nil fun vs σ H Q ⟨J, G, ρ, ds, ρ', sub, r, j, cl, e, q⟩ => by
  cases r with
  | nil => unfold bindTs at e; cases e; exact ⟨rfl, q σ j fun _ _ => rfl⟩
  | cons _ _ => unfold bindTs at e; cases e
theorem gs_cons {e : Expr} {es : List Expr} {t : Tg} {ts : List Tg} (h1 : PG X e (rg X.K t)) (h2 : PGs X es (rgs X.K ts)) (hs : (assignEach (e :: es) X.env).map (·.2) = assign e X.env :: (assignEach es X.env).map (·.2)) : PGs X (e :: es) (rgs X.K (t :: ts)) :=
  wkGs (pgs_cons h1 h2 hs) fun vs σ H Q ⟨J, G, ρ, ds, ρ', sub, r, j, cl, e, q⟩ => by
  cases r with
  | nil => unfold bindTs at e; cases e
  | @cons v d vs ds r rs =>
    unfold bindTs at e
    obtain ⟨ρ1, e1, e2⟩ := Option.bind_eq_some_iff.mp e
    exact ⟨v, vs, rfl, J, G, ρ, d, ρ1, sub, r.relG sub e1, j, fun i hi => cl i (List.mem_append_left _ hi), e1, fun σ1 j1 w1 => ⟨J, G, ρ1, ds, ρ', sub, rs, j1, fun i hi => cl i (List.mem_append_right _ hi), e2, fun σ2 j2 w2 => q σ2 j2 fun l hl => (w2 l fun i hi => hl i (List.mem_append_right _ hi)).trans (w1 l fun i hi => hl i (List.mem_append_left _ hi))⟩⟩
theorem g_tp {es : List Expr} {ts : List Tg} {k : Nat} (hc : X.calm = true) (h : PGs X es (rgs X.K ts)) (hn : (assignEach es X.env).length = ts.length) (hst : (assignEach es X.env).findIdx? (·.1) = none) : PG X (.Tuple es k pos) (rg X.K (.tp ts)) :=
  wkG (orG (pg_tup hc h hn hst) (pg_unl hc h hn hst)) fun v σ H Q ⟨J, G, ρ, d, ρ', sub, r, j, cl, e, q⟩ => by
  obtain ⟨T, vs, ds, rfl, ht, rs⟩ := r
  rcases ht with ⟨rfl, hv⟩ | ⟨rfl, hv⟩
  · unfold bindT at e
    exact .inl ⟨T, vs, rfl, hv, by rw [rs.length, bindTs_len e], J, G, ρ, ds, ρ', sub, rs, j, cl, e, fun σ1 en1 w1 => q σ1 en1 w1⟩
  · unfold bindT at e
    exact .inr ⟨T, vs, rfl, hv, by rw [rs.length, bindTs_len e], J, G, ρ, ds, ρ', sub, rs, j, cl, e, fun σ1 en1 w1 => q σ1 en1 w1⟩
end
end Dn

set_option Elab.async false
set_option linter.all false
set_option maxRecDepth 100000
/-! Dn, part L: what is walked; list comprehensions. -/
namespace Dn
open PySem PySem.Spec PyProof.Rows L2
/-- J walks xs while what is frozen in G stands -/
def WOk (K : PySem.W.Frag) (B : Addr) (G H0 : Hp) (xs : List D) (J : L2.It) (pr : Bool) : Prop := ∃ Gd Y, Walk J xs.length Gd Y ∧ (∀ H, Sub G H → Gd H) ∧ ∀ i Hi x Hx d, Y i Hi x Hx → xs[i]? = some d →
  (Hx = Hi ∧ Rp K G x d) ∨ (pr = true ∧ ∃ T a b da db, x = .ref T ∧ Hi T = none ∧ Hx = upd Hi T (.tup [a, b]) ∧ d = .tup [da, db] ∧ Rp K G a da ∧ Rp K G b db)
theorem WOk.mk {pr : Bool} {K : PySem.W.Frag} {B : Addr} {G H0 : Hp} {xs : List D} {J : L2.It} {n : Nat} {Gd : Hp → Prop} {Y : Nat → Hp → V → Hp → Prop} (w : Walk J n Gd Y) (hn : n = xs.length) (h1 : ∀ H, Sub G H → Gd H) (h2 : ∀ i Hi x Hx d, Y i Hi x Hx → xs[i]? = some d →
    (Hx = Hi ∧ Rp K G x d) ∨ (pr = true ∧ ∃ T a b da db, x = .ref T ∧ Hi T = none ∧ Hx = upd Hi T (.tup [a, b]) ∧ d = .tup [da, db] ∧ Rp K G a da ∧ Rp K G b db)) : WOk K B G H0 xs J pr := ⟨Gd, Y, hn ▸ w, h1, h2⟩
/-- J walks xs while what is frozen in G stands, and what stood in H0 does -/
def WOkL (K : PySem.W.Frag) (B : Addr) (G H0 : Hp) (xs : List D) (J : L2.It) (pr : Bool) : Prop := ∃ Gd Y, Walk J xs.length Gd Y ∧ (∀ H, Sub G H → (∀ a o, a ≠ B → H0 a = some o → H a = some o) → Gd H) ∧ ∀ i Hi x Hx d, Y i Hi x Hx → xs[i]? = some d →
  (Hx = Hi ∧ Rp K G x d) ∨ (pr = true ∧ ∃ T a b da db, x = .ref T ∧ Hi T = none ∧ Hx = upd Hi T (.tup [a, b]) ∧ d = .tup [da, db] ∧ Rp K G a da ∧ Rp K G b db)
theorem WOk.toL {K : PySem.W.Frag} {B : Addr} {G H0 : Hp} {xs : List D} {J : L2.It} {pr : Bool} (h : WOk K B G H0 xs J pr) : WOkL K B G H0 xs J pr := by
  obtain ⟨Gd, Y, w, w1, w2⟩ := h
  exact ⟨Gd, Y, w, fun H s _ => w1 H s, w2⟩
/-- does it yield pairs that are made for it -/
def itPair : Dn.It → Bool
  | .enum _ => true
  | .zip _ _ => true
  | .items _ => true
  | _ => false
section
variable {X : Cx} {C : Cn} {Γ : Gam} {m n ma mb mc : Nat} {a b c tg : Expr} {ea eb ec : Ex} {pos p2 p : Pos}
def ri (C : Cn) (Γ : Gam) (it : Dn.It) : TI := fun σ H R => ∃ B G b ρ xs b', StOk B G H b ∧ EnvOk C.K B G H C.bs Γ σ ρ ∧ evi C.Φ ρ it b = some (xs, b') ∧ ∀ (J : L2.It) G' H', Post B G H G' b' H' → WOk C.K B G' H' xs J (itPair it) → xs.length ≤ line → R J H'
def riL (C : Cn) (Γ : Gam) (it : Dn.It) : TI := fun σ H R => ∃ B G b ρ xs b', StOk B G H b ∧ EnvOk C.K B G H C.bs Γ σ ρ ∧ evi C.Φ ρ it b = some (xs, b') ∧ ∀ (J : L2.It) G' H', Post B G H G' b' H' → WOkL C.K B G' H' xs J (itPair it) → xs.length ≤ line → R J H'
theorem ri_of {it : Dn.It} {σ : L2.St} {H : Hp} {R : L2.It → Hp → Prop} (h : riL C Γ it σ H R) : ri C Γ it σ H R := by
  obtain ⟨B, G, b, ρ, xs, b', st, en, he, q⟩ := h
  exact ⟨B, G, b, ρ, xs, b', st, en, he, fun J G' H' P w l => q J G' H' P w.toL l⟩
theorem Rps.get2 {K : PySem.W.Frag} {G : Hp} {ds : List D} {vs : List V} (h : Rps K G vs ds) {i : Nat} {x : V} {d : D} (hx : vs[i]? = some x) (hd : ds[i]? = some d) : Rp K G x d := by
  obtain ⟨v, h1, h2⟩ := h.get hd
  rw [hx] at h1
  cases h1
  exact h2
theorem WOk.list {K : PySem.W.Frag} {B : Addr} {G H0 : Hp} {p : Addr} {vs : List V} {ds : List D} (g : G p = some (.lst vs)) (rs : Rps K G vs ds) : WOk K B G H0 ds (Itl K p) false := by
  refine ⟨_, _, rs.length ▸ walk_list, fun H s => .inl (.inl (s.lst g)), fun i Hi x Hx d y hd => .inl ⟨y.1, rs.get2 y.2 hd⟩⟩
theorem WOk.tup {K : PySem.W.Frag} {B : Addr} {G H0 : Hp} {p : Addr} {vs : List V} {ds : List D} (g : ∀ H, Sub G H → SqT K H p vs) (rs : Rps K G vs ds) : WOk K B G H0 ds (Itt K p) false := by
  refine ⟨_, _, rs.length ▸ walk_tup, g, fun i Hi x Hx d y hd => .inl ⟨y.1, rs.get2 y.2 hd⟩⟩
theorem Rp.tupAll {K : PySem.W.Frag} {G : Hp} {v : V} {ds : List D} (r : Rp K G v (.tup ds)) : ∃ a vs, v = .ref a ∧ (∀ H, Sub G H → SqT K H a vs) ∧ Rps K G vs ds := by
  cases r with
  | tup e _ r => exact ⟨_, _, rfl, fun H s => .inl (.inr ⟨_, s.tup e⟩), r⟩
  | ktup e r => exact ⟨_, _, rfl, fun H s => .inr e.1, r⟩
theorem str_pts {t : Str} {i : Nat} {d : D} (h : (t.cps.toList.map fun c => D.str ⟨#[c]⟩)[i]? = some d) {c : Nat} (hc : t.cps[i]? = some c) : d = .str ⟨#[c]⟩ := by
  rw [List.getElem?_map, Array.getElem?_toList, hc] at h
  exact (Option.some.inj h).symm
theorem WOk.str {K : PySem.W.Frag} {B : Addr} {G H0 : Hp} {t : Str} : WOk K B G H0 (t.cps.toList.map fun c => D.str ⟨#[c]⟩) (Its t) false :=
  .mk walk_str (by rw [List.length_map, Array.length_toList]) (fun _ _ => True.intro) fun i Hi x Hx d y hd => .inl ⟨y.1, by
    obtain ⟨c, h1, h2⟩ := y.2
    rw [h2, str_pts hd h1]
    exact .str _ (str1 c)⟩
/-- lists and tuples are not too long -/
def HLen (K : PySem.W.Frag) (H : Hp) : Prop := ∀ a vs, SqL K H a vs ∨ SqT K H a vs → vs.length ≤ line
theorem hlen_of {pins : List (Addr × Obj)} {s : Shared} {σ : L2.St} {H : Hp} (I : Inv X pins σ H s) : HLen X.K H := fun a vs h => by
  show vs.length ≤ 16777216
  rw [← sizeLine_eq]
  rcases h with h | h
  · obtain ⟨its, r, p, hz⟩ := I.list h
    exact hz
  · obtain ⟨its, r, p, hz⟩ := I.tuple h
    exact hz
theorem wkJ {it : Expr} {t t' : TI} (h : PI X tg it t) (w : ∀ σ H R, t' σ H R → t σ H (fun J H' => HLen X.K H' → R J H')) : PI X tg it t' :=
  ⟨fun pins s σ H R I q => thn (h.run pins s σ H _ I (w σ H R q)) fun v s1 h1 => thn h1 fun itv s2 ⟨it, fp, tn, J, H2, e, I2, T, st2, f2, q⟩ => ⟨it, fp, tn, J, H2, e, I2, T, st2, f2, q (hlen_of I2)⟩⟩
theorem i_ex (hK : C.K = X.K) (ha : PE X a (rd C 0 Γ ea)) : PI X tg a (ri C Γ (.ex ea)) :=
  wkJ (orI (pi_list ha) (orI (pi_tup ha) (pi_str ha))) fun σ H R ⟨B, G, bg, ρ, xs, b', st, en, he, q⟩ => by
  obtain ⟨x, b1, h1, he1⟩ := bnd_some he
  have mk : ∀ (T : V → Hp → Prop), (∀ v G' H', Post B G H G' b1 H' → Rp C.K G' v x → T v H') → rd C 0 Γ ea σ H T := fun T hT =>
    ⟨B, G, bg, ρ, x, b1, st, en, h1, fun v G' H' f P ⟨k, hk, _, R⟩ _ => hT v G' H' P (R.cast (k := 0) (by omega)).2⟩
  cases x with
  | lst ds =>
    obtain ⟨rfl, rfl⟩ := ret_some (show ret ds b1 = some (xs, b') from he1)
    refine .inl (mk _ fun v G' H' P r => ?_)
    cases r with
    | lst g rs =>
      have hv : SqL X.K H' _ _ := .inl (.inl (P.st.sub.lst g))
      exact ⟨_, rfl, ⟨_, hv⟩, fun hl => q _ G' H' P (by rw [← hK]; exact WOk.list g rs) (rs.length ▸ hl _ _ (.inl hv))⟩
  | tup ds =>
    obtain ⟨rfl, rfl⟩ := ret_some (show ret ds b1 = some (xs, b') from he1)
    refine .inr (.inl (mk _ fun v G' H' P r => ?_))
    obtain ⟨p, vs, rfl, g, rs⟩ := r.tupAll
    have hv := g H' P.st.sub
    rw [hK] at hv
    exact ⟨p, rfl, ⟨vs, hv⟩, fun hl => q _ G' H' P (by rw [← hK]; exact WOk.tup g rs) (rs.length ▸ hl _ _ (.inr hv))⟩
  | str t =>
    obtain ⟨rfl, rfl⟩ := ret_some (show ret (t.cps.toList.map fun c => D.str ⟨#[c]⟩) b1 = some (xs, b') from he1)
    refine .inr (.inr (mk _ fun v G' H' P r => ?_))
    cases r with
    | str _ hl => exact ⟨t, rfl, fun _ => q _ G' H' P WOk.str (by rw [List.length_map, Array.length_toList]; exact hl)⟩
  | _ => exact (fail_some (b := b1) he1).elim
theorem WOk.rng {K : PySem.W.Frag} {B : Addr} {G H0 : Hp} {lo : Int} {n : Nat} : WOk K B G H0 ((List.range n).map fun i => .int (lo + ((i : Nat) : Int))) (Itr lo n) false :=
  .mk walk_range (by rw [List.length_map, List.length_range]) (fun _ _ => True.intro) fun i Hi x Hx d y hd => .inl ⟨y.1, by
    rw [y.2]
    rw [List.getElem?_map] at hd
    obtain ⟨j, hj, rfl⟩ := Option.map_eq_some_iff.mp hd
    obtain ⟨hi, rfl⟩ := List.getElem?_eq_some_iff.mp hj
    rw [List.getElem_range]
    exact .int _⟩
theorem range_some {i j : Int} {b b' : Bg} {xs : List D} (h : rangeD i j b = some (xs, b')) : (-(2 ^ 62) ≤ i ∧ i < 2 ^ 62 ∧ -(2 ^ 62) ≤ j ∧ j < 2 ^ 62 ∧ (j - i).toNat ≤ line) ∧ xs = (List.range (j - i).toNat).map (fun k => .int (i + ((k : Nat) : Int))) ∧ b' = b := by
  unfold rangeD at h
  rcases ite_some h with ⟨⟨c1, c2, c3, c4, c5⟩, h⟩ | ⟨_, h⟩
  · obtain ⟨rfl, rfl⟩ := ret_some h
    exact ⟨⟨c1, c2, c3, c4, c5⟩, rfl, rfl⟩
  · cases h
theorem i_r1 (hx : XOk X n) (hg : Gl X "range") (ha : PE X a (rd C ma Γ ea)) (ns : noStar a = true) : PI X tg (.Call (.Name "range" p) [a] [] pos) (ri C Γ (.r1 ea)) :=
  wkI (pi_range1 hg (hx.free "range" (by decide)) (pa_cons ha pa_nil (star_of ns _ _)) (star_of ns _ _)) fun σ H R ⟨B, G, bg, ρ, xs, b', st, en, he, q⟩ => by
  obtain ⟨x, b1, h1, he1⟩ := bnd_some he
  obtain ⟨j, b2, h2, he2⟩ := bnd_some he1
  obtain ⟨rfl, rfl⟩ := intOf_some h2
  obtain ⟨⟨c1, c2, c3, c4, c5⟩, rfl, rfl⟩ := range_some he2
  exact ⟨B, G, bg, ρ, _, _, st, en, h1, fun v G' H' f P ⟨_, _, _, r⟩ _ => ⟨j, by rw [r.int], c3, c4, q _ G' H' P (by rw [Int.sub_zero]; exact WOk.rng) (by rw [List.length_map, List.length_range]; exact c5)⟩⟩
theorem i_r2 (hx : XOk X n) (hg : Gl X "range") (ha : PE X a (rd C ma Γ ea)) (hb : PE X b (rd C mb Γ eb)) (ns : noStar a = true) (ns2 : noStar b = true) : PI X tg (.Call (.Name "range" p) [a, b] [] pos) (ri C Γ (.r2 ea eb)) :=
  wkI (pi_range2 hg (hx.free "range" (by decide)) (pa_cons ha (pa_cons hb pa_nil (star_of ns2 _ _)) (star_of ns _ _)) (by rw [star_of ns, star_of ns2]; rfl) (star_of ns2 _ _)) fun σ H R ⟨B, G, bg, ρ, xs, b', st, en, he, q⟩ => by
  obtain ⟨x, b1, h1, he1⟩ := bnd_some he
  obtain ⟨i, b2, h2, he2⟩ := bnd_some he1
  obtain ⟨rfl, rfl⟩ := intOf_some h2
  obtain ⟨y, b3, h3, he3⟩ := bnd_some he2
  obtain ⟨j, b4, h4, he4⟩ := bnd_some he3
  obtain ⟨rfl, rfl⟩ := intOf_some h4
  obtain ⟨⟨c1, c2, c3, c4, c5⟩, rfl, rfl⟩ := range_some he4
  exact ⟨B, G, bg, ρ, _, _, st, en, h1, fun v G' H' f P ⟨_, _, _, r⟩ _ => ⟨B, G', _, ρ, _, _, P.st, en.post P, h3, fun v2 G2 H2 f2 P2 ⟨_, _, _, r2⟩ _ => ⟨i, j, by rw [r.int, r2.int], ⟨c1, c2, c3, c4⟩, q _ G2 H2 (P.trans P2) WOk.rng (by rw [List.length_map, List.length_range]; exact c5)⟩⟩⟩
theorem zipD_get : ∀ {xs ys : List D} {i : Nat} {d : D}, (zipD xs ys)[i]? = some d → ∃ x y, xs[i]? = some x ∧ ys[i]? = some y ∧ d = .tup [x, y]
  | x :: xs, y :: ys, 0, d, h => ⟨x, y, rfl, rfl, by simpa [zipD] using h.symm⟩
  | x :: xs, y :: ys, i + 1, d, h => by
    obtain ⟨u, v, h1, h2, h3⟩ := zipD_get (xs := xs) (ys := ys) (i := i) (by simpa [zipD] using h)
    exact ⟨u, v, by simpa using h1, by simpa using h2, h3⟩
  | [], ys, i, d, h => by simp [zipD] at h
  | x :: xs, [], i, d, h => by simp [zipD] at h
theorem zipD_len : ∀ (xs ys : List D), (zipD xs ys).length = min xs.length ys.length
  | x :: xs, y :: ys => by simp [zipD, zipD_len xs ys]
  | [], ys => by simp [zipD]
  | x :: xs, [] => by simp [zipD]
theorem enumD_get : ∀ {xs : List D} {i k : Nat} {d : D}, (enumD k xs)[i]? = some d → ∃ x, xs[i]? = some x ∧ d = .tup [.int ((k + i : Nat) : Int), x]
  | x :: xs, 0, k, d, h => ⟨x, rfl, by simpa [enumD] using h.symm⟩
  | x :: xs, i + 1, k, d, h => by
    obtain ⟨u, h1, h3⟩ := enumD_get (xs := xs) (i := i) (k := k + 1) (by simpa [enumD] using h)
    exact ⟨u, by simpa using h1, by rw [h3]; congr 3; omega⟩
  | [], i, k, d, h => by simp [enumD] at h
theorem enumD_len : ∀ (k : Nat) (xs : List D), (enumD k xs).length = xs.length
  | k, x :: xs => by simp [enumD, enumD_len (k + 1) xs]
  | k, [] => rfl
theorem WOk.enum {K : PySem.W.Frag} {B : Addr} {G H0 : Hp} {p : Addr} {vs : List V} {ds : List D} (g : G p = some (.lst vs)) (rs : Rps K G vs ds) : WOk K B G H0 (enumD 0 ds) (Ite K p) true :=
  .mk walk_enum (by rw [enumD_len, ← rs.length]) (fun H s => .inl (.inl (s.lst g))) fun i Hi x Hx d y hd => .inr (by
    obtain ⟨T, u, w, h1, h2, h3, h4, h5⟩ := y
    obtain ⟨e, he, rfl⟩ := enumD_get hd
    cases h4
    exact ⟨rfl, T, _, w, _, e, h1, h2, h3, rfl, by rw [Nat.zero_add]; exact .int _, rs.get2 h5 he⟩)
theorem WOk.enT {K : PySem.W.Frag} {B : Addr} {G H0 : Hp} {p : Addr} {vs : List V} {ds : List D} (g : ∀ H, Sub G H → SqT K H p vs) (rs : Rps K G vs ds) : WOk K B G H0 (enumD 0 ds) (IteT K p) true :=
  .mk walk_enT (by rw [enumD_len, ← rs.length]) g fun i Hi x Hx d y hd => .inr (by
    obtain ⟨T, u, w, h1, h2, h3, h4, h5⟩ := y
    obtain ⟨e, he, rfl⟩ := enumD_get hd
    cases h4
    exact ⟨rfl, T, _, w, _, e, h1, h2, h3, rfl, by rw [Nat.zero_add]; exact .int _, rs.get2 h5 he⟩)
theorem WOk.zipL {K : PySem.W.Frag} {B : Addr} {G H0 : Hp} {p q : Addr} {vs ws : List V} {ds es : List D} (g : G p = some (.lst vs)) (rs : Rps K G vs ds) (g2 : G q = some (.lst ws)) (rs2 : Rps K G ws es) : WOk K B G H0 (zipD ds es) (Itz K p q) true :=
  .mk (walk_zip (xs := vs) (ys := ws) (n := (zipD ds es).length) (by rw [zipD_len, ← rs.length, ← rs2.length])) rfl (fun H s => ⟨.inl (.inl (s.lst g)), .inl (.inl (s.lst g2))⟩) fun i Hi x Hx d y hd => .inr (by
    obtain ⟨T, u, w, h1, h2, h3, h4, h5⟩ := y
    obtain ⟨e, f, he, hf, rfl⟩ := zipD_get hd
    exact ⟨rfl, T, u, w, e, f, h1, h2, h3, rfl, rs.get2 h4 he, rs2.get2 h5 hf⟩)
theorem walk_zipT {K : PySem.W.Frag} {a b : Addr} {xs ys : List V} {n : Nat} (hn : n = min xs.length ys.length) : Walk (RZ.ItzT K a b) n (fun H => SqT K H a xs ∧ SqT K H b ys) (YPair (fun i => xs[i]?) (fun i => ys[i]?)) := by
  subst hn
  refine ⟨fun i _ hi q => ?_, fun _ q => ⟨xs, ys, q.1, q.2, by omega⟩, fun i H v H' _ q y => ?_⟩
  · have h1 : i < xs.length := by omega
    have h2 : i < ys.length := by omega
    exact ⟨xs, ys, xs[i], ys[i], q.1, q.2, by simp [h1], by simp [h2]⟩
  · obtain ⟨T, x, z, h1, h2, h3, h4, h5⟩ := y
    exact ⟨T, x, z, h1, h2, h3, h4 xs q.1, h5 ys q.2⟩
theorem WOk.zipT {K : PySem.W.Frag} {B : Addr} {G H0 : Hp} {p q : Addr} {vs ws : List V} {ds es : List D} (g : ∀ H, Sub G H → SqT K H p vs) (rs : Rps K G vs ds) (g2 : ∀ H, Sub G H → SqT K H q ws) (rs2 : Rps K G ws es) : WOk K B G H0 (zipD ds es) (RZ.ItzT K p q) true :=
  .mk (walk_zipT (xs := vs) (ys := ws) (n := (zipD ds es).length) (by rw [zipD_len, ← rs.length, ← rs2.length])) rfl (fun H s => ⟨g H s, g2 H s⟩) fun i Hi x Hx d y hd => .inr (by
    obtain ⟨T, u, w, h1, h2, h3, h4, h5⟩ := y
    obtain ⟨e, f, he, hf, rfl⟩ := zipD_get hd
    exact ⟨rfl, T, u, w, e, f, h1, h2, h3, rfl, rs.get2 h4 he, rs2.get2 h5 hf⟩)
theorem zip2_some {x y : D} {zs : List D} (h : zip2 x y = some zs) : ∃ xs ys, ((x = .lst xs ∧ y = .lst ys) ∨ (x = .tup xs ∧ y = .tup ys)) ∧ zs = zipD xs ys := by
  match x, y, h with
  | .lst xs, .lst ys, h => cases h; exact ⟨xs, ys, .inl ⟨rfl, rfl⟩, rfl⟩
  | .tup xs, .tup ys, h => cases h; exact ⟨xs, ys, .inr ⟨rfl, rfl⟩, rfl⟩
/-- for (a, b) in zip(x, y), two lists or two tuples -/
theorem i_zip {elts : List Expr} {kk : Nat} {tpos : Pos} (hK : C.K = X.K) (hx : XOk X n) (hg : Gl X "zip") (ha : PE X a (rd C 0 Γ ea)) (hb : PE X b (rd C 0 Γ eb)) (ns : noStar a = true) (ns2 : noStar b = true) :
    PI X (.Tuple elts kk tpos) (.Call (.Name "zip" p) [a, b] [] pos) (ri C Γ (.zip ea eb)) :=
  wkJ (RZ.pi_zipA hg (hx.free "zip" (by decide)) (pa_cons ha (pa_cons hb pa_nil (star_of ns2 _ _)) (star_of ns _ _)) (star_of ns _ _) (by rw [star_of ns2]; rfl)) fun σ H R ⟨B, G, bg, ρ, xs, b', st, en, he, q⟩ => by
  obtain ⟨x, b1, h1, he1⟩ := bnd_some he
  obtain ⟨y, b2, h2, he2⟩ := bnd_some he1
  obtain ⟨he3, rfl⟩ := lift_some he2
  obtain ⟨us, ws, hxy, rfl⟩ := zip2_some he3
  refine ⟨B, G, bg, ρ, x, b1, st, en, h1, fun v G1 H1 f P1 ⟨_, _, _, R1⟩ _ => ⟨B, G1, b1, ρ, y, _, P1.st, en.post P1, h2, fun w G2 H2 f2 P2 ⟨_, _, _, R2⟩ _ => ?_⟩⟩
  have r1 := ((R1.cast (k := 0) (by omega)).2).mono P2.gs
  have r2 := (R2.cast (k := 0) (by omega)).2
  have P := P1.trans P2
  rcases hxy with ⟨rfl, rfl⟩ | ⟨rfl, rfl⟩
  · cases r1 with
    | lst g rs =>
      cases r2 with
      | lst g2 rs2 =>
        have hv : SqL X.K H2 _ _ := .inl (.inl (P2.st.sub.lst g))
        have hw : SqL X.K H2 _ _ := .inl (.inl (P2.st.sub.lst g2))
        refine ⟨_, _, _, _, rfl, .inl ⟨hv, hw, fun hl => q _ G2 H2 P (by rw [← hK]; exact WOk.zipL g rs g2 rs2) ?_⟩⟩
        rw [zipD_len]
        have := rs.length ▸ hl _ _ (.inl hv)
        omega
  · obtain ⟨p, vs, rfl, g, rs⟩ := r1.tupAll
    obtain ⟨p2, vs2, rfl, g2, rs2⟩ := r2.tupAll
    have hv := g H2 P2.st.sub
    have hw := g2 H2 P2.st.sub
    rw [hK] at hv hw
    refine ⟨p, p2, vs, vs2, rfl, .inr ⟨hv, hw, fun hl => q _ G2 H2 P (by rw [← hK]; exact WOk.zipT g rs g2 rs2) ?_⟩⟩
    rw [zipD_len]
    have := rs.length ▸ hl _ _ (.inr hv)
    omega
/-- for (i, ..) in enumerate(e), a list or a tuple -/
theorem i_enum {elts : List Expr} {kk : Nat} {tpos : Pos} (hK : C.K = X.K) (hx : XOk X n) (hg : Gl X "enumerate") (ha : PE X a (rd C 0 Γ ea)) (ns : noStar a = true) :
    PI X (.Tuple elts kk tpos) (.Call (.Name "enumerate" p) [a] [] pos) (ri C Γ (.enum ea)) :=
  wkJ (orI (pi_enum hg (hx.free "enumerate" (by decide)) (pa_cons ha pa_nil (star_of ns _ _)) (star_of ns _ _)) (pi_enT hg (hx.free "enumerate" (by decide)) (pa_cons ha pa_nil (star_of ns _ _)) (star_of ns _ _))) fun σ H R ⟨B, G, bg, ρ, xs, b', st, en, he, q⟩ => by
  obtain ⟨x, b1, h1, he1⟩ := bnd_some he
  obtain ⟨ys, b2, h2, he2⟩ := bnd_some he1
  obtain ⟨hx2, rfl⟩ := lstOf_some h2
  obtain ⟨rfl, rfl⟩ := ret_some he2
  have mk : ∀ (T : List V → Hp → Prop), (∀ v G' H', Post B G H G' b' H' → Rp C.K G' v x → T [v] H') → tCons (rd C 0 Γ ea) tNil σ H T := fun T hT =>
    ⟨B, G, bg, ρ, x, _, st, en, h1, fun v G' H' f P ⟨k, hk, _, R⟩ _ => hT v G' H' P (R.cast (k := 0) (by omega)).2⟩
  rcases hx2 with rfl | rfl
  · refine .inl (mk _ fun v G' H' P r => ?_)
    cases r with
    | lst g rs =>
      have hv : SqL X.K H' _ _ := .inl (.inl (P.st.sub.lst g))
      exact ⟨_, _, rfl, hv, fun hl => q _ G' H' P (by rw [← hK]; exact WOk.enum g rs) (by rw [enumD_len]; exact rs.length ▸ hl _ _ (.inl hv))⟩
  · refine .inr (mk _ fun v G' H' P r => ?_)
    obtain ⟨p, vs, rfl, g, rs⟩ := r.tupAll
    have hv := g H' P.st.sub
    rw [hK] at hv
    exact ⟨p, vs, rfl, hv, fun hl => q _ G' H' P (by rw [← hK]; exact WOk.enT g rs) (by rw [enumD_len]; exact rs.length ▸ hl _ _ (.inr hv))⟩
end
end Dn

set_option Elab.async false
set_option linter.all false
set_option maxRecDepth 100000
/-! Dn, part M: list comprehensions. -/
namespace Dn
open PySem PySem.Spec PyProof.Rows L2
section
variable {X : Cx} {C : Cn} {Γ : Gam} {m n ma mb mc : Nat} {a b c tg : Expr} {ea eb ec : Ex} {pos p2 p : Pos}
/-- a clause's condition -/
def rc (C : Cn) (Γ : Gam) (e : Oe) : TT := fun σ H Q => ∃ B G b ρ c b', StOk B G H b ∧ EnvOk C.K B G H C.bs Γ σ ρ ∧ evc C.Φ ρ e b = some (c, b') ∧ ∀ G' H', Post B G H G' b' H' → Q c H'
theorem wkTs {ifs : List Expr} {t t' : TT} (h : PTs X ifs t) (w : ∀ σ H Q, t' σ H Q → t σ H Q) : PTs X ifs t' := ⟨fun pins s σ H Q I q => h.run pins s σ H Q I (w σ H Q q)⟩
theorem c_no : PTs X [] (rc C Γ .no) := wkTs pts_nil fun σ H Q ⟨B, G, b, ρ, c, b', st, en, he, q⟩ => by
  obtain ⟨rfl, rfl⟩ := ret_some he
  exact q G H (.refl st)
theorem c_yes (h : PT X a (rt C Γ ea)) : PTs X [a] (rc C Γ (.yes ea)) := wkTs (pts_one h) fun σ H Q q => q
/-- what a walk yields: a frozen thing, or a new pair -/
def Item (K : PySem.W.Frag) (G Hi Hx : Hp) (pr : Bool) (x : V) (d : D) : Prop := (Hx = Hi ∧ Rp K G x d) ∨ (pr = true ∧ ∃ T a b da db, x = .ref T ∧ Hi T = none ∧ Hx = upd Hi T (.tup [a, b]) ∧ d = .tup [da, db] ∧ Rp K G a da ∧ Rp K G b db)
theorem Item.mono {K : PySem.W.Frag} {G G' Hi Hx : Hp} {pr : Bool} {x : V} {d : D} (h : Item K G Hi Hx pr x d) (g : ∀ a o, G a = some o → G' a = some o) : Item K G' Hi Hx pr x d :=
  h.imp (fun z => ⟨z.1, z.2.mono g⟩) fun ⟨hp, T, a, b, da, db, z1, z2, z3, z4, z5, z6⟩ => ⟨hp, T, a, b, da, db, z1, z2, z3, z4, z5.mono g, z6.mono g⟩
def isTp : Tg → Bool
  | .tp _ => true
  | _ => false
/-- an item that comes is what the target takes -/
theorem item_in {K : PySem.W.Frag} {B : Addr} {G Hi Hx : Hp} {bg : Bg} {x : V} {d : D} {pr : Bool} {t : Tg} {ρ ρ' : Rho} (st : StOk B G Hi bg) (y : Item K G Hi Hx pr x d) (hp : pr = true → isTp t = true) (hb : bindT t d ρ = some ρ') : Post B G Hi G bg Hx ∧ relG K G Hx t x d := by
  rcases y with ⟨rfl, r⟩ | ⟨hpr, T, a, b, da, db, rfl, hT, rfl, rfl, ra, rb⟩
  · exact ⟨.refl st, r.relG st.sub hb⟩
  · refine ⟨st.laid hT, ?_⟩
    cases t with
    | nm i => exact absurd (hp hpr) (by simp [isTp])
    | tp ts => exact ⟨T, [a, b], [da, db], rfl, .inl ⟨rfl, .inl (.inl upd_same)⟩, .cons ra (.cons rb .nil)⟩
theorem Sub.relG {K : PySem.W.Frag} {G Hi : Hp} {L : Addr} {t : Tg} {x : V} {d : D} (h : Dn.relG K G (rm Hi L) t x d) : Dn.relG K G Hi t x d := by
  cases t with
  | nm i => exact h
  | tp ts =>
    obtain ⟨T, vs, ds, rfl, ht, rs⟩ := h
    refine ⟨T, vs, ds, rfl, ?_, rs⟩
    rcases ht with ⟨e, h⟩ | ⟨e, h⟩
    · refine .inl ⟨e, ?_⟩
      rcases h with h | h
      · rcases h with h | ⟨ob, h⟩
        · exact .inl (.inl (rm_some h).2)
        · exact .inl (.inr ⟨ob, (rm_some h).2⟩)
      · exact .inr h
    · refine .inr ⟨e, ?_⟩
      rcases h with h | h
      · rcases h with h | ⟨ob, h⟩
        · exact .inl (.inl (rm_some h).2)
        · exact .inl (.inr ⟨ob, (rm_some h).2⟩)
      · exact .inr h
/-- .. with L out of sight -/
theorem item_rm {K : PySem.W.Frag} {B L : Addr} {G Hi Hx : Hp} {bg : Bg} {x : V} {d : D} {o : HO} {pr : Bool} {t : Tg} {ρ ρ' : Rho} (st : StOk B G (rm Hi L) bg) (hL : Hi L = some o) (y : Item K G Hi Hx pr x d) (hp : pr = true → isTp t = true) (hb : bindT t d ρ = some ρ') :
    Post B G (rm Hi L) G bg (rm Hx L) ∧ relG K G Hx t x d ∧ Hx L = some o := by
  have key : Post B G (rm Hi L) G bg (rm Hx L) ∧ relG K G (rm Hx L) t x d := by
    refine item_in st ?_ hp hb
    rcases y with ⟨rfl, r⟩ | ⟨hpr, T, a, b, da, db, rfl, hT, rfl, rfl, ra, rb⟩
    · exact .inl ⟨rfl, r⟩
    · have ne : T ≠ L := fun z => by subst z; rw [hL] at hT; cases hT
      exact .inr ⟨hpr, T, a, b, da, db, rfl, by rw [rm_ne ne]; exact hT, rm_upd ne, rfl, ra, rb⟩
  refine ⟨key.1, Sub.relG key.2, ?_⟩
  rcases y with ⟨rfl, _⟩ | ⟨_, T, a, b, da, db, _, hT, rfl, _⟩
  · exact hL
  · have ne : L ≠ T := fun z => by subst z; rw [hL] at hT; cases hT
    rw [upd_ne ne]; exact hL
/-- one turn of a comprehension -/
def lcF (Φ : Nat → List D → M D) (ρ0 : Rho) (tg : Tg) (c : Oe) (elt : Ex) (x : D) : M (List D) := bnd (lift (bindT tg x ρ0)) fun ρ2 => bnd (evc Φ ρ2 c) fun t =>
  if t = true then bnd (ev Φ ρ2 elt) fun y => ret [y] else ret []
/-- an element is as owned as it is told to be: what is a slot's own is not -/
def okE (C : Cn) (Γ : Gam) (e : Ex) : Prop := chain e = false ∨ lv C.own Γ e = 0
def lvE (C : Cn) (Γ : Gam) (e : Ex) : Nat := min 9 (lv C.own Γ e)
theorem rd_fresh {σ : L2.St} {H : Hp} {Q : VK} (ok : okE C Γ ea) {B : Addr} {G : Hp} {b b' : Bg} {ρ : Rho} {d : D} (st : StOk B G H b) (en : EnvOk C.K B G H C.bs Γ σ ρ) (he : ev C.Φ ρ ea b = some (d, b'))
    (q : ∀ v G' H' fp, Post B G H G' b' H' → RO C.K G' B H' (lvE C Γ ea) v d fp → fp.Nodup → (∀ a ∈ fp, H a = none) → Q v H') : rd C 9 Γ ea σ H Q :=
  ⟨B, G, b, ρ, d, b', st, en, he, fun v G' H' fp P ⟨k, k1, k2, R⟩ F => by
    cases hce : chain ea with
    | false =>
      obtain ⟨f1, f2⟩ := F hce
      have e := k2 hce
      exact q v G' H' fp P (R.cast (by rw [e]; rfl)) f1 f2
    | true =>
      have hl : lv C.own Γ ea = 0 := by
        rcases ok with z | z
        · rw [hce] at z; cases z
        · exact z
      have R0 : RO C.K G' B H' 0 v d fp := R.cast (by rw [hl] at k1; omega)
      obtain ⟨rfl, r⟩ := R0
      exact q v G' H' [] P (by unfold lvE; rw [hl]; exact ⟨rfl, r⟩) List.nodup_nil (by simp)⟩
theorem ROs.app {R : V → D → List Addr → Prop} {v : V} {d : D} {g : List Addr} : ∀ {vs : List V} {ds : List D} {f : List Addr}, ROs R vs ds f → R v d g → ROs R (vs ++ [v]) (ds ++ [d]) (f ++ g) := by
  intro vs ds f h r
  induction h with
  | nil => simpa using ROs.cons (f := g) (g := []) r .nil
  | cons r1 t ih => rw [List.append_assoc]; exact .cons r1 ih
/-- the state amid a comprehension -/
def LcP (C : Cn) (F : D → M (List D)) (k0 : Nat) (B : Addr) (G0 H0 : Hp) (L : Addr) (xs : List D) (res : List D) (bE : Bg) (i : Nat) (H : Hp) : Prop :=
  ∃ G b acc r1 r2 f, H L = some (.lst acc) ∧ Post B G0 H0 G b (rm H L) ∧ ROs (RO C.K G B (rm H L) k0) acc r1 f ∧ f.Nodup ∧ (∀ a ∈ f, H0 a = none) ∧ loopM F (xs.drop i) b = some (r2, bE) ∧ res = r1 ++ r2 ∧ acc.length ≤ i
theorem lc_ends {K : PySem.W.Frag} {F : D → M (List D)} {k0 : Nat} {B L : Addr} {G0 H0 H : Hp} {xs res : List D} {bE : Bg} (hL : H0 L = none) (h : LcP C F k0 B G0 H0 L xs res bE xs.length H) :
    ∃ G f, Post B G0 H0 G bE H ∧ RO C.K G B H (k0 + 1) (.ref L) (.lst res) f ∧ f.Nodup ∧ ∀ a ∈ f, H0 a = none := by
  obtain ⟨G, b, acc, r1, r2, f, hl, P, rs, nd, fr, he, rfl, _⟩ := h
  rw [List.drop_length] at he
  obtain ⟨rfl, rfl⟩ := ret_some he
  rw [List.append_nil]
  have gL : G L = none := P.st.gnone rm_same
  refine ⟨G, L :: f, P.unrm, .inr (.inl ⟨L, acc, r1, f, rfl, rfl, rfl, Ne.symm P.st.rmB, gL, hl, rs.imp fun v d g _ r => r.unrm⟩), ?_, ?_⟩
  · refine List.nodup_cons.mpr ⟨fun z => ?_, nd⟩
    have key : ∀ {vs : List V} {ds : List D} {f : List Addr}, ROs (RO C.K G B (rm H L) k0) vs ds f → L ∉ f := by
      intro vs ds f h
      induction h with
      | nil => simp
      | cons r t ih =>
        intro z
        rcases List.mem_append.mp z with z | z
        · exact r.notD z
        · exact ih z
    exact key rs z
  · intro a ha
    rcases List.mem_cons.mp ha with rfl | ha
    · exact hL
    · exact fr a ha
variable {elt tgt iter : Expr} {scope : Scope} {ifs : List Expr} {own : List (Str × Nat)} {eelt : Ex} {etg : Tg} {eit : Dn.It} {eif : Oe}
theorem lc_rd (hK : C.K = X.K) (hb : ∀ i ∈ own.map (·.2), C.bs ≠ some i) (ho : ∀ i ∈ slots etg, i ∈ own.map (·.2)) (oe : okE C (setz Γ (own.map (·.2))) eelt) (hpt : itPair eit = true → isTp etg = true) {σ : L2.St} {H : Hp} {Q : VK} (hh : rd C m Γ (.lc eelt (own.map (·.2)) etg eit eif) σ H Q) :
    tLc (riL C Γ eit) (rg X.K etg) (rc C (setz Γ (own.map (·.2))) eif) (rd C 9 (setz Γ (own.map (·.2))) eelt) (own.map (·.2)) σ H Q := by
  obtain ⟨B, G, bg, ρ, d, b', st, en, hev, q⟩ := rd_out hh
  obtain ⟨xs, b1, h1, he1⟩ := bnd_some hev
  obtain ⟨res, b2, h2, he2⟩ := bnd_some he1
  obtain ⟨rfl, rfl⟩ := ret_some he2
  have h2 : loopM (lcF C.Φ (wipeR ρ (own.map (·.2))) etg eif eelt) xs b1 = some (res, b') := h2
  refine ⟨B, G, bg, ρ, xs, b1, st, en, h1, fun J G1 H1 P1 ⟨Gd, Y, w, w1, w2⟩ hlen L hL => ?_⟩
  have en1 := en.post P1
  generalize hF : lcF C.Φ (wipeR ρ (own.map (·.2))) etg eif eelt = F at h2
  refine lc_it w (LcP C F (lvE C (setz Γ (own.map (·.2))) eelt) B G1 H1 L xs res b') ?_ ?_ ?_ ?_
  · refine ⟨G1, b1, [], [], res, [], upd_same, ?_, .nil, List.nodup_nil, by simp, by simpa using h2, rfl, Nat.le_refl _⟩
    rw [rm_updD, rm_none hL]
    exact .refl P1.st
  · rintro i H2 _ ⟨G2, b2, acc, r1, r2, f, hl, P2, _⟩
    exact w1 H2 (fun a o e => P2.unrm.st.sub a o (P2.gs a o e)) P2.unrm.kp
  · rintro i x H2 H3 hi' ⟨G2, b2, acc, r1, r2, f, hl, P2, rs, nd, fr, he3, rfl, hacc⟩ y
    have hxi : xs[i]? = some xs[i] := List.getElem?_eq_getElem hi'
    rw [List.drop_eq_getElem_cons hi'] at he3
    obtain ⟨ys, b3, h3, he4⟩ := bnd_some he3
    obtain ⟨r3, b4, h4, he5⟩ := bnd_some he4
    obtain ⟨rfl, rfl⟩ := ret_some he5
    subst hF
    obtain ⟨ρ2, b5, h5, he6⟩ := bnd_some h3
    obtain ⟨hb5, rfl⟩ := lift_some h5
    obtain ⟨t, b6, h6, he7⟩ := bnd_some he6
    -- the item
    have yy : Item C.K G2 H2 H3 (itPair eit) x xs[i] := Item.mono (w2 i H2 x H3 xs[i] y hxi) P2.gs
    obtain ⟨P3, rx, hl3⟩ := item_rm P2.st hl yy hpt hb5
    have P23 := P2.trans P3
    have enB : EnvOk C.K B G2 H3 C.bs (setz Γ (own.map (·.2))) (wipe σ (own.map (·.2))) (wipeR ρ (own.map (·.2))) := ((en1.post P23).unrm).blk hb
    refine ⟨EnvOk C.K B G2 H3 C.bs (setz Γ (own.map (·.2))), G2, _, _, ρ2, P3.st.unrm.sub, by rw [← hK]; exact rx, enB, fun i hi σ ρ v d hl e r => e.set0 hl (by rw [lvl_setz, if_pos (by simpa using ho i hi)]) (hb i (ho i hi)) (by rw [hK]; exact r), hb5, fun σ2 en2 wp => ⟨?_, ?_⟩⟩
    · rw [wp _ ho]
      have : ∀ vs : List Nat, wipe (wipe σ vs) vs = wipe σ vs := fun vs => by
        have key : ∀ us, (∀ i ∈ us, i ∈ vs) → wipe (wipe σ us) vs = wipe σ vs := by
          intro us
          induction us with
          | nil => intro _; rfl
          | cons u us ih =>
            intro hu
            show wipe ((wipe σ us).set u none) vs = _
            rw [wipe_set (hu u List.mem_cons_self)]
            exact ih fun i hi => hu i (List.mem_cons_of_mem _ hi)
        exact key vs fun _ h => h
      exact this _
    · refine ⟨B, G2, _, ρ2, t, b6, P3.st.unrm, en2, h6, fun G4 H4 P4 => ?_⟩
      have P4r := P4.rm P3.st hl3
      have hl4 := P4.kp L _ (Ne.symm P3.st.rmB) hl3
      have rs4 : ROs (RO C.K G4 B (rm H4 L) (lvE C (setz Γ (own.map (·.2))) eelt)) acc r1 f := rs.imp fun v d g _ r => (r.post P3).post P4r
      rcases ite_some he7 with ⟨c, he8⟩ | ⟨c, he8⟩
      · dsimp only
        rw [if_pos c]
        obtain ⟨yv, b7, h7, he9⟩ := bnd_some he8
        obtain ⟨rfl, rfl⟩ := ret_some he9
        refine rd_fresh oe P4.st (en2.post P4) h7 fun v G5 H5 g P5 R nd5 fr5 => ?_
        have P5r := P5.rm P4r.st hl4
        have hl5 := P5.kp L _ (Ne.symm P4r.st.rmB) hl4
        refine ⟨acc, hl5, ?_, G5, _, acc ++ [v], r1 ++ [yv], r3, f ++ g, upd_same, ?_, ?_, ?_, ?_, h4, by simp, by rw [List.length_append]; simp; exact hacc⟩
        · rw [sizeLine_eq]; have hline : xs.length ≤ 16777216 := hlen; omega
        · rw [rm_updD]
          exact ((P2.trans P3).trans P4r).trans P5r
        · rw [rm_updD]
          have gne : ∀ a ∈ g, a ≠ L := fun a ha z => by
            subst z
            rw [fr5 a ha] at hl4; cases hl4
          exact ROs.app (rs4.imp fun v d g _ r => r.post P5r) (R.keep (fun _ _ e => e) (fun a ha => (R.fp a ha).2.1) fun a ha => rm_ne (gne a ha))
        · refine List.nodup_append.mpr ⟨nd, nd5, fun a ha c hc e => ?_⟩
          subst e
          have key : ∀ {vs : List V} {ds : List D} {f : List Addr}, ROs (RO C.K G4 B (rm H4 L) (lvE C (setz Γ (own.map (·.2))) eelt)) vs ds f → ∀ a ∈ f, H4 a ≠ none := by
            intro vs ds f h
            induction h with
            | nil => intro a ha; simp at ha
            | cons r t ih =>
              intro a ha
              rcases List.mem_append.mp ha with ha | ha
              · obtain ⟨_, _, o, e, _⟩ := r.fp a ha
                rw [(rm_some e).2]; simp
              · exact ih a ha
          exact key rs4 a ha (fr5 a hc)
        · intro a ha
          rcases List.mem_append.mp ha with ha | ha
          · exact fr a ha
          · have z := fr5 a ha
            cases e : H1 a with
            | none => rfl
            | some o =>
              have nb : a ≠ B := (R.fp a ha).1
              have e1 := (rm_some (((P2.trans P3).trans P4r).kp a o nb e)).2
              rw [z] at e1; cases e1
      · dsimp only
        rw [if_neg c]
        obtain ⟨rfl, rfl⟩ := ret_some he8
        exact ⟨G4, _, acc, r1, r3, f, hl4, (P2.trans P3).trans P4r, rs4, nd, fr, h4, by simp, Nat.le_succ_of_le hacc⟩
  · intro H2 h
    obtain ⟨G2, f, P2, R, nd, fr⟩ := lc_ends (K := C.K) hL h
    obtain ⟨G3, f3, P3, R3, n3, h3, _⟩ := P2.lower (m := min m (min 9 (lv C.own (setz Γ (own.map (·.2))) eelt + 1))) (by unfold lvE; omega) R nd fr
    exact qT P1 P3 R3 ⟨n3, h3⟩ q
theorem s_lc (hK : C.K = X.K) (hx : XOk X n) (hN : X.N.Nodup) (hi : PI X tgt iter (ri C Γ eit)) (ok : BlkOk X.N X.env.scope scope own)
    (hg : ∀ (s : Shared) (H : Hp) (Ca : Addr) (cl : List (Str × Addr)) (fp : List Addr), PG (X.blk s H scope (compEnvC scope cl Ca X.env) fp) tgt (rg X.K etg))
    (ht : ∀ (s : Shared) (H : Hp) (Ca : Addr) (cl : List (Str × Addr)) (fp : List Addr), PTs (X.blk s H scope (compEnvC scope cl Ca X.env) fp) ifs (rc C (setz Γ (own.map (·.2))) eif))
    (he : ∀ (s : Shared) (H : Hp) (Ca : Addr) (cl : List (Str × Addr)) (fp : List Addr), PE (X.blk s H scope (compEnvC scope cl Ca X.env) fp) elt (rd C 9 (setz Γ (own.map (·.2))) eelt))
    (hs : ∀ x, foldedSetIterable iter X.env x = pure x) (hb : ∀ i ∈ own.map (·.2), C.bs ≠ some i) (ho : ∀ i ∈ slots etg, i ∈ own.map (·.2)) (oe : okE C (setz Γ (own.map (·.2))) eelt) (hpt : itPair eit = true → isTp etg = true) :
    PE X (.ListComp elt [⟨tgt, iter, ifs, 0⟩] scope pos) (rd C m Γ (.lc eelt (own.map (·.2)) etg eit eif)) :=
  wkE (pe_lc hx.calm hN (wkI hi fun σ H R h => ri_of h) ok hg ht he hs) fun σ H Q hh => lc_rd hK hb ho oe hpt hh
end
end Dn

set_option Elab.async false
set_option linter.all false
set_option maxRecDepth 100000
/-! Dn, part M2: comprehensions with two clauses, dict comprehensions. -/
namespace Dn
open PySem PySem.Spec PyProof.Rows L2
section
variable {X : Cx} {C : Cn} {Γ : Gam} {m n ma mb mc : Nat} {a b c tg : Expr} {ea eb ec : Ex} {pos p2 p : Pos}
theorem wipe_idem {σ : L2.St} (vs : List Nat) : wipe (wipe σ vs) vs = wipe σ vs := by
  have key : ∀ us, (∀ i ∈ us, i ∈ vs) → wipe (wipe σ us) vs = wipe σ vs := by
    intro us
    induction us with
    | nil => intro _; rfl
    | cons u us ih =>
      intro hu
      show wipe ((wipe σ us).set u none) vs = _
      rw [wipe_set (hu u List.mem_cons_self)]
      exact ih fun i hi => hu i (List.mem_cons_of_mem _ hi)
  exact key vs fun _ h => h
/-- one turn of the inner clause -/
def lcI (Φ : Nat → List D → M D) (ρ2 : Rho) (tg2 : Tg) (c2 : Oe) (elt : Ex) (x2 : D) : M (List D) := bnd (lift (bindT tg2 x2 (wipeR ρ2 (slots tg2)))) fun ρ3 => bnd (evc Φ ρ3 c2) fun t2 =>
  if t2 = true then bnd (ev Φ ρ3 elt) fun y => ret [y] else ret []
/-- one turn of the outer clause -/
def lcO (Φ : Nat → List D → M D) (ρ0 : Rho) (tg : Tg) (c : Oe) (tg2 : Tg) (it2 : Dn.It) (c2 : Oe) (elt : Ex) (x : D) : M (List D) := bnd (lift (bindT tg x ρ0)) fun ρ2 => bnd (evc Φ ρ2 c) fun t =>
  if t = true then bnd (evi Φ ρ2 it2) fun xs2 => loopM (lcI Φ ρ2 tg2 c2 elt) xs2 else ret []
/-- the state amid: what is gathered is frozen -/
def L2P (C : Cn) (F : D → M (List D)) (B : Addr) (G0 H0 : Hp) (L : Addr) (xs : List D) (res : List D) (bE : Bg) (i : Nat) (H : Hp) : Prop :=
  ∃ G b acc r1 r2, H L = some (.lst acc) ∧ Post B G0 H0 G b (rm H L) ∧ Rps C.K G acc r1 ∧ loopM F (xs.drop i) b = some (r2, bE) ∧ res = r1 ++ r2
/-- .. amid the inner clause; F, xs: what is still to be done by the outer -/
def L3P (C : Cn) (F2 F : D → M (List D)) (B : Addr) (G0 H0 : Hp) (L : Addr) (ys xs : List D) (res : List D) (bE : Bg) (j : Nat) (H : Hp) : Prop :=
  ∃ G b acc r1 r2 b2 r3, H L = some (.lst acc) ∧ Post B G0 H0 G b (rm H L) ∧ Rps C.K G acc r1 ∧ loopM F2 (ys.drop j) b = some (r2, b2) ∧ loopM F xs b2 = some (r3, bE) ∧ res = r1 ++ (r2 ++ r3)
/-- the new list at the end -/
theorem new_lst {K : PySem.W.Frag} {B L : Addr} {G H G1 H1 G2 H2 : Hp} {b b' : Bg} {acc : List V} {r : List D} {Q : VK} (hL : H1 L = none) (hl : H2 L = some (.lst acc)) (P1 : Post B G H G1 b H1) (P2 : Post B G1 H1 G2 b' (rm H2 L)) (rs : Rps K G2 acc r)
    (q : ∀ v G' H' fp, Post B G H G' b' H' → RO K G' B H' (min m 1) v (.lst r) fp → (false = false → fp.Nodup ∧ ∀ a ∈ fp, H a = none) → Q v H') : Q (.ref L) H2 := by
  have R : RO K G2 B H2 1 (.ref L) (.lst r) [L] := .inr (.inl ⟨L, acc, r, [], rfl, rfl, rfl, Ne.symm P2.st.rmB, P2.st.gnone rm_same, hl, rs.ros⟩)
  obtain ⟨G3, f3, P3, R3, n3, h3, _⟩ := P2.unrm.lower (m := min m 1) (by omega) R (by simp) (by simpa using hL)
  exact qT P1 P3 R3 ⟨n3, h3⟩ q
/-- the new dict at the end -/
theorem new_dct {K : PySem.W.Frag} {B L : Addr} {G H G1 H1 G2 H2 : Hp} {b b' : Bg} {acc : List (Key × V)} {r : List (D × D)} {Q : VK} (hL : H1 L = none) (hl : H2 L = some (.dK acc)) (P1 : Post B G H G1 b H1) (P2 : Post B G1 H1 G2 b' (rm H2 L)) (rs : Rpk K G2 acc r)
    (q : ∀ v G' H' fp, Post B G H G' b' H' → RO K G' B H' (min m 1) v (.dct r) fp → (false = false → fp.Nodup ∧ ∀ a ∈ fp, H a = none) → Q v H') : Q (.ref L) H2 := by
  have R : RO K G2 B H2 1 (.ref L) (.dct r) [L] := .inr (.inr ⟨L, acc, r, [], rfl, rfl, rfl, Ne.symm P2.st.rmB, P2.st.gnone rm_same, hl, rs.rok⟩)
  obtain ⟨G3, f3, P3, R3, n3, h3, _⟩ := P2.unrm.lower (m := min m 1) (by omega) R (by simp) (by simpa using hL)
  exact qT P1 P3 R3 ⟨n3, h3⟩ q
variable {elt tgt iter tgt2 iter2 : Expr} {scope : Scope} {ifs ifs2 : List Expr} {own : List (Str × Nat)} {eelt ek : Ex} {etg etg2 : Tg} {eit eit2 : Dn.It} {eif eif2 : Oe}
theorem lc2_rd (hK : C.K = X.K) (hb : ∀ i ∈ own.map (·.2), C.bs ≠ some i) (ho : ∀ i ∈ slots etg, i ∈ own.map (·.2)) (ho2 : ∀ i ∈ slots etg2, i ∈ own.map (·.2)) (hpt : itPair eit = true → isTp etg = true) (hpt2 : itPair eit2 = true → isTp etg2 = true)
    {σ : L2.St} {H : Hp} {Q : VK} (hh : rd C m Γ (.lc2 eelt (own.map (·.2)) etg eit eif etg2 eit2 eif2) σ H Q) :
    tLc2 (riL C Γ eit) (rg X.K etg) (rc C (setz Γ (own.map (·.2))) eif) (ri C (setz Γ (own.map (·.2))) eit2) (rg X.K etg2) (rc C (setz Γ (own.map (·.2))) eif2) (rd C 0 (setz Γ (own.map (·.2))) eelt) (own.map (·.2)) (slots etg2) σ H Q := by
  obtain ⟨B, G, bg, ρ, d, b', st, en, hev, q⟩ := rd_out hh
  obtain ⟨xs, b1, h1, he1⟩ := bnd_some hev
  obtain ⟨res, b2, h2, he2⟩ := bnd_some he1
  rcases ite_some he2 with ⟨hlin, he2⟩ | ⟨_, he2⟩
  rotate_left
  · exact (fail_some (b := b2) he2).elim
  obtain ⟨rfl, rfl⟩ := ret_some he2
  have h2 : loopM (lcO C.Φ (wipeR ρ (own.map (·.2))) etg eif etg2 eit2 eif2 eelt) xs b1 = some (res, b') := h2
  refine ⟨B, G, bg, ρ, xs, b1, st, en, h1, fun J G1 H1 P1 ⟨Gd, Y, w, w1, w2⟩ hlen L hL => ?_⟩
  have en1 := en.post P1
  generalize hF : lcO C.Φ (wipeR ρ (own.map (·.2))) etg eif etg2 eit2 eif2 eelt = F at h2
  refine ⟨fun i m H => m = xs.length - i ∧ i ≤ xs.length ∧ L2P C F B G1 H1 L xs res b' i H, ⟨xs.length, by simp, Nat.zero_le _, G1, b1, [], [], res, upd_same, ?_, .nil, by simpa using h2, rfl⟩, ?_⟩
  · rw [rm_updD, rm_none hL]
    exact .refl P1.st
  rintro i m2 H2 ⟨rfl, hi, G2, b2, acc, r1, r2, hl, P2, rs, he3, rfl⟩
  have guard : Gd H2 := w1 H2 (fun a o e => P2.unrm.st.sub a o (P2.gs a o e)) P2.unrm.kp
  have gL : ∀ {G : Hp} {H : Hp} {b : Bg}, StOk B G (rm H L) b → G L = none := fun s => s.gnone rm_same
  by_cases hlt : i < xs.length
  rotate_left
  · have e : i = xs.length := by omega
    subst e
    refine .inl ⟨w.stops H2 guard, ?_⟩
    rw [List.drop_length] at he3
    obtain ⟨rfl, rfl⟩ := ret_some he3
    rw [List.append_nil] at q
    exact new_lst hL hl P1 P2 rs q
  refine .inr ⟨w.goes i H2 hlt guard, L2P C F B G1 H1 L xs (r1 ++ r2) b' (i + 1), fun H' p' => ⟨xs.length - (i + 1), by omega, rfl, hlt, p'⟩, fun x H3 y => ?_⟩
  have y := w.yields i H2 x H3 hlt guard y
  have hxi : xs[i]? = some xs[i] := List.getElem?_eq_getElem hlt
  rw [List.drop_eq_getElem_cons hlt] at he3
  obtain ⟨ys1, b3, h3, he4⟩ := bnd_some he3
  obtain ⟨r3, b4, h4, he5⟩ := bnd_some he4
  obtain ⟨rfl, rfl⟩ := ret_some he5
  rw [← hF] at h3
  obtain ⟨ρ2, b5, h5, he6⟩ := bnd_some h3
  obtain ⟨hb5, rfl⟩ := lift_some h5
  obtain ⟨t, b6, h6, he7⟩ := bnd_some he6
  have yy : Item C.K G2 H2 H3 (itPair eit) x xs[i] := Item.mono (w2 i H2 x H3 xs[i] y hxi) P2.gs
  obtain ⟨P3, rx, hl3⟩ := item_rm P2.st hl yy hpt hb5
  have P23 := P2.trans P3
  have enB : EnvOk C.K B G2 (rm H3 L) C.bs (setz Γ (own.map (·.2))) (wipe σ (own.map (·.2))) (wipeR ρ (own.map (·.2))) := (en1.post P23).blk hb
  refine ⟨EnvOk C.K B G2 (rm H3 L) C.bs (setz Γ (own.map (·.2))), G2, _, _, ρ2, P3.st.unrm.sub, by rw [← hK]; exact rx, enB, fun i hi σ ρ v d hl e r => e.set0 hl (by rw [lvl_setz, if_pos (by simpa using ho i hi)]) (hb i (ho i hi)) (by rw [hK]; exact r), hb5, fun σ2 en2 wp => ⟨?_, ?_⟩⟩
  · rw [wp _ ho]
    exact wipe_idem _
  refine ⟨B, G2, _, ρ2, t, b6, P3.st.unrm, en2.unrm, h6, fun G4 H4 P4 => ?_⟩
  have P4r := P4.rm P3.st hl3
  have hl4 := P4.kp L _ (Ne.symm P3.st.rmB) hl3
  have rs4 : Rps C.K G4 acc r1 := (rs.mono P3.gs).mono P4r.gs
  rcases ite_some he7 with ⟨c, he8⟩ | ⟨c, he8⟩
  rotate_left
  · dsimp only
    rw [if_neg c]
    obtain ⟨rfl, rfl⟩ := ret_some he8
    exact ⟨G4, _, acc, r1, r3, hl4, (P2.trans P3).trans P4r, rs4, h4, by simp⟩
  dsimp only
  rw [if_pos c]
  obtain ⟨ys, b7, h7, h8⟩ := bnd_some he8
  refine ⟨B, G4, b6, ρ2, ys, b7, P4.st, (en2.unrm).post P4, h7, fun J1 G5 H5 P5 ⟨Gd1, Y1, v, v1, v2⟩ hlen1 => ?_⟩
  have P5r := P5.rm P4r.st hl4
  have hl5 := P5.kp L _ (Ne.symm P4r.st.rmB) hl4
  have PP := ((P2.trans P3).trans P4r).trans P5r
  generalize hF2 : lcI C.Φ ρ2 etg2 eif2 eelt = F2 at h8
  refine ⟨fun j k H => k = ys.length - j ∧ j ≤ ys.length ∧ L3P C F2 F B G5 (rm H5 L) L ys (xs.drop (i + 1)) (r1 ++ (ys1 ++ r3)) b' j H, ⟨ys.length, by simp, Nat.zero_le _, G5, b7, acc, r1, ys1, b3, r3, hl5, .refl P5r.st, rs4.mono P5r.gs, by simpa using h8, h4, rfl⟩, ?_⟩
  rintro j k2 H6 ⟨rfl, hj, G6, b8, acc6, s1, s2, b9, s3, hl6, P6, rs6, k1, k2, hres⟩
  have guard1 : Gd1 H6 := v1 H6 fun a o e => P6.unrm.st.sub a o (P6.gs a o e)
  by_cases hjlt : j < ys.length
  rotate_left
  · have e : j = ys.length := by omega
    subst e
    rw [List.drop_length] at k1
    obtain ⟨rfl, rfl⟩ := ret_some k1
    exact .inl ⟨v.stops H6 guard1, G6, _, acc6, s1, s3, hl6, PP.trans P6, rs6, k2, by simpa using hres⟩
  refine .inr ⟨v.goes j H6 hjlt guard1, L3P C F2 F B G5 (rm H5 L) L ys (xs.drop (i + 1)) (r1 ++ (ys1 ++ r3)) b' (j + 1), fun H' p' => ⟨ys.length - (j + 1), by omega, rfl, hjlt, p'⟩, fun x2 H7 z => ?_⟩
  have z := v.yields j H6 x2 H7 hjlt guard1 z
  have hyj : ys[j]? = some ys[j] := List.getElem?_eq_getElem hjlt
  rw [List.drop_eq_getElem_cons hjlt] at k1
  obtain ⟨zs, b10, k3, k4⟩ := bnd_some k1
  obtain ⟨s4, b11, k5, k6⟩ := bnd_some k4
  obtain ⟨rfl, rfl⟩ := ret_some k6
  rw [← hF2] at k3
  obtain ⟨ρ3, b12, k7, k8⟩ := bnd_some k3
  obtain ⟨hb7, rfl⟩ := lift_some k7
  obtain ⟨t2, b13, k9, k10⟩ := bnd_some k8
  have zz : Item C.K G6 H6 H7 (itPair eit2) x2 ys[j] := Item.mono (v2 j H6 x2 H7 ys[j] z hyj) P6.gs
  obtain ⟨P7, rx2, hl7⟩ := item_rm P6.st hl6 zz hpt2 hb7
  have enC : EnvOk C.K B G6 H7 C.bs (setz Γ (own.map (·.2))) (wipe σ2 (slots etg2)) (wipeR ρ2 (slots etg2)) := ((((en2.post P4r).post P5r).post (P6.trans P7)).unrm).wipe fun i hi => hb i (ho2 i hi)
  refine ⟨EnvOk C.K B G6 H7 C.bs (setz Γ (own.map (·.2))), G6, _, _, ρ3, P7.st.unrm.sub, by rw [← hK]; exact rx2, enC, fun i hi σ ρ v d hl e r => e.set0 hl (by rw [lvl_setz, if_pos (by simpa using ho2 i hi)]) (hb i (ho2 i hi)) (by rw [hK]; exact r), hb7, fun σ3 en3 wp3 => ⟨?_, ?_⟩⟩
  · rw [wp3 _ fun _ h => h]
    exact wipe_idem _
  refine ⟨B, G6, _, ρ3, t2, b13, P7.st.unrm, en3, k9, fun G8 H8 P8 => ?_⟩
  have P8r := P8.rm P7.st hl7
  have hl8 := P8.kp L _ (Ne.symm P7.st.rmB) hl7
  have rs8 : Rps C.K G8 acc6 s1 := (rs6.mono P7.gs).mono P8r.gs
  rcases ite_some k10 with ⟨c2, k11⟩ | ⟨c2, k11⟩
  rotate_left
  · dsimp only
    rw [if_neg c2]
    obtain ⟨rfl, rfl⟩ := ret_some k11
    exact ⟨G8, _, acc6, s1, s4, b9, s3, hl8, (P6.trans P7).trans P8r, rs8, k5, k2, by simpa using hres⟩
  dsimp only
  rw [if_pos c2]
  obtain ⟨yv, b14, k12, k13⟩ := bnd_some k11
  obtain ⟨rfl, rfl⟩ := ret_some k13
  refine ⟨B, G8, b13, ρ3, yv, _, P8.st, en3.post P8, k12, fun v0 G9 H9 f P9 ⟨k0, hk0, _, R9⟩ _ => ?_⟩
  have P9r := P9.rm P8r.st hl8
  have hl9 := P9.kp L _ (Ne.symm P8r.st.rmB) hl8
  refine ⟨acc6, hl9, ?_, G9, _, acc6 ++ [v0], s1 ++ [yv], s4, b9, s3, upd_same, ?_, (rs8.mono P9r.gs).append (.cons (R9.cast (k := 0) (by omega)).2 .nil), k5, k2, by rw [hres]; simp⟩
  · rw [rs8.length, sizeLine_eq]
    have e := congrArg List.length hres
    simp only [List.length_append, List.length_cons, List.length_nil] at e hlin
    have : r1.length + (ys1.length + r3.length) ≤ 16777216 := hlin
    omega
  · rw [rm_updD]
    exact ((P6.trans P7).trans P8r).trans P9r
theorem s_lc2 (hK : C.K = X.K) (hx : XOk X n) (hN : X.N.Nodup) (hi : PI X tgt iter (riL C Γ eit)) (ok : BlkOk X.N X.env.scope scope own)
    (hg : ∀ (s : Shared) (H : Hp) (Ca : Addr) (cl : List (Str × Addr)) (fp : List Addr), PG (X.blk s H scope (compEnvC scope cl Ca X.env) fp) tgt (rg X.K etg))
    (ht : ∀ (s : Shared) (H : Hp) (Ca : Addr) (cl : List (Str × Addr)) (fp : List Addr), PTs (X.blk s H scope (compEnvC scope cl Ca X.env) fp) ifs (rc C (setz Γ (own.map (·.2))) eif))
    (hi2 : ∀ (s : Shared) (H : Hp) (Ca : Addr) (cl : List (Str × Addr)) (fp : List Addr), PI (X.blk s H scope (compEnvC scope cl Ca X.env) fp) tgt2 iter2 (ri C (setz Γ (own.map (·.2))) eit2))
    (hg2 : ∀ (s : Shared) (H : Hp) (Ca : Addr) (cl : List (Str × Addr)) (fp : List Addr), PG (X.blk s H scope (compEnvC scope cl Ca X.env) fp) tgt2 (rg X.K etg2))
    (ht2 : ∀ (s : Shared) (H : Hp) (Ca : Addr) (cl : List (Str × Addr)) (fp : List Addr), PTs (X.blk s H scope (compEnvC scope cl Ca X.env) fp) ifs2 (rc C (setz Γ (own.map (·.2))) eif2))
    (he : ∀ (s : Shared) (H : Hp) (Ca : Addr) (cl : List (Str × Addr)) (fp : List Addr), PE (X.blk s H scope (compEnvC scope cl Ca X.env) fp) elt (rd C 0 (setz Γ (own.map (·.2))) eelt))
    (hs : ∀ x, foldedSetIterable iter X.env x = pure x) (hs2 : ∀ env x, foldedSetIterable iter2 env x = pure x) (hb : ∀ i ∈ own.map (·.2), C.bs ≠ some i) (ho : ∀ i ∈ slots etg, i ∈ own.map (·.2)) (ho2 : ∀ i ∈ slots etg2, i ∈ own.map (·.2)) (hpt : itPair eit = true → isTp etg = true) (hpt2 : itPair eit2 = true → isTp etg2 = true) :
    PE X (.ListComp elt [⟨tgt, iter, ifs, 0⟩, ⟨tgt2, iter2, ifs2, 0⟩] scope pos) (rd C m Γ (.lc2 eelt (own.map (·.2)) etg eit eif etg2 eit2 eif2)) :=
  wkE (pe_lc2 hx.calm hN hi ok ho2 hg ht hi2 hg2 ht2 he hs hs2) fun σ H Q hh => lc2_rd hK hb ho ho2 hpt hpt2 hh
/-! ### dict comprehensions -/
def dcF (Φ : Nat → List D → M D) (ρ0 : Rho) (tg : Tg) (c : Oe) (k v : Ex) (kvs : List (D × D)) (x : D) : M (List (D × D)) := bnd (lift (bindT tg x ρ0)) fun ρ2 => bnd (evc Φ ρ2 c) fun t =>
  if t = true then bnd (ev Φ ρ2 k) fun y => bnd (ev Φ ρ2 v) fun z => if isKey y ∧ kvs.length < line then ret (dput kvs y z) else fail else ret kvs
def DcP (C : Cn) (F : List (D × D) → D → M (List (D × D))) (B : Addr) (G0 H0 : Hp) (L : Addr) (xs : List D) (res : List (D × D)) (bE : Bg) (i : Nat) (H : Hp) : Prop :=
  ∃ G b acc r1, H L = some (.dK acc) ∧ Post B G0 H0 G b (rm H L) ∧ Rpk C.K G acc r1 ∧ foldM F r1 (xs.drop i) b = some (res, bE)
variable {kx vx : Expr}
theorem dc_rd (hK : C.K = X.K) (hb : ∀ i ∈ own.map (·.2), C.bs ≠ some i) (ho : ∀ i ∈ slots etg, i ∈ own.map (·.2)) (hpt : itPair eit = true → isTp etg = true)
    {σ : L2.St} {H : Hp} {Q : VK} (hh : rd C m Γ (.dc ek eelt (own.map (·.2)) etg eit eif) σ H Q) :
    tDc (riL C Γ eit) (rg X.K etg) (rc C (setz Γ (own.map (·.2))) eif) (rd C 9 (setz Γ (own.map (·.2))) ek) (rd C 0 (setz Γ (own.map (·.2))) eelt) (own.map (·.2)) σ H Q := by
  obtain ⟨B, G, bg, ρ, d, b', st, en, hev, q⟩ := rd_out hh
  obtain ⟨xs, b1, h1, he1⟩ := bnd_some hev
  obtain ⟨res, b2, h2, he2⟩ := bnd_some he1
  obtain ⟨rfl, rfl⟩ := ret_some he2
  have h2 : foldM (dcF C.Φ (wipeR ρ (own.map (·.2))) etg eif ek eelt) [] xs b1 = some (res, b') := h2
  refine ⟨B, G, bg, ρ, xs, b1, st, en, h1, fun J G1 H1 P1 ⟨Gd, Y, w, w1, w2⟩ hlen L hL => ?_⟩
  have en1 := en.post P1
  generalize hF : dcF C.Φ (wipeR ρ (own.map (·.2))) etg eif ek eelt = F at h2
  refine ⟨fun i m H => m = xs.length - i ∧ i ≤ xs.length ∧ DcP C F B G1 H1 L xs res b' i H, ⟨xs.length, by simp, Nat.zero_le _, G1, b1, [], [], upd_same, ?_, .nil, by simpa using h2⟩, ?_⟩
  · rw [rm_updD, rm_none hL]
    exact .refl P1.st
  rintro i m2 H2 ⟨rfl, hi, G2, b2, acc, r1, hl, P2, rs, he3⟩
  have guard : Gd H2 := w1 H2 (fun a o e => P2.unrm.st.sub a o (P2.gs a o e)) P2.unrm.kp
  by_cases hlt : i < xs.length
  rotate_left
  · have e : i = xs.length := by omega
    subst e
    refine .inl ⟨w.stops H2 guard, ?_⟩
    rw [List.drop_length] at he3
    obtain ⟨rfl, rfl⟩ := ret_some he3
    exact new_dct hL hl P1 P2 rs q
  refine .inr ⟨w.goes i H2 hlt guard, DcP C F B G1 H1 L xs res b' (i + 1), fun H' p' => ⟨xs.length - (i + 1), by omega, rfl, hlt, p'⟩, fun x H3 y => ?_⟩
  have y := w.yields i H2 x H3 hlt guard y
  have hxi : xs[i]? = some xs[i] := List.getElem?_eq_getElem hlt
  rw [List.drop_eq_getElem_cons hlt] at he3
  obtain ⟨r2, b3, h3, h4⟩ := bnd_some he3
  rw [← hF] at h3
  obtain ⟨ρ2, b5, h5, he6⟩ := bnd_some h3
  obtain ⟨hb5, rfl⟩ := lift_some h5
  obtain ⟨t, b6, h6, he7⟩ := bnd_some he6
  have yy : Item C.K G2 H2 H3 (itPair eit) x xs[i] := Item.mono (w2 i H2 x H3 xs[i] y hxi) P2.gs
  obtain ⟨P3, rx, hl3⟩ := item_rm P2.st hl yy hpt hb5
  have P23 := P2.trans P3
  have enB : EnvOk C.K B G2 H3 C.bs (setz Γ (own.map (·.2))) (wipe σ (own.map (·.2))) (wipeR ρ (own.map (·.2))) := ((en1.post P23).unrm).blk hb
  refine ⟨EnvOk C.K B G2 H3 C.bs (setz Γ (own.map (·.2))), G2, _, _, ρ2, P3.st.unrm.sub, by rw [← hK]; exact rx, enB, fun i hi σ ρ v d hl e r => e.set0 hl (by rw [lvl_setz, if_pos (by simpa using ho i hi)]) (hb i (ho i hi)) (by rw [hK]; exact r), hb5, fun σ2 en2 wp => ⟨?_, ?_⟩⟩
  · rw [wp _ ho]
    exact wipe_idem _
  refine ⟨B, G2, _, ρ2, t, b6, P3.st.unrm, en2, h6, fun G4 H4 P4 => ?_⟩
  have P4r := P4.rm P3.st hl3
  have hl4 := P4.kp L _ (Ne.symm P3.st.rmB) hl3
  have rs4 : Rpk C.K G4 acc r1 := (rs.mono P3.gs).mono P4r.gs
  rcases ite_some he7 with ⟨c, he8⟩ | ⟨c, he8⟩
  rotate_left
  · dsimp only
    rw [if_neg c]
    obtain ⟨rfl, rfl⟩ := ret_some he8
    exact ⟨G4, _, acc, _, hl4, (P2.trans P3).trans P4r, rs4, h4⟩
  dsimp only
  rw [if_pos c]
  obtain ⟨yk, b7, h7, h8⟩ := bnd_some he8
  obtain ⟨yv, b8, h9, h10⟩ := bnd_some h8
  rcases ite_some h10 with ⟨⟨c1, c2⟩, h11⟩ | ⟨_, h11⟩
  rotate_left
  · exact (fail_some (b := b8) h11).elim
  obtain ⟨rfl, rfl⟩ := ret_some h11
  refine ⟨B, G4, b6, ρ2, yk, b7, P4.st, en2.post P4, h7, fun v0 G5 H5 f5 P5 ⟨_, _, _, R5⟩ _ => ?_⟩
  have P5r := P5.rm P4r.st hl4
  have hl5 := P5.kp L _ (Ne.symm P4r.st.rmB) hl4
  obtain ⟨kk, rfl⟩ := kD_of c1
  obtain ⟨rfl, hkk⟩ := kV_of (RO.ncRp (by cases kk <;> rfl) R5).2
  refine ⟨B, G5, b7, ρ2, yv, _, P5.st, (en2.post P4).post P5, h9, fun v1 G6 H6 f6 P6 ⟨_, _, _, R6⟩ _ => ?_⟩
  have P6r := P6.rm P5r.st hl5
  have hl6 := P6.kp L _ (Ne.symm P5r.st.rmB) hl5
  have rs6 : Rpk C.K G6 acc r1 := (rs4.mono P5r.gs).mono P6r.gs
  refine ⟨acc, kk, rfl, hl6, by rw [rs6.length]; rw [sizeLine_eq]; exact c2, G6, _, _, dput r1 (kD kk) yv, upd_same, ?_, rs6.put hkk (R6.cast (k := 0) (by omega)).2, h4⟩
  rw [rm_updD]
  exact (((P2.trans P3).trans P4r).trans P5r).trans P6r
theorem s_dc (hK : C.K = X.K) (hx : XOk X n) (hN : X.N.Nodup) (hi : PI X tgt iter (riL C Γ eit)) (ok : BlkOk X.N X.env.scope scope own)
    (hg : ∀ (s : Shared) (H : Hp) (Ca : Addr) (cl : List (Str × Addr)) (fp : List Addr), PG (X.blk s H scope (compEnvC scope cl Ca X.env) fp) tgt (rg X.K etg))
    (ht : ∀ (s : Shared) (H : Hp) (Ca : Addr) (cl : List (Str × Addr)) (fp : List Addr), PTs (X.blk s H scope (compEnvC scope cl Ca X.env) fp) ifs (rc C (setz Γ (own.map (·.2))) eif))
    (hk : ∀ (s : Shared) (H : Hp) (Ca : Addr) (cl : List (Str × Addr)) (fp : List Addr), PE (X.blk s H scope (compEnvC scope cl Ca X.env) fp) kx (rd C 9 (setz Γ (own.map (·.2))) ek))
    (he : ∀ (s : Shared) (H : Hp) (Ca : Addr) (cl : List (Str × Addr)) (fp : List Addr), PE (X.blk s H scope (compEnvC scope cl Ca X.env) fp) vx (rd C 0 (setz Γ (own.map (·.2))) eelt))
    (hs : ∀ x, foldedSetIterable iter X.env x = pure x) (hb : ∀ i ∈ own.map (·.2), C.bs ≠ some i) (ho : ∀ i ∈ slots etg, i ∈ own.map (·.2)) (hpt : itPair eit = true → isTp etg = true) :
    PE X (.DictComp kx vx [⟨tgt, iter, ifs, 0⟩] scope pos) (rd C m Γ (.dc ek eelt (own.map (·.2)) etg eit eif)) :=
  wkE (pe_dc hx.calm hN hi ok hg ht hk he hs) fun σ H Q hh => dc_rd hK hb ho hpt hh
end
end Dn

set_option Elab.async false
set_option linter.all false
set_option maxRecDepth 100000
/-! Dn, part Ky: walks over a slot's dict, which is locked meanwhile. -/
namespace Dn
open PySem PySem.Spec PyProof.Rows L2
section
variable {K : PySem.W.Frag} {G G' H H' : Hp} {B d : Addr} {b b' : Bg} {od : Obj} {kvs : List (Key × V)} {bs : Option Nat} {Γ : Gam} {σ : L2.St} {ρ : Rho}
theorem StOk.lock (s : StOk B G H b) (g : G d = some (.dK kvs)) (hd : H d = some (.dK kvs)) : StOk B G (upd H d (.frz od (.dK kvs))) b := by
  have nb : d ≠ B := fun e => by rw [e, s.gb] at g; cases g
  refine ⟨fun a o e => ?_, s.gb, ?_⟩
  · by_cases z : a = d
    · subst z
      rw [g] at e; cases e
      exact .inr ⟨kvs, od, rfl, upd_same⟩
    · rw [upd_ne z]; exact s.sub a o e
  · obtain ⟨ok, C, n, h1, h2⟩ := s.bag
    have nc : C ≠ d := fun e => by rw [e, hd] at h2; cases h2
    exact ⟨ok, C, n, by rw [upd_ne (Ne.symm nb)]; exact h1, by rw [upd_ne nc]; exact h2⟩
theorem EnvOk.lock {o : HO} (e : EnvOk K B G H bs Γ σ ρ) (g : G d ≠ none) : EnvOk K B G (upd H d o) bs Γ σ ρ := by
  obtain ⟨f, h1, h2⟩ := e.own
  refine ⟨e.len, ⟨f, fun i x hx => ?_, h2⟩, e.bag⟩
  obtain ⟨v, a1, a2, a3⟩ := h1 i x hx
  exact ⟨v, a1, a2.keep (fun _ _ e => e) (fun a ha => (a2.fp a ha).2.1) fun a ha => upd_ne fun z => g (by rw [← z]; exact (a2.fp a ha).2.1), a3⟩
theorem Post.unlock (g : G d = some (.dK kvs)) (hd : H d = some (.dK kvs)) (nb : d ≠ B) (P : Post B G (upd H d (.frz od (.dK kvs))) G' b' H') : H' d = some (.frz od (.dK kvs)) ∧ Post B G H G' b' (upd H' d (.dK kvs)) := by
  have h' : H' d = some (.frz od (.dK kvs)) := P.kp d _ nb upd_same
  refine ⟨h', P.gs, fun a h => ?_, fun a o n e => ?_, ⟨fun a o e => ?_, P.st.gb, ?_⟩, fun C x y z e => ?_⟩
  · rcases P.gn a h with z | z
    · exact .inl z
    · by_cases q : a = d
      · subst q; rw [upd_same] at z; cases z
      · rw [upd_ne q] at z; exact .inr z
  · by_cases q : a = d
    · subst q; rw [hd] at e; cases e; exact upd_same
    · rw [upd_ne q]; exact P.kp a o n (by rw [upd_ne q]; exact e)
  · by_cases q : a = d
    · subst q
      rw [P.gs _ _ g] at e; cases e
      exact .inl upd_same
    · rw [upd_ne q]; exact P.st.sub a o e
  · obtain ⟨ok, C, n, h1, h2⟩ := P.st.bag
    have nc : C ≠ d := fun e => by rw [e, h'] at h2; cases h2
    exact ⟨ok, C, n, by rw [upd_ne (Ne.symm nb)]; exact h1, by rw [upd_ne nc]; exact h2⟩
  · obtain ⟨x, y, z, e1⟩ := P.cl C x y z (by rw [upd_ne (Ne.symm nb)]; exact e)
    exact ⟨x, y, z, by rw [upd_ne (Ne.symm nb)]; exact e1⟩
end
section
variable {X : Cx} {C : Cn} {Γ : Gam} {m n i : Nat} {e tg : Expr} {ee : Ex} {x : Str} {pos p : Pos}
/-- the slot's dict is locked -/
def Lkd (i : Nat) (σ : L2.St) (H : Hp) : Prop := ∃ d ob kvs, σ[i]? = some (some (.ref d)) ∧ H d = some (.frz ob (.dK kvs))
theorem dct_slot {B : Addr} {G H : Hp} {b : Bg} {σ : L2.St} {ρ : Rho} {ds : List (D × D)} (st : StOk B G H b) (en : EnvOk C.K B G H C.bs Γ σ ρ) (hi : ρ[i]? = some (some (.dct ds))) (hl : lvl Γ i = 0) :
    ∃ d kvs, σ[i]? = some (some (.ref d)) ∧ G d = some (.dK kvs) ∧ Rpk C.K G kvs ds ∧ d ≠ B ∧ (H d = some (.dK kvs) ∨ ∃ ob, H d = some (.frz ob (.dK kvs))) := by
  obtain ⟨f, h1, _⟩ := en.own
  obtain ⟨v, a1, a2, _⟩ := h1 i _ hi
  rw [hl] at a2
  have r := a2.2
  cases r with
  | @dct d kvs _ g rs =>
    refine ⟨d, kvs, a1, g, rs, (fun z => by rw [z, st.gb] at g; cases g), ?_⟩
    rcases st.sub _ _ g with z | ⟨kv, ob, ez, z⟩
    · exact .inl z
    · exact .inr ⟨ob, z⟩
/-- an expression that walks over a slot's dict -/
theorem lock_rd {T : TE} (hp : PE X e T) (h : ∀ σ H Q, Lkd i σ H → rd C m Γ ee σ H Q → T σ H Q) (hl : lvl Γ i = 0) (hc : chain ee = false) (hd : ∀ ρ b r, ev C.Φ ρ ee b = some r → ∃ ds, ρ[i]? = some (some (.dct ds))) : PE X e (rd C m Γ ee) :=
  wkE (orE hp (pe_lock hp)) fun σ H Q hh => by
  obtain ⟨B, G, b, ρ, d0, b', st, en, he, q⟩ := hh
  obtain ⟨ds, hi⟩ := hd ρ b _ he
  obtain ⟨d, kvs, s1, g, rs, nb, hk⟩ := dct_slot st en hi hl
  rcases hk with hk | ⟨ob, hk⟩
  · refine .inr ⟨d, .dK kvs, hk, True.intro, fun od => h _ _ _ ⟨d, od, kvs, s1, upd_same⟩ ⟨B, G, b, ρ, d0, b', st.lock g hk, en.lock (by rw [g]; simp), he, fun v G' H' fp P R F => ?_⟩⟩
    obtain ⟨h1, P'⟩ := Post.unlock g hk nb P
    have nd : ∀ a ∈ fp, a ≠ d := fun a ha z => by
      obtain ⟨k, _, _, R⟩ := R
      have := (R.fp a ha).2.1
      rw [z, P.gs _ _ g] at this
      cases this
    refine ⟨h1, q v G' _ fp P' ?_ fun c => ⟨(F c).1, fun a ha => ?_⟩⟩
    · obtain ⟨k, k1, k2, R⟩ := R
      exact ⟨k, k1, k2, R.keep (fun _ _ e => e) (fun a ha => (R.fp a ha).2.1) fun a ha => upd_ne (nd a ha)⟩
    · have := (F c).2 a ha
      rw [upd_ne (nd a ha)] at this
      exact this
  · exact .inl (h _ _ _ ⟨d, ob, kvs, s1, hk⟩ ⟨B, G, b, ρ, d0, b', st, en, he, q⟩)
def riK (C : Cn) (Γ : Gam) (i : Nat) : TI := fun σ H R => Lkd i σ H ∧ riL C Γ (.keys i) σ H R
theorem wkD {it : Expr} {t t' : TI} (h : PI X tg it t) (w : ∀ σ H R, t' σ H R → t σ H (fun J H' => (∀ d kvs, Rd H' d (.dK kvs) → kvs.length ≤ line) → R J H')) : PI X tg it t' :=
  ⟨fun pins s σ H R I q => thn (h.run pins s σ H _ I (w σ H R q)) fun v s1 h1 => thn h1 fun itv s2 ⟨it, fp, tn, J, H2, e, I2, T, st2, f2, q⟩ => ⟨it, fp, tn, J, H2, e, I2, T, st2, f2, q fun d kvs hd => by
    have := (dk_rd I2.hok hd).1
    rw [sizeLine_eq] at this
    exact this⟩⟩
theorem Rpk.atI {K : PySem.W.Frag} {G : Hp} : ∀ {ds : List (D × D)} {kvs : List (Key × V)} {i : Nat} {k : Key} {v : V} {d : D}, Rpk K G kvs ds → kvs[i]? = some (k, v) → (ds.map (·.1))[i]? = some d → d = kD k ∧ kOk k
  | [], _, i, k, v, d, h, e, e2 => by simp at e2
  | _ :: ds, _, i, k, v, d, h, e, e2 => by
    cases h with
    | cons c r t =>
      cases i with
      | zero =>
        simp only [List.getElem?_cons_zero, List.map_cons] at e e2
        cases e; cases e2
        exact ⟨rfl, c⟩
      | succ i => exact Rpk.atI t (by simpa using e) (by simpa using e2)
theorem getD_ky {ρ : Rho} {i : Nat} {x : D} (h : ρ.getD i none = some x) : ρ[i]? = some (some x) := by
  rw [List.getD_eq_getElem?_getD] at h
  cases e : ρ[i]? with
  | none => rw [e] at h; cases h
  | some o => rw [e] at h; rw [show o = some x from h]
theorem keys_ev {ρ : Rho} {b b' : Bg} {xs : List D} (h : evi C.Φ ρ (.keys i) b = some (xs, b')) : ∃ ds, ρ[i]? = some (some (.dct ds)) ∧ xs = ds.map (·.1) ∧ b' = b := by
  obtain ⟨y, b1, h1, h2⟩ := bnd_some h
  obtain ⟨e1, rfl⟩ := lift_some h1
  obtain ⟨ds, b2, h3, h4⟩ := bnd_some h2
  obtain ⟨rfl, rfl⟩ := ret_some h4
  cases y with
  | dct es =>
    obtain ⟨rfl, rfl⟩ := ret_some (show ret es _ = _ from h3)
    exact ⟨_, getD_ky e1, rfl, rfl⟩
  | _ => exact (fail_some (b := b1) h3).elim
theorem i_keys (hN : X.N[i]? = some x) (hv : Vis X.env.scope x) (hd : (x == ("__debug__" : Str)) = false) (hcd : (x == ("__classdict__" : Str)) = false) (hl : lvl Γ i = 0) : PI X tg (.Name x p) (riK C Γ i) :=
  wkD (pi_keys (pe_var hN hv hd hcd)) fun σ H R ⟨⟨d, ob, kvs, s1, hk⟩, B, G, b, ρ, xs, b', st, en, he, q⟩ => by
  obtain ⟨ds, hi, rfl, rfl⟩ := keys_ev he
  obtain ⟨d2, kvs2, s2, g, rs, nb, hk2⟩ := dct_slot st en hi hl
  rw [s1] at s2
  cases s2
  have ek : kvs2 = kvs := by
    rcases hk2 with z | ⟨o, z⟩
    · rw [hk] at z; cases z
    · rw [hk] at z; cases z; rfl
  subst ek
  refine ⟨.ref d, s1, d, ob, rfl, .inl ⟨kvs2, hk, fun hlen => q _ G H (.refl st) ?_ ?_⟩⟩
  · have hn : (ds.map (·.1)).length = kvs2.length := by rw [List.length_map, rs.length]
    refine ⟨_, _, hn ▸ walk_keys, fun H' _ k => k d _ nb hk, fun j Hi x Hx y z hy => .inl ?_⟩
    obtain ⟨z1, k, v, z2, rfl⟩ := z
    obtain ⟨rfl, c⟩ := rs.atI z2 hy
    refine ⟨z1, ?_⟩
    cases k with
    | inl j => exact .int _
    | inr s => exact .str _ c
  · rw [List.length_map, ← rs.length]
    exact hlen d _ (.inr ⟨ob, hk⟩)
variable {elt tgt kx vx tgt2 iter2 : Expr} {scope : Scope} {ifs ifs2 : List Expr} {own : List (Str × Nat)} {eelt ek : Ex} {etg etg2 : Tg} {eit2 : Dn.It} {eif eif2 : Oe}
/-- [.. for t in d] -/
theorem s_lcK (hK : C.K = X.K) (hx : XOk X n) (hN : X.N.Nodup) (hi : X.N[i]? = some x) (hv : Vis X.env.scope x) (hdb : (x == ("__debug__" : Str)) = false) (hcd : (x == ("__classdict__" : Str)) = false) (hl : lvl Γ i = 0) (ok : BlkOk X.N X.env.scope scope own)
    (hg : ∀ (s : Shared) (H : Hp) (Ca : Addr) (cl : List (Str × Addr)) (fp : List Addr), PG (X.blk s H scope (compEnvC scope cl Ca X.env) fp) tgt (rg X.K etg))
    (ht : ∀ (s : Shared) (H : Hp) (Ca : Addr) (cl : List (Str × Addr)) (fp : List Addr), PTs (X.blk s H scope (compEnvC scope cl Ca X.env) fp) ifs (rc C (setz Γ (own.map (·.2))) eif))
    (he : ∀ (s : Shared) (H : Hp) (Ca : Addr) (cl : List (Str × Addr)) (fp : List Addr), PE (X.blk s H scope (compEnvC scope cl Ca X.env) fp) elt (rd C 9 (setz Γ (own.map (·.2))) eelt))
    (hb : ∀ i ∈ own.map (·.2), C.bs ≠ some i) (ho : ∀ i ∈ slots etg, i ∈ own.map (·.2)) (oe : okE C (setz Γ (own.map (·.2))) eelt) :
    PE X (.ListComp elt [⟨tgt, .Name x p, ifs, 0⟩] scope pos) (rd C m Γ (.lc eelt (own.map (·.2)) etg (.keys i) eif)) :=
  lock_rd (pe_lc hx.calm hN (i_keys (C := C) (Γ := Γ) hi hv hdb hcd hl) ok hg ht he (fun _ => rfl)) (fun σ H Q lk hh => ⟨lk, lc_rd hK hb ho oe (fun z => by cases z) hh⟩) hl rfl fun ρ b r h => by
    obtain ⟨xs, b1, h1, _⟩ := bnd_some h
    obtain ⟨ds, z, _⟩ := keys_ev h1
    exact ⟨ds, z⟩
theorem s_dcK (hK : C.K = X.K) (hx : XOk X n) (hN : X.N.Nodup) (hi : X.N[i]? = some x) (hv : Vis X.env.scope x) (hdb : (x == ("__debug__" : Str)) = false) (hcd : (x == ("__classdict__" : Str)) = false) (hl : lvl Γ i = 0) (ok : BlkOk X.N X.env.scope scope own)
    (hg : ∀ (s : Shared) (H : Hp) (Ca : Addr) (cl : List (Str × Addr)) (fp : List Addr), PG (X.blk s H scope (compEnvC scope cl Ca X.env) fp) tgt (rg X.K etg))
    (ht : ∀ (s : Shared) (H : Hp) (Ca : Addr) (cl : List (Str × Addr)) (fp : List Addr), PTs (X.blk s H scope (compEnvC scope cl Ca X.env) fp) ifs (rc C (setz Γ (own.map (·.2))) eif))
    (hk : ∀ (s : Shared) (H : Hp) (Ca : Addr) (cl : List (Str × Addr)) (fp : List Addr), PE (X.blk s H scope (compEnvC scope cl Ca X.env) fp) kx (rd C 9 (setz Γ (own.map (·.2))) ek))
    (he : ∀ (s : Shared) (H : Hp) (Ca : Addr) (cl : List (Str × Addr)) (fp : List Addr), PE (X.blk s H scope (compEnvC scope cl Ca X.env) fp) vx (rd C 0 (setz Γ (own.map (·.2))) eelt))
    (hb : ∀ i ∈ own.map (·.2), C.bs ≠ some i) (ho : ∀ i ∈ slots etg, i ∈ own.map (·.2)) :
    PE X (.DictComp kx vx [⟨tgt, .Name x p, ifs, 0⟩] scope pos) (rd C m Γ (.dc ek eelt (own.map (·.2)) etg (.keys i) eif)) :=
  lock_rd (pe_dc hx.calm hN (i_keys (C := C) (Γ := Γ) hi hv hdb hcd hl) ok hg ht hk he (fun _ => rfl)) (fun σ H Q lk hh => ⟨lk, dc_rd hK hb ho (fun z => by cases z) hh⟩) hl rfl fun ρ b r h => by
    obtain ⟨xs, b1, h1, _⟩ := bnd_some h
    obtain ⟨ds, z, _⟩ := keys_ev h1
    exact ⟨ds, z⟩
end
end Dn

set_option Elab.async false
set_option linter.all false
set_option maxRecDepth 100000
/-! Dn, part Xe: further expressions. -/
namespace Dn
open PySem PySem.Spec PyProof.Rows L2 StX
section
variable {X : Cx} {C : Cn} {Γ : Gam} {m n ma mb mc : Nat} {a b c e : Expr} {ea eb ec : Ex} {pos p p2 p3 apos cpos : Pos}
/-- what the proof never comes to -/
theorem s_nev : PE X a (rd C m Γ .nev) := ⟨fun pins s σ H Q I h => by
  obtain ⟨B, G, b, ρ, d, b', st, en, he, q⟩ := rd_out h
  exact (fail_some (b := b) he).elim⟩
theorem t_nev : PT X a (rt C Γ .nev) := ⟨fun pins s σ H Q I h => by
  obtain ⟨B, G, b, ρ, c, b', st, en, he, q⟩ := h
  exact (fail_some (b := b) (bool_some he)).elim⟩
theorem lrg_line {j : Int} (h : (j - 0).toNat ≤ line) : (j - 0).toNat ≤ 2 ^ 24 := h
/-- list(range(e)) -/
theorem s_lrg (hx : XOk X n) (hg : Gl X "list") (hg2 : Gl X "range") (ha : PE X a (rd C ma Γ ea)) (ns : noStar a = true) : PE X (.Call (.Name "list" p) [.Call (.Name "range" p2) [a] [] p3] [] pos) (rd C m Γ (.lrg ea)) :=
  wkE (pe_listRg hx.calm hg (hx.free "list" (by decide)) (prg_1 hg2 (hx.free "range" (by decide)) ha (star_of ns _ _))) fun σ H Q hh => by
  obtain ⟨B, G, bg, ρ, d, b', st, en, he, q⟩ := rd_out hh
  obtain ⟨x, b1, h1, he1⟩ := bnd_some he
  obtain ⟨j, b2, h2, he2⟩ := bnd_some he1
  obtain ⟨rfl, rfl⟩ := intOf_some h2
  obtain ⟨xs, b3, h3, he3⟩ := bnd_some he2
  obtain ⟨rfl, rfl⟩ := ret_some he3
  obtain ⟨⟨c1, c2, c3, c4, c5⟩, rfl, rfl⟩ := range_some h3
  refine ⟨B, G, bg, ρ, _, _, st, en, h1, fun v G1 H1 f P ⟨_, _, _, R⟩ _ => ⟨j, R.int, ⟨c1, c2, c3, c4, lrg_line c5⟩, fun r hr => ?_⟩⟩
  have e : rgV 0 j = ((List.range (j - 0).toNat).map fun i => 0 + ((i : Nat) : Int)).map V.int := by unfold rgV; rw [List.map_map]; rfl
  have e2 : ((List.range (j - 0).toNat).map fun i => D.int (0 + ((i : Nat) : Int))) = ((List.range (j - 0).toNat).map fun i => 0 + ((i : Nat) : Int)).map D.int := by rw [List.map_map]; rfl
  rw [e]
  rw [e2] at q
  exact finL (k := 1) P.st hr rps_ints (.inl rfl) (qL P (by show min m 1 ≤ 1; omega) q)
/-- {} -/
theorem s_dsp0 : PE X (.Dict [] [] pos) (rd C m Γ (.dsp .nil)) := wkE pe_dnewK fun σ H Q hh => by
  obtain ⟨B, G, bg, ρ, d, b', st, en, he, q⟩ := rd_out hh
  have he' : some (D.dct [], bg) = some (d, b') := he
  cases he'
  intro p hp
  have P := st.laid (o := .dK []) hp
  have gp := st.gnone hp
  have nb := st.notB hp
  cases hm : min m 9 with
  | zero =>
    have R1 : RO C.K G B (upd H p (.dK [])) 1 (.ref p) (.dct []) [p] := .inr (.inr ⟨p, [], [], [], rfl, rfl, rfl, nb, gp, upd_same, .nil⟩)
    obtain ⟨G2, f2, P2, R2, n2, h2, _⟩ := P.lower (m := 0) (by omega) R1 (by simp) (by simpa using hp)
    exact q _ G2 _ f2 P2 (by show RO _ _ _ _ (min m 9) _ _ _; rw [hm]; exact R2) fun _ => ⟨n2, h2⟩
  | succ k =>
    have R1 : RO C.K G B (upd H p (.dK [])) (k + 1) (.ref p) (.dct []) [p] := .inr (.inr ⟨p, [], [], [], rfl, rfl, rfl, nb, gp, upd_same, .nil⟩)
    exact q _ G _ [p] P (by show RO _ _ _ _ (min m 9) _ _ _; rw [hm]; exact R1) fun _ => ⟨by simp, by simpa using hp⟩
/-- a list or a tuple, read whole -/
theorem star_rd {σ : L2.St} {H : Hp} {R : V → Hp → Prop} (h : ∃ B G bg ρ x b1 xs, StOk B G H bg ∧ EnvOk C.K B G H C.bs Γ σ ρ ∧ ev C.Φ ρ ea bg = some (x, b1) ∧ (x = .lst xs ∨ x = .tup xs) ∧
    ∀ v vs p G1 H1, Post B G H G1 b1 H1 → v = .ref p → (SqT C.K H1 p vs ∨ SqL C.K H1 p vs) → Rps C.K G1 vs xs → R v H1) : rd C 0 Γ ea σ H R := by
  obtain ⟨B, G, bg, ρ, x, b1, xs, st, en, he, hx, q⟩ := h
  refine ⟨B, G, bg, ρ, x, b1, st, en, he, fun v G1 H1 f P ⟨k, hk, _, R1⟩ _ => ?_⟩
  have r := (R1.cast (k := 0) (by omega)).2
  rcases hx with rfl | rfl
  · cases r with
    | lst g rs => exact q _ _ _ G1 H1 P rfl (.inr (.inl (.inl (P.st.sub.lst g)))) rs
  · obtain ⟨p, vs, rfl, g, rs⟩ := r.tupAll
    exact q _ _ _ G1 H1 P rfl (.inl (g H1 P.st.sub)) rs
theorem noStar_star {sp : Pos} {env : Env} {es : List Expr} : starEach (.Starred a sp :: es) env = (true, eval a env) :: starEach es env := rfl
/-- (*a, b) -/
theorem s_tsl {x1 : Nat} (hK : C.K = X.K) (ha : PE X a (rd C 0 Γ ea)) (hb : PE X b (rd C 0 Γ eb)) (ns : noStar b = true) : PE X (.Tuple [.Starred a p, b] x1 pos) (rd C m Γ (.tsl ea eb)) :=
  wkE (n_tup (pa_star ha (pa_cons hb pa_nil (star_of ns _ _)))) fun σ H Q hh => by
  obtain ⟨B, G, bg, ρ, d, b', st, en, he, q⟩ := rd_out hh
  obtain ⟨x, b1, h1, he1⟩ := bnd_some he
  obtain ⟨xs, b2, h2, he2⟩ := bnd_some he1
  obtain ⟨hx, rfl⟩ := lstOf_some h2
  obtain ⟨y, b3, h3, he3⟩ := bnd_some he2
  rcases ite_some he3 with ⟨c, he4⟩ | ⟨_, he4⟩
  · obtain ⟨rfl, rfl⟩ := ret_some he4
    refine star_rd ⟨B, G, bg, ρ, x, _, xs, st, en, h1, hx, fun v vs p G1 H1 P ev hv rs => ⟨p, vs, ev, by rw [← hK]; exact hv, B, G1, _, ρ, y, _, P.st, en.post P, h3, fun w G2 H2 f P2 ⟨k, hk, _, R⟩ _ => ⟨?_, fun p2 o hp ho => ?_⟩⟩⟩
    · rw [List.length_append, rs.length, sizeLine_eq]; exact c
    · have r0 := (R.cast (k := 0) (by omega)).2
      exact finT (k := 9) P2.st hp ho ((rs.mono P2.gs).append (.cons r0 .nil)) (qL (P.trans P2) (by show min m 9 ≤ 9; omega) q)
  · exact (fail_some (b := b3) he4).elim
/-- (a, *b) -/
theorem s_tst {x1 : Nat} (hK : C.K = X.K) (ha : PE X a (rd C 0 Γ ea)) (hb : PE X b (rd C 0 Γ eb)) (ns : noStar a = true) : PE X (.Tuple [a, .Starred b p] x1 pos) (rd C m Γ (.tst ea eb)) :=
  wkE (n_tup (pa_cons ha (pa_star hb pa_nil) (star_of ns _ _))) fun σ H Q hh => by
  obtain ⟨B, G, bg, ρ, d, b', st, en, he, q⟩ := rd_out hh
  obtain ⟨x, b1, h1, he1⟩ := bnd_some he
  obtain ⟨y, b2, h2, he2⟩ := bnd_some he1
  obtain ⟨ys, b3, h3, he3⟩ := bnd_some he2
  obtain ⟨hy, rfl⟩ := lstOf_some h3
  rcases ite_some he3 with ⟨c, he4⟩ | ⟨_, he4⟩
  · obtain ⟨rfl, rfl⟩ := ret_some he4
    refine ⟨B, G, bg, ρ, x, _, st, en, h1, fun v G1 H1 f P ⟨k, hk, _, R⟩ _ => star_rd ⟨B, G1, _, ρ, y, _, ys, P.st, en.post P, h2, hy, fun w ws p G2 H2 P2 ev hv rs => ⟨p, ws, ev, by rw [← hK]; exact hv, ?_, fun p2 o hp ho => ?_⟩⟩⟩
    · show (v :: (ws ++ [])).length ≤ sizeLine
      rw [List.append_nil, List.length_cons, rs.length, sizeLine_eq]; exact c
    · have r0 := ((R.cast (k := 0) (by omega)).2).mono P2.gs
      refine finT (k := 9) P2.st hp ho ?_ (qL (P.trans P2) (by show min m 9 ≤ 9; omega) q)
      show Rps C.K G2 (v :: (ws ++ [])) (x :: ys)
      rw [List.append_nil]
      exact .cons r0 rs
  · exact (fail_some (b := b3) he4).elim
end
end Dn

set_option Elab.async false
set_option linter.all false
set_option maxRecDepth 100000
/-! Dn, part Xf: a dict's items, listed and sorted. -/
namespace Dn
open PySem PySem.Spec PyProof.Rows L2 StX
/-- many new things at once -/
def layU : Hp → List (Addr × HO) → Hp
  | H, [] => H
  | H, x :: xs => layU (upd H x.1 x.2) xs
theorem layU_off {b : Addr} : ∀ (xs : List (Addr × HO)) (H : Hp), b ∉ xs.map (·.1) → layU H xs b = H b
  | [], _, _ => rfl
  | x :: xs, H, h => by
    rw [List.map_cons, List.mem_cons, not_or] at h
    show layU (upd H x.1 x.2) xs b = H b
    rw [layU_off xs _ h.2, upd_ne h.1]
theorem layU_at : ∀ (xs : List (Addr × HO)) (H : Hp), (xs.map (·.1)).Nodup → ∀ x ∈ xs, layU H xs x.1 = some x.2
  | y :: xs, H, hn, x, hx => by
    rw [List.map_cons, List.nodup_cons] at hn
    show layU (upd H y.1 y.2) xs x.1 = some x.2
    rcases List.mem_cons.mp hx with rfl | hx
    · rw [layU_off xs _ hn.1, upd_same]
    · exact layU_at xs _ hn.2 x hx
section
variable {X : Cx}
theorem lay_many {pins : List (Addr × Obj)} {σ : L2.St} {H : Hp} {s : Shared} {h' : Heap} {tk : Nat} {xs : List (Addr × HO)} (I : L2.Inv X pins σ H s) (hk : ∀ b o, s.heap.get? b = some o → h'.get? b = some o) (hge : ∀ x ∈ xs, s.heap.objs.size ≤ x.1)
    (hn : (xs.map (·.1)).Nodup) (hok : ∀ x ∈ xs, ObjOk X.prog X.w (layU H xs) h' x.1 x.2) : L2.Inv X pins σ (layU H xs) { s with heap := h', toks := tk } := by
  have off : ∀ b, (∀ x ∈ xs, b ≠ x.1) → layU H xs b = H b := fun b h => layU_off xs H fun z => by
    obtain ⟨x, hx, e⟩ := List.mem_map.mp z
    exact h x hx e.symm
  have low : ∀ b o, s.heap.get? b = some o → ∀ x ∈ xs, b ≠ x.1 := fun b o e x hx z => absurd (Heap.lt_size e) (Nat.not_lt.mpr (z ▸ hge x hx))
  have kp : ∀ b u, H b = some u → layU H xs b = some u := fun b u e => by
    rw [off b fun x hx z => by rw [z, I.hok.fresh (hge x hx)] at e; cases e]
    exact e
  refine I.call' (ch := []) rfl ⟨fun b o q _ _ _ => hk b o q, fun b o q _ _ _ => ⟨o.slots, hk b o q⟩, fun b o q n _ => ?_, fun b o q _ => ⟨o, hk b o q⟩, fun b xs q => kp b _ q, fun b o u q => kp b _ q, fun b ps q => ⟨#[], by rw [kp b _ q]; simp⟩⟩ (fun b u q => ?_) I.bare fun b z => by simp at z
  · rw [off b (low b o q)]; exact n
  · by_cases hb : ∃ x ∈ xs, b = x.1
    · obtain ⟨x, hx, rfl⟩ := hb
      rw [layU_at xs H hn x hx] at q
      cases q
      exact hok x hx
    · rw [off b fun x hx z => hb ⟨x, hx, z⟩] at q
      exact (I.hok b u q).stay (fun d v _ y => hk d v y) (fun d y => kp d _ y) fun d xs y => kp d _ y
/-- pairs, as they are laid -/
def pairsU (g : Addr → Obj) : List Addr → List (Key × V) → List (Addr × HO)
  | a :: as, p :: kvs => (a, .frz (g a) (.tup [kV p.1, p.2])) :: pairsU g as kvs
  | _, _ => []
theorem pairsU_fst (g : Addr → Obj) : ∀ (as : List Addr) (kvs : List (Key × V)), as.length = kvs.length → (pairsU g as kvs).map (·.1) = as
  | [], [], _ => rfl
  | [], _ :: _, h => by cases h
  | _ :: _, [], h => by cases h
  | a :: as, p :: kvs, h => by
    show a :: (pairsU g as kvs).map (·.1) = a :: as
    rw [pairsU_fst g as kvs (Nat.succ.inj h)]
theorem pairsU_mem (g : Addr → Obj) : ∀ (as : List Addr) (kvs : List (Key × V)) (x : Addr × HO), x ∈ pairsU g as kvs → ∃ (j : Nat) (p : Key × V), as[j]? = some x.1 ∧ kvs[j]? = some p ∧ x.2 = .frz (g x.1) (.tup [kV p.1, p.2])
  | a :: as, p :: kvs, x, h => by
    rcases List.mem_cons.mp h with rfl | h
    · exact ⟨0, p, rfl, rfl, rfl⟩
    · obtain ⟨j, q, h1, h2, h3⟩ := pairsU_mem g as kvs x h
      exact ⟨j + 1, q, by simpa using h1, by simpa using h2, h3⟩
  | [], _, x, h => by simp [pairsU] at h
  | _ :: _, [], x, h => by simp [pairsU] at h
theorem pairs_ok {H' : Hp} {h' : Heap} {lo : Addr} {kvs : List (Key × V)} {vs : List (Key × Value)} {as : List Addr} {g : Addr → Obj} (kv : KV kvs vs) (hG : PySem.W.KdxG (mixKind X.prog X.w) vs lo h' as) (hg : ∀ a o, h'.get? a = some o → g a = o) :
    (∀ x ∈ pairsU g as kvs, ObjOk X.prog X.w H' h' x.1 x.2) ∧ ∀ a ∈ as, (g a).dict = none := by
  constructor
  · intro x hx
    obtain ⟨j, p, e1, e2, e3⟩ := pairsU_mem g as kvs x hx
    obtain ⟨key, k, y, f1, f2, f3⟩ := hG.pairs j x.1 e1
    obtain ⟨qv, g1, g2, g3⟩ := LiI.paired_get kv e2
    rw [f1] at g1
    cases g1
    have rk : RelV (kV p.1) key := by
      rw [g2]
      exact relV_key (show keyIs k key = true from f2)
    rw [e3, hg _ _ f3]
    exact ⟨f3, by show 2 ≤ sizeLine; decide, [key, y], .cons rk (.cons g3 .nil), ⟨_, f3, rfl, _, rfl⟩⟩
  · intro a ha
    obtain ⟨j, hj⟩ := List.mem_iff_getElem?.mp ha
    obtain ⟨key, k, y, f1, f2, f3⟩ := hG.pairs j a hj
    rw [hg _ _ f3]
theorem rp_key {K : PySem.W.Frag} {G : Hp} {k : Key} (h : kOk k) : Rp K G (kV k) (kD k) := by
  cases k with
  | inl i => exact .int i
  | inr x => exact .str x h
/-- pairs laid and frozen -/
theorem post_pairs {K : PySem.W.Frag} {B : Addr} {b : Bg} {g : Addr → Obj} : ∀ {as : List Addr} {kvs : List (Key × V)} {ds : List (D × D)} {G H : Hp}, StOk B G H b → as.length = kvs.length → as.Nodup → (∀ a ∈ as, H a = none) → (∀ a ∈ as, (g a).dict = none) → Rpk K G kvs ds →
    ∃ G', Post B G H G' b (layU H (pairsU g as kvs)) ∧ Rps K G' (as.map V.ref) (itemsD ds)
  | [], [], ds, G, H, st, _, _, _, _, r => by
    cases r
    exact ⟨G, .refl st, .nil⟩
  | [], _ :: _, _, _, _, _, h, _, _, _, _ => by cases h
  | _ :: _, [], _, _, _, _, h, _, _, _, _ => by cases h
  | a :: as, p :: kvs, ds, G, H, st, hl, hn, hf, hd, r => by
    cases r with
    | @cons k v d kvs' ds' c r1 t =>
      obtain ⟨n1, n2⟩ := List.nodup_cons.mp hn
      have ha := hf a List.mem_cons_self
      have step : ∃ G1, Post B G H G1 b (upd H a (.frz (g a) (.tup [kV k, v]))) ∧ Rp K G1 (.ref a) (.tup [kD k, d]) :=
        finT (K := K) (k := 9) (Q := fun w H' => ∃ G1, Post B G H G1 b H' ∧ Rp K G1 w (.tup [kD k, d])) st ha (hd a List.mem_cons_self) (.cons (rp_key c) (.cons r1 .nil)) fun w G' H' fp P R _ _ => ⟨G', P, (RO.ncRp rfl R).2⟩
      obtain ⟨G1, P1, R1⟩ := step
      obtain ⟨G2, P2, R2⟩ := post_pairs (g := g) P1.st (Nat.succ.inj hl) n2 (fun c hc => by
        have ne : c ≠ a := fun z => by subst z; exact n1 hc
        rw [upd_ne ne]; exact hf c (List.mem_cons_of_mem _ hc)) (fun c hc => hd c (List.mem_cons_of_mem _ hc)) (Rpk.mono P1.gs t)
      exact ⟨G2, P1.trans P2, .cons (R1.mono P2.gs) R2⟩
variable {C : Cn} {Γ : Gam} {m n ma : Nat} {e : Expr} {ee : Ex} {te : TE} {p p2 apos cpos pos : Pos}
/-- list(e.items()), the pairs' objects known -/
theorem n_listItems (hc : X.calm = true) (he : PE X e te) (hg : Gl X "list") (hm : X.mg "list" = none) (hbase : attributeBase e "items" X.env (eval e X.env) = eval e X.env) (hline : (apos.endLine == cpos.line) = true) :
    PE X (.Call (.Name "list" p) [.Call (.Attribute e "items" apos) [] [] cpos] [] pos) (fun σ H Q => te σ H fun x H1 => ∃ d kvs, x = .ref d ∧ Rd H1 d (.dK kvs) ∧ ∀ g q as, H1 q = none → (∀ a ∈ as, H1 a = none) → (q :: as).Nodup → as.length = kvs.length → (∀ a ∈ as, (g a).dict = none) →
      Q (.ref q) (layU (upd H1 q (.lst (as.map V.ref))) (pairsU g as kvs))) := by
  have hs : starEach [.Call (.Attribute e "items" apos) [] [] cpos] X.env = (false, eval (.Call (.Attribute e "items" apos) [] [] cpos) X.env) :: starEach [] X.env := rfl
  refine ⟨fun pins s σ H Q I hq => ?_⟩
  refine wpAny_Call_Name_kw (ld_blt I hg hm (boot_list) ?_)
  refine PyProof.Rows.callWith_type1 ?_ hs rfl
  rw [hs]
  show wpAny _ _ (spliced ((false, eval (.Call (.Attribute e "items" apos) [] [] cpos) X.env) :: backTo pos (starEach [] X.env))) _ _ s
  refine Calls.spliced_cons ?_
  refine wpAny_Call_method (T := "dict") (id := "dict.items") hbase rfl hline F.plainAttrs_dict F.slot_dict_items F.type_dict_items (thn (he.run pins s σ H _ I hq) fun u s1 ⟨x, H1, I1, rx, d, kvs, ex, hd, q⟩ => ?_)
  subst ex
  obtain rfl : u = Value.ref d := rx
  obtain ⟨hz, hs0, vs, kv, hdo⟩ := dk_rd I1.hok hd
  obtain ⟨ep, hat⟩ := hdo.dictAt
  have lk : kvs.length = vs.length := Paired.length kv
  have I2 : L2.Inv X pins σ H1 { s1 with heap := s1.heap.push { cls := .type "dict_items", data := .fields #[.ref d] } } := I1.kept (t' := s1.toks) fun b ob q => Heap.get?_push_of_some _ q
  refine ⟨hdo.typeIs, hdo.mapOf.noDict, ?_⟩
  show wpAny _ _ (callWith cpos (.builtin "dict.items") [.ref d] [] []) _ X.xe s1
  refine method_meetsIn F.slot_dict_items F.entry_dict_items rfl (PySem.evalArgs_none ⟨rfl, hdo.typeIs, F.args_dict_items_1 _, _, meets_dict_items (mixKind X.prog X.w) d hs0, ⟨vs, hdo⟩, ?_⟩)
  refine Calls.spliced_nil ?_
  refine PySem.W.kdx_call (knd := mixKind X.prog X.w) (kvs := vs) (ep := ep) (I1.ok.hd hc) ⟨_, Heap.get?_push_size _ rfl, rfl, rfl⟩ (hat.push _) (by omega) fun h' tk acc c as hk hS hl hG hacc => ?_
  obtain ⟨g, hgd⟩ : ∃ g : Addr → Obj, ∀ a o, h'.get? a = some o → g a = o := ⟨fun a => (h'.get? a).getD { cls := .none, data := .seq #[] }, fun a o e => by show (h'.get? a).getD _ = o; rw [e]; rfl⟩
  obtain ⟨o1, o2⟩ := pairs_ok (X := X) (H' := layU H1 (((s1.heap.push { cls := .type "dict_items", data := .fields #[.ref d] }).objs.size, .lst (as.map V.ref)) :: pairsU g as kvs)) kv hG hgd
  have nd : as.Nodup := List.Pairwise.imp (fun {a b} (h : a < b) => Nat.ne_of_lt h) hG.rise
  have ll : as.length = kvs.length := by omega
  have sz : s1.heap.objs.size ≤ (s1.heap.push { cls := .type "dict_items", data := .fields #[.ref d] }).objs.size := by rw [Heap.size_push]; exact Nat.le_succ _
  have hSn : (s1.heap.push { cls := .type "dict_items", data := .fields #[.ref d] }).objs.size ∉ as := fun z => Nat.lt_irrefl _ (hG.above _ z)
  have J := lay_many (tk := tk) (xs := ((s1.heap.push { cls := .type "dict_items", data := .fields #[.ref d] }).objs.size, .lst (as.map V.ref)) :: pairsU g as kvs) I2 hk
    (fun x hx => by
      rcases List.mem_cons.mp hx with rfl | hx
      · exact Nat.le_refl _
      · obtain ⟨j, p, e1, _⟩ := pairsU_mem g as kvs x hx
        exact Nat.le_of_lt (hG.above _ (List.mem_of_getElem? e1)))
    (by rw [List.map_cons, pairsU_fst g as kvs ll]; exact List.nodup_cons.mpr ⟨hSn, nd⟩)
    (fun x hx => by
      rcases List.mem_cons.mp hx with rfl | hx
      · refine ⟨by rw [List.length_map]; omega, acc.toList, c, by rw [hacc]; exact LiI.vals_refs as, ?_⟩
        rw [Array.toArray_toList]; exact hS
      · exact o1 x hx)
  exact ⟨.ref _, _, J, rfl, q g _ as (I2.hok.fresh (Nat.le_refl _)) (fun a ha => I2.hok.fresh (Nat.le_of_lt (hG.above a ha))) (List.nodup_cons.mpr ⟨hSn, nd⟩) ll o2⟩
theorem s_lit (hK : C.K = X.K) (hx : XOk X n) (hg : Gl X "list") (he : PE X e (rd C 1 Γ ee)) (hbase : attributeBase e "items" X.env (eval e X.env) = eval e X.env) (hline : (apos.endLine == cpos.line) = true) :
    PE X (.Call (.Name "list" p) [.Call (.Attribute e "items" apos) [] [] cpos] [] pos) (rd C m Γ (.lit ee)) :=
  wkE (n_listItems hx.calm he hg (hx.free "list" (by decide)) hbase hline) fun σ H Q hh => by
  obtain ⟨B, G, bg, ρ, d, b', st, en, hev, q⟩ := rd_out hh
  obtain ⟨x, b1, h1, he1⟩ := bnd_some hev
  obtain ⟨kvs0, b2, h2, he2⟩ := bnd_some he1
  obtain ⟨rfl, rfl⟩ := dctOf_some h2
  obtain ⟨rfl, rfl⟩ := ret_some he2
  refine ⟨B, G, bg, ρ, _, _, st, en, h1, fun v G1 H1 f P ⟨k, hk, _, R⟩ _ => ?_⟩
  obtain ⟨a, kvs, rfl, hd, rk⟩ := R.dct1 P.st.sub (by omega)
  refine ⟨a, kvs, rfl, hd, fun g r as hr ha hn hl hg => ?_⟩
  obtain ⟨n1, n2⟩ := List.nodup_cons.mp hn
  have P2 := P.st.laid (o := .lst (as.map V.ref)) hr
  obtain ⟨G3, P3, R3⟩ := post_pairs (K := C.K) (g := g) P2.st hl n2 (fun c hc => by
    have ne : c ≠ r := fun z => by subst z; exact n1 hc
    rw [upd_ne ne]; exact ha c hc) hg rk
  have off : layU (upd H1 r (.lst (as.map V.ref))) (pairsU g as kvs) r = some (.lst (as.map V.ref)) := by rw [layU_off _ _ (by rw [pairsU_fst g as kvs hl]; exact n1), upd_same]
  have g3 : G3 r = none := by
    cases z : G3 r with
    | none => rfl
    | some o =>
      rcases P3.gn r (by rw [z]; simp) with y | y
      · exact absurd (P.st.gnone hr) y
      · rw [upd_same] at y; cases y
  exact qL P (j := 1) (by show min m 1 ≤ 1; omega) q _ G3 _ [r] (P2.trans P3) (.inr (.inl ⟨r, as.map V.ref, _, [], rfl, rfl, rfl, P.st.notB hr, g3, off, R3.ros⟩)) (by simp) (by simpa using hr)
end
end Dn

set_option Elab.async false
set_option linter.all false
set_option maxRecDepth 100000
/-! Dn, part Xg: sorted(d.items()). -/
namespace Dn
open PySem PySem.Spec PyProof.Rows L2 StX
section
variable {X : Cx} {C : Cn} {Γ : Gam} {m n ma : Nat} {e : Expr} {ee : Ex} {p p2 apos cpos pos : Pos}
theorem s_sit (hK : C.K = X.K) (hx : XOk X n) (hg : Gl X "sorted") (he : PE X e (rd C 1 Γ ee)) (hbase : attributeBase e "items" X.env (eval e X.env) = eval e X.env) (hline : (apos.endLine == cpos.line) = true) :
    PE X (.Call (.Name "sorted" p) [.Call (.Attribute e "items" apos) [] [] cpos] [] pos) (rd C m Γ (.sit ee)) := by
  have hs : starEach [.Call (.Attribute e "items" apos) [] [] cpos] X.env = (false, eval (.Call (.Attribute e "items" apos) [] [] cpos) X.env) :: starEach [] X.env := rfl
  refine ⟨fun pins s σ H Q I hh => ?_⟩
  obtain ⟨B, G, bg, ρ, d0, b', st, en, hev, qq⟩ := rd_out hh
  obtain ⟨x0, b1, h1, he1⟩ := bnd_some hev
  obtain ⟨ds, b2, h2, he2⟩ := bnd_some he1
  obtain ⟨rfl, rfl⟩ := dctOf_some h2
  obtain ⟨he3, rfl⟩ := lift_some he2
  obtain ⟨hal, rfl⟩ := ite_optF he3
  have pre : rd C 1 Γ ee σ H (fun x H1 => ∃ a kvs G1, x = .ref a ∧ Post B G H G1 b' H1 ∧ Rd H1 a (.dK kvs) ∧ Rpk C.K G1 kvs ds) := ⟨B, G, bg, ρ, _, _, st, en, h1, fun v G1 H1 f P ⟨k, hk, _, R⟩ _ => by
    obtain ⟨a, kvs, rfl, hd, rk⟩ := R.dct1 P.st.sub (by omega)
    exact ⟨a, kvs, G1, rfl, P, hd, rk⟩⟩
  refine wpAny_Call_Name_kw (ld_blt I hg (hx.free "sorted" (by decide)) boot_sorted ?_)
  refine PyProof.Rows.callWith_builtin1 ?_ hs rfl
  rw [hs]
  show wpAny _ _ (spliced ((false, eval (.Call (.Attribute e "items" apos) [] [] cpos) X.env) :: backTo pos (starEach [] X.env))) _ _ s
  refine Calls.spliced_cons ?_
  refine wpAny_Call_method (T := "dict") (id := "dict.items") hbase rfl hline F.plainAttrs_dict F.slot_dict_items F.type_dict_items (thn (he.run pins s σ H _ I pre) fun u s1 ⟨x, H1, I1, rx, d, kvs, G1, ex, P1, hd, rk⟩ => ?_)
  subst ex
  obtain rfl : u = Value.ref d := rx
  obtain ⟨hz, hs0, vs, kv, hdo⟩ := dk_rd I1.hok hd
  obtain ⟨ep, hat⟩ := hdo.dictAt
  have lk : kvs.length = vs.length := Paired.length kv
  have I2 : L2.Inv X pins σ H1 { s1 with heap := s1.heap.push { cls := .type "dict_items", data := .fields #[.ref d] } } := I1.kept (t' := s1.toks) fun b ob q => Heap.get?_push_of_some _ q
  refine ⟨hdo.typeIs, hdo.mapOf.noDict, ?_⟩
  show wpAny _ _ (callWith cpos (.builtin "dict.items") [.ref d] [] []) _ X.xe s1
  refine method_meetsIn F.slot_dict_items F.entry_dict_items rfl (PySem.evalArgs_none ⟨rfl, hdo.typeIs, F.args_dict_items_1 _, _, meets_dict_items (mixKind X.prog X.w) d hs0, ⟨vs, hdo⟩, ?_⟩)
  refine Calls.spliced_nil ?_
  refine Calls.call_function_entry kind_sorted plain_sorted entry_sorted (args_sorted1 _) ?_
  unfold Builtin.«sorted»
  refine wpAny_bind (m := checkCount "sorted" 1 1 _) (wpAny_pure ?_)
  refine wpAny_bind (PySem.W.kdx_collect (knd := mixKind X.prog X.w) (kvs := vs) (ep := ep) (I1.ok.hd hx.calm) ⟨_, Heap.get?_push_size _ rfl, rfl, rfl⟩ (hat.push _) (by omega) fun h' tk as hk hl hG => ?_)
  obtain ⟨g, hgd⟩ : ∃ g : Addr → Obj, ∀ a o, h'.get? a = some o → g a = o := ⟨fun a => (h'.get? a).getD { cls := .none, data := .seq #[] }, fun a o e => by show (h'.get? a).getD _ = o; rw [e]; rfl⟩
  obtain ⟨o1, o2⟩ := pairs_ok (X := X) (H' := layU H1 (pairsU g as kvs)) kv hG hgd
  have nd : as.Nodup := List.Pairwise.imp (fun {a b} (h : a < b) => Nat.ne_of_lt h) hG.rise
  have ll : as.length = kvs.length := by omega
  have fr : ∀ a ∈ as, H1 a = none := fun a ha => I2.hok.fresh (Nat.le_of_lt (hG.above a ha))
  have J := lay_many (tk := tk) (xs := pairsU g as kvs) I2 hk
    (fun x hx => by
      obtain ⟨j, p, e1, _⟩ := pairsU_mem g as kvs x hx
      exact Nat.le_of_lt (hG.above _ (List.mem_of_getElem? e1)))
    (by rw [pairsU_fst g as kvs ll]; exact nd) o1
  obtain ⟨G3, P3, R3⟩ := post_pairs (K := C.K) (g := g) P1.st ll nd fr o2 rk
  rw [hK] at R3
  obtain ⟨ss, _, _, ef⟩ := first_all hal
  have hun := hx.room.units
  have hlen : (itemsD ds).length = kvs.length := by
    have := R3.length
    rw [List.length_map] at this
    omega
  have rv : Vals (as.map V.ref) (as.map Value.ref) := LiI.vals_refs as
  have er : PySem.W.EachIs (fun u d => ∃ as, PySem.Reads h' u (toP d) as) (as.map Value.ref) (itemsD ds) := ros_ex (α := Unit) (β := Unit) rv R3 fun x u d hd h1 h2 => by
    have hni : noIns d = true := by
      obtain ⟨t, _, h3, _⟩ := PySem.W.EachIs.left ef d hd
      exact h3
    obtain ⟨as, r, _⟩ := h2.reads J hx.sys P3.st.sub d x u hni h1
    exact ⟨as, r⟩
  have eR : PySem.W.EachIs (fun u d => ∃ x : V, RelV x u ∧ Rp X.K G3 x d) (as.map Value.ref) (itemsD ds) := ros_ex (α := Unit) (β := Unit) rv R3 fun x u d _ h1 h2 => ⟨x, h1, h2⟩
  have hz2 : (as.map Value.ref).length ≤ sizeLine := by rw [List.length_map, ll]; exact hz
  have hlt : ∀ {b : Addr} {o : Obj}, h'.get? b = some o → b < h'.objs.size := fun e => Heap.lt_size e
  have hat2 : (h'.push (seqObj "list" (as.map Value.ref).toArray 0)).get? h'.objs.size = some (seqObj "list" (as.map Value.ref).toArray 0) := Heap.get?_push_size _ rfl
  have er2 : PySem.W.EachIs (fun u d => ∃ bs, PySem.Reads (PySem.W.sortingHeap (h'.push (seqObj "list" (as.map Value.ref).toArray 0)) h'.objs.size (as.map Value.ref)) u (toP d) bs) (as.map Value.ref) (itemsD ds) :=
    er.mono fun _ _ ⟨as, r⟩ => ⟨as, PyProof.Rows.Reads.keeps (fun b o e => PySem.W.sortingHeap_old (Nat.ne_of_lt (hlt e)) (Heap.get?_push_of_some _ e)) r⟩
  obtain ⟨κ, hS, eo⟩ := fst_data (prog := X.prog) (w := X.w) (A := X.A.in1.in1) (s := { s1 with heap := PySem.W.sortingHeap (h'.push (seqObj "list" (as.map Value.ref).toArray 0)) h'.objs.size (as.map Value.ref), toks := tk }) (by show _ + 1 + 1 < cLine; omega) eR er2 hal
  refine wpAny_bind (wpAny_newList ?_ hz2)
  refine wpAny_bind (wpAny_holding (wpAny_call_entry_kw slot_list_sort ⟨_, hat2, rfl⟩ entry_list_sort ?body (args_list_sort _)))
  case body =>
    show wpAny (model X.prog X.w) X.A.in1.in1 (Builtin.«list.sort» ⟨[.ref h'.objs.size], []⟩) _ _ { s1 with heap := h'.push (seqObj "list" (as.map Value.ref).toArray 0), toks := tk }
    refine PySem.W.list_sort_vals (κ := κ) hat2 hS hz2 ?_
    refine ⟨_, rfl, wpAny_pure ⟨_, rfl, ?_⟩⟩
    obtain ⟨vs2, v2, r2⟩ := each_rps eo
    obtain ⟨ep2, hat3⟩ := PyProof.Rows.sortedHeap_at (out := (PySem.W.sortVals κ false (as.map Value.ref) (as.map Value.ref)).toArray) hat2
    have hlen2 : vs2.length ≤ sizeLine := by rw [r2.length, List.length_mergeSort, hlen]; exact hz
    have keep : ∀ b o, h'.get? b = some o → (sortedHeap (h'.push (seqObj "list" (as.map Value.ref).toArray 0)) h'.objs.size (as.map Value.ref) (PySem.W.sortVals κ false (as.map Value.ref) (as.map Value.ref)).toArray).get? b = some o := fun b o e => by
      rw [PyProof.Rows.sortedHeap_old (Nat.ne_of_lt (hlt e)) (by rw [Heap.size_push]; exact Nat.lt_succ_of_lt (hlt e))]
      exact Heap.get?_push_of_some _ e
    rw [← hK] at r2
    exact ⟨.ref h'.objs.size, upd (layU H1 (pairsU g as kvs)) h'.objs.size (.lst vs2), J.laid (t' := tk) keep (Nat.le_refl _) ⟨hlen2, _, ep2, v2, hat3⟩, rfl, finL (k := 1) P3.st (J.hok.fresh (Nat.le_refl _)) r2 (.inl rfl) (qL (P1.trans P3) (by show min m 1 ≤ 1; omega) qq)⟩
end
end Dn

set_option Elab.async false
set_option linter.all false
set_option maxRecDepth 100000
/-! Dn, part Xh: isinstance, d.get, constants of the module. -/
namespace Dn
open PySem PySem.Spec PyProof.Rows L2 StX
section
variable {X : Cx} {C : Cn} {Γ : Gam} {m n ma mb mc : Nat} {a b c e : Expr} {ea eb ec : Ex} {pos p p2 p3 apos cpos : Pos}
/-! ### isinstance -/
def tyS : Ty → String
  | .int => "int" | .str => "str" | .bool => "bool" | .tuple => "tuple" | .list => "list" | .dict => "dict"
def tyOfD : D → String
  | .non => "NoneType"
  | .bl _ => "bool"
  | .int _ => "int"
  | .str _ => "str"
  | .tup _ => "tuple"
  | .lst _ => "list"
  | .dct _ => "dict"
  | .ins _ => ""
def tyAll : List String := ["NoneType", "bool", "int", "str", "tuple", "list", "dict"]
def tyB (s : String) (t : Ty) : Bool := s == tyS t || (s == "bool" && (match t with
  | .int => true
  | _ => false))
theorem kit_all (s : String) (hs : s ∈ tyAll) (t : Ty) : kitB s (tyS t) = some (tyB s t) := by
  have h : ∀ s ∈ tyAll, kitB s (tyS t) = some (tyB s t) := by cases t <;> decide +kernel
  exact h s hs
theorem isi_tyB (d : D) (t : Ty) (h : ∀ k, d ≠ .ins k) : isiD d t = tyB (tyOfD d) t := by
  cases d <;> cases t <;> first | rfl | exact absurd rfl (h _)
theorem tyOf_mem (d : D) (h : ∀ k, d ≠ .ins k) : tyOfD d ∈ tyAll := by
  cases d <;> first | exact absurd rfl (h _) | (unfold tyOfD tyAll; simp)
theorem boot_ty (t : Ty) : bootBuiltins (Str.ofString (tyS t)) = some (.type (tyS t)) := by cases t <;> decide +kernel
theorem RO.noI {K : PySem.W.Frag} {G H : Hp} {B : Addr} {k : Nat} {v : V} {d : D} {fp : List Addr} (r : RO K G B H k v d fp) : ∀ j, d ≠ .ins j := by
  rintro j rfl
  cases k with
  | zero => cases r.2
  | succ k =>
    rcases r with ⟨_, _, r⟩ | ⟨_, _, _, _, _, e, _⟩ | ⟨_, _, _, _, _, e, _⟩
    · cases r
    · cases e
    · cases e
theorem RO.tyX {K : PySem.W.Frag} {G H : Hp} {B : Addr} {k : Nat} {v : V} {d : D} {fp : List Addr} (s : Sub G H) (r : RO K G B H k v d fp) : TyX K H v (.type (tyOfD d)) := by
  cases d with
  | non => rw [r.non]; exact .base .non
  | bl c => rw [r.bl]; exact .base (.bl c)
  | int c => rw [r.int]; exact .base (.int c)
  | str c => rw [r.str.1]; exact .base (.str c)
  | ins c => exact absurd rfl (r.noI c)
  | tup ds =>
    cases (RO.ncRp rfl r).2 with
    | tup e _ _ => exact .fTuple (s.tup e)
    | ktup e _ =>
      obtain ⟨_, o, h1, _, h2⟩ := e
      exact .kTuple h1 h2
  | lst ds =>
    cases k with
    | zero =>
      cases r.2 with
      | lst e _ => exact .base (.lst (s.lst e))
    | succ k =>
      rcases r with ⟨q, _⟩ | ⟨a, _, _, _, rfl, _, _, _, _, h, _⟩ | ⟨_, _, _, _, _, e, _⟩
      · cases q
      · exact .base (.lst h)
      · cases e
  | dct ds =>
    cases k with
    | zero =>
      cases r.2 with
      | dct e _ =>
        rcases s _ _ e with h | ⟨kvs, ob, e2, h⟩
        · exact .base (.dK h)
        · cases e2
          exact .fDict h
    | succ k =>
      rcases r with ⟨q, _⟩ | ⟨_, _, _, _, _, e, _⟩ | ⟨a, _, _, _, rfl, _, _, _, _, h, _⟩
      · cases q
      · cases e
      · exact .base (.dK h)
theorem s_isi {t : Ty} {y : Str} (hy : y = Str.ofString (tyS t)) (hK : C.K = X.K) (hx : XOk X n) (hg : Gl X "isinstance") (hg2 : Gl X y) (ha : PE X a (rd C 9 Γ ea)) (ns : noStar a = true) :
    PE X (.Call (.Name "isinstance" p) [a, .Name y p2] [] pos) (rd C m Γ (.isi ea t)) := by
  subst hy
  have hn : Str.ofString (tyS t) ≠ "__name__" := by cases t <;> decide +kernel
  have hd : (Str.ofString (tyS t) == ("__debug__" : Str)) = false := by cases t <;> decide +kernel
  have hf : X.mg (Str.ofString (tyS t)) = none := by cases t <;> exact hx.free _ (by decide)
  refine wkE (pe_callB call_isi hg (hx.free "isinstance" (by decide)) (by decide +kernel) (pa_cons ha (pa_cons (pe_bltn hg2 hf (boot_ty t) (v := .ty (tyS t)) rfl hn hd) pa_nil) (star_of ns _ _)) (by decide) (by decide) (star_of ns _ _) rfl) fun σ H Q hh => ?_
  obtain ⟨B, G, bg, ρ, d, b', st, en, he, q⟩ := rd_out hh
  obtain ⟨x, b1, h1, he1⟩ := bnd_some he
  obtain ⟨rfl, rfl⟩ := ret_some he1
  refine ⟨B, G, bg, ρ, x, _, st, en, h1, fun v G1 H1 f P ⟨_, _, _, R⟩ _ => ?_⟩
  have nI := R.noI
  refine ⟨v, .ty (tyS t), .type (tyOfD x), .type (tyS t), tyB (tyOfD x) t, rfl, .ty _, by rw [← hK]; exact R.tyX P.st.sub, kit_ty (kit_all _ (tyOf_mem x nI) t), ?_⟩
  rw [← isi_tyB x t nI]
  exact qP0 P rfl (.bl _) q
/-! ### d.get -/
theorem isD_of {K : PySem.W.Frag} {G H : Hp} {B : Addr} {k : Nat} {v : V} {ds : List (D × D)} {fp : List Addr} (s : Sub G H) (r : RO K G B H k v (.dct ds) fp) (hk : k ≤ 1) : ∃ a kvs, v = .ref a ∧ Rd H a (.dK kvs) ∧ Rpk K G kvs ds := r.dct1 s hk
theorem Rpk.val {K : PySem.W.Frag} {G : Hp} {kvs : List (Key × V)} {ds : List (D × D)} (h : Rpk K G kvs ds) (k : Key) : (valV kvs k = none ∧ dget ds (kD k) = none) ∨ ∃ v d, valV kvs k = some v ∧ dget ds (kD k) = some d ∧ Rp K G v d := by
  rcases (h.rok (H := G) (B := 0)).find k with z | ⟨v, d, g, a1, a2, a3, _⟩
  · exact .inl z
  · exact .inr ⟨v, d, a1, a2, a3.2⟩
theorem s_get (hx : XOk X n) (ha : PE X a (rd C 1 Γ ea)) (hb : PE X b (rd C 9 Γ eb)) (hbase : attributeBase a "get" X.env (eval a X.env) = eval a X.env) (hline : (apos.endLine == cpos.line) = true) (ns : noStar b = true) :
    PE X (.Call (.Attribute a "get" apos) [b] [] cpos) (rd C m Γ (.get ea eb)) := by
  have hs : starEach [b] X.env = (false, eval b X.env) :: starEach [] X.env := star_of ns _ _
  have hu := hx.room.units
  refine wkE (pe_dget1 (by omega) ha hb ⟨hbase, by rw [hs]; rfl, hline, by rw [hs]; rfl⟩) fun σ H Q hh => ?_
  obtain ⟨B, G, bg, ρ, d, b', st, en, he, q⟩ := rd_out hh
  obtain ⟨x, b1, h1, he1⟩ := bnd_some he
  obtain ⟨kvs0, b2, h2, he2⟩ := bnd_some he1
  obtain ⟨rfl, rfl⟩ := dctOf_some h2
  obtain ⟨y, b3, h3, he3⟩ := bnd_some he2
  rcases ite_some he3 with ⟨ck, he4⟩ | ⟨_, he4⟩
  · obtain ⟨rfl, rfl⟩ := ret_some he4
    refine ⟨B, G, bg, ρ, _, _, st, en, h1, fun v G1 H1 f P ⟨k, hk, _, R⟩ _ => ?_⟩
    obtain ⟨p, kvs, rfl, hd, rk⟩ := isD_of P.st.sub R (by omega)
    refine ⟨p, rfl, .inl ⟨kvs, hd⟩, B, G1, _, ρ, y, _, P.st, en.post P, h3, fun w G2 H2 f2 P2 ⟨k2, _, _, R2⟩ _ => ?_⟩
    obtain ⟨kk, rfl⟩ := kD_of ck
    obtain ⟨rfl, hkk⟩ := kV_of (RO.ncRp (by cases kk <;> rfl) R2).2
    have hd2 : Rd H2 p (.dK kvs) := by
      have nb : p ≠ B := by
        rintro rfl
        obtain ⟨_, Ca, _, hB, _⟩ := P.st.bag
        rcases hd with hd | ⟨o, hd⟩ <;> (rw [hB] at hd; cases hd)
      exact hd.imp (fun z => P2.kp p _ nb z) fun ⟨o, z⟩ => ⟨o, P2.kp p _ nb z⟩
    refine ⟨valV kvs kk, .inl ⟨kvs, kk, hd2, rfl, rfl⟩, ?_⟩
    have e0 : min m (lv C.own Γ (.get ea eb)) = 0 := by show min m 0 = 0; omega
    rcases (Rpk.mono P2.gs rk).val kk with ⟨z1, z2⟩ | ⟨u, du, z1, z2, z3⟩
    · rw [z1]
      rw [z2] at q
      exact q _ G2 H2 [] (P.trans P2) (by rw [e0]; exact ⟨rfl, .non⟩) fun _ => ⟨List.nodup_nil, by simp⟩
    · rw [z1]
      rw [z2] at q
      exact q _ G2 H2 [] (P.trans P2) (by rw [e0]; exact ⟨rfl, z3⟩) fun _ => ⟨List.nodup_nil, by simp⟩
  · exact (fail_some (b := b3) he4).elim
theorem s_get2 (hx : XOk X n) (ha : PE X a (rd C 1 Γ ea)) (hb : PE X b (rd C 9 Γ eb)) (hc : PE X c (rd C 0 Γ ec)) (hbase : attributeBase a "get" X.env (eval a X.env) = eval a X.env) (hline : (apos.endLine == cpos.line) = true) (ns : noStar b = true) (ns2 : noStar c = true) :
    PE X (.Call (.Attribute a "get" apos) [b, c] [] cpos) (rd C m Γ (.get2 ea eb ec)) := by
  have hs : starEach [b, c] X.env = (false, eval b X.env) :: starEach [c] X.env := star_of ns _ _
  have hs2 : starEach [c] X.env = (false, eval c X.env) :: starEach [] X.env := star_of ns2 _ _
  have hu := hx.room.units
  refine wkE (pe_dget2 (by omega) ha hb hc ⟨hbase, by rw [hs, hs2]; rfl, hline, by rw [hs, hs2]; rfl⟩) fun σ H Q hh => ?_
  obtain ⟨B, G, bg, ρ, d, b', st, en, he, q⟩ := rd_out hh
  obtain ⟨x, b1, h1, he1⟩ := bnd_some he
  obtain ⟨kvs0, b2, h2, he2⟩ := bnd_some he1
  obtain ⟨rfl, rfl⟩ := dctOf_some h2
  obtain ⟨y, b3, h3, he3⟩ := bnd_some he2
  obtain ⟨z, b4, h4, he4⟩ := bnd_some he3
  rcases ite_some he4 with ⟨ck, he5⟩ | ⟨_, he5⟩
  · obtain ⟨rfl, rfl⟩ := ret_some he5
    refine ⟨B, G, bg, ρ, _, _, st, en, h1, fun v G1 H1 f P ⟨k, hk, _, R⟩ _ => ?_⟩
    obtain ⟨p, kvs, rfl, hd, rk⟩ := isD_of P.st.sub R (by omega)
    refine ⟨p, rfl, .inl ⟨kvs, hd⟩, B, G1, _, ρ, y, b3, P.st, en.post P, h3, fun w G2 H2 f2 P2 ⟨k2, _, _, R2⟩ _ => ⟨B, G2, b3, ρ, z, _, P2.st, en.post (P.trans P2), h4, fun w3 G3 H3 f3 P3 ⟨k3, hk3, _, R3⟩ _ => ?_⟩⟩
    obtain ⟨kk, rfl⟩ := kD_of ck
    obtain ⟨rfl, hkk⟩ := kV_of (RO.ncRp (by cases kk <;> rfl) R2).2
    have PP := P2.trans P3
    have hd2 : Rd H3 p (.dK kvs) := by
      have nb : p ≠ B := by
        rintro rfl
        obtain ⟨_, Ca, _, hB, _⟩ := P.st.bag
        rcases hd with hd | ⟨o, hd⟩ <;> (rw [hB] at hd; cases hd)
      exact hd.imp (fun z => PP.kp p _ nb z) fun ⟨o, z⟩ => ⟨o, PP.kp p _ nb z⟩
    refine ⟨valV kvs kk, .inl ⟨kvs, kk, hd2, rfl, rfl⟩, ?_⟩
    have e0 : min m (lv C.own Γ (.get2 ea eb ec)) = 0 := by show min m 0 = 0; omega
    rcases (Rpk.mono PP.gs rk).val kk with ⟨z1, z2⟩ | ⟨u, du, z1, z2, z3⟩
    · rw [z1]
      rw [z2] at q
      exact q _ G3 H3 [] (P.trans PP) (by rw [e0]; exact ⟨rfl, (R3.cast (k := 0) (by omega)).2⟩) fun _ => ⟨List.nodup_nil, by simp⟩
    · rw [z1]
      rw [z2] at q
      exact q _ G3 H3 [] (P.trans PP) (by rw [e0]; exact ⟨rfl, z3⟩) fun _ => ⟨List.nodup_nil, by simp⟩
  · exact (fail_some (b := b4) he5).elim
end
/-! ### constants of the module, as they stand in the written part -/
mutual
def isC (K : PySem.W.Frag) : D → Value → Bool
  | .non, u => (match u with
    | .none => true
    | _ => false)
  | .bl b, u => (match u with
    | .bool c => b == c
    | _ => false)
  | .int i, u => (match u with
    | .int j _ => decide (i = j)
    | _ => false)
  | .str x, u => (match u with
    | .str y _ => decide (x = y) && decide (x.length ≤ line)
    | _ => false)
  | .tup ds, u => (match u with
    | .ref a => (match K.lookup a with
      | some o => (match o.data with
        | .seq its _ => decide (o.cls = .type "tuple") && o.dict.isNone && decide (its.size ≤ sizeLine) && isCs K ds its.toList
        | _ => false)
      | none => false)
    | _ => false)
  | _, _ => false
def isCs (K : PySem.W.Frag) : List D → List Value → Bool
  | [], us => us.isEmpty
  | d :: ds, us => (match us with
    | u :: us => isC K d u && isCs K ds us
    | [] => false)
end
mutual
theorem isC_ok {K : PySem.W.Frag} : ∀ (d : D) (u : Value), isC K d u = true → ∃ v, RelV v u ∧ ∀ G, Rp K G v d
  | .non, u, h => by
    unfold isC at h
    split at h
    · exact ⟨.non, rfl, fun _ => .non⟩
    · cases h
  | .bl b, u, h => by
    unfold isC at h
    split at h
    · have e := eq_of_beq h; subst e; exact ⟨.bl b, rfl, fun _ => .bl _⟩
    · cases h
  | .int i, u, h => by
    unfold isC at h
    split at h
    · have e := of_decide_eq_true h; subst e; exact ⟨.int i, ⟨_, rfl⟩, fun _ => .int _⟩
    · cases h
  | .str x, u, h => by
    unfold isC at h
    split at h
    · obtain ⟨h1, h2⟩ := Bool.and_eq_true_iff.mp h
      have e := of_decide_eq_true h1; subst e; exact ⟨.str x, ⟨_, rfl⟩, fun _ => .str _ (of_decide_eq_true h2)⟩
    · cases h
  | .tup ds, u, h => by
    unfold isC at h
    split at h
    · rename_i a
      split at h
      · rename_i o ho
        split at h
        · rename_i its k hd
          obtain ⟨h1, h4⟩ := Bool.and_eq_true_iff.mp h
          obtain ⟨h1, h3⟩ := Bool.and_eq_true_iff.mp h1
          obtain ⟨h1, h2⟩ := Bool.and_eq_true_iff.mp h1
          obtain ⟨vs, rv, rr⟩ := isCs_ok ds its.toList h4
          exact ⟨.ref a, rfl, fun G => .ktup ⟨⟨o, its, k, ho, of_decide_eq_true h1, hd, of_decide_eq_true h3, rv⟩, o, ho, by simpa using h2, of_decide_eq_true h1⟩ (rr G)⟩
        · cases h
      · cases h
    · cases h
  | .lst _, _, h => by unfold isC at h; cases h
  | .dct _, _, h => by unfold isC at h; cases h
  | .ins _, _, h => by unfold isC at h; cases h
theorem isCs_ok {K : PySem.W.Frag} : ∀ (ds : List D) (us : List Value), isCs K ds us = true → ∃ vs, Vals vs us ∧ ∀ G, Rps K G vs ds
  | [], us, h => by
    unfold isCs at h
    cases us with
    | nil => exact ⟨[], .nil, fun _ => .nil⟩
    | cons _ _ => cases h
  | d :: ds, us, h => by
    unfold isCs at h
    split at h
    · rename_i u us'
      obtain ⟨h1, h2⟩ := Bool.and_eq_true_iff.mp h
      obtain ⟨v, r1, r2⟩ := isC_ok d u h1
      obtain ⟨vs, r3, r4⟩ := isCs_ok ds us' h2
      exact ⟨v :: vs, .cons r1 r3, fun G => .cons (r2 G) (r4 G)⟩
    · cases h
end
theorem isC_con {K : PySem.W.Frag} {d : D} {u : Value} (h : isC K d u = true) : isCon d = false := by
  cases d <;> first | rfl | (unfold isC at h; cases h)
theorem globOk_of {K : PySem.W.Frag} {d : D} {u : Value} (h : isC K d u = true) : GlobOk K u d := ⟨isC_con h, isC_ok d u h⟩
mutual
def sameD : D → D → Bool
  | .non, e => (match e with
    | .non => true
    | _ => false)
  | .bl b, e => (match e with
    | .bl c => b == c
    | _ => false)
  | .int i, e => (match e with
    | .int j => decide (i = j)
    | _ => false)
  | .str x, e => (match e with
    | .str y => decide (x = y)
    | _ => false)
  | .tup ds, e => (match e with
    | .tup es => sameDs ds es
    | _ => false)
  | _, _ => false
def sameDs : List D → List D → Bool
  | [], es => es.isEmpty
  | d :: ds, es => (match es with
    | e :: es => sameD d e && sameDs ds es
    | [] => false)
end
mutual
theorem sameD_eq : ∀ (d e : D), sameD d e = true → d = e
  | .non, e, h => by
    unfold sameD at h
    split at h
    · rfl
    · cases h
  | .bl b, e, h => by
    unfold sameD at h
    split at h
    · rw [eq_of_beq h]
    · cases h
  | .int i, e, h => by
    unfold sameD at h
    split at h
    · rw [of_decide_eq_true h]
    · cases h
  | .str x, e, h => by
    unfold sameD at h
    split at h
    · rw [of_decide_eq_true h]
    · cases h
  | .tup ds, e, h => by
    unfold sameD at h
    split at h
    · rw [sameDs_eq ds _ h]
    · cases h
  | .lst _, _, h => by unfold sameD at h; cases h
  | .dct _, _, h => by unfold sameD at h; cases h
  | .ins _, _, h => by unfold sameD at h; cases h
theorem sameDs_eq : ∀ (ds es : List D), sameDs ds es = true → ds = es
  | [], es, h => by
    unfold sameDs at h
    cases es with
    | nil => rfl
    | cons _ _ => cases h
  | d :: ds, es, h => by
    unfold sameDs at h
    split at h
    · obtain ⟨h1, h2⟩ := Bool.and_eq_true_iff.mp h
      rw [sameD_eq d _ h1, sameDs_eq ds _ h2]
    · cases h
end
end Dn

set_option Elab.async false
set_option linter.all false
set_option maxRecDepth 100000
/-! Dn, part N: the state between statements; statements. -/
namespace Dn
open PySem PySem.Spec PyProof.Rows L2
/-- the slots' own things: at f, new since the def's entry (H0), apart -/
def OwnAt (C : Cn) (B : Addr) (H0 : Hp) (Γ : Gam) (G H : Hp) (σ : L2.St) (ρ : Rho) (f : Nat → List Addr) : Prop :=
  (∀ i d, ρ[i]? = some (some d) → ∃ v, σ[i]? = some (some v) ∧ RO C.K G B H (lvl Γ i) v d (f i) ∧ (f i).Nodup ∧ ∀ a ∈ f i, H0 a = none) ∧ (∀ i j, i ≠ j → ∀ a ∈ f i, a ∉ f j)
/-- between statements: B G0 H0 the entry's -/
structure SI (C : Cn) (B : Addr) (G0 H0 : Hp) (Γ : Gam) (G : Hp) (b : Bg) (H : Hp) (σ : L2.St) (ρ : Rho) : Prop where
  p : Post B G0 H0 G b H
  len : σ.length = ρ.length
  own : ∃ f, OwnAt C B H0 Γ G H σ ρ f
  bag : ∀ i, C.bs = some i → σ[i]? = some (some (.ref B)) ∧ ρ[i]? = some none
  cel : ∃ Ca x y z, H0 B = some (.lst [x, y, z, .ref Ca]) ∧ H0 Ca ≠ none
section
variable {C : Cn} {B : Addr} {G0 H0 G H G' H' : Hp} {Γ Γ' : Gam} {b b' : Bg} {σ : L2.St} {ρ : Rho} {f : Nat → List Addr} {v : V} {d : D} {n : Nat} {fp : List Addr}
theorem SI.st (S : SI C B G0 H0 Γ G b H σ ρ) : StOk B G H b := S.p.st
theorem SI.env (S : SI C B G0 H0 Γ G b H σ ρ) : EnvOk C.K B G H C.bs Γ σ ρ := by
  obtain ⟨f, h1, h2⟩ := S.own
  refine ⟨S.len, ⟨f, fun i d hd => ?_, h2⟩, S.bag⟩
  obtain ⟨v, a1, a2, a3, _⟩ := h1 i d hd
  exact ⟨v, a1, a2, a3⟩
theorem OwnAt.post (h : OwnAt C B H0 Γ G H σ ρ f) (P : Post B G H G' b' H') : OwnAt C B H0 Γ G' H' σ ρ f :=
  ⟨fun i d hd => let ⟨v, a1, a2, a3⟩ := h.1 i d hd; ⟨v, a1, a2.post P, a3⟩, h.2⟩
theorem SI.step (S : SI C B G0 H0 Γ G b H σ ρ) (P : Post B G H G' b' H') : SI C B G0 H0 Γ G' b' H' σ ρ := by
  obtain ⟨f, h⟩ := S.own
  exact ⟨S.p.trans P, S.len, ⟨f, h.post P⟩, S.bag, S.cel⟩
theorem SI.old (S : SI C B G0 H0 Γ G b H σ ρ) {a : Addr} (h : H a = none) (nb : a ≠ B) : H0 a = none := by
  cases e : H0 a with
  | none => rfl
  | some o => rw [S.p.kp a o nb e] at h; cases h
/-- levels where nothing is held -/
theorem SI.lvls (S : SI C B G0 H0 Γ G b H σ ρ) (h : ∀ i d, ρ[i]? = some (some d) → lvl Γ' i = lvl Γ i) : SI C B G0 H0 Γ' G b H σ ρ := by
  obtain ⟨f, h1, h2⟩ := S.own
  refine ⟨S.p, S.len, ⟨f, fun i d hd => ?_, h2⟩, S.bag, S.cel⟩
  rw [h i d hd]; exact h1 i d hd
theorem slot_ne {a : Addr} {i : Nat} (h : OwnAt C B H0 Γ G H σ ρ f) (hd : ρ[i]? = some (some d)) (ha : a ∈ f i) : a ≠ B ∧ G a = none ∧ H a ≠ none := by
  obtain ⟨v, a1, a2, a3⟩ := h.1 i d hd
  obtain ⟨x, y, o, e, _⟩ := a2.fp a ha
  exact ⟨x, y, by rw [e]; simp⟩
theorem _root_.Dn.Post.unbase {G1 H1 : Hp} {b1 : Bg} (P : Post B G1 H0 G b H) (P0 : Post B G0 H0 G1 b1 H1) : Post B G0 H0 G b H :=
  ⟨fun a o e => P.gs a o (P0.gs a o e), fun a h => (P.gn a h).elim (P0.gn a) .inr, P.kp, P.st, P.cl⟩
/-- what is frozen now as the ground -/
theorem SI.rebase (S : SI C B G0 H0 Γ G b H σ ρ) : SI C B G H0 Γ G b H σ ρ := ⟨⟨fun _ _ e => e, fun _ h => .inl h, S.p.kp, S.p.st, S.p.cl⟩, S.len, S.own, S.bag, S.cel⟩
theorem SI.unbase {G1 H1 : Hp} {b1 : Bg} (S : SI C B G1 H0 Γ G b H σ ρ) (P0 : Post B G0 H0 G1 b1 H1) : SI C B G0 H0 Γ G b H σ ρ := ⟨S.p.unbase P0, S.len, S.own, S.bag, S.cel⟩
/-- a slot written -/
theorem SI.setv (S : SI C B G0 H0 Γ G b H σ ρ) (P : Post B G H G' b' H') {i : Nat} (hi : i < ρ.length) (hb : C.bs ≠ some i) (hl : lvl Γ' i = n) (hΓ : ∀ j, j ≠ i → lvl Γ' j = lvl Γ j)
    (R : RO C.K G' B H' n v d fp) (nd : fp.Nodup) (fr : ∀ a ∈ fp, H a = none) : SI C B G0 H0 Γ' G' b' H' (σ.set i (some v)) (ρ.set i (some d)) := by
  obtain ⟨f, h⟩ := S.own
  have key : ∀ j x, ρ[j]? = some (some x) → ∀ a ∈ f j, a ∉ fp := fun j x hx a ha z => (slot_ne h hx ha).2.2 (fr a z)
  have h' := h.post P
  classical
  refine ⟨S.p.trans P, by rw [List.length_set, List.length_set, S.len], ⟨fun j => if j = i then fp else if (∃ x, ρ[j]? = some (some x)) then f j else [], fun j x hx => ?_, fun j k ne a ha hc => ?_⟩, fun j hj => ?_, S.cel⟩
  · by_cases q : j = i
    · subst q
      rw [List.getElem?_set_self hi] at hx
      cases hx
      refine ⟨v, by rw [List.getElem?_set_self (by rw [S.len]; exact hi)], ?_, ?_, ?_⟩
      · dsimp only; rw [if_pos rfl, hl]; exact R
      · dsimp only; rw [if_pos rfl]; exact nd
      · dsimp only; rw [if_pos rfl]; exact fun a ha => S.old (fr a ha) (R.fp a ha).1
    · rw [List.getElem?_set_ne (Ne.symm q)] at hx
      obtain ⟨w, a1, a2, a3⟩ := h'.1 j x hx
      dsimp only
      rw [if_neg q, if_pos ⟨x, hx⟩, hΓ j q]
      exact ⟨w, by rw [List.getElem?_set_ne (Ne.symm q)]; exact a1, a2, a3⟩
  · have kk : ∀ j, j ≠ i → ∀ a, a ∈ (if (∃ x, ρ[j]? = some (some x)) then f j else []) → a ∉ fp := fun j q a ha => by
      by_cases z : ∃ x, ρ[j]? = some (some x)
      · rw [if_pos z] at ha
        obtain ⟨x, hx⟩ := z
        exact key j x hx a ha
      · rw [if_neg z] at ha; simp at ha
    dsimp only at ha hc
    by_cases q : j = i
    · rw [if_pos q] at ha
      rw [if_neg (fun z => ne (q.trans z.symm))] at hc
      exact kk k (fun z => ne (q.trans z.symm)) a hc ha
    · rw [if_neg q] at ha
      by_cases q2 : k = i
      · rw [if_pos q2] at hc; exact kk j q a ha hc
      · rw [if_neg q2] at hc
        by_cases z : ∃ x, ρ[j]? = some (some x)
        · rw [if_pos z] at ha
          by_cases z2 : ∃ x, ρ[k]? = some (some x)
          · rw [if_pos z2] at hc; exact h.2 j k ne a ha hc
          · rw [if_neg z2] at hc; simp at hc
        · rw [if_neg z] at ha; simp at ha
  · have q : j ≠ i := fun z => hb (z ▸ hj)
    rw [List.getElem?_set_ne (Ne.symm q), List.getElem?_set_ne (Ne.symm q)]
    exact S.bag j hj
theorem SI.set0 (S : SI C B G0 H0 Γ G b H σ ρ) {i : Nat} (hi : i < ρ.length) (hl : lvl Γ i = 0) (hb : C.bs ≠ some i) (r : Rp C.K G v d) : SI C B G0 H0 Γ G b H (σ.set i (some v)) (ρ.set i (some d)) :=
  S.setv (.refl S.st) (n := 0) (fp := []) hi hb hl (fun _ _ => rfl) ⟨rfl, r⟩ List.nodup_nil (by simp)
/-- a slot made less owned -/
theorem SI.low (S : SI C B G0 H0 Γ G b H σ ρ) {i m : Nat} (hm : m ≤ lvl Γ i) (hl : lvl Γ' i = m) (hΓ : ∀ j, j ≠ i → lvl Γ' j = lvl Γ j) : ∃ G', SI C B G0 H0 Γ' G' b H σ ρ := by
  obtain ⟨f, h⟩ := S.own
  by_cases hd : ∃ d, ρ[i]? = some (some d)
  · obtain ⟨d, hd⟩ := hd
    obtain ⟨v, a1, a2, a3, a4⟩ := h.1 i d hd
    obtain ⟨t, l, b1, b2, b3, b4⟩ := a2.split hm
    obtain ⟨c1, c2⟩ := b3 a3
    have hfp := a2.fp
    have hll : ∀ a ∈ l, a ≠ B ∧ G a = none ∧ ∃ o, H a = some o ∧ ((∃ vs, o = .lst vs) ∨ ∃ kvs, o = .dK kvs) := fun a ha => hfp a (b2 a ha)
    have hs := frz_sub (G := G) (H := H) fun a ha => (hll a ha).2.1
    refine ⟨frz G H l, ⟨⟨fun a o e => hs a o (S.p.gs a o e), fun a z => ?_, S.p.kp, S.p.st.frz hll, S.p.cl⟩, S.len, ⟨fun j => if j = i then t else f j, fun j x hx => ?_, fun j k ne a ha hc => ?_⟩, S.bag, S.cel⟩⟩
    · by_cases y : a ∈ l
      · exact .inr (a4 a (b2 a y))
      · rw [frz_out y] at z; exact S.p.gn a z
    · by_cases q : j = i
      · subst q
        rw [hd] at hx; cases hx
        dsimp only
        rw [if_pos rfl, hl]
        refine ⟨v, a1, b4 _ hs (fun a ha => frz_in ha) (fun a ha => ?_), c1, fun a ha => a4 a (b1 a ha)⟩
        have z : a ∉ l := fun y => c2 a y ha
        rw [frz_out z]; exact (hfp a (b1 a ha)).2.1
      · obtain ⟨w, w1, w2, w3⟩ := h.1 j x hx
        dsimp only
        rw [if_neg q, hΓ j q]
        refine ⟨w, w1, w2.keep hs (fun a ha => ?_) (fun _ _ => rfl), w3⟩
        have z : a ∉ l := fun y => h.2 j i q a ha (b2 a y)
        rw [frz_out z]; exact (w2.fp a ha).2.1
    · have up : ∀ j a, a ∈ (if j = i then t else f j) → a ∈ f j := fun j a ha => by
        by_cases q : j = i
        · rw [if_pos q] at ha; rw [q]; exact b1 a ha
        · rw [if_neg q] at ha; exact ha
      exact h.2 j k ne a (up j a ha) (up k a hc)
  · exact ⟨G, S.lvls fun j d e => hΓ j fun z => hd ⟨d, z ▸ e⟩⟩
theorem OwnAt.norm (h : OwnAt C B H0 Γ G H σ ρ f) : ∃ f', OwnAt C B H0 Γ G H σ ρ f' ∧ (∀ j a, a ∈ f' j → H a ≠ none) ∧ ∀ j x, ρ[j]? = some (some x) → f' j = f j := by
  classical
  have up : ∀ j a, a ∈ (if (∃ x, ρ[j]? = some (some x)) then f j else []) → a ∈ f j ∧ ∃ x, ρ[j]? = some (some x) := fun j a ha => by
    by_cases z : ∃ x, ρ[j]? = some (some x)
    · rw [if_pos z] at ha; exact ⟨ha, z⟩
    · rw [if_neg z] at ha; simp at ha
  refine ⟨fun j => if (∃ x, ρ[j]? = some (some x)) then f j else [], ⟨fun j x hx => ?_, fun j k ne a ha hc => h.2 j k ne a (up j a ha).1 (up k a hc).1⟩, fun j a ha => ?_, fun j x hx => if_pos ⟨x, hx⟩⟩
  · dsimp only
    rw [if_pos ⟨x, hx⟩]
    exact h.1 j x hx
  · obtain ⟨h1, x, hx⟩ := up j a ha
    exact (slot_ne h hx h1).2.2
/-- an owned thing changed in place: what a slot holds is another thing now -/
theorem SI.chg (S : SI C B G0 H0 Γ G b H σ ρ) (P : Post B G H G' b' H') (h : OwnAt C B H0 Γ G H σ ρ f) {i : Nat} {a : Addr} {o : HO} {g2 : List Addr} {d2 : D} (hi : ρ[i]? = some (some d)) (hv : σ[i]? = some (some v)) (ha : a ∈ f i)
    (R2 : RO C.K G' B (upd H' a o) (lvl Γ i) v d2 g2) (nd2 : g2.Nodup) (sub : ∀ c ∈ g2, c ∈ f i ∨ H c = none) : SI C B G0 H0 Γ G' b' (upd H' a o) σ (ρ.set i (some d2)) := by
  obtain ⟨f', hf, n1, n2⟩ := h.norm
  rw [← n2 i d hi] at ha sub
  clear n2 h
  generalize f' = f at *
  have h := hf
  have h' := h.post P
  have hil : i < ρ.length := (List.getElem?_eq_some_iff.mp hi).1
  obtain ⟨w, w1, w2, w3, w4⟩ := h.1 i d hi
  obtain ⟨aB, aG, aH⟩ := slot_ne h' hi ha
  have a0 := w4 a ha
  have PP := S.p.trans P
  obtain ⟨Ca, x, y, z, c1, c2⟩ := S.cel
  have nC : Ca ≠ a := fun e => c2 (e ▸ a0)
  refine ⟨⟨PP.gs, PP.gn, fun c u nb e => ?_, ⟨fun c u e => ?_, PP.st.gb, ?_⟩, fun C x y z e => ?_⟩, by rw [List.length_set, S.len], ⟨fun j => if j = i then g2 else f j, fun j x hx => ?_, fun j k ne c hc hk => ?_⟩, fun j hj => ?_, S.cel⟩
  · have q : c ≠ a := fun z => by subst z; rw [a0] at e; cases e
    rw [upd_ne q]; exact PP.kp c u nb e
  · have q : c ≠ a := fun z => by subst z; rw [aG] at e; cases e
    rw [upd_ne q]; exact PP.st.sub c u e
  · obtain ⟨ok, Cb, nCb, e1, e2⟩ := PP.st.bag
    obtain ⟨x2, y2, z2, e3⟩ := PP.cl _ _ _ _ c1
    rw [e1] at e3
    cases e3
    exact ⟨ok, Ca, nCb, by rw [upd_ne (Ne.symm aB)]; exact e1, by rw [upd_ne nC]; exact e2⟩
  · obtain ⟨x2, y2, z2, e3⟩ := PP.cl C x y z e
    exact ⟨x2, y2, z2, by rw [upd_ne (Ne.symm aB)]; exact e3⟩
  · by_cases q : j = i
    · subst q
      rw [List.getElem?_set_self hil] at hx
      cases hx
      dsimp only
      rw [if_pos rfl]
      refine ⟨v, hv, R2, nd2, fun c hc => ?_⟩
      rcases sub c hc with z | z
      · exact w4 c z
      · exact S.old z (R2.fp c hc).1
    · rw [List.getElem?_set_ne (Ne.symm q)] at hx
      obtain ⟨u, u1, u2, u3⟩ := h'.1 j x hx
      dsimp only
      rw [if_neg q]
      refine ⟨u, u1, u2.keep (fun _ _ e => e) (fun c hc => (u2.fp c hc).2.1) (fun c hc => ?_), u3⟩
      exact upd_ne fun z => h.2 j i q c hc (z ▸ ha)
  · have kk : ∀ j, j ≠ i → ∀ c ∈ f j, c ∉ g2 := fun j q c hc hk => by
      rcases sub c hk with z | z
      · exact h.2 j i q c hc z
      · exact n1 j c hc z
    dsimp only at hc hk
    by_cases q : j = i
    · rw [if_pos q] at hc
      have q2 : k ≠ i := fun z => ne (q.trans z.symm)
      rw [if_neg q2] at hk
      exact kk k q2 c hk hc
    · rw [if_neg q] at hc
      by_cases q2 : k = i
      · rw [if_pos q2] at hk; exact kk j q c hc hk
      · rw [if_neg q2] at hk; exact h.2 j k ne c hc hk
  · have q : j ≠ i := fun z => by
      have := (S.bag j hj).2
      rw [z, hi] at this; cases this
    rw [List.getElem?_set_ne (Ne.symm q)]
    exact S.bag j hj
end
end Dn

set_option Elab.async false
set_option linter.all false
set_option maxRecDepth 100000
/-! Dn, part O: statements. -/
namespace Dn
open PySem PySem.Spec PyProof.Rows L2
def setL (Γ : Gam) (i n : Nat) : Gam := (List.range (max Γ.length (i + 1))).map fun j => if j = i then n else lvl Γ j
theorem lvl_setL (Γ : Gam) (i n j : Nat) : lvl (setL Γ i n) j = if j = i then n else lvl Γ j := by
  unfold setL
  show (List.map _ _).getD j 0 = _
  rw [List.getD_eq_getElem?_getD, List.getElem?_map]
  by_cases hj : j < max Γ.length (i + 1)
  · rw [List.getElem?_range hj]; rfl
  · rw [List.getElem?_eq_none (by rw [List.length_range]; omega)]
    have z : lvl Γ j = 0 := by unfold lvl; rw [List.getD_eq_getElem?_getD, List.getElem?_eq_none (by omega)]; rfl
    rw [if_neg (by omega), z]; rfl
/-- what an outcome is to lead to -/
def ends (C : Cn) (own : Nat) (ΓL Γ' : Gam) (B : Addr) (G0 H0 : Hp) (b' : Bg) (E : Ends) : Out → Prop
  | .nx ρ' => ∀ G' H' σ', SI C B G0 H0 Γ' G' b' H' σ' ρ' → E.nx σ' H'
  | .rt d => ∀ v G' H' fp, Post B G0 H0 G' b' H' → RO C.K G' B H' own v d fp → fp.Nodup → (∀ a ∈ fp, H0 a = none) → E.rt v H'
  | .bk ρ' => ∀ G' H' σ', SI C B G0 H0 ΓL G' b' H' σ' ρ' → E.bk σ' H'
  | .ct ρ' => ∀ G' H' σ', SI C B G0 H0 ΓL G' b' H' σ' ρ' → E.ct σ' H'
def zs (C : Cn) (own : Nat) (ΓL Γ : Gam) (s : St) (Γ' : Gam) : TS := fun E σ H => ∃ B G0 H0 G b ρ o b', SI C B G0 H0 Γ G b H σ ρ ∧ ex C.Φ ρ s b = some (o, b') ∧ ends C own ΓL Γ' B G0 H0 b' E o
def zss (C : Cn) (own : Nat) (ΓL Γ : Gam) (s : Sts) (Γ' : Gam) : TS := fun E σ H => ∃ B G0 H0 G b ρ o b', SI C B G0 H0 Γ G b H σ ρ ∧ exs C.Φ ρ s b = some (o, b') ∧ ends C own ΓL Γ' B G0 H0 b' E o
section
variable {X : Cx} {C : Cn} {own : Nat} {ΓL Γ Γ1 Γ2 : Gam} {m n ma mb i : Nat} {a b e tg itr : Expr} {ea eb ee : Ex} {st : Stmt} {rest sts sts2 : List Stmt} {s : St} {r r2 : Sts} {pos p2 p3 : Pos} {x : Str} {etg : Tg} {eit : Dn.It}
theorem z_nil : PSs X [] (zss C own ΓL Γ .nil Γ) := wkSs pss_nil fun E σ H ⟨B, G0, H0, G, b, ρ, o, b', S, he, q⟩ => by
  obtain ⟨rfl, rfl⟩ := ret_some he
  exact q G H σ S
theorem z_cons (h1 : PS X st (zs C own ΓL Γ s Γ1)) (h2 : PSs X rest (zss C own ΓL Γ1 r Γ2)) : PSs X (st :: rest) (zss C own ΓL Γ (.cons s r) Γ2) :=
  wkSs (pss_cons h1 h2) fun E σ H ⟨B, G0, H0, G, b, ρ, o, b', S, he, q⟩ => by
  obtain ⟨o1, b1, e1, e2⟩ := bnd_some he
  refine ⟨B, G0, H0, G, b, ρ, o1, b1, S, e1, ?_⟩
  cases o1 with
  | nx ρ1 => exact fun G' H' σ' S' => ⟨B, G0, H0, G', b1, ρ1, o, b', S', e2, q⟩
  | rt d => obtain ⟨rfl, rfl⟩ := ret_some e2; exact q
  | bk ρ1 => obtain ⟨rfl, rfl⟩ := ret_some e2; exact q
  | ct ρ1 => obtain ⟨rfl, rfl⟩ := ret_some e2; exact q
theorem z_low (h : PSs X sts (zss C own ΓL (setL Γ i m) r Γ2)) (hm : m ≤ lvl Γ i) : PSs X sts (zss C own ΓL Γ (.cons (.low i m) r) Γ2) :=
  wkSs h fun E σ H ⟨B, G0, H0, G, b, ρ, o, b', S, he, q⟩ => by
  obtain ⟨o1, b1, e1, e2⟩ := bnd_some he
  obtain ⟨rfl, rfl⟩ := ret_some e1
  obtain ⟨G', S'⟩ := S.low (Γ' := setL Γ i m) hm (by rw [lvl_setL, if_pos rfl]) fun j hj => by rw [lvl_setL, if_neg hj]
  exact ⟨B, G0, H0, G', _, ρ, o, b', S', e2, q⟩
/-- the same levels, told otherwise -/
theorem z_nev {sx : Stmt} : PS X sx (zs C own ΓL Γ .nev Γ2) := ⟨fun pins s σ H E I ⟨B, G0, H0, G, b, ρ, o, b', S, he, q⟩ => (fail_some (b := b) he).elim⟩
theorem z_pass : PS X (.Pass pos) (zs C own ΓL Γ .pass Γ) := wkS ps_pass fun E σ H ⟨B, G0, H0, G, b, ρ, o, b', S, he, q⟩ => by
  obtain ⟨rfl, rfl⟩ := ret_some he
  exact q G H σ S
theorem z_cont : PS X (.Continue pos) (zs C own Γ Γ .cont Γ2) := wkS ps_continue fun E σ H ⟨B, G0, H0, G, b, ρ, o, b', S, he, q⟩ => by
  obtain ⟨rfl, rfl⟩ := ret_some he
  exact q G H σ S
theorem z_brk : PS X (.Break pos) (zs C own Γ Γ .brk Γ2) := wkS ps_break fun E σ H ⟨B, G0, H0, G, b, ρ, o, b', S, he, q⟩ => by
  obtain ⟨rfl, rfl⟩ := ret_some he
  exact q G H σ S
theorem bind_nm {i : Nat} {d : D} {ρ : Rho} {b b' : Bg} {o : Out} (h : bnd (lift (bindT (.nm i) d ρ)) (fun ρ' => ret (Out.nx ρ')) b = some (o, b')) : i < ρ.length ∧ o = .nx (ρ.set i (some d)) ∧ b' = b := by
  obtain ⟨ρ1, b1, e1, e2⟩ := bnd_some h
  obtain ⟨e3, rfl⟩ := lift_some e1
  obtain ⟨rfl, rfl⟩ := ret_some e2
  unfold bindT at e3
  by_cases q : i < ρ.length
  · rw [if_pos q] at e3; cases e3; exact ⟨q, rfl, rfl⟩
  · rw [if_neg q] at e3; cases e3
theorem z_asg (hN : X.N.Nodup) (hi : X.N[i]? = some x) (hx : Loc X.env.scope x) (hf : X.fn x = true ∨ X.env.scope.names.lookup x = some .local) (he : PE X e (rd C 9 Γ ee)) (ok : okE C Γ ee) (hb : C.bs ≠ some i)
    (hs : swapsWith e (some (.Name x p2)) pos.line X.env = pure false) : PS X (.Assign [.Name x p2] e pos) (zs C own ΓL Γ (.asg (.nm i) ee) (setL Γ i (lvE C Γ ee))) :=
  wkS (ps_set hN hi hx he hs hf) fun E σ H ⟨B, G0, H0, G, b, ρ, o, b', S, hex, q⟩ => by
  obtain ⟨d, b1, h1, h2⟩ := bnd_some hex
  obtain ⟨hl, rfl, rfl⟩ := bind_nm h2
  exact rd_fresh ok S.st S.env h1 fun v G' H' fp P R nd fr => q G' H' _ (S.setv P hl hb (by rw [lvl_setL, if_pos rfl]) (fun j hj => by rw [lvl_setL, if_neg hj]) R nd fr)
/-- name = [..] on one line -/
theorem z_asgL (h : PS X st (tAsg (rd C 9 Γ ee) (gName i))) (ok : okE C Γ ee) (hb : C.bs ≠ some i) : PS X st (zs C own ΓL Γ (.asg (.nm i) ee) (setL Γ i (lvE C Γ ee))) :=
  wkS h fun E σ H ⟨B, G0, H0, G, b, ρ, o, b', S, hex, q⟩ => by
  obtain ⟨d, b1, h1, h2⟩ := bnd_some hex
  obtain ⟨hl, rfl, rfl⟩ := bind_nm h2
  exact rd_fresh ok S.st S.env h1 fun v G' H' fp P R nd fr => q G' H' _ (S.setv P hl hb (by rw [lvl_setL, if_pos rfl]) (fun j hj => by rw [lvl_setL, if_neg hj]) R nd fr)
/-- (a, b) = e -/
theorem z_asgT (hK : C.K = X.K) (he : PE X e (rd C 0 Γ ee)) (hg : PG X tg (rg X.K etg)) (ok : tgOk C Γ (slots etg)) (hs : swapsWithSole [tg] e pos.line X.env = pure false) (hw : swappedStores [tg] e X.env = pure none)
    (h1 : (assignEach [tg] X.env).map (·.2) = [assign tg X.env]) : PS X (.Assign [tg] e pos) (zs C own ΓL Γ (.asg etg ee) Γ) :=
  wkS (ps_asg he hg hs hw h1) fun E σ H ⟨B, G0, H0, G, b, ρ, o, b', S, hex, q⟩ => by
  obtain ⟨d, b1, h1, h2⟩ := bnd_some hex
  obtain ⟨ρ1, b2, e1, e2⟩ := bnd_some h2
  obtain ⟨e3, rfl⟩ := lift_some e1
  obtain ⟨rfl, rfl⟩ := ret_some e2
  refine ⟨B, G, b, ρ, d, _, S.st, S.env, h1, fun v G' H' fp P ⟨k, hk, _, R⟩ _ => ?_⟩
  have R0 := (R.cast (k := 0) (by omega)).2
  exact ⟨fun σ ρ => SI C B G0 H0 Γ G' _ H' σ ρ, G', ρ, d, ρ1, P.st.sub, by rw [← hK]; exact R0.relG P.st.sub e3, S.step P, fun i hi σ ρ v d hl S r => S.set0 hl (ok i hi).1 (ok i hi).2 (by rw [hK]; exact r), e3, fun σ' S' _ => q G' H' σ' S'⟩
/-- a, b = x, y with plain names -/
theorem z_par {j : Nat} {y : Str} {py pt : Pos} {kt k2 : Nat} {pt2 : Pos} (h : PS X st (tPar i j (tCons (rd C 0 Γ ea) (tCons (rd C 0 Γ eb) tNil)))) (hij : i ≠ j) (ok : tgOk C Γ [i, j]) : PS X st (zs C own ΓL Γ (.asg (.tp [.nm i, .nm j]) (.tup (.cons ea (.cons eb .nil)))) Γ) :=
  wkS h fun E σ H ⟨B, G0, H0, G, b, ρ, o, b', S, hex, q⟩ => by
  obtain ⟨d, b1, h1, h2⟩ := bnd_some hex
  obtain ⟨xs, b2, h3, h4⟩ := bnd_some h1
  obtain ⟨rfl, rfl⟩ := ret_some h4
  obtain ⟨d1, b3, h5, h6⟩ := bnd_some h3
  obtain ⟨ys, b4, h7, h8⟩ := bnd_some h6
  obtain ⟨rfl, rfl⟩ := ret_some h8
  obtain ⟨d2, b5, h9, h10⟩ := bnd_some h7
  obtain ⟨zs, b6, h11, h12⟩ := bnd_some h10
  obtain ⟨rfl, rfl⟩ := ret_some h12
  obtain ⟨rfl, rfl⟩ := ret_some h11
  obtain ⟨ρ1, b7, e1, e2⟩ := bnd_some h2
  obtain ⟨e3, rfl⟩ := lift_some e1
  obtain ⟨rfl, rfl⟩ := ret_some e2
  have e4 : ((bindT (.nm i) d1 ρ).bind fun ρ' => (bindT (.nm j) d2 ρ').bind fun ρ' => some ρ') = some ρ1 := e3
  obtain ⟨ρa, e5, e6⟩ := Option.bind_eq_some_iff.mp e4
  obtain ⟨ρb, e7, e8⟩ := Option.bind_eq_some_iff.mp e6
  cases e8
  refine ⟨B, G, b, ρ, d1, _, S.st, S.env, h5, fun v G1 H1 f P1 ⟨k, hk, _, R⟩ _ => ⟨B, G1, _, ρ, d2, _, P1.st, S.env.post P1, h9, fun w G2 H2 g P2 ⟨k2, hk2, _, R2⟩ _ => ⟨v, w, rfl, ?_⟩⟩⟩
  have R0 := ((R.cast (k := 0) (by omega)).2).mono P2.gs
  have R3 := (R2.cast (k := 0) (by omega)).2
  have S2 := S.step (P1.trans P2)
  unfold bindT at e5 e7
  by_cases q1 : i < ρ.length
  · rw [if_pos q1] at e5
    cases e5
    by_cases q2 : j < (ρ.set i (some d1)).length
    · rw [if_pos q2] at e7
      cases e7
      obtain ⟨o1, o2⟩ := ok i (by simp)
      obtain ⟨o3, o4⟩ := ok j (by simp)
      exact q G2 H2 _ ((S2.set0 q1 o1 o2 R0).set0 q2 o3 o4 R3)
    · rw [if_neg q2] at e7; cases e7
  · rw [if_neg q1] at e5; cases e5
theorem z_expr (he : PE X e (rd C 0 Γ ee)) (hs : swapsWith e none pos.line X.env = pure false) : PS X (.Expr e pos) (zs C own ΓL Γ (.expr ee) Γ) :=
  wkS (ps_expr he hs) fun E σ H ⟨B, G0, H0, G, b, ρ, o, b', S, hex, q⟩ => by
  obtain ⟨d, b1, h1, h2⟩ := bnd_some hex
  obtain ⟨rfl, rfl⟩ := ret_some h2
  exact ⟨B, G, b, ρ, d, _, S.st, S.env, h1, fun v G' H' fp P _ _ => q G' H' σ (S.step P)⟩
theorem z_ret (he : PE X e (rd C 9 Γ ee)) (ok : okE C Γ ee) (ho : own ≤ lvE C Γ ee) : PS X (.Return (some e) pos) (zs C own ΓL Γ (.ret ee) Γ2) :=
  wkS (ps_ret he) fun E σ H ⟨B, G0, H0, G, b, ρ, o, b', S, hex, q⟩ => by
  obtain ⟨d, b1, h1, h2⟩ := bnd_some hex
  obtain ⟨rfl, rfl⟩ := ret_some h2
  refine rd_fresh ok S.st S.env h1 fun v G' H' fp P R nd fr => ?_
  obtain ⟨G2, fp2, P2, R2, n2, f2, _⟩ := P.lower ho R nd fr
  exact q v G2 H' fp2 (S.p.trans P2) R2 n2 fun a ha => S.old (f2 a ha) (R2.fp a ha).1
/-- a slot's own thing handed back -/
theorem z_retv (hN : X.N[i]? = some x) (hv : Vis X.env.scope x) (hl : lvl Γ i = own) (hd : (x == ("__debug__" : Str)) = false) (hcd : (x == ("__classdict__" : Str)) = false) : PS X (.Return (some (.Name x p2)) pos) (zs C own ΓL Γ (.ret (.var i)) Γ2) :=
  wkS (ps_ret (pe_var hN hv hd hcd)) fun E σ H ⟨B, G0, H0, G, b, ρ, o, b', S, hex, q⟩ => by
  obtain ⟨d, b1, h1, h2⟩ := bnd_some hex
  obtain ⟨rfl, rfl⟩ := ret_some h2
  obtain ⟨e1, rfl⟩ := lift_some h1
  have e2 : ρ[i]? = some (some d) := by
    rw [List.getD_eq_getElem?_getD] at e1
    cases z : ρ[i]? with
    | none => rw [z] at e1; cases e1
    | some o => rw [z] at e1; simp at e1; rw [e1]
  obtain ⟨f, h⟩ := S.own
  obtain ⟨v, a1, a2, a3, a4⟩ := h.1 i d e2
  exact ⟨v, a1, q v G H (f i) S.p (hl ▸ a2) a3 a4⟩
theorem z_if (hc : PT X a (rt C Γ ea)) (h1 : PSs X sts (zss C own ΓL Γ r Γ2)) (h2 : PSs X sts2 (zss C own ΓL Γ r2 Γ2)) : PS X (.If a sts sts2 pos) (zs C own ΓL Γ (.ifs ea r r2) Γ2) :=
  wkS (ps_if hc h1 h2) fun E σ H ⟨B, G0, H0, G, b, ρ, o, b', S, hex, q⟩ => by
  obtain ⟨d, b1, e1, e2⟩ := bnd_some hex
  obtain ⟨t, b2, e3, e4⟩ := bnd_some e2
  refine ⟨B, G, b, ρ, t, b2, S.st, S.env, by unfold bnd; rw [e1]; exact e3, fun G' H' P => ?_⟩
  rcases ite_some e4 with ⟨c, e5⟩ | ⟨c, e5⟩
  · rw [if_pos c]; exact ⟨B, G0, H0, G', b2, ρ, o, b', S.step P, e5, q⟩
  · rw [if_neg c]; exact ⟨B, G0, H0, G', b2, ρ, o, b', S.step P, e5, q⟩
/-- one turn of a for -/
def forF (Φ : Nat → List D → M D) (tg : Tg) (r : Sts) (ρ : Rho) (x : D) : M Out := bnd (lift (bindT tg x ρ)) fun ρ' => exs Φ ρ' r
theorem z_for (hK : C.K = X.K) (hp : PassesOwn (model X.prog X.w) X.A X.env X.xe) (hx : XOk X n) (hi : PI X tg itr (ri C Γ eit)) (hg : PG X tg (rg X.K etg)) (ok : tgOk C Γ (slots etg)) (hpt : itPair eit = true → isTp etg = true) (hb : PSs X sts (zss C own Γ Γ r Γ))
    (hs : ∀ x, foldedSetIterable itr X.env x = pure x) : PS X (.For tg itr sts [] pos) (zs C own ΓL Γ (.for_ etg eit r) Γ) :=
  wkS (ps_for hp hx.calm hi hg hb hs) fun E σ H ⟨B, G0, H0, G, b, ρ, o, b', S, hex, q⟩ => by
  obtain ⟨xs, b1, h1, h2⟩ := bnd_some hex
  have h2 : iter (forF C.Φ etg r) ρ xs b1 = some (o, b') := h2
  refine ⟨B, G, b, ρ, xs, b1, S.st, S.env, h1, fun J G1 H1 P1 ⟨Gd, Y, w, w1, w2⟩ hlen => ?_⟩
  have S1 := (S.step P1)
  have S1' := S1.rebase
  have un : ∀ {G' : Hp} {b2 : Bg} {H' : Hp} {σ' : L2.St} {ρ' : Rho}, SI C B G1 H0 Γ G' b2 H' σ' ρ' → SI C B G0 H0 Γ G' b2 H' σ' ρ' := fun S2 => S2.unbase S1.p
  refine for_it w (fun j σ H => ∃ G b ρ, SI C B G1 H0 Γ G b H σ ρ ∧ iter (forF C.Φ etg r) ρ (xs.drop j) b = some (o, b')) ?_ ?_ ?_ ?_
  · exact ⟨G1, b1, ρ, S1', by simpa using h2⟩
  · rintro j σ2 H2 _ ⟨G2, b2, ρ2, S2, _⟩
    exact w1 H2 fun a o e => S2.st.sub a o (S2.p.gs a o e)
  · rintro j x σ2 H2 H3 hj ⟨G2, b2, ρ2, S2, he⟩ y
    have gs := S2.p.gs
    have hxj : xs[j]? = some xs[j] := List.getElem?_eq_getElem hj
    rw [List.drop_eq_getElem_cons hj] at he
    obtain ⟨o1, b3, h3, h4⟩ := bnd_some he
    obtain ⟨ρ3, b4, h5, h6⟩ := bnd_some h3
    obtain ⟨hb5, rfl⟩ := lift_some h5
    have yy : Item C.K G2 H2 H3 (itPair eit) x xs[j] := Item.mono (w2 j H2 x H3 xs[j] y hxj) gs
    obtain ⟨P3, rx⟩ := item_in S2.st yy hpt hb5
    refine ⟨fun σ ρ => SI C B G1 H0 Γ G2 _ H3 σ ρ, G2, ρ2, xs[j], ρ3, P3.st.sub, by rw [← hK]; exact rx, S2.step P3, fun i hi σ ρ v d hl S r => S.set0 hl (ok i hi).1 (ok i hi).2 (by rw [hK]; exact r), hb5, fun σ3 S3 _ => ?_⟩
    refine ⟨B, G1, H0, G2, _, ρ3, o1, b3, S3, h6, ?_⟩
    cases o1 with
    | nx ρ4 => exact fun G' H' σ' S' => ⟨G', b3, ρ4, S', h4⟩
    | ct ρ4 => exact fun G' H' σ' S' => ⟨G', b3, ρ4, S', h4⟩
    | bk ρ4 =>
      obtain ⟨rfl, rfl⟩ := ret_some h4
      exact fun G' H' σ' S' => q G' H' σ' (un S')
    | rt d =>
      obtain ⟨rfl, rfl⟩ := ret_some h4
      exact fun v G' H' fp P R nd fr => q v G' H' fp (P.unbase S1.p) R nd fr
  · rintro σ2 H2 ⟨G2, b2, ρ2, S2, he⟩
    rw [List.drop_length] at he
    obtain ⟨rfl, rfl⟩ := ret_some he
    exact q G2 H2 σ2 (un S2)
theorem z_whl {nn : Nat} (hp : PassesOwn (model X.prog X.w) X.A X.env X.xe) (hc : PT X a (rt C Γ ea)) (hb : PSs X sts (zss C own Γ Γ r Γ)) : PS X (.While a sts [] pos) (zs C own ΓL Γ (.whl nn ea r) Γ) :=
  wkS (ps_while hp hc hb) fun E σ H ⟨B, G0, H0, G, b, ρ, o, b', S, hex, q⟩ => by
  have hex : whileM (fun ρ => bnd (ev C.Φ ρ ea) fun x => boolOf x) (fun ρ => exs C.Φ ρ r) nn ρ b = some (o, b') := hex
  refine ⟨fun m σ H => ∃ G b ρ, SI C B G0 H0 Γ G b H σ ρ ∧ whileM (fun ρ => bnd (ev C.Φ ρ ea) fun x => boolOf x) (fun ρ => exs C.Φ ρ r) m ρ b = some (o, b'), ⟨nn, G, b, ρ, S, hex⟩, ?_⟩
  rintro m σ2 H2 ⟨G2, b2, ρ2, S2, he⟩
  cases m with
  | zero => exact (fail_some (b := b2) he).elim
  | succ m =>
    obtain ⟨t, b3, h1, h2⟩ := bnd_some he
    refine ⟨B, G2, b2, ρ2, t, b3, S2.st, S2.env, h1, fun G' H' P => ?_⟩
    have S3 := S2.step P
    rcases ite_some h2 with ⟨c, h3⟩ | ⟨c, h3⟩
    · dsimp only
      rw [if_pos c]
      obtain ⟨o1, b4, h4, h5⟩ := bnd_some h3
      refine ⟨fun σ' H' => ∃ G b ρ, SI C B G0 H0 Γ G b H' σ' ρ ∧ whileM (fun ρ => bnd (ev C.Φ ρ ea) fun x => boolOf x) (fun ρ => exs C.Φ ρ r) m ρ b = some (o, b'), fun σ' H' h => ⟨m, Nat.lt_succ_self _, h⟩, B, G0, H0, G', b3, ρ2, o1, b4, S3, h4, ?_⟩
      cases o1 with
      | nx ρ4 => exact fun G' H' σ' S' => ⟨G', b4, ρ4, S', h5⟩
      | ct ρ4 => exact fun G' H' σ' S' => ⟨G', b4, ρ4, S', h5⟩
      | bk ρ4 =>
        obtain ⟨rfl, rfl⟩ := ret_some h5
        exact fun G' H' σ' S' => q G' H' σ' S'
      | rt d =>
        obtain ⟨rfl, rfl⟩ := ret_some h5
        exact fun v G' H' fp P R nd fr => q v G' H' fp P R nd fr
    · dsimp only
      rw [if_neg c]
      obtain ⟨rfl, rfl⟩ := ret_some h3
      exact q G' H' σ2 S3
end
end Dn

set_option Elab.async false
set_option linter.all false
set_option maxRecDepth 100000
/-! Dn, part P: things changed in place. -/
namespace Dn
open PySem PySem.Spec PyProof.Rows L2
section
variable {X : Cx} {C : Cn} {own : Nat} {ΓL Γ Γ1 Γ2 : Gam} {m n ma mb i : Nat} {a b e k : Expr} {ea eb ee ek : Ex} {pos p2 p3 apos cpos : Pos} {x : Str} {st : Stmt}
theorem getD_some {ρ : Rho} {i : Nat} {d : D} (e1 : ρ.getD i none = some d) : ρ[i]? = some (some d) := by
  rw [List.getD_eq_getElem?_getD] at e1
  cases z : ρ[i]? with
  | none => rw [z] at e1; cases e1
  | some o => rw [z] at e1; simp at e1; rw [e1]
/-- a method call whose value is dropped: the object a slot's, one argument -/
theorem wk_meth {id : String} {y : Str} {T : String} {r : V → List V → Hp → VK → Prop} {es : List Expr} {t : TA} (pa : PlainAttrs T) (slot : Slot T y id) (hty : typeOf (.builtin id) = pure (.type "method_descriptor")) (hm : MtR X id r)
    (hN : X.N[i]? = some x) (hv : Vis X.env.scope x) (hd : (x == ("__debug__" : Str)) = false) (hcd : (x == ("__classdict__" : Str)) = false) (ha : PA X (a :: es) t)
    (hbase : attributeBase (.Name x p2) y X.env (eval (.Name x p2) X.env) = eval (.Name x p2) X.env)
    (hfew : ((backTo cpos (starEach (a :: es) X.env)).all (fun x => !x.1) && (backToKw cpos (keywordEach [] X.env)).all (fun x => x.1.isSome)
      && decide ((a :: es).length + ([] : List Keyword).length + (if ([] : List Keyword).isEmpty then 0 else 1) < 30)) = true)
    (hline : (apos.endLine == cpos.line) = true) (hs : starEach (a :: es) X.env = (false, eval a X.env) :: starEach es X.env) (hplain : (backTo cpos (starEach es X.env)).any (·.1) = false)
    (hsw : swapsWith (.Call (.Attribute (.Name x p2) y apos) (a :: es) [] cpos) none pos.line X.env = pure false) :
    PS X (.Expr (.Call (.Attribute (.Name x p2) y apos) (a :: es) [] cpos) pos) (fun E σ H => ∃ v, σ[i]? = some (some v) ∧ tyV X.K T v H ∧ t σ H fun xs H2 => r v xs H2 fun _ H3 => E.nx σ H3) :=
  wkS (ps_expr (pe_bm pa slot hty hm (pe_var hN hv hd hcd) ha hbase hfew hline hs hplain) hsw) fun E σ H ⟨v, h1, h2, h3⟩ => ⟨v, h1, h2, h3⟩
theorem ROs.at {K : PySem.W.Frag} {G H : Hp} {B : Addr} {n : Nat} {d : D} {fp : List Addr} {v : V} {ds : List D} (r : RO K G B H (n + 1) v (.lst ds) fp) : ∃ a vs f, v = .ref a ∧ fp = a :: f ∧ a ≠ B ∧ G a = none ∧ H a = some (.lst vs) ∧ ROs (RO K G B H n) vs ds f := by
  rcases r with ⟨c, _⟩ | ⟨a, vs, ds', f, rfl, e, rfl, q1, q2, q3, q4⟩ | ⟨_, _, _, _, _, e, _⟩
  · cases c
  · cases e; exact ⟨a, vs, f, rfl, rfl, q1, q2, q3, q4⟩
  · cases e
theorem ROk.at {K : PySem.W.Frag} {G H : Hp} {B : Addr} {n : Nat} {fp : List Addr} {v : V} {ds : List (D × D)} (r : RO K G B H (n + 1) v (.dct ds) fp) : ∃ a kvs f, v = .ref a ∧ fp = a :: f ∧ a ≠ B ∧ G a = none ∧ H a = some (.dK kvs) ∧ ROk (RO K G B H n) kvs ds f := by
  rcases r with ⟨c, _⟩ | ⟨_, _, _, _, _, e, _⟩ | ⟨a, vs, ds', f, rfl, e, rfl, q1, q2, q3, q4⟩
  · cases c
  · cases e
  · cases e; exact ⟨a, vs, f, rfl, rfl, q1, q2, q3, q4⟩
theorem ROs.ins {R : V → D → List Addr → Prop} {v : V} {d : D} {g : List Addr} : ∀ {vs : List V} {ds : List D} {f : List Addr} (j : Nat), ROs R vs ds f → R v d g → j ≤ ds.length → ∃ f2, ROs R (vs.take j ++ [v] ++ vs.drop j) (ds.insertIdx j d) f2 ∧ f2.Perm (f ++ g) := by
  intro vs ds f j h r
  induction h generalizing j with
  | nil => intro hj; have e : j = 0 := by simpa using hj
           subst e; exact ⟨g ++ [], .cons r .nil, by simp⟩
  | @cons w x f1 g1 ws xs r1 t ih =>
    intro hj
    cases j with
    | zero => exact ⟨g ++ (f1 ++ g1), by simpa using ROs.cons r (.cons r1 t), List.perm_append_comm⟩
    | succ j =>
      obtain ⟨f2, h2, p2⟩ := ih j (by simpa using hj)
      exact ⟨f1 ++ f2, by simpa using ROs.cons r1 h2, by rw [List.append_assoc]; exact p2.append_left f1⟩
theorem ROs.put {R : V → D → List Addr → Prop} {v : V} {d : D} {g : List Addr} (hg : g.Nodup) : ∀ {vs : List V} {ds : List D} {f : List Addr} (j : Nat), ROs R vs ds f → R v d g → f.Nodup → (∀ a ∈ f, a ∉ g) → ∃ f2, ROs R (vs.set j v) (ds.set j d) f2 ∧ f2.Nodup ∧ ∀ a ∈ f2, a ∈ f ∨ a ∈ g := by
  intro vs ds f j h r
  induction h generalizing j with
  | nil => intro _ _; exact ⟨[], .nil, List.nodup_nil, by simp⟩
  | @cons w x f1 g1 ws xs r1 t ih =>
    intro nd dj
    obtain ⟨n1, n2, n3⟩ := List.nodup_append.mp nd
    cases j with
    | zero =>
      refine ⟨g ++ g1, .cons r t, List.nodup_append.mpr ⟨hg, n2, fun a ha c hc e => ?_⟩, fun a ha => ?_⟩
      · subst e; exact dj a (List.mem_append_right _ hc) ha
      · rcases List.mem_append.mp ha with z | z
        · exact .inr z
        · exact .inl (List.mem_append_right _ z)
    | succ j =>
      obtain ⟨f2, h2, d2, s2⟩ := ih j n2 fun a ha => dj a (List.mem_append_right _ ha)
      refine ⟨f1 ++ f2, .cons r1 h2, List.nodup_append.mpr ⟨n1, d2, fun a ha c hc e => ?_⟩, fun a ha => ?_⟩
      · subst e
        rcases s2 a hc with z | z
        · exact n3 a ha a z rfl
        · exact dj a (List.mem_append_left _ ha) z
      · rcases List.mem_append.mp ha with z | z
        · exact .inl (List.mem_append_left _ z)
        · rcases s2 a z with y | y
          · exact .inl (List.mem_append_right _ y)
          · exact .inr y
/-- a list in a slot, changed: the shape of the statements below -/
theorem SI.lst {B : Addr} {G0 H0 G H G' H' : Hp} {bg b' : Bg} {σ : L2.St} {ρ : Rho} {ds ds2 : List D} {w : V} {y : D} {g : List Addr} {n : Nat} (S : SI C B G0 H0 Γ G bg H σ ρ) (hi : ρ[i]? = some (some (.lst ds))) (hl : lvl Γ i = n + 1) :
    ∃ a vs, σ[i]? = some (some (.ref a)) ∧ H a = some (.lst vs) ∧ vs.length = ds.length ∧ ∀ (G' H' : Hp) (b' : Bg) (vs2 : List V) (w : V) (y : D) (g : List Addr) (ds2 : List D), Post B G H G' b' H' → RO C.K G' B H' n w y g → g.Nodup → (∀ c ∈ g, H c = none) →
      (∀ f, ROs (RO C.K G' B H' n) vs ds f → f.Nodup → (∀ c ∈ f, c ∉ g) → ∃ f2, ROs (RO C.K G' B H' n) vs2 ds2 f2 ∧ f2.Nodup ∧ ∀ c ∈ f2, c ∈ f ∨ c ∈ g) →
      H' a = some (.lst vs) ∧ SI C B G0 H0 Γ G' b' (upd H' a (.lst vs2)) σ (ρ.set i (some (.lst ds2))) := by
  obtain ⟨f, h⟩ := S.own
  obtain ⟨v, a1, a2, a3, a4⟩ := h.1 i _ hi
  rw [hl] at a2
  obtain ⟨a, vs, ff, rfl, e, nb, ga, ha, rs⟩ := ROs.at (d := .non) a2
  rw [e] at a3
  obtain ⟨n1, n2⟩ := List.nodup_cons.mp a3
  refine ⟨a, vs, a1, ha, rs.length, fun G' H' b' vs2 w y g ds2 P R nd fr cont => ⟨P.kp a _ nb ha, ?_⟩⟩
  have hH : ∀ c ∈ ff, H c ≠ none := fun c hc => (slot_ne h hi (by rw [e]; exact List.mem_cons_of_mem _ hc)).2.2
  obtain ⟨f2, r2, d2, s2⟩ := cont ff (rs.imp fun v d g _ r => r.post P) n2 fun c hc z => hH c hc (fr c z)
  have na : a ∉ f2 := fun z => by
    rcases s2 a z with y | y
    · exact n1 y
    · rw [fr a y] at ha; cases ha
  have ga' : G' a = none := (slot_ne (h.post P) hi (by rw [e]; exact List.mem_cons_self)).2.1
  refine S.chg P h (g2 := a :: f2) hi a1 (by rw [e]; exact List.mem_cons_self) ?_ (List.nodup_cons.mpr ⟨na, d2⟩) fun c hc => ?_
  · rw [hl]
    refine .inr (.inl ⟨a, vs2, ds2, f2, rfl, rfl, rfl, nb, ga', upd_same, r2.imp fun v d g hg r => r.keep (fun _ _ e => e) (fun c hc => (r.fp c hc).2.1) fun c hc => upd_ne fun z => ?_⟩)
    subst z; exact na (hg c hc)
  · rcases List.mem_cons.mp hc with rfl | hc
    · exact .inl (by rw [e]; exact List.mem_cons_self)
    · rcases s2 c hc with y | y
      · exact .inl (by rw [e]; exact List.mem_cons_of_mem _ y)
      · exact .inr (fr c y)
/-- what is asked of x.m(a, ..) as a statement -/
structure MetS (X : Cx) (x y : Str) (a : Expr) (es : List Expr) (p2 apos cpos pos : Pos) : Prop where
  base : attributeBase (.Name x p2) y X.env (eval (.Name x p2) X.env) = eval (.Name x p2) X.env
  few : ((backTo cpos (starEach (a :: es) X.env)).all (fun x => !x.1) && (backToKw cpos (keywordEach [] X.env)).all (fun x => x.1.isSome)
      && decide ((a :: es).length + ([] : List Keyword).length + (if ([] : List Keyword).isEmpty then 0 else 1) < 30)) = true
  line : (apos.endLine == cpos.line) = true
  star : starEach (a :: es) X.env = (false, eval a X.env) :: starEach es X.env
  plain : (backTo cpos (starEach es X.env)).any (·.1) = false
  swap : swapsWith (.Call (.Attribute (.Name x p2) y apos) (a :: es) [] cpos) none pos.line X.env = pure false
theorem mets1 {y : Str} (hl : (apos.endLine == cpos.line) = true) (ns : noStar a = true) : MetS X x y a [] p2 apos cpos pos := by
  have hs : starEach [a] X.env = (false, eval a X.env) :: starEach [] X.env := star_of ns _ _
  exact ⟨rfl, by rw [hs]; rfl, hl, hs, rfl, rfl⟩
theorem mets2 {y : Str} (hl : (apos.endLine == cpos.line) = true) (ns : noStar a = true) (ns2 : noStar b = true) : MetS X x y a [b] p2 apos cpos pos := by
  have hs : starEach [a, b] X.env = (false, eval a X.env) :: starEach [b] X.env := star_of ns _ _
  have hs2 : starEach [b] X.env = (false, eval b X.env) :: starEach [] X.env := star_of ns2 _ _
  exact ⟨rfl, by rw [hs, hs2]; rfl, hl, hs, by rw [hs2]; rfl, rfl⟩
/-- a slot's name, read -/
structure SlotN (X : Cx) (i : Nat) (x : Str) : Prop where
  ix : X.N[i]? = some x
  vis : Vis X.env.scope x
  deb : (x == ("__debug__" : Str)) = false
  cd : (x == ("__classdict__" : Str)) = false
theorem mut_ex {mu : Mu} {es : Exs} {ρ : Rho} {bg b' : Bg} {o : Out} (h : ex C.Φ ρ (.mut mu i .nil es) bg = some (o, b')) : ∃ xs d d', evs C.Φ ρ es bg = some (xs, b') ∧ ρ[i]? = some (some d) ∧ mutD mu xs d = some d' ∧ o = .nx (ρ.set i (some d')) := by
  obtain ⟨xs, b2, h3, h4⟩ := bnd_some h
  obtain ⟨d, b3, h5, h6⟩ := bnd_some h4
  obtain ⟨e1, rfl⟩ := lift_some h5
  obtain ⟨d', b4, h7, h8⟩ := bnd_some h6
  obtain ⟨e2, rfl⟩ := lift_some h7
  obtain ⟨rfl, rfl⟩ := ret_some h8
  exact ⟨xs, d, d', h3, getD_some e1, e2, rfl⟩
theorem evs1 {ρ : Rho} {bg b' : Bg} {xs : List D} (h : evs C.Φ ρ (.cons ee .nil) bg = some (xs, b')) : ∃ y, ev C.Φ ρ ee bg = some (y, b') ∧ xs = [y] := by
  obtain ⟨y, b1, h1, h2⟩ := bnd_some h
  obtain ⟨ys, b2, h3, h4⟩ := bnd_some h2
  obtain ⟨rfl, rfl⟩ := ret_some h3
  obtain ⟨rfl, rfl⟩ := ret_some h4
  exact ⟨y, h1, rfl⟩
theorem evs2 {ρ : Rho} {bg b' : Bg} {xs : List D} (h : evs C.Φ ρ (.cons ek (.cons ee .nil)) bg = some (xs, b')) : ∃ z y b1, ev C.Φ ρ ek bg = some (z, b1) ∧ ev C.Φ ρ ee b1 = some (y, b') ∧ xs = [z, y] := by
  obtain ⟨z, b1, h1, h2⟩ := bnd_some h
  obtain ⟨ys, b2, h3, h4⟩ := bnd_some h2
  obtain ⟨y, h5, rfl⟩ := evs1 h3
  obtain ⟨rfl, rfl⟩ := ret_some h4
  exact ⟨z, y, b1, h1, h5, rfl⟩
theorem len_line {n : Nat} (h : n < line) : n < sizeLine := by
  rw [sizeLine_eq]; exact h
theorem z_append (hs : SlotN X i x) (M : MetS X x "append" a [] p2 apos cpos pos) (ha : PE X a (rd C 9 Γ ee)) (ok : okE C Γ ee) (hl : lvl Γ i = n + 1) (hle : n ≤ lvE C Γ ee) :
    PS X (.Expr (.Call (.Attribute (.Name x p2) "append" apos) [a] [] cpos) pos) (zs C own ΓL Γ (.mut .append i .nil (.cons ee .nil)) Γ) :=
  wkS (wk_meth PySem.F.plainAttrs_list PySem.F.slot_list_append PySem.F.type_list_append mt_append hs.ix hs.vis hs.deb hs.cd (pa_cons ha pa_nil M.star) M.base M.few M.line M.star M.plain M.swap) fun E σ H ⟨B, G0, H0, G, bg, ρ, o, b', S, hex, q⟩ => by
  obtain ⟨xs, d, d', h1, h2, h3, rfl⟩ := mut_ex hex
  obtain ⟨y, h4, rfl⟩ := evs1 h1
  cases d with
  | lst ds =>
    obtain ⟨c, rfl⟩ := ite_opt (show (if ds.length < line then some (D.lst (ds ++ [y])) else none) = some d' from h3)
    obtain ⟨p, vs, s1, s2, s3, fin⟩ := S.lst (i := i) h2 hl (G' := G) (H' := H) (b' := bg) (ds2 := []) (w := .non) (y := .non) (g := [])
    refine ⟨.ref p, s1, .inl ⟨rfl, vs, .inl (.inl s2)⟩, rd_fresh ok S.st S.env h4 fun w G' H' g P R nd fr => ?_⟩
    obtain ⟨G2, g2, P2, R2, nd2, fr2, _⟩ := P.lower hle R nd fr
    obtain ⟨t1, t2⟩ := fin G2 H' b' (vs ++ [w]) w y g2 (ds ++ [y]) P2 R2 nd2 fr2 fun f rf nf df => ⟨f ++ g2, rf.app R2, List.nodup_append.mpr ⟨nf, nd2, fun a ha c hc e => df a ha (e ▸ hc)⟩, fun c hc => List.mem_append.mp hc⟩
    exact ⟨p, vs, w, rfl, rfl, t1, by rw [s3]; exact len_line c, q G2 _ σ t2⟩
  | _ => cases h3
theorem z_insert (hs : SlotN X i x) (M : MetS X x "insert" k [a] p2 apos cpos pos) (hk : PE X k (rd C mb Γ ek)) (ha : PE X a (rd C 9 Γ ee)) (ok : okE C Γ ee) (hl : lvl Γ i = n + 1) (hle : n ≤ lvE C Γ ee) (ns : noStar a = true) :
    PS X (.Expr (.Call (.Attribute (.Name x p2) "insert" apos) [k, a] [] cpos) pos) (zs C own ΓL Γ (.mut .insert i .nil (.cons ek (.cons ee .nil))) Γ) :=
  wkS (wk_meth PySem.F.plainAttrs_list PySem.F.slot_list_insert PySem.F.type_list_insert mt_insert hs.ix hs.vis hs.deb hs.cd (pa_cons hk (pa_cons ha pa_nil (star_of ns _ _)) M.star) M.base M.few M.line M.star M.plain M.swap) fun E σ H ⟨B, G0, H0, G, bg, ρ, o, b', S, hex, q⟩ => by
  obtain ⟨xs, d, d', h1, h2, h3, rfl⟩ := mut_ex hex
  obtain ⟨z, y, b1, h4, h5, rfl⟩ := evs2 h1
  cases z with
  | int j =>
    cases d with
    | lst ds =>
      obtain ⟨⟨c1, c2, c3⟩, rfl⟩ := ite_opt (show (if ds.length < line ∧ 0 ≤ j ∧ j ≤ ds.length then some (D.lst (ds.insertIdx j.toNat y)) else none) = some d' from h3)
      obtain ⟨p, vs, s1, s2, s3, fin⟩ := S.lst (i := i) h2 hl (G' := G) (H' := H) (b' := bg) (ds2 := []) (w := .non) (y := .non) (g := [])
      refine ⟨.ref p, s1, .inl ⟨rfl, vs, .inl (.inl s2)⟩, B, G, bg, ρ, _, b1, S.st, S.env, h4, fun v G1 H1 f P1 ⟨_, _, _, R1⟩ _ => rd_fresh ok P1.st (S.step P1).env h5 fun w G' H' g P R nd fr => ?_⟩
      obtain ⟨G2, g2, P2, R2, nd2, fr2, _⟩ := P.lower hle R nd fr
      have fr3 : ∀ c ∈ g2, H c = none := fun c hc => by
        have z := fr2 c hc
        cases e : H c with
        | none => rfl
        | some o => rw [P1.kp c o (R2.fp c hc).1 e] at z; cases z
      obtain ⟨t1, t2⟩ := fin G2 H' b' (vs.take j.toNat ++ [w] ++ vs.drop j.toNat) w y g2 (ds.insertIdx j.toNat y) (P1.trans P2) R2 nd2 fr3 fun f rf nf df => by
        obtain ⟨f2, u1, u2⟩ := rf.ins j.toNat R2 (by omega)
        exact ⟨f2, u1, u2.nodup_iff.mpr (List.nodup_append.mpr ⟨nf, nd2, fun a ha c hc e => df a ha (e ▸ hc)⟩), fun c hc => List.mem_append.mp (u2.mem_iff.mp hc)⟩
      have hc1 : ds.length < 16777216 := c1
      exact ⟨p, vs, j, w, rfl, by rw [R1.int], t1, by rw [s3]; exact len_line c1, c2, by omega, q G2 _ σ t2⟩
    | _ => cases h3
  | _ => cases d <;> cases h3
theorem rps_ros {K : PySem.W.Frag} {G H : Hp} {B : Addr} {n : Nat} : ∀ {vs : List V} {ds : List D}, n = 0 → Rps K G vs ds → ROs (RO K G B H n) vs ds [] := fun h r => by subst h; exact r.ros
theorem ROs.cat {R : V → D → List Addr → Prop} {ws : List V} {es : List D} {g : List Addr} : ∀ {vs : List V} {ds : List D} {f : List Addr}, ROs R vs ds f → ROs R ws es g → ROs R (vs ++ ws) (ds ++ es) (f ++ g) := by
  intro vs ds f h r
  induction h with
  | nil => exact r
  | cons r1 t ih => rw [List.append_assoc]; exact .cons r1 ih
theorem extT_meets (l : Addr) (items : Array Value) (n : Nat) (b : Addr) (ob : Obj) (items2 : Array Value) (n2 : Nat) (hs0 : ¬(!items.isEmpty && Builtin.List.listTooLong (items.size + items2.size)) = true) (hs1 : items.size ≤ sizeLine) (hs2 : items.size + items2.size ≤ sizeLine + 1)
    (hoc : ob.cls = .type "tuple") (hod : ob.data = .seq items2 n2) :
    Meets (Builtin.«list.extend» ⟨[.ref l, .ref b], []⟩) (fun _ R s => s.heap.get? l = some { cls := .type "list", dict := none, data := .seq items n, slots := #[] } ∧ s.heap.get? b = some ob ∧ R (.ok (.ret Value.none)) { s with heap := s.heap.update l (Obj.mapSeq fun x => x ++ items2), toks := s.toks }) :=
  .of_wp fun prog w A R s h => by
    obtain ⟨c, dct, dat, sl⟩ := ob
    simp only at hoc hod
    subst hoc hod
    obtain ⟨hp, g, d, tk, os⟩ := s; obtain ⟨hl, hb, h⟩ := h; have f1 := AutoSeq1.idx_int; have f2 := AutoSeq1.sub_tuple_tuple; have f3 := AutoSeq1.sub_list_list; have f4 := AutoSeq1.sub_tuple_list; have f5 := AutoSeq1.sub_list_tuple;
    have hz' : (items ++ items2).size ≤ sizeLine + 1 := by rw [Array.size_append]; exact hs2
    wp_walk using (wpAny_updateSeq hl rfl (hz := hs1) (_hz' := hz')), AutoSeq1.wpAny_loadPart' hl, AutoSeq1.wpAny_loadPart' hb; exact ⟨_, rfl, h⟩
theorem mtm_or {X : Cx} {id : String} {r r' : V → List V → Hp → VK → Prop} (h : MtM X id r) (h' : MtM X id r') : MtM X id (fun x vs H Q => r x vs H Q ∨ r' x vs H Q) := fun pins s σ H x xs v us Q I rx rv z =>
  z.elim (h pins s σ H x xs v us Q I rx rv) (h' pins s σ H x xs v us Q I rx rv)
/-- l.extend(t), a tuple -/
def rExtT (K : PySem.W.Frag) : V → List V → Hp → VK → Prop := fun x vs H Q => ∃ l b xs zs, x = .ref l ∧ vs = [.ref b] ∧ H l = some (.lst xs) ∧ SqT K H b zs ∧ xs.length + zs.length ≤ sizeLine ∧ Q .non (upd H l (.lst (xs ++ zs)))
theorem mt_extT : MtM X "list.extend" (rExtT X.K) := by
  intro pins s σ H x vs v us Q I rx rv h
  obtain ⟨l, b, xs, zs, rfl, rfl, hH, hB, hz, q⟩ := h
  cases rx
  obtain ⟨u, rfl, ru⟩ := rv.one
  cases ru
  obtain ⟨z, its, n, r, hl, e⟩ := I.lstM hH
  obtain ⟨its2, r2, ⟨o2, e2, c2, n2, d2⟩, z2⟩ := I.tuple hB
  have hl2 := r2.length
  have hsz : its.toArray.size + its2.toArray.size ≤ sizeLine := by rw [List.size_toArray, List.size_toArray]; omega
  have hlong : ¬ (!its.toArray.isEmpty && Builtin.List.listTooLong (its.toArray.size + its2.toArray.size)) = true := by
    rw [notLongL hsz, Bool.and_false]
    exact Bool.false_ne_true
  refine call_meets PySem.F.slot_list_extend ⟨_, e, rfl⟩ PySem.F.entry_list_extend (PySem.F.args_list_extend_2 _ _)
    (extT_meets l its.toArray n b o2 its2.toArray n2 hlong (by rw [List.size_toArray]; omega) (by omega) c2 d2) ⟨e, e2, ?_⟩
  refine ⟨.non, _, I.lset (its' := its ++ its2) hH e (by simp) (r.append r2) ?_, rfl, q⟩
  rw [List.length_append]
  omega
/-- x.extend(e), a list of frozen things by another, or by a tuple -/
theorem z_extend (hs : SlotN X i x) (hK : C.K = X.K) (M : MetS X x "extend" a [] p2 apos cpos pos) (ha : PE X a (rd C 1 Γ ee)) (hl : lvl Γ i = 1) :
    PS X (.Expr (.Call (.Attribute (.Name x p2) "extend" apos) [a] [] cpos) pos) (zs C own ΓL Γ (.mut .extend i .nil (.cons ee .nil)) Γ) :=
  wkS (wk_meth PySem.F.plainAttrs_list PySem.F.slot_list_extend PySem.F.type_list_extend (mtm_or mt_extend mt_extT) hs.ix hs.vis hs.deb hs.cd (pa_cons ha pa_nil M.star) M.base M.few M.line M.star M.plain M.swap) fun E σ H ⟨B, G0, H0, G, bg, ρ, o, b', S, hex, q⟩ => by
  obtain ⟨xs, d, d', h1, h2, h3, rfl⟩ := mut_ex hex
  obtain ⟨y, h4, rfl⟩ := evs1 h1
  cases y with
  | lst es =>
    cases d with
    | lst ds =>
      obtain ⟨c, rfl⟩ := ite_opt (show (if ds.length + es.length ≤ line then some (D.lst (ds ++ es)) else none) = some d' from h3)
      obtain ⟨p, vs, s1, s2, s3, fin⟩ := S.lst (i := i) (n := 0) h2 hl (G' := G) (H' := H) (b' := bg) (ds2 := []) (w := .non) (y := .non) (g := [])
      refine ⟨.ref p, s1, .inl ⟨rfl, vs, .inl (.inl s2)⟩, B, G, bg, ρ, _, b', S.st, S.env, h4, fun v G' H' f P ⟨k, hk, _, R⟩ _ => ?_⟩
      obtain ⟨p2, ws, rfl, hw, rs⟩ := R.lst1 P.st.sub (by omega)
      obtain ⟨t1, t2⟩ := fin G' H' b' (vs ++ ws) .non .non [] (ds ++ es) P ⟨rfl, .non⟩ List.nodup_nil (by simp) fun f rf nf df => ⟨f ++ [], rf.cat rs.ros, by simpa using nf, fun c hc => .inl (by simpa using hc)⟩
      refine .inl ⟨p, p2, vs, ws, rfl, rfl, t1, hw, ?_, q G' _ σ t2⟩
      rw [s3, rs.length, sizeLine_eq]; exact c
    | _ => cases h3
  | tup es =>
    cases d with
    | lst ds =>
      obtain ⟨c, rfl⟩ := ite_opt (show (if ds.length + es.length ≤ line then some (D.lst (ds ++ es)) else none) = some d' from h3)
      obtain ⟨p, vs, s1, s2, s3, fin⟩ := S.lst (i := i) (n := 0) h2 hl (G' := G) (H' := H) (b' := bg) (ds2 := []) (w := .non) (y := .non) (g := [])
      refine ⟨.ref p, s1, .inl ⟨rfl, vs, .inl (.inl s2)⟩, B, G, bg, ρ, _, b', S.st, S.env, h4, fun v G' H' f P ⟨k, hk, _, R⟩ _ => ?_⟩
      obtain ⟨p2, ws, rfl, hw, rs⟩ := ((RO.ncRp rfl R).2).tupAll
      have hw := hw H' P.st.sub
      rw [hK] at hw
      obtain ⟨t1, t2⟩ := fin G' H' b' (vs ++ ws) .non .non [] (ds ++ es) P ⟨rfl, .non⟩ List.nodup_nil (by simp) fun f rf nf df => ⟨f ++ [], rf.cat rs.ros, by simpa using nf, fun c hc => .inl (by simpa using hc)⟩
      refine .inr ⟨p, p2, vs, ws, rfl, rfl, t1, hw, ?_, q G' _ σ t2⟩
      rw [s3, rs.length, sizeLine_eq]; exact c
    | _ => cases h3
  | _ => cases d <;> cases h3
theorem SI.dct {B : Addr} {G0 H0 G H : Hp} {bg : Bg} {σ : L2.St} {ρ : Rho} {ds : List (D × D)} (S : SI C B G0 H0 Γ G bg H σ ρ) (hi : ρ[i]? = some (some (.dct ds))) (hl : lvl Γ i = 1) :
    ∃ a kvs, σ[i]? = some (some (.ref a)) ∧ ∀ (G' H' : Hp) (b' : Bg) (kvs2 : List (Key × V)) (ds2 : List (D × D)), Post B G H G' b' H' → H' a = some (.dK kvs) ∧ Rpk C.K G' kvs ds ∧
      (Rpk C.K G' kvs2 ds2 → SI C B G0 H0 Γ G' b' (upd H' a (.dK kvs2)) σ (ρ.set i (some (.dct ds2)))) := by
  obtain ⟨f, h⟩ := S.own
  obtain ⟨v, a1, a2, a3, a4⟩ := h.1 i _ hi
  rw [hl] at a2
  obtain ⟨a, vs, ff, rfl, e, nb, ga, ha, rs⟩ := ROk.at a2
  refine ⟨a, vs, a1, fun G' H' b' kvs2 ds2 P => ⟨P.kp a _ nb ha, (rs.imp (R' := RO C.K G' B H' 0) fun v d g _ r => r.post P).rpk, fun r2 => ?_⟩⟩
  have ga' : G' a = none := (slot_ne (h.post P) hi (by rw [e]; exact List.mem_cons_self)).2.1
  refine S.chg P h (g2 := [a]) hi a1 (by rw [e]; exact List.mem_cons_self) ?_ (by simp) fun c hc => ?_
  · rw [hl]
    exact .inr (.inr ⟨a, kvs2, ds2, [], rfl, rfl, rfl, nb, ga', upd_same, r2.rok⟩)
  · have e2 : c = a := by simpa using hc
    subst e2
    exact .inl (by rw [e]; exact List.mem_cons_self)
theorem setp_ex {ρ : Rho} {bg b' : Bg} {o : Out} (h : ex C.Φ ρ (.setp i .nil ek ee) bg = some (o, b')) : ∃ y z b1 d d', ev C.Φ ρ ee bg = some (y, b1) ∧ ev C.Φ ρ ek b1 = some (z, b') ∧ ρ[i]? = some (some d) ∧ setD z y d = some d' ∧ o = .nx (ρ.set i (some d')) := by
  obtain ⟨y, b1, h1, h2⟩ := bnd_some h
  obtain ⟨ks, b2, h3, h4⟩ := bnd_some h2
  obtain ⟨rfl, rfl⟩ := ret_some h3
  obtain ⟨z, b3, h5, h6⟩ := bnd_some h4
  obtain ⟨d, b4, h7, h8⟩ := bnd_some h6
  obtain ⟨e1, rfl⟩ := lift_some h7
  obtain ⟨d', b5, h9, h10⟩ := bnd_some h8
  obtain ⟨e2, rfl⟩ := lift_some h9
  obtain ⟨rfl, rfl⟩ := ret_some h10
  exact ⟨y, z, _, d, d', h1, h5, getD_some e1, e2, rfl⟩
/-- d[k] = e, d a slot's dict of frozen things -/
theorem z_setd (hs : SlotN X i x) (hK : C.K = X.K) (hx : XOk X n) (hk : PE X k (rd C 9 Γ ek)) (ha : PE X a (rd C 0 Γ ee)) (hl : lvl Γ i = 1) (hw : swapsWith a (some (.Subscript (.Name x p2) k p3)) pos.line X.env = pure false) :
    PS X (.Assign [.Subscript (.Name x p2) k p3] a pos) (fun E σ H => ∃ B G0 H0 G b ρ o b' kvs, SI C B G0 H0 Γ G b H σ ρ ∧ ex C.Φ ρ (.setp i .nil ek ee) b = some (o, b') ∧ ends C own ΓL Γ B G0 H0 b' E o ∧ ρ[i]? = some (some (.dct kvs))) := by
  have hu := hx.room.units
  refine wkS (ps_dput (by omega) (pe_var hs.ix hs.vis hs.deb hs.cd) hk ha hw) fun E σ H ⟨B, G0, H0, G, bg, ρ, o, b', ds, S, hex, q, hd⟩ => ?_
  obtain ⟨y, z, b1, d, d', h1, h2, h3, h4, rfl⟩ := setp_ex hex
  rw [hd] at h3
  cases h3
  obtain ⟨⟨c1, c2⟩, rfl⟩ := ite_opt (show (if isKey z = true ∧ ds.length < line then some (D.dct (dput ds z y)) else none) = some d' from h4)
  obtain ⟨p, kvs, s1, fin⟩ := S.dct hd hl
  refine ⟨B, G, bg, ρ, y, b1, S.st, S.env, h1, fun v G1 H1 f P1 ⟨k1, a1, _, R1⟩ _ => ⟨.ref p, s1, B, G1, b1, ρ, z, b', P1.st, S.env.post P1, h2, fun w G2 H2 g P2 ⟨k2, _, _, R2⟩ _ => ?_⟩⟩
  obtain ⟨kk, rfl⟩ := kD_of c1
  obtain ⟨rfl, hkk⟩ := kV_of (RO.ncRp (by cases kk <;> rfl) R2).2
  obtain ⟨t1, t2, t3⟩ := fin G2 H2 b' (putK kvs kk v) (dput ds (kD kk) y) (P1.trans P2)
  have R0 := ((R1.cast (k := 0) (by omega)).2).mono P2.gs
  exact ⟨p, _, rfl, .inl ⟨kvs, kk, t1, rfl, by rw [t2.length]; exact len_line c2, rfl⟩, q G2 _ σ (t3 (t2.put hkk R0))⟩
/-- l[k] = e, l a slot's list -/
theorem z_setl (hs : SlotN X i x) (hk : PE X k (rd C 9 Γ ek)) (ha : PE X a (rd C 0 Γ ee)) (hl : lvl Γ i = 1) (hw : swapsWithSole [.Subscript (.Name x p2) k p3] a pos.line X.env = pure false) (hw2 : swappedStores [.Subscript (.Name x p2) k p3] a X.env = pure none)
    (h1 : (assignEach [.Subscript (.Name x p2) k p3] X.env).map (·.2) = [assign (.Subscript (.Name x p2) k p3) X.env]) (hsub : ∀ v, assign (.Subscript (.Name x p2) k p3) X.env v = (do
      let ov ← holding [v] (eval (.Name x p2) X.env)
      let iv ← holding [v, ov] (eval k X.env)
      standAt p3
      holding [v, ov, iv] (setItem ov iv v)
      release [v, ov, iv] [])) :
    PS X (.Assign [.Subscript (.Name x p2) k p3] a pos) (fun E σ H => ∃ B G0 H0 G b ρ o b' ds, SI C B G0 H0 Γ G b H σ ρ ∧ ex C.Φ ρ (.setp i .nil ek ee) b = some (o, b') ∧ ends C own ΓL Γ B G0 H0 b' E o ∧ ρ[i]? = some (some (.lst ds))) := by
  refine wkS (ps_asg ha (pg_sub (pe_var hs.ix hs.vis hs.deb hs.cd) hk set_list hsub) hw hw2 h1) fun E σ H ⟨B, G0, H0, G, bg, ρ, o, b', ds, S, hex, q, hd⟩ => ?_
  obtain ⟨y, z, b1, d, d', h1, h2, h3, h4, rfl⟩ := setp_ex hex
  rw [hd] at h3
  cases h3
  cases z with
  | int j =>
    obtain ⟨jj, c1, rfl⟩ := Option.map_eq_some_iff.mp (show (ixN ds.length j).map (fun j => D.lst (ds.set j y)) = some d' from h4)
    obtain ⟨p, vs, s1, s2, s3, fin⟩ := S.lst (i := i) (n := 0) hd hl (G' := G) (H' := H) (b' := bg) (ds2 := []) (w := .non) (y := .non) (g := [])
    refine ⟨B, G, bg, ρ, y, b1, S.st, S.env, h1, fun v G1 H1 f P1 ⟨k1, a1, _, R1⟩ _ => ⟨.ref p, s1, B, G1, b1, ρ, _, b', P1.st, S.env.post P1, h2, fun w G2 H2 g P2 ⟨k2, _, _, R2⟩ _ => ?_⟩⟩
    have R0 := ((R1.cast (k := 0) (by omega)).2).mono P2.gs
    obtain ⟨t1, t2⟩ := fin G2 H2 b' (vs.set jj v) v y [] (ds.set jj y) (P1.trans P2) ⟨rfl, R0⟩ List.nodup_nil (by simp) fun f rf nf df => rf.put List.nodup_nil jj ⟨rfl, R0⟩ nf (by simp)
    exact ⟨p, vs, j, jj, rfl, R2.int, t1, by rw [s3]; exact c1, q G2 _ σ t2⟩
  | _ => cases h4
/-- x[k] = e, either -/
theorem z_set (h1 : PS X st (fun E σ H => ∃ B G0 H0 G b ρ o b' kvs, SI C B G0 H0 Γ G b H σ ρ ∧ ex C.Φ ρ (.setp i .nil ek ee) b = some (o, b') ∧ ends C own ΓL Γ B G0 H0 b' E o ∧ ρ[i]? = some (some (.dct kvs))))
    (h2 : PS X st (fun E σ H => ∃ B G0 H0 G b ρ o b' ds, SI C B G0 H0 Γ G b H σ ρ ∧ ex C.Φ ρ (.setp i .nil ek ee) b = some (o, b') ∧ ends C own ΓL Γ B G0 H0 b' E o ∧ ρ[i]? = some (some (.lst ds)))) : PS X st (zs C own ΓL Γ (.setp i .nil ek ee) Γ) :=
  wkS (orS h1 h2) fun E σ H ⟨B, G0, H0, G, bg, ρ, o, b', S, hex, q⟩ => by
  obtain ⟨y, z, b1, d, d', e1, e2, e3, e4, rfl⟩ := setp_ex hex
  cases d with
  | lst ds => exact .inr ⟨B, G0, H0, G, bg, ρ, _, b', ds, S, hex, q, e3⟩
  | dct ds => exact .inl ⟨B, G0, H0, G, bg, ρ, _, b', ds, S, hex, q, e3⟩
  | _ => cases e4
/-- name op= e, ints -/
def augOf (X : Cx) (op : Bo) : Prop := ∃ ti : TIp, PIp X (bopOf op) ti ∧ ∀ i j r H (Q : VK), binD op (.int i) (.int j) = some (.int r) → Q (.int r) H → ti (.int i) (.int j) H Q
theorem aug_of : ∀ op, op = .add ∨ op = .sub ∨ op = .mul → augOf X op
  | .add, _ => ⟨_, iop_add, fun i j r H Q h q => ⟨i, j, rfl, rfl, by cases h; exact q⟩⟩
  | .sub, _ => ⟨_, iop_sub, fun i j r H Q h q => ⟨i, j, rfl, rfl, by cases h; exact q⟩⟩
  | .mul, _ => ⟨_, opI (C := fun i j => CMul i j ∨ CMulX i j) (g := fun i j => i * j) fun _ _ _ _ _ _ _ hc q => imul_int q (hc.elim CMul.ok CMulX.ok), fun i j r H Q h q => by
      obtain ⟨c, e⟩ := ite_opt (show (if (smallI i || smallI j || (medI i && medI j)) = true then some (D.int (i * j)) else none) = some (.int r) from h)
      cases e
      refine ⟨i, j, rfl, rfl, ?_, q⟩
      rcases Bool.or_eq_true_iff.mp c with c | c
      · rcases Bool.or_eq_true_iff.mp c with c | c
        · exact .inl (.inl (smallI_ok c))
        · exact .inl (.inr (smallI_ok c))
      · obtain ⟨c1, c2⟩ := Bool.and_eq_true_iff.mp c
        exact .inr (med_ok c1 c2)⟩
  | .fdiv, h => by rcases h with h | h | h <;> cases h
  | .mod, h => by rcases h with h | h | h <;> cases h
  | .pow, h => by rcases h with h | h | h <;> cases h
theorem z_aug {op : Bo} (hN : X.N.Nodup) (hi : X.N[i]? = some x) (hx : Loc X.env.scope x) (hf : X.fn x = true ∨ X.env.scope.names.lookup x = some .local) (he : PE X e (rd C 9 Γ ee)) (hop : op = .add ∨ op = .sub ∨ op = .mul) (hb : C.bs ≠ some i) :
    PS X (.AugAssign (.Name x p2) (bopOf op) e pos) (zs C own ΓL Γ (.aug i op ee) Γ) := by
  obtain ⟨ti, h1, h2⟩ := aug_of (X := X) op hop
  refine wkS (ps_aug hN hi hx he h1 hf) fun E σ H ⟨B, G0, H0, G, b, ρ, o, b', S, hex, q⟩ => ?_
  obtain ⟨d, b1, e1, e2⟩ := bnd_some hex
  obtain ⟨e3, rfl⟩ := lift_some e1
  obtain ⟨y, b2, e4, e5⟩ := bnd_some e2
  obtain ⟨z, b3, e6, e7⟩ := bnd_some e5
  obtain ⟨e8, rfl⟩ := lift_some e6
  obtain ⟨r, b4, e9, e10⟩ := bnd_some e7
  obtain ⟨rfl, rfl⟩ := intOf_some e9
  obtain ⟨rfl, rfl⟩ := ret_some e10
  have hd := getD_some e3
  obtain ⟨f, h⟩ := S.own
  obtain ⟨v, a1, a2, a3, a4⟩ := h.1 i d hd
  refine ⟨v, a1, B, G, _, ρ, y, _, S.st, S.env, e4, fun w G' H' fp P ⟨k, _, _, R⟩ _ => ?_⟩
  have hil : i < ρ.length := (List.getElem?_eq_some_iff.mp hd).1
  have fin : E.nx (σ.set i (some (.int r))) H' := q G' H' _ (S.setv P (n := lvl Γ i) (fp := []) hil hb rfl (fun _ _ => rfl) (.nc rfl (.int r)) List.nodup_nil (by simp))
  cases d with
  | int x0 =>
    cases y with
    | int y0 =>
      rw [a2.int, R.int]
      exact h2 x0 y0 r H' _ e8 fin
    | _ => rcases hop with h | h | h <;> (subst h; cases e8)
  | str x0 =>
    rcases hop with h | h | h
    · subst h
      cases y with
      | str y0 =>
        obtain ⟨_, z⟩ := ite_opt (show (if x0.length + y0.length ≤ line then some (D.str (x0 ++ y0)) else none) = some (.int r) from e8)
        cases z
      | _ => cases e8
    · subst h; cases e8
    · subst h; cases e8
  | lst x0 =>
    rcases hop with h | h | h
    · subst h
      cases y with
      | lst y0 =>
        obtain ⟨_, z⟩ := ite_opt (show (if x0.length + y0.length ≤ line then some (D.lst (x0 ++ y0)) else none) = some (.int r) from e8)
        cases z
      | _ => cases e8
    · subst h; cases e8
    · subst h; cases e8
  | tup x0 =>
    rcases hop with h | h | h
    · subst h
      cases y with
      | tup y0 =>
        obtain ⟨_, z⟩ := ite_opt (show (if x0.length + y0.length ≤ line then some (D.tup (x0 ++ y0)) else none) = some (.int r) from e8)
        cases z
      | _ => cases e8
    · subst h; cases e8
    · subst h; cases e8
  | _ => rcases hop with h | h | h <;> (subst h; cases e8)
end
end Dn

set_option Elab.async false
set_option linter.all false
set_option maxRecDepth 100000
/-! Dn, part P2: the bag, changed. -/
namespace Dn
open PySem PySem.Spec PyProof.Rows L2
section
variable {X : Cx} {C : Cn} {own : Nat} {ΓL Γ : Gam} {m n i : Nat} {x : Str} {a e : Expr} {ee : Ex} {pos p1 p2 p3 p4 : Pos} {j1 j2 : Nat}
theorem bag_to {B Ca : Addr} {G H : Hp} {b b2 : Bg} (st : StOk B G H b) (h1 : H B = some (.lst [.int b.st, .int b.ch, .int b.ix, .ref Ca])) (nC : Ca ≠ B) (h2 : H Ca = some (.lst (b.cells.map V.int))) (ok : b2.ok) (hc : b2.cells = b.cells) :
    Post B G H G b2 (upd H B (.lst [.int b2.st, .int b2.ch, .int b2.ix, .ref Ca])) := by
  refine ⟨fun _ _ e => e, fun _ h => .inl h, fun a o nb e => by rw [upd_ne nb]; exact e, ⟨fun a o e => ?_, st.gb, ok, Ca, nC, upd_same, by rw [upd_ne nC, hc]; exact h2⟩, fun C' x y z e => ?_⟩
  · have q : a ≠ B := fun z => by subst z; rw [st.gb] at e; cases e
    rw [upd_ne q]
    exact st.sub a o e
  · rw [h1] at e
    cases e
    exact ⟨_, _, _, upd_same⟩
theorem bgSet_ok {k : Nat} {v : Int} {b b2 : Bg} (ok : b.ok) (h : bgSet k v b = some b2) : b2.ok ∧ b2.cells = b.cells ∧ ∀ Ca, ([V.int b.st, .int b.ch, .int b.ix, .ref Ca].set k (.int v)) = [.int b2.st, .int b2.ch, .int b2.ix, .ref Ca] ∧ k < 4 := by
  match k, h with
  | 0, h =>
    obtain ⟨c, rfl⟩ := ite_opt (show (if 0 ≤ v then some { b with st := v } else none) = some b2 from h)
    exact ⟨⟨c, ok.ch, ok.ch2, ok.ix, ok.cs, ok.sz⟩, rfl, fun Ca => ⟨rfl, by decide⟩⟩
  | 1, h =>
    obtain ⟨⟨c1, c2⟩, rfl⟩ := ite_opt (show (if 0 ≤ v ∧ v < 2147483647 then some { b with ch := v } else none) = some b2 from h)
    exact ⟨⟨ok.st, c1, c2, ok.ix, ok.cs, ok.sz⟩, rfl, fun Ca => ⟨rfl, by decide⟩⟩
  | k + 2, h => cases h
theorem ixN_nat {n k : Nat} (h : k < n) : ixN n (k : Int) = some k := by
  unfold ixN
  rw [if_pos (by omega), if_pos (by omega)]
  simp
/-- bag[k] = e -/
theorem z_bgs {k : Nat} (hs : SlotM X i x) (hb : C.bs = some i) (ha : PE X a (rd C 9 Γ ee)) (hw : swapsWithSole [.Subscript (.Name x p1) (.Constant (.int (k : Int)) j1 p2) p3] a pos.line X.env = pure false) (hw2 : swappedStores [.Subscript (.Name x p1) (.Constant (.int (k : Int)) j1 p2) p3] a X.env = pure none) :
    PS X (.Assign [.Subscript (.Name x p1) (.Constant (.int (k : Int)) j1 p2) p3] a pos) (zs C own ΓL Γ (.bgs k ee) Γ) :=
  wkS (ps_asg ha (pg_sub (pe_var hs.ix hs.vis hs.deb hs.cd) pe_int set_list fun v => rfl) hw hw2 rfl) fun E σ H ⟨B, G0, H0, G, b, ρ, o, b', S, hex, q⟩ => by
  obtain ⟨d, b1, h1, h2⟩ := bnd_some hex
  obtain ⟨v, b2, h3, h4⟩ := bnd_some h2
  obtain ⟨rfl, rfl⟩ := intOf_some h3
  obtain ⟨b3, h5, h6⟩ := Option.map_eq_some_iff.mp (show (bgSet k v b2).map (fun b' => (Out.nx ρ, b')) = some (o, b') from h4)
  cases h6
  refine ⟨B, G, b, ρ, _, b2, S.st, S.env, h1, fun w G1 H1 f P1 ⟨_, _, _, R⟩ _ => ⟨.ref B, (S.env.bag i hb).1, ?_⟩⟩
  obtain ⟨ok, Ca, nC, e1, e2⟩ := P1.st.bag
  obtain ⟨k1, k2, k3⟩ := bgSet_ok ok h5
  obtain ⟨k4, k5⟩ := k3 Ca
  refine ⟨B, _, (k : Int), k, rfl, rfl, e1, ixN_nat k5, ?_⟩
  rw [R.int, k4]
  exact q G1 _ σ (S.step (P1.trans (bag_to P1.st e1 nC e2 k1 k2)))
theorem get_list0 : PGet X (fun o y H Q => ∃ p xs, ∃ k : Nat, ∃ v, o = .ref p ∧ y = .int (k : Int) ∧ SqL X.K H p xs ∧ xs[k]? = some v ∧ Q v H) := by
  intro pins s σ H o y ov yv Q I ro ry h
  obtain ⟨p, xs, k, v, rfl, rfl, hq, hv, q⟩ := h
  cases ro
  obtain ⟨t, rfl⟩ := ry
  obtain ⟨its, rv, pl, hz⟩ := I.list hq
  obtain ⟨u, hu, ru⟩ := rv.get hv
  have hk : k < xs.length := (List.getElem?_eq_some_iff.mp hv).1
  have h63 := line63
  exact wpAny_getItem_list pl.isList (Int.natCast_nonneg _) (by omega) (by simpa using hu) ⟨v, H, I, ru, q⟩
/-- bag[2] += 1 -/
theorem z_bgx (hs : SlotM X i x) (hb : C.bs = some i) : PS X (.AugAssign (.Subscript (.Name x p1) (.Constant (.int ((2 : Nat) : Int)) j1 p2) p3) .Add (.Constant (.int 1) j2 pos) p4) (zs C own ΓL Γ .bgx Γ) :=
  wkS (ps_augS (pe_var hs.ix hs.vis hs.deb hs.cd) pe_int get_list0 pe_int iop_add set_list fun _ _ _ => rfl) fun E σ H ⟨B, G0, H0, G, b, ρ, o, b', S, hex, q⟩ => by
  have e : some (Out.nx ρ, { b with ix := b.ix + 1 }) = some (o, b') := hex
  cases e
  obtain ⟨ok, Ca, nC, e1, e2⟩ := S.st.bag
  have ok2 : Bg.ok { b with ix := b.ix + 1 } := ⟨ok.st, ok.ch, ok.ch2, by have := ok.ix; show 0 ≤ b.ix + 1; omega, ok.cs, ok.sz⟩
  exact ⟨.ref B, (S.env.bag i hb).1, B, _, 2, .int b.ix, rfl, rfl, .inl (.inl e1), rfl, b.ix, 1, rfl, rfl, B, _, ((2 : Nat) : Int), 2, rfl, rfl, e1, ixN_nat (show 2 < 4 by decide), q G _ σ (S.step (bag_to S.st e1 nC e2 ok2 rfl))⟩
end
end Dn

set_option Elab.async false
set_option linter.all false
set_option maxRecDepth 100000
/-! Dn, part P3: things within things, changed in place. -/
namespace Dn
open PySem PySem.Spec PyProof.Rows L2
section
variable {X : Cx} {C : Cn} {own : Nat} {ΓL Γ Γ1 Γ2 : Gam} {m n ma mb i : Nat} {a b e k kq : Expr} {ea eb ee ek eq : Ex} {pos p2 p3 p4 apos cpos : Pos} {x : Str} {st : Stmt}
theorem ROk.sub {R : V → D → List Addr → Prop} {key : Key} {d2 : D} : ∀ {kvs : List (Key × V)} {ds : List (D × D)} {f : List Addr}, ROk R kvs ds f → dget ds (kD key) = some d2 →
    ∃ v g f1 f2, f = f1 ++ (g ++ f2) ∧ valV kvs key = some v ∧ R v d2 g ∧ ∀ (R' : V → D → List Addr → Prop) (y : D) (g' : List Addr), (∀ v d h, (∀ c ∈ h, c ∈ f1 ∨ c ∈ f2) → R v d h → R' v d h) → R' v y g' → ROk R' kvs (dsub ds (kD key) y) (f1 ++ (g' ++ f2)) := by
  intro kvs ds f h
  induction h with
  | nil => intro e; cases e
  | @cons k' v d f0 g0 kvs ds c r t ih =>
    intro e
    by_cases q : k' = key
    · have e2 : d2 = d := by
        unfold dget at e
        rw [List.find?_cons] at e
        simp only [keq_kD, decide_eq_true q] at e
        exact (Option.some.inj e).symm
      subst e2
      refine ⟨v, f0, [], g0, rfl, valV_pos q, r, fun R' y g' keep r' => ?_⟩
      have e3 : dsub ((kD k', d2) :: ds) (kD key) y = (kD k', y) :: ds := by
        show (if keq (kD k') (kD key) = true then (kD k', y) :: ds else _) = _
        rw [keq_kD, if_pos (decide_eq_true q)]
      rw [e3]
      show ROk R' _ _ (g' ++ g0)
      exact .cons c r' (t.imp fun v d h hh rr => keep v d h (fun c hc => .inr (hh c hc)) rr)
    · have e2 : dget ds (kD key) = some d2 := by
        unfold dget at e ⊢
        rw [List.find?_cons] at e
        simp only [keq_kD, decide_eq_false q] at e
        exact e
      obtain ⟨w, g, f1, f2, rfl, hv, rw_, cont⟩ := ih e2
      refine ⟨w, g, f0 ++ f1, f2, by simp, (valV_neg q).trans hv, rw_, fun R' y g' keep r' => ?_⟩
      have e3 : dsub ((kD k', d) :: ds) (kD key) y = (kD k', d) :: dsub ds (kD key) y := by
        show (if keq (kD k') (kD key) = true then _ else (kD k', d) :: dsub ds (kD key) y) = _
        rw [keq_kD, if_neg (by simpa using q)]
      rw [e3, List.append_assoc]
      exact .cons c (keep v d f0 (fun c hc => .inl (List.mem_append_left _ hc)) r) (cont R' y g' (fun v d h hh rr => keep v d h (fun c hc => (hh c hc).imp (List.mem_append_right _) id) rr) r')
/-- a dict within a slot's dict, changed -/
theorem SI.dct2 {B : Addr} {G0 H0 G H : Hp} {bg : Bg} {σ : L2.St} {ρ : Rho} {ds ds2 : List (D × D)} {key : Key} (S : SI C B G0 H0 Γ G bg H σ ρ) (hi : ρ[i]? = some (some (.dct ds))) (hl : lvl Γ i = 2) (hk : dget ds (kD key) = some (.dct ds2)) :
    ∃ p kvs a2 kvs2, σ[i]? = some (some (.ref p)) ∧ valV kvs key = some (.ref a2) ∧ ∀ (G' H' : Hp) (b' : Bg), Post B G H G' b' H' → H' p = some (.dK kvs) ∧ H' a2 = some (.dK kvs2) ∧ Rpk C.K G' kvs2 ds2 ∧
      ∀ (kvs3 : List (Key × V)) (ds3 : List (D × D)), Rpk C.K G' kvs3 ds3 → SI C B G0 H0 Γ G' b' (upd H' a2 (.dK kvs3)) σ (ρ.set i (some (.dct (dsub ds (kD key) (.dct ds3))))) := by
  obtain ⟨f, h⟩ := S.own
  obtain ⟨v, a1, a2, a3, a4⟩ := h.1 i _ hi
  rw [hl] at a2
  obtain ⟨p, kvs, ff, rfl, e, nb, gp, hp, rs⟩ := ROk.at a2
  rw [e] at a3
  obtain ⟨n1, n2⟩ := List.nodup_cons.mp a3
  obtain ⟨w, g, f1, f2, rfl, hv, rw_, cont⟩ := ROk.sub rs hk
  obtain ⟨q, kvs2, fq, rfl, rfl, nbq, gq, hq, rs2⟩ := ROk.at rw_
  have rk2 : Rpk C.K G kvs2 ds2 := rs2.rpk
  refine ⟨p, kvs, q, kvs2, a1, hv, fun G' H' b' P => ⟨P.kp p _ nb hp, P.kp q _ nbq hq, Rpk.mono P.gs rk2, fun kvs3 ds3 r3 => ?_⟩⟩
  have mq : q ∈ f i := by rw [e]; simp
  have gq' : G' q = none := (slot_ne (h.post P) hi mq).2.1
  have gp' : G' p = none := (slot_ne (h.post P) hi (by rw [e]; exact List.mem_cons_self)).2.1
  have np : p ≠ q := fun z => n1 (by rw [z]; simp)
  obtain ⟨m1, m2, m3⟩ := List.nodup_append.mp n2
  obtain ⟨m4, m5, m6⟩ := List.nodup_append.mp m2
  have q1 : q ∉ f1 := fun z => m3 q z q (by simp) rfl
  have q2 : q ∉ f2 := fun z => m6 q (by simp) q z rfl
  have R2 : RO C.K G' B (upd H' q (.dK kvs3)) 1 (.ref q) (.dct ds3) [q] := .inr (.inr ⟨q, kvs3, ds3, [], rfl, rfl, rfl, nbq, gq', upd_same, r3.rok⟩)
  have key2 := cont (RO C.K G' B (upd H' q (.dK kvs3)) 1) (.dct ds3) [q] (fun v d hh hs r => by
    have r' := r.post P
    refine r'.keep (fun _ _ e => e) (fun c hc => (r'.fp c hc).2.1) fun c hc => upd_ne fun z => ?_
    rcases hs c hc with y | y
    · exact q1 (z ▸ y)
    · exact q2 (z ▸ y)) R2
  refine S.chg P h (g2 := p :: (f1 ++ ([q] ++ f2))) hi a1 mq ?_ ?_ fun c hc => ?_
  · rw [hl]
    exact .inr (.inr ⟨p, kvs, _, _, rfl, rfl, rfl, nb, gp', by rw [upd_ne np]; exact P.kp p _ nb hp, key2⟩)
  · have nd2 : ([q] ++ f2).Nodup := by
      rw [List.nodup_append]
      refine ⟨by simp, m5, fun a ha c hc => ?_⟩
      have e1 : a = q := by simpa using ha
      subst e1
      exact m6 a (by simp) c hc
    refine List.nodup_cons.mpr ⟨fun z => n1 ?_, List.nodup_append.mpr ⟨m1, nd2, fun a ha c hc => ?_⟩⟩
    · rcases List.mem_append.mp z with y | y
      · exact List.mem_append_left _ y
      · rcases List.mem_append.mp y with y | y
        · have : p = q := by simpa using y
          exact absurd this np
        · exact List.mem_append_right _ (List.mem_append_right _ y)
    · rcases List.mem_append.mp hc with y | y
      · have : c = q := by simpa using y
        subst this
        exact m3 a ha c (by simp)
      · exact m3 a ha c (List.mem_append_right _ y)
  · refine .inl ?_
    rw [e]
    rcases List.mem_cons.mp hc with rfl | hc
    · exact List.mem_cons_self
    · refine List.mem_cons_of_mem _ ?_
      rcases List.mem_append.mp hc with y | y
      · exact List.mem_append_left _ y
      · rcases List.mem_append.mp y with y | y
        · have : c = q := by simpa using y
          subst this
          simp
        · exact List.mem_append_right _ (List.mem_append_right _ y)
theorem noSl_of {e : Expr} (h : isSl e = false) : NoSl e := by
  intro ov iv
  cases e <;> first | rfl | cases h
theorem upAt1 {f : D → Option D} {q : D} {d d' : D} (h : upAt f [q] d = some d') : ∃ ds x y, d = .dct ds ∧ isKey q = true ∧ dget ds q = some x ∧ f x = some y ∧ d' = .dct (dsub ds q y) := by
  cases d with
  | dct ds =>
    have h' : (if isKey q = true then (dget ds q).bind fun x => (f x).map fun y => D.dct (dsub ds q y) else none) = some d' := h
    by_cases c : isKey q = true
    · rw [if_pos c] at h'
      obtain ⟨x, e1, e2⟩ := Option.bind_eq_some_iff.mp h'
      obtain ⟨y, e3, e4⟩ := Option.map_eq_some_iff.mp e2
      exact ⟨ds, x, y, rfl, c, e1, e3, e4.symm⟩
    · rw [if_neg c] at h'; cases h'
  | _ => cases h
theorem setp1_ex {ρ : Rho} {bg b' : Bg} {o : Out} (h : ex C.Φ ρ (.setp i (.cons eq .nil) ek ee) bg = some (o, b')) : ∃ y q z b1 b2 d d', ev C.Φ ρ ee bg = some (y, b1) ∧ ev C.Φ ρ eq b1 = some (q, b2) ∧ ev C.Φ ρ ek b2 = some (z, b') ∧ ρ[i]? = some (some d) ∧ upAt (setK z y) [q] d = some d' ∧ o = .nx (ρ.set i (some d')) := by
  obtain ⟨y, b1, h1, h2⟩ := bnd_some h
  obtain ⟨ks, b2, h3, h4⟩ := bnd_some h2
  obtain ⟨q, hq, rfl⟩ := evs1 h3
  obtain ⟨z, b3, h5, h6⟩ := bnd_some h4
  obtain ⟨d, b4, h7, h8⟩ := bnd_some h6
  obtain ⟨e1, rfl⟩ := lift_some h7
  obtain ⟨d', b5, h9, h10⟩ := bnd_some h8
  obtain ⟨e2, rfl⟩ := lift_some h9
  obtain ⟨rfl, rfl⟩ := ret_some h10
  exact ⟨y, q, z, _, _, d, d', h1, hq, h5, getD_some e1, e2, rfl⟩
/-- d[q][k] = e, d a slot's dict of dicts -/
theorem z_setp1 (hs : SlotN X i x) (hx : XOk X n) (hq : PE X kq (rd C 9 Γ eq)) (hk : PE X k (rd C 9 Γ ek)) (ha : PE X a (rd C 0 Γ ee)) (hl : lvl Γ i = 2) (sq : isSl kq = false) (hw : swapsWith a (some (.Subscript (.Subscript (.Name x p2) kq p3) k p4)) pos.line X.env = pure false) :
    PS X (.Assign [.Subscript (.Subscript (.Name x p2) kq p3) k p4] a pos) (zs C own ΓL Γ (.setp i (.cons eq .nil) ek ee) Γ) := by
  have hu := hx.room.units
  refine wkS (ps_dput (by omega) (pe_dget (by omega) (pe_var hs.ix hs.vis hs.deb hs.cd) hq (noSl_of sq)) hk ha hw) fun E σ H ⟨B, G0, H0, G, bg, ρ, o, b', S, hex, q⟩ => ?_
  obtain ⟨y, qd, z, b1, b2, d, d', h1, h2, h3, h4, h5, rfl⟩ := setp1_ex hex
  obtain ⟨ds, x0, y0, rfl, c0, e1, e2, rfl⟩ := upAt1 h5
  have hd := h4
  obtain ⟨qq, rfl⟩ := kD_of c0
  refine ⟨B, G, bg, ρ, y, b1, S.st, S.env, h1, fun v G1 H1 f P1 ⟨k1, a1, _, R1⟩ _ => ?_⟩
  cases x0 with
  | dct ds2 =>
    obtain ⟨⟨c1, c2⟩, rfl⟩ := ite_opt (show (if isKey z = true ∧ ds2.length < line then some (D.dct (dput ds2 z y)) else none) = some y0 from e2)
    obtain ⟨p, kvs, a2, kvs2, s1, s2, fin⟩ := S.dct2 hd hl e1
    refine ⟨.ref p, s1, B, G1, b1, ρ, _, b2, P1.st, S.env.post P1, h2, fun w G2 H2 g P2 ⟨k2, _, _, R2⟩ _ => ?_⟩
    obtain ⟨rfl, hqq⟩ := kV_of (RO.ncRp (by cases qq <;> rfl) R2).2
    obtain ⟨t1, t2, t3, _⟩ := fin G2 H2 b2 (P1.trans P2)
    refine ⟨p, .ref a2, rfl, .inl ⟨kvs, qq, .inl t1, rfl, s2.symm⟩, B, G2, b2, ρ, z, b', P2.st, S.env.post (P1.trans P2), h3, fun u G3 H3 g3 P3 ⟨k3, _, _, R3⟩ _ => ?_⟩
    obtain ⟨kk, rfl⟩ := kD_of c1
    obtain ⟨rfl, hkk⟩ := kV_of (RO.ncRp (by cases kk <;> rfl) R3).2
    obtain ⟨u1, u2, u3, u4⟩ := fin G3 H3 b' ((P1.trans P2).trans P3)
    have R0 := ((R1.cast (k := 0) (by omega)).2).mono (P2.trans P3).gs
    exact ⟨a2, _, rfl, .inl ⟨kvs2, kk, u2, rfl, by rw [u3.length]; exact len_line c2, rfl⟩, q G3 _ σ (u4 _ _ (u3.put hkk R0))⟩
  | _ => cases e2
theorem mut1_ex {mu : Mu} {es : Exs} {ρ : Rho} {bg b' : Bg} {o : Out} (h : ex C.Φ ρ (.mut mu i (.cons eq .nil) es) bg = some (o, b')) : ∃ q b1 xs d d', ev C.Φ ρ eq bg = some (q, b1) ∧ evs C.Φ ρ es b1 = some (xs, b') ∧ ρ[i]? = some (some d) ∧ upAt (mutD mu xs) [q] d = some d' ∧ o = .nx (ρ.set i (some d')) := by
  obtain ⟨ks, b1, h1, h2⟩ := bnd_some h
  obtain ⟨q, hq, rfl⟩ := evs1 h1
  obtain ⟨xs, b2, h3, h4⟩ := bnd_some h2
  obtain ⟨d, b3, h5, h6⟩ := bnd_some h4
  obtain ⟨e1, rfl⟩ := lift_some h5
  obtain ⟨d', b4, h7, h8⟩ := bnd_some h6
  obtain ⟨e2, rfl⟩ := lift_some h7
  obtain ⟨rfl, rfl⟩ := ret_some h8
  exact ⟨q, _, xs, d, d', hq, h3, getD_some e1, e2, rfl⟩
theorem Rpk.dropK {K : PySem.W.Frag} {G : Hp} {k : Key} : ∀ {ds : List (D × D)} {kvs : List (Key × V)}, Rpk K G kvs ds → Rpk K G (L2.dropK kvs k) (ddrop ds (kD k))
  | [], _, h => by cases h; exact .nil
  | _ :: ds, _, h => by
    cases h with
    | @cons k' v' d' kvs _ c r t =>
      have ih := Rpk.dropK (k := k) t
      unfold L2.dropK ddrop at ih ⊢
      rw [List.filter_cons, List.filter_cons]
      simp only [keq_kD]
      by_cases e : k' = k
      · simp only [e, ne_eq, not_true_eq_false, decide_false, decide_true, Bool.not_true, Bool.false_eq_true, if_false]
        exact ih
      · simp only [ne_eq, e, not_false_eq_true, decide_true, decide_false, Bool.not_false, if_true]
        exact .cons c r ih
theorem Rpk.has {K : PySem.W.Frag} {G : Hp} {kvs : List (Key × V)} {ds : List (D × D)} {k : Key} (h : Rpk K G kvs ds) (e : dhas ds (kD k) = true) : ∃ v, valV kvs k = some v := by
  rw [h.any k] at e
  unfold valV
  cases q : kvs.find? fun kv => decide (kv.1 = k) with
  | none =>
    rw [List.find?_eq_none] at q
    obtain ⟨p, hp, e2⟩ := List.any_eq_true.mp e
    exact absurd e2 (q p hp)
  | some p => exact ⟨p.2, rfl⟩
theorem dropK_none {kvs : List (Key × V)} {k : Key} (e : valV kvs k = none) : L2.dropK kvs k = kvs := by
  unfold L2.dropK
  rw [List.filter_eq_self]
  intro p hp
  unfold valV at e
  rw [Option.map_eq_none_iff, List.find?_eq_none] at e
  have := e p hp
  simpa using this
theorem m1_of {o : Expr} {y : Str} (hb : attributeBase o y X.env (eval o X.env) = eval o X.env) (hl : (apos.endLine == cpos.line) = true) (ns : noStar a = true) : M1 X o y apos a cpos := by
  have hs : starEach [a] X.env = (false, eval a X.env) :: starEach [] X.env := star_of ns _ _
  exact ⟨hb, by rw [hs]; rfl, hl, by rw [hs]; rfl⟩
theorem m2_of {o : Expr} {y : Str} (hb : attributeBase o y X.env (eval o X.env) = eval o X.env) (hl : (apos.endLine == cpos.line) = true) (ns : noStar a = true) (ns2 : noStar b = true) : M2 X o y apos a b cpos := by
  have hs : starEach [a, b] X.env = (false, eval a X.env) :: starEach [b] X.env := star_of ns _ _
  have hs2 : starEach [b] X.env = (false, eval b X.env) :: starEach [] X.env := star_of ns2 _ _
  exact ⟨hb, by rw [hs, hs2]; rfl, hl, by rw [hs, hs2]; rfl⟩
/-- d[q].pop(k), there, as a statement -/
theorem z_pop1 (hs : SlotN X i x) (hx : XOk X n) (hq : PE X kq (rd C 9 Γ eq)) (hk : PE X k (rd C 9 Γ ek)) (hl : lvl Γ i = 2) (sq : isSl kq = false) (hln : (apos.endLine == cpos.line) = true) (ns : noStar k = true)
    (hw : swapsWith (.Call (.Attribute (.Subscript (.Name x p2) kq p3) "pop" apos) [k] [] cpos) none pos.line X.env = pure false) :
    PS X (.Expr (.Call (.Attribute (.Subscript (.Name x p2) kq p3) "pop" apos) [k] [] cpos) pos) (zs C own ΓL Γ (.mut .pop i (.cons eq .nil) (.cons ek .nil)) Γ) := by
  have hu := hx.room.units
  refine wkS (ps_expr (pe_dpop1 (pe_dget (by omega) (pe_var hs.ix hs.vis hs.deb hs.cd) hq (noSl_of sq)) hk (m1_of rfl hln ns)) hw) fun E σ H ⟨B, G0, H0, G, bg, ρ, o, b', S, hex, q⟩ => ?_
  obtain ⟨qd, b1, xs, d, d', h1, h2, h3, h4, rfl⟩ := mut1_ex hex
  obtain ⟨z, h5, rfl⟩ := evs1 h2
  obtain ⟨ds, x0, y0, rfl, c0, e1, e2, rfl⟩ := upAt1 h4
  obtain ⟨qq, rfl⟩ := kD_of c0
  cases x0 with
  | dct ds2 =>
    obtain ⟨⟨c1, c2⟩, rfl⟩ := ite_opt (show (if isKey z = true ∧ dhas ds2 z = true then some (D.dct (ddrop ds2 z)) else none) = some y0 from e2)
    obtain ⟨p, kvs, a2, kvs2, s1, s2, fin⟩ := S.dct2 h3 hl e1
    refine ⟨.ref p, s1, B, G, bg, ρ, _, b1, S.st, S.env, h1, fun w G2 H2 g P2 ⟨k2, _, _, R2⟩ _ => ?_⟩
    obtain ⟨rfl, hqq⟩ := kV_of (RO.ncRp (by cases qq <;> rfl) R2).2
    obtain ⟨t1, t2, t3, _⟩ := fin G2 H2 b1 P2
    refine ⟨p, .ref a2, rfl, .inl ⟨kvs, qq, .inl t1, rfl, s2.symm⟩, a2, rfl, .inl ⟨kvs2, .inl t2⟩, B, G2, b1, ρ, z, b', P2.st, S.env.post P2, h5, fun u G3 H3 g3 P3 ⟨k3, _, _, R3⟩ _ => ?_⟩
    obtain ⟨kk, rfl⟩ := kD_of c1
    obtain ⟨rfl, hkk⟩ := kV_of (RO.ncRp (by cases kk <;> rfl) R3).2
    obtain ⟨u1, u2, u3, u4⟩ := fin G3 H3 b' (P2.trans P3)
    obtain ⟨v, hv⟩ := u3.has c2
    exact ⟨kvs2, kk, v, u2, rfl, hv, q G3 _ σ (u4 _ _ u3.dropK)⟩
  | _ => cases e2
/-- d[q].pop(k, e), as a statement -/
theorem z_pop2 (hs : SlotN X i x) (hx : XOk X n) (hq : PE X kq (rd C 9 Γ eq)) (hk : PE X k (rd C 9 Γ ek)) (ha : PE X a (rd C 0 Γ ee)) (hl : lvl Γ i = 2) (sq : isSl kq = false) (hln : (apos.endLine == cpos.line) = true) (ns : noStar k = true) (ns2 : noStar a = true)
    (hw : swapsWith (.Call (.Attribute (.Subscript (.Name x p2) kq p3) "pop" apos) [k, a] [] cpos) none pos.line X.env = pure false) :
    PS X (.Expr (.Call (.Attribute (.Subscript (.Name x p2) kq p3) "pop" apos) [k, a] [] cpos) pos) (zs C own ΓL Γ (.mut .pop i (.cons eq .nil) (.cons ek (.cons ee .nil))) Γ) := by
  have hu := hx.room.units
  refine wkS (ps_expr (pe_dpop2 (pe_dget (by omega) (pe_var hs.ix hs.vis hs.deb hs.cd) hq (noSl_of sq)) hk ha (m2_of rfl hln ns ns2)) hw) fun E σ H ⟨B, G0, H0, G, bg, ρ, o, b', S, hex, q⟩ => ?_
  obtain ⟨qd, b1, xs, d, d', h1, h2, h3, h4, rfl⟩ := mut1_ex hex
  obtain ⟨z, y, b2, h5, h6, rfl⟩ := evs2 h2
  obtain ⟨ds, x0, y0, rfl, c0, e1, e2, rfl⟩ := upAt1 h4
  obtain ⟨qq, rfl⟩ := kD_of c0
  cases x0 with
  | dct ds2 =>
    obtain ⟨c1, rfl⟩ := ite_opt (show (if isKey z = true then some (D.dct (ddrop ds2 z)) else none) = some y0 from e2)
    obtain ⟨p, kvs, a2, kvs2, s1, s2, fin⟩ := S.dct2 h3 hl e1
    refine ⟨.ref p, s1, B, G, bg, ρ, _, b1, S.st, S.env, h1, fun w G2 H2 g P2 ⟨k2, _, _, R2⟩ _ => ?_⟩
    obtain ⟨rfl, hqq⟩ := kV_of (RO.ncRp (by cases qq <;> rfl) R2).2
    obtain ⟨t1, t2, t3, _⟩ := fin G2 H2 b1 P2
    refine ⟨p, .ref a2, rfl, .inl ⟨kvs, qq, .inl t1, rfl, s2.symm⟩, a2, rfl, .inl ⟨kvs2, .inl t2⟩, B, G2, b1, ρ, z, b2, P2.st, S.env.post P2, h5, fun u G3 H3 g3 P3 ⟨k3, _, _, R3⟩ _ => ?_⟩
    obtain ⟨kk, rfl⟩ := kD_of c1
    obtain ⟨rfl, hkk⟩ := kV_of (RO.ncRp (by cases kk <;> rfl) R3).2
    refine ⟨B, G3, b2, ρ, y, b', P3.st, S.env.post (P2.trans P3), h6, fun r G4 H4 g4 P4 _ _ => ?_⟩
    obtain ⟨u1, u2, u3, u4⟩ := fin G4 H4 b' ((P2.trans P3).trans P4)
    refine ⟨kvs2, kk, u2, rfl, fun v hv => q G4 _ σ (u4 _ _ u3.dropK), fun hv => ?_⟩
    have r3 := u3.dropK (k := kk)
    rw [dropK_none hv] at r3
    have fin2 := u4 _ _ r3
    have e3 : upd H4 a2 (.dK kvs2) = H4 := by
      funext c
      by_cases z : c = a2
      · rw [z, upd_same, u2]
      · rw [upd_ne z]
    rw [e3] at fin2
    exact q G4 _ σ fin2
  | _ => cases e2
end
end Dn

set_option Elab.async false
set_option linter.all false
set_option maxRecDepth 100000
/-! Dn, part P4: an owned thing put into a slot's dict or list. -/
namespace Dn
open PySem PySem.Spec PyProof.Rows L2
section
variable {X : Cx} {C : Cn} {own : Nat} {ΓL Γ Γ1 Γ2 : Gam} {m n ma mb i : Nat} {a b e k kq : Expr} {ea eb ee ek eq : Ex} {pos p2 p3 p4 apos cpos : Pos} {x : Str} {st : Stmt}
/-- a dict's keys are unlike -/
def KNd (H : Hp) : Prop := ∀ a kvs, H a = some (.dK kvs) → (kvs.map (·.1)).Nodup
theorem knd_of {pins : List (Addr × Obj)} {σ : L2.St} {H : Hp} {s : Shared} (I : L2.Inv X pins σ H s) : KNd H := fun a kvs h => by
  obtain ⟨_, _, vs, rel, dd⟩ := I.hok a _ h
  have e := rel.keys
  rw [e]
  obtain ⟨_, _, _, _, _, _, _, _, nd⟩ := dd
  exact nd
theorem wkSI {st : Stmt} {t : TS} (h : PS X st t) : PS X st (fun D σ H => KNd H → t D σ H) := ⟨fun pins s σ H D I q => h.run pins s σ H D I (q (knd_of I))⟩
theorem putK_ne {k' key : Key} {w v : V} {r : List (Key × V)} (h : k' ≠ key) : putK ((k', w) :: r) key v = (k', w) :: putK r key v := by
  unfold putK
  rw [List.any_cons]
  simp only [h, decide_false, Bool.false_or]
  by_cases e : (r.any fun kv => decide (kv.1 = key)) = true
  · rw [if_pos e, if_pos e, List.map_cons, if_neg h]
  · rw [if_neg e, if_neg e]; rfl
theorem putK_eq {key : Key} {w v : V} {r : List (Key × V)} (h : key ∉ r.map (·.1)) : putK ((key, w) :: r) key v = (key, v) :: r := by
  unfold putK
  rw [List.any_cons]
  simp only [decide_true, Bool.true_or, if_true, List.map_cons]
  congr 1
  conv => rhs; rw [← List.map_id r]
  refine List.map_congr_left fun p hp => ?_
  have ne : p.1 ≠ key := fun e => h (by rw [← e]; exact List.mem_map.mpr ⟨p, hp, rfl⟩)
  rw [if_neg ne]
  rfl
theorem dput_ne {k' key : Key} {w y : D} {r : List (D × D)} (h : k' ≠ key) : dput ((kD k', w) :: r) (kD key) y = (kD k', w) :: dput r (kD key) y := by
  unfold dput dhas
  rw [List.any_cons]
  simp only [keq_kD, h, decide_false, Bool.false_or]
  by_cases e : (r.any fun p => keq p.1 (kD key)) = true
  · rw [if_pos e, if_pos e, List.map_cons, keq_kD, if_neg (by simpa using h)]
  · rw [if_neg e, if_neg e]; rfl
theorem ROk.keyD {R : V → D → List Addr → Prop} : ∀ {kvs : List (Key × V)} {ds : List (D × D)} {f : List Addr}, ROk R kvs ds f → ds.map (·.1) = kvs.map fun p => kD p.1 := by
  intro kvs ds f h
  induction h with
  | nil => rfl
  | cons c r t ih => simp [ih]
theorem dput_eq {key : Key} {w y : D} {r : List (D × D)} {kvs : List (Key × V)} (hr : r.map (·.1) = kvs.map fun p => kD p.1) (h : key ∉ kvs.map (·.1)) : dput ((kD key, w) :: r) (kD key) y = (kD key, y) :: r := by
  unfold dput dhas
  rw [List.any_cons]
  simp only [keq_kD, decide_true, Bool.true_or, if_true, List.map_cons]
  congr 1
  conv => rhs; rw [← List.map_id r]
  refine List.map_congr_left fun p hp => ?_
  have hm : p.1 ∈ r.map (·.1) := List.mem_map.mpr ⟨p, hp, rfl⟩
  rw [hr] at hm
  obtain ⟨q, hq, e⟩ := List.mem_map.mp hm
  rw [← e, keq_kD, if_neg]
  · rfl
  · intro z
    exact h ((of_decide_eq_true z) ▸ List.mem_map.mpr ⟨q, hq, rfl⟩)
theorem ROk.put {R : V → D → List Addr → Prop} {key : Key} {v : V} {y : D} {g : List Addr} (hk : kOk key) (r : R v y g) (ng : g.Nodup) : ∀ {kvs : List (Key × V)} {ds : List (D × D)} {f : List Addr}, (kvs.map (·.1)).Nodup → ROk R kvs ds f → f.Nodup → (∀ c ∈ f, c ∉ g) →
    ∃ f2, ROk R (putK kvs key v) (dput ds (kD key) y) f2 ∧ f2.Nodup ∧ ∀ c ∈ f2, c ∈ f ∨ c ∈ g := by
  intro kvs ds f nd h
  induction h with
  | nil => intro _ _; exact ⟨g ++ [], .cons hk r .nil, by simpa using ng, fun c hc => .inr (by simpa using hc)⟩
  | @cons k' w d f0 g0 kvs ds c r0 t ih =>
    intro nf dj
    rw [List.map_cons, List.nodup_cons] at nd
    obtain ⟨n1, n2, n3⟩ := List.nodup_append.mp nf
    by_cases q : k' = key
    · subst q
      rw [putK_eq nd.1, dput_eq t.keyD nd.1]
      refine ⟨g ++ g0, .cons c r t, List.nodup_append.mpr ⟨ng, n2, fun a ha b hb e => ?_⟩, fun a ha => ?_⟩
      · subst e; exact dj a (List.mem_append_right _ hb) ha
      · rcases List.mem_append.mp ha with z | z
        · exact .inr z
        · exact .inl (List.mem_append_right _ z)
    · obtain ⟨f2, h2, d2, s2⟩ := ih nd.2 n2 fun a ha => dj a (List.mem_append_right _ ha)
      rw [putK_ne q, dput_ne q]
      refine ⟨f0 ++ f2, .cons c r0 h2, List.nodup_append.mpr ⟨n1, d2, fun a ha b hb e => ?_⟩, fun a ha => ?_⟩
      · subst e
        rcases s2 a hb with z | z
        · exact n3 a ha a z rfl
        · exact dj a (List.mem_append_left _ ha) z
      · rcases List.mem_append.mp ha with z | z
        · exact .inl (List.mem_append_left _ z)
        · rcases s2 a z with y | y
          · exact .inl (List.mem_append_right _ y)
          · exact .inr y
/-- a dict in a slot, changed -/
theorem SI.dctN {B : Addr} {G0 H0 G H : Hp} {bg : Bg} {σ : L2.St} {ρ : Rho} {ds : List (D × D)} {n : Nat} (S : SI C B G0 H0 Γ G bg H σ ρ) (hi : ρ[i]? = some (some (.dct ds))) (hl : lvl Γ i = n + 1) :
    ∃ a kvs, σ[i]? = some (some (.ref a)) ∧ H a = some (.dK kvs) ∧ kvs.length = ds.length ∧ ∀ (G' H' : Hp) (b' : Bg) (kvs2 : List (Key × V)) (w : V) (y : D) (g : List Addr) (ds2 : List (D × D)), Post B G H G' b' H' → RO C.K G' B H' n w y g → g.Nodup → (∀ c ∈ g, H c = none) →
      (∀ f, ROk (RO C.K G' B H' n) kvs ds f → f.Nodup → (∀ c ∈ f, c ∉ g) → ∃ f2, ROk (RO C.K G' B H' n) kvs2 ds2 f2 ∧ f2.Nodup ∧ ∀ c ∈ f2, c ∈ f ∨ c ∈ g) →
      H' a = some (.dK kvs) ∧ SI C B G0 H0 Γ G' b' (upd H' a (.dK kvs2)) σ (ρ.set i (some (.dct ds2))) := by
  obtain ⟨f, h⟩ := S.own
  obtain ⟨v, a1, a2, a3, a4⟩ := h.1 i _ hi
  rw [hl] at a2
  obtain ⟨a, vs, ff, rfl, e, nb, ga, ha, rs⟩ := ROk.at a2
  rw [e] at a3
  obtain ⟨n1, n2⟩ := List.nodup_cons.mp a3
  have hlen : vs.length = ds.length := by
    have := congrArg List.length rs.keyD
    simpa using this.symm
  refine ⟨a, vs, a1, ha, hlen, fun G' H' b' vs2 w y g ds2 P R nd fr cont => ⟨P.kp a _ nb ha, ?_⟩⟩
  have hH : ∀ c ∈ ff, H c ≠ none := fun c hc => (slot_ne h hi (by rw [e]; exact List.mem_cons_of_mem _ hc)).2.2
  obtain ⟨f2, r2, d2, s2⟩ := cont ff (rs.imp fun v d g _ r => r.post P) n2 fun c hc z => hH c hc (fr c z)
  have na : a ∉ f2 := fun z => by
    rcases s2 a z with y | y
    · exact n1 y
    · rw [fr a y] at ha; cases ha
  have ga' : G' a = none := (slot_ne (h.post P) hi (by rw [e]; exact List.mem_cons_self)).2.1
  refine S.chg P h (g2 := a :: f2) hi a1 (by rw [e]; exact List.mem_cons_self) ?_ (List.nodup_cons.mpr ⟨na, d2⟩) fun c hc => ?_
  · rw [hl]
    exact .inr (.inr ⟨a, vs2, ds2, f2, rfl, rfl, rfl, nb, ga', upd_same, r2.imp fun v d g hg r => r.keep (fun _ _ e => e) (fun c hc => (r.fp c hc).2.1) fun c hc => upd_ne fun z => by
      subst z; exact na (hg c hc)⟩)
  · rcases List.mem_cons.mp hc with rfl | hc
    · exact .inl (by rw [e]; exact List.mem_cons_self)
    · rcases s2 c hc with y | y
      · exact .inl (by rw [e]; exact List.mem_cons_of_mem _ y)
      · exact .inr (fr c y)
/-- d[k] = e, d a slot's dict, e as owned as d's things -/
theorem z_setdN (hs : SlotN X i x) (hx : XOk X m) (hk : PE X k (rd C 9 Γ ek)) (ha : PE X a (rd C 9 Γ ee)) (ok : okE C Γ ee) (hl : lvl Γ i = n + 1) (hle : n ≤ lvE C Γ ee) (hw : swapsWith a (some (.Subscript (.Name x p2) k p3)) pos.line X.env = pure false) :
    PS X (.Assign [.Subscript (.Name x p2) k p3] a pos) (fun E σ H => ∃ B G0 H0 G b ρ o b' kvs, SI C B G0 H0 Γ G b H σ ρ ∧ ex C.Φ ρ (.setp i .nil ek ee) b = some (o, b') ∧ ends C own ΓL Γ B G0 H0 b' E o ∧ ρ[i]? = some (some (.dct kvs))) := by
  have hu := hx.room.units
  refine wkS (wkSI (ps_dput (by omega) (pe_var hs.ix hs.vis hs.deb hs.cd) hk ha hw)) fun E σ H ⟨B, G0, H0, G, bg, ρ, o, b', ds, S, hex, q, hd⟩ KN => ?_
  obtain ⟨y, z, b1, d, d', h1, h2, h3, h4, rfl⟩ := setp_ex hex
  rw [hd] at h3
  cases h3
  obtain ⟨⟨c1, c2⟩, rfl⟩ := ite_opt (show (if isKey z = true ∧ ds.length < line then some (D.dct (dput ds z y)) else none) = some d' from h4)
  obtain ⟨p, kvs, s1, hp0, s3, fin⟩ := S.dctN hd hl
  refine rd_fresh ok S.st S.env h1 fun w G1 H1 g P R nd fr => ?_
  obtain ⟨G2, g2, P2, R2, nd2, fr2, _⟩ := P.lower hle R nd fr
  refine ⟨.ref p, s1, B, G2, b1, ρ, z, b', P2.st, S.env.post P2, h2, fun u G3 H3 g3 P3 ⟨k3, _, _, R3⟩ _ => ?_⟩
  obtain ⟨kk, rfl⟩ := kD_of c1
  obtain ⟨rfl, hkk⟩ := kV_of (RO.ncRp (by cases kk <;> rfl) R3).2
  obtain ⟨t1, t2⟩ := fin G3 H3 b' (putK kvs kk w) w y g2 (dput ds (kD kk) y) (P2.trans P3) (R2.post P3) nd2 fr2 fun f rf nf df => ROk.put hkk (R2.post P3) nd2 (KN p kvs hp0) rf nf df
  exact ⟨p, _, rfl, .inl ⟨kvs, kk, t1, rfl, by rw [s3]; exact len_line c2, rfl⟩, q G3 _ σ t2⟩
/-- l[k] = e -/
theorem z_setlN (hs : SlotN X i x) (hk : PE X k (rd C 9 Γ ek)) (ha : PE X a (rd C 9 Γ ee)) (ok : okE C Γ ee) (hl : lvl Γ i = n + 1) (hle : n ≤ lvE C Γ ee) (hw : swapsWithSole [.Subscript (.Name x p2) k p3] a pos.line X.env = pure false) (hw2 : swappedStores [.Subscript (.Name x p2) k p3] a X.env = pure none)
    (h1 : (assignEach [.Subscript (.Name x p2) k p3] X.env).map (·.2) = [assign (.Subscript (.Name x p2) k p3) X.env]) (hsub : ∀ v, assign (.Subscript (.Name x p2) k p3) X.env v = (do
      let ov ← holding [v] (eval (.Name x p2) X.env)
      let iv ← holding [v, ov] (eval k X.env)
      standAt p3
      holding [v, ov, iv] (setItem ov iv v)
      release [v, ov, iv] [])) :
    PS X (.Assign [.Subscript (.Name x p2) k p3] a pos) (fun E σ H => ∃ B G0 H0 G b ρ o b' ds, SI C B G0 H0 Γ G b H σ ρ ∧ ex C.Φ ρ (.setp i .nil ek ee) b = some (o, b') ∧ ends C own ΓL Γ B G0 H0 b' E o ∧ ρ[i]? = some (some (.lst ds))) := by
  refine wkS (ps_asg ha (pg_sub (pe_var hs.ix hs.vis hs.deb hs.cd) hk set_list hsub) hw hw2 h1) fun E σ H ⟨B, G0, H0, G, bg, ρ, o, b', ds, S, hex, q, hd⟩ => ?_
  obtain ⟨y, z, b1, d, d', h1, h2, h3, h4, rfl⟩ := setp_ex hex
  rw [hd] at h3
  cases h3
  cases z with
  | int j =>
    obtain ⟨jj, c1, rfl⟩ := Option.map_eq_some_iff.mp (show (ixN ds.length j).map (fun j => D.lst (ds.set j y)) = some d' from h4)
    obtain ⟨p, vs, s1, s2, s3, fin⟩ := S.lst (i := i) hd hl (G' := G) (H' := H) (b' := bg) (ds2 := []) (w := .non) (y := .non) (g := [])
    refine rd_fresh ok S.st S.env h1 fun w G1 H1 g P R nd fr => ?_
    obtain ⟨G2, g2, P2, R2, nd2, fr2, _⟩ := P.lower hle R nd fr
    refine ⟨.ref p, s1, B, G2, b1, ρ, _, b', P2.st, S.env.post P2, h2, fun u G3 H3 g3 P3 ⟨k3, _, _, R3⟩ _ => ?_⟩
    obtain ⟨t1, t2⟩ := fin G3 H3 b' (vs.set jj w) w y g2 (ds.set jj y) (P2.trans P3) (R2.post P3) nd2 fr2 fun f rf nf df => rf.put nd2 jj (R2.post P3) nf df
    exact ⟨p, vs, j, jj, rfl, R3.int, t1, by rw [s3]; exact c1, q G3 _ σ t2⟩
  | _ => cases h4
end
end Dn

set_option Elab.async false
set_option linter.all false
set_option maxRecDepth 100000
/-! Dn, part P5: d.update(e). -/
namespace Dn
open PySem PySem.Spec PyProof.Rows L2
section
variable {X : Cx} {C : Cn} {Γ ΓL : Gam} {m n ma mb mc own i : Nat} {a b c e : Expr} {x y : Str} {ea eb ec ee ek : Ex} {pos p2 p3 p apos cpos : Pos} {k : Expr}
theorem SI.dctG {B : Addr} {G0 H0 G H : Hp} {bg : Bg} {σ : L2.St} {ρ : Rho} {ds : List (D × D)} (S : SI C B G0 H0 Γ G bg H σ ρ) (hi : ρ[i]? = some (some (.dct ds))) (hl : lvl Γ i = 1) {q : Addr} (hq : σ[i]? = some (some (.ref q))) {G' H' : Hp} {b' : Bg} (P : Post B G H G' b' H') : G' q = none := by
  obtain ⟨f, h⟩ := S.own
  obtain ⟨v, a1, a2, a3, a4⟩ := h.1 i _ hi
  rw [hl] at a2
  obtain ⟨a, vs, ff, rfl, e, nb, ga, ha, rs⟩ := ROk.at a2
  rw [hq] at a1
  cases a1
  exact (slot_ne (h.post P) hi (by rw [e]; exact List.mem_cons_self)).2.1
def rUpd : V → List V → Hp → VK → Prop := fun x vs H Q => ∃ a b kvs ls, x = .ref a ∧ vs = [.ref b] ∧ a ≠ b ∧ H a = some (.dK kvs) ∧ Rd H b (.dK ls) ∧ kvs.length + ls.length ≤ sizeLine ∧ Q .non (upd H a (.dK (mergeK kvs ls)))
theorem mt_upd : MtM X "dict.update" rUpd := by
  intro pins s σ H x vs v us Q I rx rv h
  obtain ⟨a, b, kvs, ls, rfl, rfl, ne, hH, hB, hz, q⟩ := h
  cases rx
  obtain ⟨u, rfl, ru⟩ := rv.one
  cases ru
  obtain ⟨z, la, va, ra, da⟩ := dk_of I.hok hH
  obtain ⟨z2, lb, vb, rb, db⟩ := dk_rd I.hok hB
  refine call_meetsIn PySem.F.slot_dict_update da.typeIs PySem.F.entry_dict_update (PySem.F.args_dict_update_2 _ _) (meets_dict_update (mixKind X.prog X.w) a b ne lb) ⟨va, vb, da, db, by rw [← ra.length, ← rb.length]; exact hz, fun h' d1 d2 sb => ?_⟩
  have hl : (mergeK kvs ls).length ≤ sizeLine := Nat.le_trans (length_mergeK ls kvs) hz
  have he : ∃ q, h'.get? a = some q := let ⟨q, _, _, hq, _⟩ := d1; ⟨q, hq⟩
  exact ⟨.non, _, d_write I (by rw [hH]; exact True.intro) sb he (dk_new hl la (rb.merge ra) d1), rfl, q⟩
/-- x.update(e), dicts of frozen things -/
theorem z_update (hs : SlotN X i x) (M : MetS X x "update" a [] p2 apos cpos pos) (ha : PE X a (rd C 0 Γ ee)) (hl : lvl Γ i = 1) :
    PS X (.Expr (.Call (.Attribute (.Name x p2) "update" apos) [a] [] cpos) pos) (zs C own ΓL Γ (.mut .update i .nil (.cons ee .nil)) Γ) :=
  wkS (wk_meth PySem.F.plainAttrs_dict PySem.F.slot_dict_update PySem.F.type_dict_update mt_upd hs.ix hs.vis hs.deb hs.cd (pa_cons ha pa_nil M.star) M.base M.few M.line M.star M.plain M.swap) fun E σ H ⟨B, G0, H0, G, bg, ρ, o, b', S, hex, q⟩ => by
  obtain ⟨xs, d, d', h1, h2, h3, rfl⟩ := mut_ex hex
  obtain ⟨y, h4, rfl⟩ := evs1 h1
  cases y with
  | dct es =>
    cases d with
    | dct ds =>
      obtain ⟨c, rfl⟩ := ite_opt (show (if ds.length + es.length ≤ line then some (D.dct (dmerge ds es)) else none) = some d' from h3)
      obtain ⟨p, kvs, s1, fin⟩ := S.dct h2 hl
      obtain ⟨t1, t2, t3⟩ := fin G H bg kvs ds (.refl S.st)
      refine ⟨.ref p, s1, ?_, B, G, bg, ρ, _, b', S.st, S.env, h4, fun v G' H' f P ⟨k, hk, _, R⟩ _ => ?_⟩
      · exact .inr (.inr (.inl ⟨rfl, .inl ⟨kvs, t1⟩⟩))
      obtain ⟨u1, u2, u3⟩ := fin G' H' b' (mergeK kvs []) (dmerge ds es) P
      have r := (R.cast (k := 0) (by omega)).2
      cases r with
      | @dct p2 ls _ g rs =>
        have gn : G' p = none := S.dctG h2 hl s1 P
        have ne : p ≠ p2 := fun z => by
          rw [← z, gn] at g
          cases g
        obtain ⟨u1, u2, u3⟩ := fin G' H' b' (mergeK kvs ls) (dmerge ds es) P
        have hrd : Rd H' p2 (.dK ls) := by
          rcases P.st.sub _ _ g with z | ⟨kv, ob, ez, z⟩
          · exact .inl z
          · exact .inr ⟨ob, z⟩
        refine ⟨p, p2, kvs, ls, rfl, rfl, ne, u1, hrd, ?_, q G' _ σ (u3 (u2.merge rs))⟩
        rw [u2.length, rs.length, sizeLine_eq]; exact c
    | _ => cases h3
  | _ => cases d <;> cases h3
end
end Dn

set_option Elab.async false
set_option linter.all false
set_option maxRecDepth 100000
/-! Dn, part Q: calls of the text's own defs. -/
namespace Dn
open PySem PySem.Spec PyProof.Rows L2
/-- no exception leaves a def -/
abbrev noX : CXT := fun _ _ _ _ _ _ => False
abbrev noE : XK := fun _ _ _ => False
/-- what a def keeps, called while nothing is being shown -/
structure Gn (prg : Program) (wd : World) (Kf : PySem.W.Frag) (gl : Str → Option Value) (bas : Heap) (lim : Nat) (at_ : Addr) (fdat : FuncData) (pars : List Str) (want : List V → Hp → VK → Prop) : Prop where
  cnt : ∀ vs H Q, want vs H Q → vs.length = pars.length
  go : ∀ (Ar : Around) (outs : List Env) (sh : Shared) (H : Hp) (ag : Args) (us : List Value) (vs : List V) (Q : VK), Room lim Ar → Ar.guards = some [] → Env0 prg wd Kf gl bas Ar outs sh H → BindsTo sh fdat ag (pars.zip us) → Vals vs us → want vs H Q →
    codeAny (model prg wd) Ar (.call (.ref at_) ag) (CR noX outs prg wd H sh Q noE) sh
theorem Gn.mono {prg : Program} {wd : World} {Kf : PySem.W.Frag} {gl : Str → Option Value} {bas : Heap} {j k : Nat} {at_ : Addr} {fdat : FuncData} {pars : List Str} {want : List V → Hp → VK → Prop} (F : Gn prg wd Kf gl bas j at_ fdat pars want) (h : j ≤ k) : Gn prg wd Kf gl bas k at_ fdat pars want :=
  ⟨F.cnt, fun Ar outs sh H ag us vs Q hr => F.go Ar outs sh H ag us vs Q (hr.mono h)⟩
theorem Gn.imp {prg : Program} {wd : World} {Kf : PySem.W.Frag} {gl : Str → Option Value} {bas : Heap} {k : Nat} {at_ : Addr} {fdat : FuncData} {pars : List Str} {want want' : List V → Hp → VK → Prop} (F : Gn prg wd Kf gl bas k at_ fdat pars want) (h : ∀ vs H Q, want' vs H Q → want vs H Q) : Gn prg wd Kf gl bas k at_ fdat pars want' :=
  ⟨fun vs H Q q => F.cnt vs H Q (h _ _ _ q), fun Ar outs sh H ag us vs Q hr hq he hb hv hs => F.go Ar outs sh H ag us vs Q hr hq he hb hv (h _ _ _ hs)⟩
section
variable {X : Cx} {k : Nat} {fa : Addr} {fd : FuncData} {ps : List Str} {want : List V → Hp → VK → Prop} {x : Str} {pn pos : Pos} {e : Expr} {es : List Expr} {t : TA}
theorem Gn.call {pins : List (Addr × Obj)} {σ : L2.St} {H : Hp} {sh : Shared} {Q : VK} {us : List Value} {vs : List V} (F : Gn X.prog X.w X.K X.mg X.base k fa fd ps want) (hr : Room k X.A) (hq : X.A.guards = some []) (hb : Binds X.K fd ps [])
    (I : L2.Inv X pins σ H sh) (rv : Vals vs us) (h : want vs H Q) : wpAny (model X.prog X.w) X.A (PySem.call (.ref fa) us) (EP X pins σ Q) X.xe sh := by
  have hl : (us ++ []).length = ps.length := by rw [List.append_nil, ← rv.length]; exact F.cnt _ _ _ h
  have bind := hb sh us I.kIn hl
  rw [List.append_nil] at bind
  refine wpAny_call (codeAny_mono (F.go X.A X.stack sh H ⟨us, []⟩ us vs Q hr hq I.env0 bind rv h) fun res s2 q => ?_)
  match res, q with
  | .ok (.ret u), q => exact I.after q
theorem e_call (F : Gn X.prog X.w X.K X.mg X.base k fa fd ps want) (hr : Room k X.A) (hq : X.A.guards = some []) (hg : Gl X x) (hm : X.mg x = some (.ref fa)) (hk : PySem.W.keepIn X.K (.ref fa) = true) (hb : Binds X.K fd ps [])
    (ha : PA X (e :: es) t) (hdb : (x == ("__debug__" : Str)) = false) (hst : starEach (e :: es) X.env = (false, eval e X.env) :: starEach es X.env) (hpl : (backTo pos (starEach es X.env)).any (·.1) = false) :
    PE X (.Call (.Name x pn) (e :: es) [] pos) (fun σ H Q => t σ H fun vs H1 => want vs H1 Q) := by
  refine ⟨fun pins sh σ H Q I h => wpAny_Call_Name_kw (ld_glob I hg hm ?_ hdb)⟩
  exact PySem.W.callWith_K (h₀ := X.base) I.ok.mod.kin hk (thn (ha.run pos pins sh σ H _ I h) fun us s1 ⟨vs, H1, I1, r, q⟩ => ⟨I1.kIn, F.call hr hq hb I1 r q⟩) hst hpl
theorem e_call0 (F : Gn X.prog X.w X.K X.mg X.base k fa fd ps want) (hr : Room k X.A) (hq : X.A.guards = some []) (hg : Gl X x) (hm : X.mg x = some (.ref fa)) (hk : PySem.W.keepIn X.K (.ref fa) = true) (hb : Binds X.K fd ps [])
    (hdb : (x == ("__debug__" : Str)) = false) : PE X (.Call (.Name x pn) [] [] pos) (fun σ H Q => want [] H Q) :=
  ⟨fun pins sh σ H Q I h => wpAny_Call_Name_kw (ld_glob I hg hm (PySem.W.callWith_K0 I.kIn hk (F.call (us := []) hr hq hb I .nil h)) hdb)⟩
end
/-- a def's body keeps what it promises -/
theorem gn_of {prg : Program} {wd : World} {Kf : PySem.W.Frag} {gl : Str → Option Value} {bas : Heap} {lim : Nat} {at_ : Addr} {name qual : Str} {params : Arguments} {body : List Stmt} {scope : Scope} {dV kV doc pm cdv ct oc : Value} {an od : Option Addr}
    {osl : Array (Option Value)} {N ps : List Str} {want : List V → Hp → VK → Prop} (lk : Kf.lookup at_ = some ⟨oc, od, .func (PySem.W.fnOf name qual params body scope dV kV doc pm an cdv ct), osl⟩) (hcd : PySem.W.codeIn Kf cdv qual = true) (S : FnScope N ps scope)
    (cnt : ∀ vs H Q, want vs H Q → vs.length = ps.length)
    (hbody : ∀ (Ar : Around) (outs : List Env) (sh : Shared) (H : Hp) (vs : List V) (Q : VK), Room lim (Ar.deeper (envOfC qual scope sh.heap.objs.size at_ cdv)) → (Ar.deeper (envOfC qual scope sh.heap.objs.size at_ cdv)).guards = some [] → want vs H Q →
      ∃ t, PSs (cxOf noX prg wd Kf gl bas N qual scope at_ cdv Ar outs sh H noE) body t ∧ t { nx := fun _ H' => Q .non H', rt := Q } (start N vs) H) :
    Gn prg wd Kf gl bas (lim + 1) at_ (PySem.W.fnOf name qual params body scope dV kV doc pm an cdv ct) ps want := by
  refine ⟨cnt, fun Ar outs sh H ag us vs Q hr hq e0 hb rv hw => ?_⟩
  have hl := cnt _ _ _ hw
  have KX : Kf.In sh.heap := e0.mod.kin.keeps fun b u e => (e0.bs b u e).1
  have nolim : sh.heap.NoLimit := e0.mod.nolimit.keeps fun b u e => (e0.bs b u e).1
  have kinds : ∀ y ∈ ps.zip us, scope.names.lookup y.1 = some .local ∨ (scope.names.lookup y.1 = some .cell ∧ ((cellsFrom (sh.heap.objs.size + 1) scope.names []).lookup y.1).isSome = true) := by
    rintro ⟨n, v⟩ hy
    rcases S.par n (List.of_mem_zip hy).1 with z | z
    · exact .inl z
    · exact .inr ⟨z, PySem.W.cellsFrom_some _ _ _ (.inl z)⟩
  refine codeAny_call_function hr.depth (KX _ _ lk) rfl S.co S.gen rfl (PySem.W.codeRec_of KX hcd) (hb _ _ _ _ (wpAny_newFunctionEnv_cells S.kind kinds fun env he s1 x => ?_))
  subst he
  refine ⟨nolim.keeps x.toInCall.keep, codeAny_func ?_⟩
  obtain ⟨t, ht, q⟩ := hbody Ar outs sh H vs Q (hr.deeper _) hq hw
  have I : L2.Inv (cxOf noX prg wd Kf gl bas N qual scope at_ cdv Ar outs sh H noE) [] (start N vs) H s1 := inv_start S hr.hd e0 hl rv x
  refine wpAny_mono (ht.run [] s1 (start N vs) H _ I q) (fun fl s2 hs => ?_) fun e s2 hs => hs
  cases fl with
  | ret u =>
    obtain ⟨v, σ2, H2, J, r2, q2⟩ := hs
    exact ⟨v, H2, J.os, J.bare, J.base, J.hok, r2, q2⟩
  | next =>
    obtain ⟨σ2, H2, J, q2⟩ := hs
    exact ⟨V.non, H2, J.os, J.bare, J.base, J.hok, rfl, q2⟩
  | brk => obtain ⟨_, _, _, q2⟩ := hs; exact False.elim q2
  | cont => obtain ⟨_, _, _, q2⟩ := hs; exact False.elim q2

/-! ### a def of the layer -/
/-- what a def of the layer keeps: bag: its first argument is the bag; np: how many others -/
def pr (K : PySem.W.Frag) (φ : List D → M D) (bag : Bool) (np own : Nat) : List V → Hp → VK → Prop := fun vs H Q => ∃ B G b ds r b' vs', vs = (if bag = true then [.ref B] else []) ++ vs' ∧ ds.length = np ∧ StOk B G H b ∧ Rps K G vs' ds ∧ φ ds b = some (r, b') ∧
  ∀ v G' H' fp, Post B G H G' b' H' → RO K G' B H' own v r fp → fp.Nodup → (∀ a ∈ fp, H a = none) → Q v H'
theorem pr_cnt {K : PySem.W.Frag} {φ : List D → M D} {bag : Bool} {np own : Nat} {ps : List Str} (hl : ps.length = (if bag = true then 1 else 0) + np) : ∀ vs H Q, pr K φ bag np own vs H Q → vs.length = ps.length := fun vs H Q ⟨B, G, b, ds, r, b', vs', h1, h2, _, h3, _⟩ => by
  rw [h1, hl, List.length_append, h3.length, h2]
  cases bag <;> simp
section
variable {X : Cx} {C : Cn} {Γ : Gam} {m n f np : Nat} {bag : Bool} {es : List Expr} {ees : Exs} {x : Str} {pn pos p2 : Pos} {e : Expr} {fa : Addr} {fd : FuncData} {ps : List Str} {i : Nat}
/-- the arguments, the bag ahead of them -/
def rb (C : Cn) (Γ : Gam) (bag : Bool) (es : Exs) : TA := fun σ H Q => ∃ B G b ρ ds b', StOk B G H b ∧ EnvOk C.K B G H C.bs Γ σ ρ ∧ evs C.Φ ρ es b = some (ds, b') ∧ ∀ vs G' H', Post B G H G' b' H' → Rps C.K G' vs ds → Q ((if bag = true then [.ref B] else []) ++ vs) H'
theorem a_pure (h : PA X es (ra C Γ ees)) : PA X es (rb C Γ false ees) := wkA h fun σ H Q ⟨B, G, b, ρ, ds, b', st, en, he, q⟩ => ⟨B, G, b, ρ, ds, b', st, en, he, q⟩
theorem a_bag (hs : SlotN X i x) (hb : C.bs = some i) (h : PA X es (ra C Γ ees)) : PA X (.Name x pn :: es) (rb C Γ true ees) :=
  wkA (pa_cons (pe_var hs.ix hs.vis hs.deb hs.cd) h (star_of rfl _ _)) fun σ H Q ⟨B, G, b, ρ, ds, b', st, en, he, q⟩ =>
    ⟨.ref B, (en.bag i hb).1, B, G, b, ρ, ds, b', st, en, he, fun vs G' H' P R => q vs G' H' P R⟩
theorem call_rd {σ : L2.St} {H : Hp} {Q : VK} {K : PySem.W.Frag} (hK : C.K = K) (hn : ees.len = np) (h : rd C m Γ (.call f ees) σ H Q) : rb C Γ bag ees σ H fun vs H1 => pr K (C.Φ f) bag np (C.own f) vs H1 Q := by
  obtain ⟨B, G, b, ρ, d, b', st, en, he, q⟩ := rd_out h
  obtain ⟨xs, b1, h1, h2⟩ := bnd_some he
  refine ⟨B, G, b, ρ, xs, b1, st, en, h1, fun vs G' H' P R => ⟨B, G', b1, xs, d, b', vs, rfl, by rw [evs_len h1, hn], P.st, by rw [← hK]; exact R, h2, fun v G2 H2 fp P2 R2 nd fr => ?_⟩⟩
  obtain ⟨G3, fp3, P3, R3, n3, f3, _⟩ := P2.lower (m := min m (C.own f)) (Nat.min_le_right _ _) (by rw [← hK] at R2; exact R2) nd fr
  exact qT P P3 R3 ⟨n3, f3⟩ q
theorem s_call {k : Nat} (F : Gn X.prog X.w X.K X.mg X.base k fa fd ps (pr X.K (C.Φ f) bag np (C.own f))) (hr : Room k X.A) (hK : C.K = X.K) (hx : XOk X n) (hg : Gl X x) (hm : X.mg x = some (.ref fa)) (hk : PySem.W.keepIn X.K (.ref fa) = true) (hb : Binds X.K fd ps [])
    (ha : PA X (e :: es) (rb C Γ bag ees)) (hn : ees.len = np) (hdb : (x == ("__debug__" : Str)) = false) (hst : starEach (e :: es) X.env = (false, eval e X.env) :: starEach es X.env) (hpl : (backTo pos (starEach es X.env)).any (·.1) = false) :
    PE X (.Call (.Name x pn) (e :: es) [] pos) (rd C m Γ (.call f ees)) := wkE (e_call F hr hx.gd hg hm hk hb ha hdb hst hpl) fun σ H Q h => call_rd hK hn h
theorem s_call0 {k : Nat} (F : Gn X.prog X.w X.K X.mg X.base k fa fd ps (pr X.K (C.Φ f) false 0 (C.own f))) (hr : Room k X.A) (hK : C.K = X.K) (hx : XOk X n) (hg : Gl X x) (hm : X.mg x = some (.ref fa)) (hk : PySem.W.keepIn X.K (.ref fa) = true) (hb : Binds X.K fd ps [])
    (hdb : (x == ("__debug__" : Str)) = false) : PE X (.Call (.Name x pn) [] [] pos) (rd C m Γ (.call f .nil)) := wkE (e_call0 F hr hx.gd hg hm hk hb hdb) fun σ H Q h => by
  obtain ⟨B, G, b, ρ, xs, b1, st, en, h1, q⟩ := call_rd (bag := false) (np := 0) hK rfl h
  obtain ⟨rfl, rfl⟩ := ret_some h1
  exact q [] G H (.refl st) .nil
end
end Dn

set_option Elab.async false
set_option linter.all false
set_option maxRecDepth 100000
/-! Dn, part Se: sorted(set(xs)), xs texts. -/
namespace Dn
open PySem PySem.Spec PyProof.Rows L2 PySem.Froz
/-- the table rises, and is led -/
def TxR (w : World) (D : SD) : Prop := Ris D.2.2.place.toList ∧ (w.params.followText "set-order" = true ∨ D.2.2.led = true)
theorem TxR.tail {w : World} {ep : Nat} {es : Array (Int × Value)} {t : SetTable} {wd : Bool} (h : TxR w (es, ep, t)) : TxR w (tailTx ep es t wd) := by
  obtain ⟨h1, h2⟩ := h
  unfold tailTx
  by_cases c : (!wd && t.tooFull) = true
  · rw [if_pos c]
    exact ⟨relayAll_ris t es _, h2.imp id fun z => (relayAll_led t es _).trans z⟩
  · rw [if_neg c]; exact ⟨h1, h2⟩
theorem TxR.add {w : World} {D : SD} {i : Int} {v : Value} (h : TxR w D) : TxR w (addTx i v D) := by
  obtain ⟨es, ep, t⟩ := D
  obtain ⟨h1, h2⟩ := h
  have r1 := layNew_ris t es i v h1
  have l1 := layNew_led t es i v
  unfold addTx
  refine TxR.tail ⟨?_, ?_⟩
  · by_cases c : (layNew t es i v).2.1.plain = true
    · simp only [c, if_true]; exact r1
    · simp only [c, if_false]; exact r1
  · refine h2.imp id fun z => ?_
    have z : t.led = true := z
    by_cases c : (layNew t es i v).2.1.plain = true
    · simp only [c, if_true]; exact l1.trans z
    · simp only [c, if_false]; exact l1.trans z
variable {P : Program} {w : World}
section
variable {A : Around} {E : Value → Shared → Prop} {s : Shared} {a : Addr} {ns : List Str} {k : Str} {u : Tok} {Q : Bool → Shared → Prop}
/-- a text that is there already -/
theorem add_h {T : String} {D : SD} {l : List Str} (ho : s.heap.get? a = some (sObj T D)) (F : TxOk P w D l) (hk : k ∈ l) (hb : l.length < scanBound) (h : Q false s) : wpAny (model P w) A (setAddHashed a (.str k u) (hashStr w k)) Q E s := by
  obtain ⟨es, ep, t⟩ := D
  obtain ⟨e, he, pe⟩ := (F.mem k).mp hk
  have some_at : ∃ j, List.findIdx? (fun e => (strKind P w).is k e.2) es.toList = some j := by
    cases z : List.findIdx? (fun e => (strKind P w).is k e.2) es.toList with
    | some j => exact ⟨j, rfl⟩
    | none => exact absurd pe (by rw [List.findIdx?_eq_none_iff.mp z e he]; exact Bool.false_ne_true)
  have few : es.size < scanBound := Nat.lt_of_le_of_lt (Nat.le_of_eq F.sz) hb
  unfold setAddHashed setAddHashedIn
  refine wpAny_holding (wpAny_bind (wpAny_setState_of ho rfl F.fit ?_))
  dsimp only
  rw [byScan_of rfl few F.el]
  simp only [↓reduceIte]
  unfold setAddByScan
  refine wpAny_bind (wpAny_bind (wpAny_rule (wpAny_bind (wpAny_setScan_of (knd := strKind P w) (is_str k u) ho rfl F.fit F.el ?_))))
  obtain ⟨j, hj⟩ := some_at
  rw [hj]
  exact wpAny_pure (wpAny_pure h)
/-- at a: the set of the texts ns -/
def SetX (P : Program) (w : World) (h : Heap) (a : Addr) (ns : List Str) : Prop :=
  ∃ D l, h.get? a = some (sObj "set" D) ∧ TxOk P w D l ∧ TxR w D ∧ l.Nodup ∧ (∀ z, z ∈ l ↔ z ∈ ns) ∧ l.length ≤ ns.length
theorem SetX.at {h h' : Heap} (x : SetX P w h a ns) (k : ∀ o, h.get? a = some o → h'.get? a = some o) : SetX P w h' a ns :=
  let ⟨D, l, e, r⟩ := x
  ⟨D, l, k _ e, r⟩
theorem setX_add (x : SetX P w s.heap a ns) (hb : ns.length + 1 < scanBound) (h : ∀ h' b, Heap.SameBut a s.heap h' → SetX P w h' a (ns ++ [k]) → Q b { s with heap := h' }) : wpAny (model P w) A (setAddHashed a (.str k u) (hashStr w k)) Q E s := by
  obtain ⟨D, l, e, F, R, nd, hm, hl⟩ := x
  have mem : ∀ z, z ∈ ns ++ [k] ↔ z ∈ l ∨ z = k := fun z => by rw [List.mem_append, List.mem_singleton, hm z]
  have len : (ns ++ [k]).length = ns.length + 1 := by simp
  by_cases c : k ∈ l
  · exact add_h e F c (by omega) (h s.heap false (Heap.SameBut.refl _ _) ⟨D, l, e, F, R, nd, fun z => by rw [mem z]; exact ⟨.inl, fun y => y.elim id fun y => y ▸ c⟩, by omega⟩)
  · refine add_x e F c (by omega) (h _ true (Heap.SameBut.update ..) ⟨_, k :: l, get_upd _ e rfl, add_ok u F, R.add, List.nodup_cons.mpr ⟨c, nd⟩, fun z => ?_, by rw [List.length_cons]; omega⟩)
    rw [mem z, List.mem_cons]
    exact Or.comm
end
/-- the adding of all that an iterator gives: ns = what came ++ what comes -/
theorem setX_loop {A : Around} {I S : Addr} {fp wr : List Addr} {G : Array GenState → Array GenState → Prop} {n : Nat} {Pv : Nat → Value → Prop} {St : Nat → Shared → Prop} {R : Result → Shared → Prop} {ns : List Str} (W : WalksS P w A.in1 I fp wr G n Pv St) (off : S ∉ fp)
    (hn : n = ns.length) (few : ns.length + 1 < scanBound) (told : ∀ i v, Pv i v → ∃ x c, ns[i]? = some x ∧ v = Value.str x c) : ∀ (rest came : List Str) (s : Shared), ns = came ++ rest → St came.length s → SetX P w s.heap S came →
      (∀ s', Moved (S :: wr) G s s' → SetX P w s'.heap S ns → R (.ok (.ret .none)) s') → codeAny (model P w) A (.builtin "set.update.loop" ⟨[.ref S, .ref I], []⟩) R s
  | [], came, s, split, st, x, fin => by
    have e : came.length = n := by rw [hn, split, List.append_nil]
    refine codeAny_builtin PyProof.Rows.F.entry_set_update_loop (by
      rw [Around.under_plainId PyProof.Rows.F.plain_set_update_loop]
      refine wpAny_bind (m := pyNext (.ref I)) (W.done s _ _ (e ▸ st) fun s' mv => wpAny_pure (a := Fin.done (.ret .none)) (fin s' (mv.mono fun b => List.mem_cons_of_mem S) ?_))
      rw [show ns = came by rw [split, List.append_nil]]
      exact x.at (mv.heap S · fun z => off (W.sub _ z)))
  | y :: rest, came, s, split, st, x, fin => by
    have lt : came.length < n := by rw [hn, split, List.length_append, List.length_cons]; omega
    have at_ : ns[came.length]? = some y := by rw [split]; simp
    refine codeAny_builtin PyProof.Rows.F.entry_set_update_loop (by
      rw [Around.under_plainId PyProof.Rows.F.plain_set_update_loop]
      refine wpAny_bind (m := pyNext (.ref I)) (W.item came.length s _ _ lt st fun v s1 pv st1 mv => ?_)
      obtain ⟨z, c, hz, rfl⟩ := told _ _ pv
      cases at_.symm.trans hz
      have x1 := x.at (mv.heap S · fun z => off (W.sub _ z))
      refine wpAny_bind (m := holding [Value.str y c] (setAdd S (.str y c))) (wpAny_holding ?_)
      unfold setAdd
      refine wpAny_holding (wpAny_bind ((strKind P w).pyHash (is_str y c) ?_))
      refine setX_add (s := { s1 with toks := s1.toks + 1 }) x1 (by have := congrArg List.length split; rw [List.length_append] at this; omega) fun h2 b sb x2 => ?_
      have mv2 : Moved (S :: wr) G s { s1 with heap := h2, toks := s1.toks + 1 } := (mv.mono fun b => List.mem_cons_of_mem S).then_heap (Nat.le_succ _) fun b o nb q => (sb.2 b fun z => nb (z ▸ List.mem_cons_self)).trans q
      exact wpAny_pure ⟨plainId_quiet PyProof.Rows.F.plain_set_update_loop _, setX_loop W off hn few told rest (came ++ [y]) _ (by rw [split, List.append_assoc]; rfl)
        (by rw [List.length_append]; exact W.frame _ s1 _ _ st1 (Nat.le_succ _) fun b hb o q => (sb.2 b fun z => off (z ▸ hb)).trans q) x2 fun s3 mv3 x3 => fin s3 (Moved.trans W.gtrans mv2 mv3) x3⟩)
/-- the set as it is made -/
abbrev emp (w : World) : Obj := { cls := .type "set", dict := none, data := .set #[] 0 (.fresh 0 0 (!w.params.followText "set-order")) }
theorem setX_fresh {h : Heap} {a : Addr} (ho : h.get? a = some (emp w)) : SetX P w h a [] := by
  refine ⟨(#[], 0, .fresh 0 0 (!w.params.followText "set-order")), [], ho, TxOk.nil rfl, ⟨List.Pairwise.nil, ?_⟩, List.nodup_nil, fun z => Iff.rfl, Nat.le_refl _⟩
  show _ = true ∨ (!w.params.followText "set-order") = true
  cases w.params.followText "set-order" <;> simp
theorem strs_ix {us : List Value} {ks : List Str} (h : StrsAre us ks) : ∀ (i : Nat) (v : Value), us[i]? = some v → ∃ x c, ks[i]? = some x ∧ v = Value.str x c := by
  induction h with
  | nil => intro i v e; simp at e
  | cons n t r ih =>
    intro i v e
    cases i with
    | zero => exact ⟨n, t, rfl, by simpa using e.symm⟩
    | succ i => exact ih i v (by simpa using e)
/-- set.__init__(new, l), l a list of texts -/
theorem init_setX {A : Around} {E : Value → Shared → Prop} {s : Shared} {l : Addr} {items : Array Value} {ns : List Str} {Q : Shared → Prop} (calm : A.handled = none) (hl : s.heap.IsList l items) (hit : StrsAre items.toList ns) (few : ns.length + 1 < scanBound)
    (fin : ∀ (h' : Heap) (c : Nat), SetX P w h' s.heap.objs.size ns → (∀ b o, s.heap.get? b = some o → h'.get? b = some o) → Q { s with heap := h', toks := c }) :
    wpAny (model P w) A.in1 (Builtin.«set.__init__» ⟨[.ref s.heap.objs.size, .ref l], []⟩) (fun f s' => match f with | .done f => wants (fun r s₂ => r = .none ∧ Q s₂) E (.ok f) s' | .again c' => c'.quiet = true ∧ codeAny (model P w) A c' (wants (fun r s₂ => r = .none ∧ Q s₂) E) s')
      (fun e s' => wants (fun r s₂ => r = .none ∧ Q s₂) E (.error e) s') { s with heap := s.heap.push (emp w) } := by
  have count : items.size = ns.length := (Array.length_toList (xs := items)).symm.trans (StrsAre.length hit)
  obtain ⟨ol, got, cls, m, dat⟩ := id hl
  obtain ⟨_, _, _, _⟩ := ol
  subst cls dat
  have list_at : (s.heap.push (emp w)).IsList l items := ⟨_, Heap.get?_push_of_some _ got, rfl, m, rfl⟩
  have old : l < s.heap.objs.size := Heap.lt_size got
  have g3 := Heap.get?_push_of_some (emp w) got
  have f1 := PySem.F.sub_list_set
  have f2 := PySem.F.sub_list_frozenset
  have f3 : (Value.type "list" == Value.type "dict") = false := by decide
  unfold Builtin.«set.__init__» noKeywords Builtin.Frozenset.updateFrom
  generalize hold : pyIter = it
  wp_walk
  subst hold
  refine wpAny_pyIter_list list_at (wpAny_bind (wpAny_runValue (setX_loop ((Walks.list (by simp [calm]) _ l (by rw [Heap.size_push]; exact Nat.ne_of_lt (Nat.lt_succ_of_lt old)) items).toS) (by
      rw [Heap.size_push]
      intro z
      rcases List.mem_cons.mp z with z | z
      · exact Nat.ne_of_lt (Nat.lt_succ_self _) z
      · exact Nat.ne_of_gt old (List.mem_singleton.mp z)) count few (fun i v q => strs_ix hit i v (by rw [Array.getElem?_toList]; exact q)) ns [] _ rfl
    ⟨⟨_, Heap.get?_push_size _ rfl, rfl, rfl⟩, list_at.push _⟩ (setX_fresh (Heap.get?_push_of_some _ (Heap.get?_push_size _ rfl))) fun s' mv x => ?_)))
  have same : s' = { s with heap := s'.heap, toks := s'.toks } := by
    have a := mv.gens
    have b := mv.drawn
    have c := mv.os
    cases s'
    cases s
    dsimp only at a b c
    subst a b c
    rfl
  refine wpAny_pure (wpAny_pure (a := Fin.done (.ret Value.none)) ⟨rfl, ?_⟩)
  rw [same]
  refine fin _ _ x fun b o q => mv.heap b o ?_ (Heap.get?_push_of_some _ (Heap.get?_push_of_some _ q))
  have below := Heap.lt_size q
  rw [Heap.size_push]
  intro z
  rcases List.mem_cons.mp z with z | z
  · exact Nat.ne_of_lt below z
  · exact Nat.ne_of_lt (Nat.lt_succ_of_lt below) (List.mem_singleton.mp z)
/-- set(l), l a list of texts -/
theorem call_setX {A : Around} {E : Value → Shared → Prop} {s : Shared} {l : Addr} {items : Array Value} (ns : List Str) {Q : Value → Shared → Prop} (calm : A.handled = none) (hl : s.heap.IsList l items) (hit : StrsAre items.toList ns) (few : ns.length + 1 < scanBound)
    (fin : ∀ (h' : Heap) (c : Nat), SetX P w h' s.heap.objs.size ns → (∀ b o, s.heap.get? b = some o → h'.get? b = some o) → Q (.ref s.heap.objs.size) { s with heap := h', toks := c }) : wpAny (model P w) A (call (.type "set") [.ref l]) Q E s := by
  obtain ⟨_, _, f1⟩ := PySem.F.called_set.mro
  have f2 := PySem.F.called_set.made
  have f3 := PySem.F.called_set.sub
  have f4 := PySem.F.called_set.notType
  have f5 := PySem.F.called_set.canCreate
  have f6 := PySem.F.typeCall_set_1 (.ref l)
  refine wpAny_call (codeAny_of_tree (wpAny_pure (a := Fin.again (.builtin "type.__call__" ⟨[.type "set", .ref l], []⟩)) ⟨Code.quiet_builtin _ (by decide +kernel), codeAny_builtin PySem.F.entry_type_call ?_⟩))
  rw [Around.under_plain (weight_type_call_type "set" [.ref l] []) rfl]
  repeat (any_goals (first | assumption | wp_step))
  refine codeAny_mono (code_set_led1 (.ref l) (E := E) (Q₁ := fun x s1 => x = .ref s.heap.objs.size ∧ s1 = { s with heap := s.heap.push (emp w) }) ⟨rfl, rfl⟩) fun r s1 hr => ?_
  rcases r with e | f
  · exact hr
  cases f with
  | ret x =>
    obtain ⟨rfl, rfl⟩ := hr
    have is_set : Shared.TypeIs { s with heap := s.heap.push (emp w) } (.ref s.heap.objs.size) "set" := ⟨_, Heap.get?_push_size _ rfl, rfl⟩
    have f7 := PySem.F.called_set.init.lookup
    have f8 := PySem.F.called_set.init.bind (.ref s.heap.objs.size)
    repeat (any_goals (first | assumption | wp_step))
    refine codeAny_mono (codeAny_call_builtin (R := wants (fun r s₂ => r = .none ∧ Q (.ref s.heap.objs.size) s₂) E) PySem.F.called_set.init.plain PySem.F.entry_set_init (check_set_init_1 is_set ?_)) fun r s2 hr => ?_
    · refine init_setX (Q := Q (.ref s.heap.objs.size)) ?_ hl hit few fin
      first | exact calm | simp [calm]
    · rcases r with e | f
      · exact hr
      cases f with
      | ret x =>
        obtain ⟨rfl, q⟩ := hr
        repeat (any_goals (first | assumption | wp_step))
      | _ => exact hr.elim
  | _ => exact hr.elim
end Dn

set_option Elab.async false
set_option linter.all false
set_option maxRecDepth 100000
/-! Dn, part Se2: sorted(set(xs)): the calls, the reading. -/
namespace Dn
open PySem PySem.Spec PyProof.Rows L2 PySem.Froz
/-- the set of the texts ns, tracked -/
def SetXO (P : Program) (w : World) (a : Addr) (ns : List Str) : HO := .ext fun h => SetX P w h a ns
theorem perm_of_sub : ∀ {l ks : List Str}, l.Nodup → (∀ z ∈ l, z ∈ ks) → ks.length ≤ l.length → ks.Perm l
  | [], ks, _, _, h => by
    have : ks = [] := List.length_eq_zero_iff.mp (Nat.le_zero.mp h)
    rw [this]
  | x :: l, ks, nd, hs, h => by
    obtain ⟨n1, n2⟩ := List.nodup_cons.mp nd
    have hx := hs x List.mem_cons_self
    have p := List.perm_cons_erase hx
    have e := p.length_eq
    rw [List.length_cons] at e
    refine p.trans (.cons x (perm_of_sub n2 (fun z hz => ?_) ?_))
    · have ne : z ≠ x := fun q => n1 (q ▸ hz)
      exact (List.mem_erase_of_ne ne).mpr (hs z (List.mem_cons_of_mem _ hz))
    · rw [List.length_cons] at h; omega
theorem strs_all : ∀ (l : List Value), (∀ v ∈ l, ∃ k t, v = Value.str k t) → ∃ ks, StrsAre l ks ∧ ∀ k t, Value.str k t ∈ l → k ∈ ks
  | [], _ => ⟨[], .nil, by simp⟩
  | v :: l, h => by
    obtain ⟨k, t, rfl⟩ := h v List.mem_cons_self
    obtain ⟨ks, r, q⟩ := strs_all l fun u hu => h u (List.mem_cons_of_mem _ hu)
    refine ⟨k :: ks, .cons _ _ r, fun k' t' hm => ?_⟩
    rcases List.mem_cons.mp hm with e | e
    · cases e; exact List.mem_cons_self
    · exact List.mem_cons_of_mem _ (q k' t' e)
section
variable {X : Cx} {C : Cn} {Γ : Gam} {m n ma : Nat} {a : Expr} {ea : Ex} {pos p p2 p3 : Pos}
theorem setXO_new {P : Program} {w : World} {H : Hp} {h : Heap} {a : Addr} {ns : List Str} (R : SetX P w h a ns) : ObjOk P w H h a (SetXO P w a ns) := by
  have ⟨D, l, e, _⟩ := R
  exact ⟨R, ⟨_, e⟩, fun h1 h2 p k => SetX.at p k⟩
theorem cr_setX (hc : X.calm = true) : CallR X (.type "set") (fun xs H Q => ∃ l ns, xs = [.ref l] ∧ SqL X.K H l (ns.map V.str) ∧ ns.length + 1 < scanBound ∧ ∀ p, H p = none → Q (.ref p) (upd H p (SetXO X.prog X.w p ns))) := by
  intro pins s σ H xs us Q I r h
  obtain ⟨l, ns, rfl, hl, hb, q⟩ := h
  obtain ⟨its, rv, ⟨ol, nl, e1, e2, _, e3⟩, hz⟩ := I.list hl
  have pl : s.heap.IsList l its.toArray := ⟨ol, e1, e2, nl, e3⟩
  rw [Vals.ref1 r]
  refine call_setX ns (I.ok.hd hc) pl (strsAre_of rv) hb fun h' tk R k => ?_
  exact ⟨.ref _, upd H s.heap.objs.size (SetXO X.prog X.w s.heap.objs.size ns), I.laid (t' := tk) k (Nat.le_refl _) (setXO_new R), rfl, q _ (I.hok.fresh (Nat.le_refl _))⟩
theorem cr_sortX (hc : X.calm = true) : CallR X (.builtin "sorted") (fun xs H Q => ∃ a ns, xs = [.ref a] ∧ H a = some (SetXO X.prog X.w a ns) ∧ ns.length < 64 ∧
    ∀ ys p, ys.Nodup → (∀ z, z ∈ ys ↔ z ∈ ns) → sortedS ys = true → H p = none → Q (.ref p) (upd H p (.lst (ys.map V.str)))) := by
  intro pins s σ H xs us Q I r h
  obtain ⟨a, ns, rfl, ha, h64, q⟩ := h
  obtain ⟨⟨es, ep, t⟩, l, ho, F, R, nd, hm, hl⟩ : SetX X.prog X.w s.heap a ns := (I.hok a _ ha).1
  have hsz : es.size = l.length := F.sz
  rw [Vals.ref1 r]
  have h63 : l.length < 64 := by omega
  refine Calls.call_function_entry PyProof.Rows.kind_sorted PyProof.Rows.plain_sorted PyProof.Rows.entry_sorted (PyProof.Rows.args_sorted1 _) ?_
  unfold Builtin.«sorted»
  refine wpAny_bind (m := checkCount "sorted" 1 1 _) (wpAny_pure ?_)
  refine wpAny_bind (collect_set (A := X.A.in1) (I.ok.hd hc) ⟨_, ho, rfl, rfl⟩ F.fit (by show es.size < scanBound; rw [hsz]; exact Nat.lt_of_lt_of_le h63 (by decide)) R.1 R.2 fun s1 vs k1 hz g1 o1 pm => ?_)
  have hvs : ∀ v ∈ vs, ∃ k t, v = Value.str k t := fun v hv => by
    obtain ⟨e, he, rfl⟩ := List.mem_map.mp (pm.mem_iff.mp hv)
    obtain ⟨⟨k, hk, _⟩, _⟩ := F.el e he
    obtain ⟨t, ht⟩ := Value.isStrOf_shape (x := k) (v := e.2) hk
    exact ⟨k, t, ht⟩
  obtain ⟨ks, hS, hk⟩ := strs_all vs hvs
  have hkl : ks.length = l.length := by
    rw [← StrsAre.length hS, pm.length_eq, List.length_map, Array.length_toList]; exact hsz
  have pk : ks.Perm l := perm_of_sub nd (fun z hz => by
    obtain ⟨e, he, hq⟩ := (F.mem z).mp hz
    obtain ⟨t, ht⟩ := Value.isStrOf_shape (x := z) (v := e.2) hq
    exact hk z t (by rw [← ht]; exact pm.mem_iff.mpr (List.mem_map_of_mem he))) (Nat.le_of_eq hkl)
  have hvl : vs.length < 64 := by rw [StrsAre.length hS, hkl]; exact h63
  refine wpAny_bind (wpAny_newList ?_ (by rw [sizeLine_eq]; omega))
  have hoL : (s1.heap.push (seqObj "list" vs.toArray 0)).get? s1.heap.objs.size = some (seqObj "list" vs.toArray 0) := Heap.get?_push_size _ rfl
  refine wpAny_bind (wpAny_holding (wpAny_call_entry PyProof.Rows.slot_list_sort ⟨_, hoL, rfl⟩ PyProof.Rows.entry_list_sort
    (list_sort_treeK strKind_oneLt (s := { s1 with heap := s1.heap.push (seqObj "list" vs.toArray 0) }) hoL hS.keysOf (fun v₁ v₂ rest e => keyKind_strs (by rw [← e]; exact hS)) hvl fun st' hp hs => ⟨_, rfl, ?_⟩)
    (PyProof.Rows.args_list_sort _)))
  obtain ⟨ys, g2, g3, g4⟩ := sorted_out_str hS hp hs
  obtain ⟨e', he'⟩ := PyProof.Rows.sortedHeap_at (vs := vs) (out := (arrOf st').map (·.2)) hoL
  have pn := g3.trans pk
  have hlen : (ys.map V.str).length ≤ sizeLine := by rw [List.length_map, pn.length_eq, sizeLine_eq]; omega
  have hn : H s1.heap.objs.size = none := I.hok.fresh hz
  generalize hH2 : sortedHeap (s1.heap.push (seqObj "list" vs.toArray 0)) s1.heap.objs.size vs ((arrOf st').map (·.2)) = h2 at he'
  have kk : ∀ b o, s.heap.get? b = some o → h2.get? b = some o := fun b o e => by
    have q := k1 b o e
    have hlt := Heap.lt_size q
    rw [← hH2, sortedHeap_old (Nat.ne_of_lt hlt) (by rw [size_push']; exact Nat.lt_succ_of_lt hlt)]
    exact Heap.get?_push_of_some _ q
  have J : L2.Inv X pins σ (upd H s1.heap.objs.size (.lst (ys.map V.str))) { s with heap := h2, gens := s1.gens, drawn := s1.drawn, toks := s1.toks } :=
    I.call (ch := []) (Un.laid kk hz hn) (I.hok.laid kk hz ⟨hlen, ((arrOf st').map (·.2)).toList, e', vals_of_strs g2, by rw [Array.toArray_toList]; exact he'⟩) (by rw [g1]; exact I.bare) (fun _ z => nomatch z)
  have e1 : ({ s1 with heap := h2 } : Shared) = { s with heap := h2, gens := s1.gens, drawn := s1.drawn, toks := s1.toks } := by
    cases s1
    cases s
    cases o1
    rfl
  refine wpAny_pure ⟨_, rfl, ?_⟩
  show EP X pins σ Q (.ref s1.heap.objs.size) { s1 with heap := h2 }
  rw [e1]
  exact ⟨.ref s1.heap.objs.size, _, J, rfl, q ys _ (pn.nodup_iff.mpr nd) (fun z => (pn.mem_iff).trans (hm z)) g4 hn⟩
/-! ### what is told -/
def onceS (acc : List Str) : List Str → List Str
  | [] => acc
  | z :: zs => onceS (if z ∈ acc then acc else acc ++ [z]) zs
theorem dput_keysS {kvs : List (D × D)} {os : List Str} {z : Str} {v : D} (h : kvs.map (·.1) = os.map D.str) : (dput kvs (.str z) v).map (·.1) = (if z ∈ os then os else os ++ [z]).map D.str := by
  have e : dhas kvs (.str z) = decide (z ∈ os) := by
    induction kvs generalizing os with
    | nil => cases os with
      | nil => rfl
      | cons o os => simp at h
    | cons q kvs ih =>
      cases os with
      | nil => simp at h
      | cons o os =>
        simp only [List.map_cons, List.cons.injEq] at h
        have := ih h.2
        unfold dhas at this ⊢
        rw [List.any_cons, this, h.1]
        show ((o == z) || decide (z ∈ os)) = decide (z ∈ o :: os)
        by_cases c : o = z
        · subst c; simp
        · have c2 : ¬ z = o := fun y => c y.symm
          have c3 : (o == z) = false := by simp [c]
          simp [c3, c2]
  unfold dput
  rw [e]
  by_cases c : z ∈ os
  · rw [if_pos (by simpa using c), if_pos c, List.map_map, ← h]
    apply List.map_congr_left
    intro p _
    show (if keq p.1 (.str z) then (p.1, v) else p).1 = p.1
    by_cases q : keq p.1 (.str z) = true
    · rw [if_pos q]
    · rw [if_neg q]
  · rw [if_neg (by simpa using c), if_neg c, List.map_append, List.map_append, h]
    rfl
theorem onceS_keys : ∀ (ns : List Str) (acc : List Str) (kvs : List (D × D)), kvs.map (·.1) = acc.map D.str → (dmerge kvs (ns.map fun z => (D.str z, D.non))).map (·.1) = (onceS acc ns).map D.str
  | [], acc, kvs, h => h
  | z :: ns, acc, kvs, h => onceS_keys ns _ (dput kvs (.str z) .non) (dput_keysS h)
theorem onceS_nd : ∀ (ns acc : List Str), acc.Nodup → (onceS acc ns).Nodup ∧ ∀ z, z ∈ onceS acc ns ↔ z ∈ acc ∨ z ∈ ns
  | [], acc, h => ⟨h, fun z => by simp [onceS]⟩
  | x :: ns, acc, h => by
    unfold onceS
    by_cases c : x ∈ acc
    · rw [if_pos c]
      obtain ⟨h1, h2⟩ := onceS_nd ns acc h
      refine ⟨h1, fun z => (h2 z).trans ?_⟩
      rw [List.mem_cons]
      exact ⟨fun q => q.elim .inl fun q => .inr (.inr q), fun q => q.elim .inl fun q => q.elim (fun e => .inl (e ▸ c)) .inr⟩
    · rw [if_neg c]
      obtain ⟨h1, h2⟩ := onceS_nd ns (acc ++ [x]) (List.nodup_append.mpr ⟨h, by simp, fun a ha b hb e => c (by rw [List.mem_singleton] at hb; rw [← hb, ← e]; exact ha)⟩)
      refine ⟨h1, fun z => (h2 z).trans ?_⟩
      rw [List.mem_cons, List.mem_append, List.mem_singleton, or_assoc]
theorem onceD_strs (ns : List Str) : onceD (ns.map D.str) = (onceS [] ns).map D.str := by
  unfold onceD
  rw [List.map_map]
  exact onceS_keys ns [] [] rfl
theorem perm_nd {l ks : List Str} (h1 : l.Nodup) (h2 : ks.Nodup) (h : ∀ z, z ∈ l ↔ z ∈ ks) : l.Perm ks := (List.perm_ext_iff_of_nodup h1 h2).mpr fun z => h z
theorem strsD_of : ∀ {ds : List D}, ds.all isStrD = true → ∃ ss : List Str, ds = ss.map D.str
  | [], _ => ⟨[], rfl⟩
  | d :: ds, h => by
    rw [List.all_cons, Bool.and_eq_true] at h
    obtain ⟨ss, rfl⟩ := strsD_of h.2
    cases d with
    | str s => exact ⟨s :: ss, rfl⟩
    | _ => exact absurd h.1 (by simp [isStrD])
theorem vals_strs {K : PySem.W.Frag} {G : Hp} : ∀ {ss : List Str} {vs : List V}, Rps K G vs (ss.map D.str) → vs = ss.map V.str ∧ ∀ s ∈ ss, s.length ≤ line
  | [], _, h => by cases h; exact ⟨rfl, by simp⟩
  | s :: ss, _, h => by
    cases h with
    | cons r t =>
      obtain ⟨rfl, q⟩ := vals_strs t
      cases r with
      | str _ hl => exact ⟨rfl, fun z hz => by rcases List.mem_cons.mp hz with e | e; · rw [e]; exact hl
                                               · exact q z e⟩
theorem boot_set : bootBuiltins (Str.ofString "set") = some (.type "set") := by decide +kernel
theorem s_sst (hK : C.K = X.K) (hx : XOk X n) (hg : Gl X "sorted") (hg2 : Gl X "set") (ha : PE X a (rd C 1 Γ ea)) (ns : noStar a = true) :
    PE X (.Call (.Name "sorted" p) [.Call (.Name "set" p2) [a] [] p3] [] pos) (rd C m Γ (.sst ea)) :=
  wkE (pe_callB (cr_sortX hx.calm) hg (hx.free "sorted" (by decide)) (by decide +kernel) (pa_cons (pe_callTy (cr_setX hx.calm) hg2 (hx.free "set" (by decide)) boot_set (pa_cons ha pa_nil (star_of ns _ _)) (by decide) (by decide) (star_of ns _ _) rfl) pa_nil rfl) (by decide) (by decide) rfl rfl) fun σ H Q hh => by
  obtain ⟨B, G, bg, ρ, d, b', st, en, he, q⟩ := rd_out hh
  obtain ⟨x, b1, h1, he1⟩ := bnd_some he
  obtain ⟨he2, rfl⟩ := lift_some he1
  cases x with
  | lst ds =>
    obtain ⟨⟨c1, c2⟩, rfl⟩ := ite_optF (show (if ds.all isStrD = true ∧ ds.length < 64 then some (D.lst ((onceD ds).mergeSort leD)) else none) = some d from he2)
    obtain ⟨ss, rfl⟩ := strsD_of c1
    rw [List.length_map] at c2
    refine ⟨B, G, bg, ρ, _, _, st, en, h1, fun v G1 H1 f P ⟨k, hk, _, R⟩ _ => ?_⟩
    obtain ⟨l, vs, rfl, hl, rs⟩ := R.lst1 P.st.sub (by omega)
    obtain ⟨rfl, hlen⟩ := vals_strs rs
    refine ⟨l, ss, rfl, .inl (.inl hl), Nat.lt_of_le_of_lt c2 (by decide), fun p1 hp1 => ⟨p1, ss, rfl, upd_same, c2, fun ys p2 nd hm hs hp2 => ?_⟩⟩
    have P1 := P.st.laid (o := SetXO X.prog X.w p1 ss) hp1
    obtain ⟨o1, o2⟩ := onceS_nd ss [] List.nodup_nil
    have hp : ys.Perm (onceS [] ss) := perm_nd nd o1 fun z => by rw [hm z, o2 z]; simp
    rw [onceD_strs, sort_strs, ← sorted_eq hp hs] at q
    exact finL (k := 1) P1.st hp2 (rps_strs fun s hs => hlen s ((hm s).mp hs)) (.inl rfl) (qL (P.trans P1) (by show min m 1 ≤ 1; omega) q)
  | _ => cases he2
end
end Dn

set_option Elab.async false
set_option linter.all false
set_option maxRecDepth 100000
/-! Dn, part R: does a term of the layer tell what an expression of the text does: a check, and that it is right. -/
namespace Dn
open PySem PySem.Spec PyProof.Rows L2
/-- what is known where an expression stands: the slots' names, the scope, the defs (name, index, does it draw, how many others), the bag's slot -/
structure Sc where
  N : List Str
  sc : Scope
  fn : Str → Bool
  fns : List (Str × Nat × Bool × Nat)
  bs : Option Nat
  own : Nat → Nat
  cons : List (Str × D)
def Sc.blk (S : Sc) (scope : Scope) : Sc := { S with sc := relS scope S.sc, fn := fun x => scope.names.lookup x == some .cell }
structure XS (S : Sc) (X : Cx) (C : Cn) : Prop where
  N : X.N = S.N
  nd : S.N.Nodup
  sc : X.env.scope = S.sc
  fn : ∀ x, S.fn x = true → X.fn x = true
  K : C.K = X.K
  bs : C.bs = S.bs
  own : C.own = S.own
  ok : XOk X 0
  fns : ∀ p ∈ S.fns, ∃ k fa fd ps, Gn X.prog X.w X.K X.mg X.base k fa fd ps (pr X.K (C.Φ p.2.1) p.2.2.1 p.2.2.2 (C.own p.2.1)) ∧ Room k X.A ∧ X.mg p.1 = some (.ref fa) ∧ PySem.W.keepIn X.K (.ref fa) = true ∧ Binds X.K fd ps []
  con : ∀ p ∈ S.cons, ∃ u, X.mg p.1 = some u ∧ GlobOk X.K u p.2
theorem XS.blk {S : Sc} {X : Cx} {C : Cn} (h : XS S X C) {s : Shared} {H : Hp} {scope : Scope} {cl : List (Str × Addr)} {Ca : Addr} {fp : List Addr} : XS (S.blk scope) (X.blk s H scope (compEnvC scope cl Ca X.env) fp) C :=
  ⟨h.N, h.nd, by show relS scope X.env.scope = relS scope S.sc; rw [h.sc], fun x e => e, h.K, h.bs, h.own, ⟨h.ok.calm, h.ok.room, h.ok.gd, h.ok.sys, h.ok.free⟩, h.fns, h.con⟩
/-- no name that Python keeps for itself -/
def okName (x : Str) : Bool := !(x == ("__debug__" : Str)) && !(x == ("__classdict__" : Str))
def visB (S : Sc) (x : Str) : Bool := match S.sc.names.lookup x with
  | some .local => true
  | some .cell => true
  | some .free => true
  | _ => false
def glB (S : Sc) (x : Str) : Bool := match S.sc.names.lookup x with
  | some .globalImplicit => true
  | _ => false
def slotB (S : Sc) (i : Nat) (x : Str) : Bool := (match S.N[i]? with
  | some y => x == y
  | none => false) && visB S x && okName x
def locB (S : Sc) (x : Str) : Bool := match S.sc.names.lookup x with
  | some .local => true
  | some .cell => S.fn x
  | _ => false
section
variable {S : Sc} {X : Cx} {C : Cn} {Γ : Gam}
theorem name_of {x : Str} (h : okName x = true) : (x == ("__debug__" : Str)) = false ∧ (x == ("__classdict__" : Str)) = false := by
  unfold okName at h
  obtain ⟨h1, h2⟩ := Bool.and_eq_true_iff.mp h
  exact ⟨by simpa using h1, by simpa using h2⟩
theorem vis_of {x : Str} (xs : XS S X C) (h : visB S x = true) : Vis X.env.scope x := by
  unfold visB at h
  unfold Vis
  rw [xs.sc]
  split at h
  · rename_i e; exact .inl e
  · rename_i e; exact .inr (.inl e)
  · rename_i e; exact .inr (.inr e)
  · cases h
theorem gl_of {x : Str} (xs : XS S X C) (h : glB S x = true) : Gl X x := by
  unfold glB at h
  show X.env.scope.names.lookup x = some .globalImplicit
  rw [xs.sc]
  split at h
  · rename_i e; exact e
  · cases h
theorem slot_of {x : Str} {i : Nat} (xs : XS S X C) (h : slotB S i x = true) : SlotN X i x := by
  unfold slotB at h
  obtain ⟨h1, h3⟩ := Bool.and_eq_true_iff.mp h
  obtain ⟨h1, h2⟩ := Bool.and_eq_true_iff.mp h1
  obtain ⟨d1, d2⟩ := name_of h3
  refine ⟨?_, vis_of xs h2, d1, d2⟩
  rw [xs.N]
  split at h1
  · rename_i y e; rw [e, eq_of_beq h1]
  · cases h1
theorem loc_of {x : Str} (xs : XS S X C) (h : locB S x = true) : L2.Loc X.env.scope x ∧ (X.fn x = true ∨ X.env.scope.names.lookup x = some .local) := by
  unfold locB at h
  unfold L2.Loc
  rw [xs.sc]
  split at h
  · rename_i e; exact ⟨.inl e, .inr e⟩
  · rename_i e; exact ⟨.inr e, .inl (xs.fn x h)⟩
  · cases h
end
/-! ### targets -/
mutual
def ckG (S : Sc) : Tg → Expr → Bool
  | .nm i, e => (match e with
    | .Name x _ => slotB S i x && locB S x
    | _ => false)
  | .tp ts, e => (match e with
    | .Tuple es _ _ => ckGs S ts es
    | _ => false)
def ckGs (S : Sc) : List Tg → List Expr → Bool
  | [], es => (match es with
    | [] => true
    | _ => false)
  | t :: ts, es => (match es with
    | e :: es => ckG S t e && ckGs S ts es && noStar e
    | [] => false)
end
theorem assignEach_of {e : Expr} (h : noStar e = true) (es : List Expr) (env : Env) : assignEach (e :: es) env = (false, assign e env) :: assignEach es env := by
  cases e <;> first | rfl | cases h
mutual
theorem ckG_ok {S : Sc} {X : Cx} {C : Cn} (xs : XS S X C) : ∀ (t : Tg) (e : Expr), ckG S t e = true → PG X e (rg X.K t)
  | .nm i, e, h => by
    unfold ckG at h
    split at h
    · obtain ⟨h1, h2⟩ := Bool.and_eq_true_iff.mp h
      obtain ⟨l1, l2⟩ := loc_of xs h2
      exact g_nm (by rw [xs.N]; exact xs.nd) (slot_of xs h1).ix l1 l2
    · cases h
  | .tp ts, e, h => by
    unfold ckG at h
    split at h
    · obtain ⟨p1, p2, p3⟩ := ckGs_ok xs ts _ h
      exact g_tp xs.ok.calm p1 p2 p3
    · cases h
theorem ckGs_ok {S : Sc} {X : Cx} {C : Cn} (xs : XS S X C) : ∀ (ts : List Tg) (es : List Expr), ckGs S ts es = true → PGs X es (rgs X.K ts) ∧ (assignEach es X.env).length = ts.length ∧ (assignEach es X.env).findIdx? (·.1) = none
  | [], es, h => by
    unfold ckGs at h
    split at h
    · exact ⟨gs_nil, rfl, rfl⟩
    · cases h
  | t :: ts, es, h => by
    unfold ckGs at h
    split at h
    · rename_i e es
      obtain ⟨h1, h3⟩ := Bool.and_eq_true_iff.mp h
      obtain ⟨h1, h2⟩ := Bool.and_eq_true_iff.mp h1
      obtain ⟨p1, p2, p3⟩ := ckGs_ok xs ts es h2
      have ae := assignEach_of h3 es X.env
      refine ⟨gs_cons (ckG_ok xs t e h1) p1 (by rw [ae]; rfl), by rw [ae]; simp [p2], by rw [ae]; simp [List.findIdx?_cons, p3]⟩
    · cases h
end
/-! ### expressions -/
/-- a test is its value's truth -/
def plT : Expr → Bool
  | .Name _ _ => true
  | .Constant _ _ _ => true
  | .Call _ _ _ _ => true
  | .Subscript _ _ _ => true
  | _ => false
theorem plT_ok {a : Expr} {env : Env} (h : plT a = true) : ∀ whole, isTrue a env whole = (do let v ← whole; standAt a.pos; holding [v] (truthy v)) := by
  cases a <;> first | (intro _; rfl) | cases h
def plIt : Expr → Bool
  | .Set _ _ _ => false
  | _ => true
theorem plIt_ok {a : Expr} {env : Env} (h : plIt a = true) : ∀ x, foldedSetIterable a env x = pure x := by
  cases a <;> first | (intro _; rfl) | cases h
/-- an attribute's object is evaluated plainly -/
def plAt : Expr → Bool
  | .Name _ _ => true
  | .Call (.Name _ _) [_, _] [] _ => true
  | .Subscript _ _ _ => true
  | _ => false
theorem plAt_ok {a : Expr} {f : Str} {env : Env} (h : plAt a = true) : attributeBase a f env (eval a env) = eval a env := by
  unfold plAt at h
  split at h
  · rfl
  · rfl
  · rfl
  · cases h
def isBO : Expr → Bool
  | .BoolOp _ _ _ => true
  | _ => false
def chk (C : Bool) (l : Nat) : Bool := !C || l == 0
/-- an expression whose value is kept: a slot's own is not -/
def okB (S : Sc) (Γ : Gam) (e : Ex) : Bool := !chain e || lv S.own Γ e == 0
def mayBs (S : Sc) (i : Nat) : Bool := match S.bs with
  | some j => !(i == j)
  | none => true
def tgB (S : Sc) (Γ : Gam) (l : List Nat) : Bool := l.all fun i => lvl Γ i == 0 && mayBs S i
def ownOf (N : List Str) (scope : Scope) (l : List Nat) : List (Str × Nat) := l.map fun i => (N.getD i "", i)
/-- a walk over a slot's dict -/
def kyB (S : Sc) (Γ : Gam) (it : Dn.It) (e : Expr) : Bool := match it, e with
  | .keys j, .Name y _ => slotB S j y && lvl Γ j == 0
  | _, _ => false
mutual
def ckE (S : Sc) (Γ : Gam) (m : Nat) : Ex → Expr → Bool
  | .var i, e => (match e with
    | .Name x _ => slotB S i x && decide (lvl Γ i ≤ m)
    | _ => false)
  | .kn, e => (match e with
    | .Constant .none _ _ => true
    | _ => false)
  | .kb b, e => (match e with
    | .Constant (.bool c) _ _ => b == c
    | _ => false)
  | .ki i, e => (match e with
    | .Constant (.int j) _ _ => decide (i = j)
    | _ => false)
  | .ks s, e => (match e with
    | .Constant (.str t) _ _ => s == t && decide (s.length ≤ line)
    | _ => false)
  | .tup es, e => (match e with
    | .Tuple l _ _ => ckA S Γ es l && decide (es.len ≤ line)
    | _ => false)
  | .lst es, e => (match e with
    | .List l _ => ckA S Γ es l && decide (es.len ≤ line)
    | _ => false)
  | .bin op a b, e => (match e with
    | .BinOp x o y _ => decide (o = bopOf op) && ckE S Γ 1 a x && ckE S Γ 1 b y
    | _ => false)
  | .neg a, e => (match e with
    | .UnaryOp .USub x _ => ckE S Γ 9 a x
    | _ => false)
  | .cmp op a b, e => (match e with
    | .Compare x [o] [y] _ => decide (o = opOf op) && ckE S Γ 9 a x && ckE S Γ 9 b y && !behindInMarks (opOf op) y
    | _ => false)
  | .chn op op' a b c, e => (match e with
    | .Compare x [o, o'] [y, z] _ => decide (o = opOf op) && decide (o' = opOf op') && ckE S Γ 9 a x && ckE S Γ 9 b y && ckE S Γ 9 c z && !lastMarks [opOf op, opOf op'] [y, z]
    | _ => false)
  | .isn a, e => (match e with
    | .Compare x [.Is] [.Constant .none _ _] _ => ckE S Γ 9 a x
    | _ => false)
  | .ntn a, e => (match e with
    | .Compare x [.IsNot] [.Constant .none _ _] _ => ckE S Γ 9 a x
    | _ => false)
  | .isb b a, e => (match e with
    | .Compare x [.Is] [.Constant (.bool c) _ _] _ => b == c && ckE S Γ 9 a x
    | _ => false)
  | .and_ a b, e => (match e with
    | .BoolOp .And [x, y] _ => ckE S Γ 9 a x && ckE S Γ 9 b y
    | .BoolOp .And (x :: y :: z :: r) p => ckE S Γ 9 a x && ckE S Γ 9 b (.BoolOp .And (y :: z :: r) p)
    | _ => false)
  | .or_ a b, e => (match e with
    | .BoolOp .Or [x, y] _ => ckE S Γ 9 a x && ckE S Γ 9 b y
    | .BoolOp .Or (x :: y :: z :: r) p => ckE S Γ 9 a x && ckE S Γ 9 b (.BoolOp .Or (y :: z :: r) p)
    | _ => false)
  | .not_ a, e => (match e with
    | .UnaryOp .Not x _ => ckE S Γ 9 a x
    | _ => false)
  | .ite t a b, e => (match e with
    | .IfExp x y z _ => ckT S Γ t x && ckE S Γ 9 a y && ckE S Γ 9 b z && okB S Γ a && okB S Γ b && decide (m ≤ 9)
    | _ => false)
  | .idx a b, e => (match e with
    | .Subscript x y _ => ckE S Γ (m + 1) a x && ckE S Γ 9 b y && !isSl y
    | _ => false)
  | .slc a lo hi, e => (match e with
    | .Subscript x (.Slice l h none _) _ => ckE S Γ 1 a x && ckO S Γ lo l && ckO S Γ hi h
    | _ => false)
  | .call f es, e => (match e with
    | .Call (.Name x _) (y :: l) [] _ => glB S x && okName x && (match S.fns.find? fun p => p.1 == x with
      | some (_, g, bag, np) => decide (g = f) && decide (es.len = np) && l.all noStar && noStar y && (if bag = true then (match y with
          | .Name z _ => (match S.bs with
            | some i => slotB S i z
            | none => false) && ckA S Γ es l
          | _ => false) else ckA S Γ es (y :: l))
      | none => false)
    | .Call (.Name x _) [] [] _ => glB S x && okName x && (match S.fns.find? fun p => p.1 == x with
      | some (_, g, bag, np) => decide (g = f) && decide (np = 0) && !bag && (match es with
        | .nil => true
        | _ => false)
      | none => false)
    | _ => false)
  | .bi f a, e => (match e with
    | .Call (.Name x _) [y] [] _ => x == Str.ofString (biOf f) && glB S x && ckE S Γ (if need1 f = true then 1 else 9) a y && noStar y
    | _ => false)
  | .index a b, e => (match e with
    | .Call (.Attribute x f ap) [y] [] cp => f == Str.ofString "index" && ckE S Γ 9 a x && ckE S Γ 9 b y && noStar y && (ap.endLine == cp.line) && plAt x
    | _ => false)
  | .bgi k, e => (match e with
    | .Subscript (.Name x _) (.Constant (.int j) _ _) _ => (match S.bs with
      | some i => slotB S i x
      | none => false) && decide (j = (k : Int))
    | _ => false)
  | .bgc, e => (match e with
    | .Subscript (.BinOp (.Subscript (.Subscript (.Name x _) (.Constant (.int j1) _ _) _) (.Slice (some (.Subscript (.Name y _) (.Constant (.int j2) _ _) _)) none none _) _) .Add (.List [.Constant (.int j3) _ _] _) _) (.Constant (.int j4) _ _) _ => (match S.bs with
      | some i => slotB S i x
      | none => false) && x == y && decide (j1 = ((3 : Nat) : Int)) && decide (j2 = ((2 : Nat) : Int)) && decide (j3 = 0) && decide (j4 = ((0 : Nat) : Int))
    | _ => false)
  | .lc elt own tg it c, e => (match e with
    | .ListComp x [⟨t, i, ifs, 0⟩] scope _ => blkC S.N S.sc scope (ownOf S.N scope own) && ckG (S.blk scope) tg t && (kyB S Γ it i || ckI S Γ it t i) && ckC (S.blk scope) (setz Γ own) c ifs && ckE (S.blk scope) (setz Γ own) 9 elt x && plIt i && own.all (mayBs S) && (slots tg).all (fun j => own.contains j) && okB S (setz Γ own) elt && (!itPair it || isTp tg)
    | _ => false)
  | .lc2 elt own tg it c tg2 it2 c2, e => (match e with
    | .ListComp x [⟨t, i, ifs, 0⟩, ⟨t2, i2, ifs2, 0⟩] scope _ => blkC S.N S.sc scope (ownOf S.N scope own) && ckG (S.blk scope) tg t && ckI S Γ it t i && ckC (S.blk scope) (setz Γ own) c ifs && ckE (S.blk scope) (setz Γ own) 0 elt x && plIt i && own.all (mayBs S) && (slots tg).all (fun j => own.contains j) && (!itPair it || isTp tg)
        && ckG (S.blk scope) tg2 t2 && ckI (S.blk scope) (setz Γ own) it2 t2 i2 && ckC (S.blk scope) (setz Γ own) c2 ifs2 && plIt i2 && (slots tg2).all (fun j => own.contains j) && (!itPair it2 || isTp tg2)
    | _ => false)
  | .dc k v own tg it c, e => (match e with
    | .DictComp x y [⟨t, i, ifs, 0⟩] scope _ => blkC S.N S.sc scope (ownOf S.N scope own) && ckG (S.blk scope) tg t && (kyB S Γ it i || ckI S Γ it t i) && ckC (S.blk scope) (setz Γ own) c ifs && ckE (S.blk scope) (setz Γ own) 9 k x && ckE (S.blk scope) (setz Γ own) 0 v y && plIt i && own.all (mayBs S) && (slots tg).all (fun j => own.contains j) && (!itPair it || isTp tg)
    | _ => false)
  | .sst a, e => (match e with
    | .Call (.Name x _) [.Call (.Name y _) [z] [] _] [] _ => x == Str.ofString "sorted" && y == Str.ofString "set" && glB S x && glB S y && ckE S Γ 1 a z && noStar z
    | _ => false)
  | .nev, _ => true
  | .glo x d, e => (match e with
    | .Name y _ => x == y && glB S y && okName y && (match S.cons.find? fun p => p.1 == y with
      | some p => sameD p.2 d
      | none => false)
    | _ => false)
  | .isi a t, e => (match e with
    | .Call (.Name x _) [y, .Name z _] [] _ => x == Str.ofString "isinstance" && z == Str.ofString (tyS t) && glB S x && glB S z && ckE S Γ 9 a y && noStar y
    | _ => false)
  | .get a b, e => (match e with
    | .Call (.Attribute o f ap) [y] [] cp => f == Str.ofString "get" && ckE S Γ 1 a o && ckE S Γ 9 b y && noStar y && (ap.endLine == cp.line) && plAt o
    | _ => false)
  | .get2 a b c, e => (match e with
    | .Call (.Attribute o f ap) [y, z] [] cp => f == Str.ofString "get" && ckE S Γ 1 a o && ckE S Γ 9 b y && ckE S Γ 0 c z && noStar y && noStar z && (ap.endLine == cp.line) && plAt o
    | _ => false)
  | .lrg a, e => (match e with
    | .Call (.Name x _) [.Call (.Name y _) [z] [] _] [] _ => x == Str.ofString "list" && y == Str.ofString "range" && glB S x && glB S y && ckE S Γ 9 a z && noStar z
    | _ => false)
  | .lit a, e => (match e with
    | .Call (.Name x _) [.Call (.Attribute o f ap) [] [] cp] [] _ => x == Str.ofString "list" && f == Str.ofString "items" && glB S x && ckE S Γ 1 a o && plAt o && (ap.endLine == cp.line)
    | _ => false)
  | .sit a, e => (match e with
    | .Call (.Name x _) [.Call (.Attribute o f ap) [] [] cp] [] _ => x == Str.ofString "sorted" && f == Str.ofString "items" && glB S x && ckE S Γ 1 a o && plAt o && (ap.endLine == cp.line)
    | _ => false)
  | .tsl a b, e => (match e with
    | .Tuple [.Starred x _, y] _ _ => ckE S Γ 0 a x && ckE S Γ 0 b y && noStar y
    | _ => false)
  | .tst a b, e => (match e with
    | .Tuple [x, .Starred y _] _ _ => ckE S Γ 0 a x && ckE S Γ 0 b y && noStar x
    | _ => false)
  | .dsp ps, e => (match ps with
    | .nil => (match e with
      | .Dict [] [] _ => true
      | _ => false)
    | _ => false)
  | _, _ => false
def ckT (S : Sc) (Γ : Gam) : Ex → Expr → Bool
  | .and_ a b, e => (match e with
    | .BoolOp .And [x, y] _ => ckT S Γ a x && ckT S Γ b y
    | .BoolOp .And (x :: y :: z :: r) p => ckT S Γ a x && ckT S Γ b (.BoolOp .And (y :: z :: r) p)
    | _ => false)
  | .or_ a b, e => (match e with
    | .BoolOp .Or [x, y] _ => ckT S Γ a x && ckT S Γ b y
    | .BoolOp .Or (x :: y :: z :: r) p => ckT S Γ a x && ckT S Γ b (.BoolOp .Or (y :: z :: r) p)
    | _ => false)
  | .not_ a, e => (match e with
    | .UnaryOp .Not x _ => ckT S Γ a x
    | _ => false)
  | .cmp op a b, e => (match e with
    | .Compare x [o] [y] _ => decide (o = opOf op) && ckE S Γ 9 a x && ckE S Γ 9 b y && !behindInMarks (opOf op) y
    | _ => false)
  | .chn op op' a b c, e => (match e with
    | .Compare x [o, o'] [y, z] _ => decide (o = opOf op) && decide (o' = opOf op') && ckE S Γ 9 a x && ckE S Γ 9 b y && ckE S Γ 9 c z && !lastMarks [opOf op, opOf op'] [y, z]
    | _ => false)
  | .isn a, e => (match e with
    | .Compare x [.Is] [.Constant .none _ _] _ => ckE S Γ 9 a x
    | _ => false)
  | .ntn a, e => (match e with
    | .Compare x [.IsNot] [.Constant .none _ _] _ => ckE S Γ 9 a x
    | _ => false)
  | .isb b a, e => (match e with
    | .Compare x [.Is] [.Constant (.bool c) _ _] _ => b == c && ckE S Γ 9 a x
    | _ => false)
  | .var i, e => (match e with
    | .Name x _ => slotB S i x && decide (lvl Γ i ≤ 9)
    | _ => false)
  | .kb b, e => (match e with
    | .Constant (.bool c) _ _ => b == c
    | _ => false)
  | .idx a b, e => (match e with
    | .Subscript x y _ => ckE S Γ 10 a x && ckE S Γ 9 b y && !isSl y
    | _ => false)
  | .call f es, e => (match e with
    | .Call (.Name x _) (y :: l) [] _ => glB S x && okName x && (match S.fns.find? fun p => p.1 == x with
      | some (_, g, bag, np) => decide (g = f) && decide (es.len = np) && l.all noStar && noStar y && (if bag = true then (match y with
          | .Name z _ => (match S.bs with
            | some i => slotB S i z
            | none => false) && ckA S Γ es l
          | _ => false) else ckA S Γ es (y :: l))
      | none => false)
    | _ => false)
  | .bi f a, e => (match e with
    | .Call (.Name x _) [y] [] _ => x == Str.ofString (biOf f) && glB S x && ckE S Γ (if need1 f = true then 1 else 9) a y && noStar y
    | _ => false)
  | .nev, e => !isBO e
  | .isi a t, e => (match e with
    | .Call (.Name x _) [y, .Name z _] [] _ => x == Str.ofString "isinstance" && z == Str.ofString (tyS t) && glB S x && glB S z && ckE S Γ 9 a y && noStar y
    | _ => false)
  | _, _ => false
def ckA (S : Sc) (Γ : Gam) : Exs → List Expr → Bool
  | .nil, l => (match l with
    | [] => true
    | _ => false)
  | .cons e es, l => (match l with
    | x :: r => ckE S Γ 0 e x && ckA S Γ es r && noStar x
    | _ => false)
def ckO (S : Sc) (Γ : Gam) : Oe → Option Expr → Bool
  | .no, l => (match l with
    | none => true
    | _ => false)
  | .yes e, l => (match l with
    | some x => ckE S Γ 9 e x
    | _ => false)
def ckC (S : Sc) (Γ : Gam) : Oe → List Expr → Bool
  | .no, l => (match l with
    | [] => true
    | _ => false)
  | .yes e, l => (match l with
    | [x] => ckT S Γ e x
    | _ => false)
def ckI (S : Sc) (Γ : Gam) : Dn.It → Expr → Expr → Bool
  | .ex e, _, x => ckE S Γ 0 e x
  | .r1 e, _, x => (match x with
    | .Call (.Name f _) [y] [] _ => f == Str.ofString "range" && glB S f && ckE S Γ 9 e y && noStar y
    | _ => false)
  | .r2 e e2, _, x => (match x with
    | .Call (.Name f _) [y, z] [] _ => f == Str.ofString "range" && glB S f && ckE S Γ 9 e y && ckE S Γ 9 e2 z && noStar y && noStar z
    | _ => false)
  | .enum e, t, x => (match t, x with
    | .Tuple _ _ _, .Call (.Name f _) [y] [] _ => f == Str.ofString "enumerate" && glB S f && ckE S Γ 0 e y && noStar y
    | _, _ => false)
  | .zip e e2, t, x => (match t, x with
    | .Tuple _ _ _, .Call (.Name f _) [y, z] [] _ => f == Str.ofString "zip" && glB S f && ckE S Γ 0 e y && ckE S Γ 0 e2 z && noStar y && noStar z
    | _, _ => false)
  | _, _, _ => false
end
end Dn

set_option Elab.async false
set_option linter.all false
set_option maxRecDepth 100000
/-! Dn, part S: the check of expressions is right. -/
namespace Dn
open PySem PySem.Spec PyProof.Rows L2
section
variable {S : Sc} {X : Cx} {C : Cn} {Γ : Gam} {m : Nat}
theorem and2 {a b : Bool} (h : (a && b) = true) : a = true ∧ b = true := Bool.and_eq_true_iff.mp h
theorem pe_one {op : BoolOp} {e : Expr} {t : TE} {pos : Pos} (h : PE X e t) : PE X (.BoolOp op [e] pos) t := ⟨fun pins s σ H Q I q => h.run pins s σ H Q I q⟩
theorem plain_of {l : List Expr} (h : l.all noStar = true) (pos : Pos) (env : Env) : (backTo pos (starEach l env)).any (·.1) = false := by
  induction l with
  | nil => rfl
  | cons e es ih =>
    rw [List.all_cons] at h
    obtain ⟨h1, h2⟩ := and2 h
    rw [star_of h1]
    have := ih h2
    unfold backTo at this ⊢
    simpa using this
theorem cbs {f : Bi} (hx : XOk X 0) : CallR X (biV f) (rBi X.K f) := by
  cases f with
  | len => exact cb_len
  | tuple => exact cb_tuple
  | list => exact cb_list hx
  | dict => exact cb_dict hx
  | sorted => exact cb_sorted hx
  | abs => exact cb_abs
  | int => exact cb_int
  | str => exact cb_str
  | repr => exact cb_repr hx
  | all => exact cb_all hx
  | any => exact cb_any hx
  | sum => exact cb_sum hx
theorem call_ok (xs : XS S X C) {x nm : Str} {f np : Nat} {bag : Bool} {es : Exs} {y : Expr} {l : List Expr} {p pos : Pos} (hg : glB S x = true) (hn : okName x = true) (hf : S.fns.find? (fun p => p.1 == x) = some (nm, f, bag, np)) (hl : es.len = np) (hst : l.all noStar = true) (hy : noStar y = true)
    (ha : PA X (y :: l) (rb C Γ bag es)) : PE X (.Call (.Name x p) (y :: l) [] pos) (rd C m Γ (.call f es)) := by
  have h1 := List.mem_of_find?_eq_some hf
  have h2 := List.find?_some hf
  have e : nm = x := eq_of_beq h2
  subst e
  obtain ⟨k, fa, fd, ps, F, hr, hm, hk, hb⟩ := xs.fns _ h1
  exact s_call F hr xs.K xs.ok (gl_of xs hg) hm hk hb ha hl (name_of hn).1 (star_of hy _ _) (plain_of hst _ _)
theorem call0_ok (xs : XS S X C) {x nm : Str} {f : Nat} {p pos : Pos} (hg : glB S x = true) (hn : okName x = true) (hf : S.fns.find? (fun p => p.1 == x) = some (nm, f, false, 0)) : PE X (.Call (.Name x p) [] [] pos) (rd C m Γ (.call f .nil)) := by
  have h1 := List.mem_of_find?_eq_some hf
  have h2 := List.find?_some hf
  have e : nm = x := eq_of_beq h2
  subst e
  obtain ⟨k, fa, fd, ps, F, hr, hm, hk, hb⟩ := xs.fns _ h1
  exact s_call0 F hr xs.K xs.ok (gl_of xs hg) hm hk hb (name_of hn).1
theorem okB_ok {e : Ex} (xs : XS S X C) (h : okB S Γ e = true) : okE C Γ e := by
  unfold okB at h
  unfold okE
  rw [xs.own]
  rcases Bool.or_eq_true_iff.mp h with h | h
  · exact .inl (by simpa using h)
  · exact .inr (by simpa using h)
theorem mayB_ok {i : Nat} (xs : XS S X C) (h : mayBs S i = true) : C.bs ≠ some i := by
  unfold mayBs at h
  rw [xs.bs]
  split at h
  · rename_i j e
    rw [e]
    intro z
    cases z
    simp at h
  · rename_i e
    rw [e]
    intro z
    cases z
theorem pair_tp {it : Dn.It} {tg : Tg} (h : (!itPair it || isTp tg) = true) : itPair it = true → isTp tg = true := fun z => by
  rw [z] at h
  simpa using h
theorem own_snd (N : List Str) (scope : Scope) (l : List Nat) : (ownOf N scope l).map (·.2) = l := by
  unfold ownOf
  rw [List.map_map]
  exact List.map_id' l
end
theorem bs_of {S : Sc} {X : Cx} {C : Cn} {x : Str} (xs : XS S X C) (h : (match S.bs with
      | some i => slotB S i x
      | none => false) = true) : ∃ i, C.bs = some i ∧ SlotM X i x := by
  cases e : S.bs with
  | none => rw [e] at h; cases h
  | some i =>
    rw [e] at h
    have s := slot_of xs h
    exact ⟨i, xs.bs.trans e, s.ix, s.vis, s.deb, s.cd⟩
theorem kyB_out {it : Dn.It} {e : Expr} (h : kyB S Γ it e = true) : ∃ j y py, it = .keys j ∧ e = .Name y py ∧ slotB S j y = true ∧ lvl Γ j = 0 := by
  unfold kyB at h
  split at h
  · rename_i j y py
    obtain ⟨h1, h2⟩ := and2 h
    exact ⟨j, y, py, rfl, rfl, h1, eq_of_beq h2⟩
  · cases h
mutual
theorem ckE_ok {C : Cn} : ∀ (ee : Ex) (S : Sc) (X : Cx) (Γ : Gam) (m : Nat) (e : Expr), XS S X C → ckE S Γ m ee e = true → PE X e (rd C m Γ ee)
  | .var i, S, X, Γ, m, e, xs, h => by
    unfold ckE at h
    split at h
    · obtain ⟨h1, h2⟩ := and2 h
      have s := slot_of xs h1
      exact s_var s.ix s.vis (of_decide_eq_true h2) s.deb s.cd
    · cases h
  | .kn, S, X, Γ, m, e, xs, h => by
    unfold ckE at h
    split at h
    · exact s_non
    · cases h
  | .kb b, S, X, Γ, m, e, xs, h => by
    unfold ckE at h
    split at h
    · have e := eq_of_beq h; subst e; exact s_bl
    · cases h
  | .ki i, S, X, Γ, m, e, xs, h => by
    unfold ckE at h
    split at h
    · have e := of_decide_eq_true h; subst e; exact s_int
    · cases h
  | .ks s, S, X, Γ, m, e, xs, h => by
    unfold ckE at h
    split at h
    · obtain ⟨h1, h2⟩ := and2 h
      have e := eq_of_beq h1; subst e; exact s_str (of_decide_eq_true h2)
    · cases h
  | .glo x d, S, X, Γ, m, e, xs, h => by
    unfold ckE at h
    split at h
    · obtain ⟨h1, h4⟩ := and2 h
      obtain ⟨h1, h3⟩ := and2 h1
      obtain ⟨h1, h2⟩ := and2 h1
      have e1 := eq_of_beq h1; subst e1
      split at h4
      · rename_i p hf
        have e2 := sameD_eq _ _ h4
        have e3 := List.find?_some hf
        have e3 := eq_of_beq e3
        obtain ⟨u, k1, k2⟩ := xs.con p (List.mem_of_find?_eq_some hf)
        rw [e2] at k2
        rw [e3] at k1
        exact s_glob xs.K (gl_of xs h2) k1 k2 (name_of h3).1
      · cases h4
    · cases h
  | .tup es, S, X, Γ, m, e, xs, h => by
    unfold ckE at h
    split at h
    · obtain ⟨h1, h2⟩ := and2 h
      exact s_tup (ckA_ok es S X Γ _ xs h1) (of_decide_eq_true h2)
    · cases h
  | .lst es, S, X, Γ, m, e, xs, h => by
    unfold ckE at h
    split at h
    · obtain ⟨h1, h2⟩ := and2 h
      exact s_lst (ckA_ok es S X Γ _ xs h1) (of_decide_eq_true h2)
    · cases h
  | .dmg a b c, S, X, Γ, m, e, xs, h => by unfold ckE at h; cases h
  | .bin op a b, S, X, Γ, m, e, xs, h => by
    unfold ckE at h
    split at h
    · obtain ⟨h1, h3⟩ := and2 h
      obtain ⟨h1, h2⟩ := and2 h1
      have e := of_decide_eq_true h1; subst e
      exact s_bin xs.K (ckE_ok a S X Γ _ _ xs h2) (ckE_ok b S X Γ _ _ xs h3)
    · cases h
  | .neg a, S, X, Γ, m, e, xs, h => by
    unfold ckE at h
    split at h
    · exact s_neg (ckE_ok a S X Γ _ _ xs h)
    · cases h
  | .cmp op a b, S, X, Γ, m, e, xs, h => by
    unfold ckE at h
    split at h
    · obtain ⟨h1, h4⟩ := and2 h
      obtain ⟨h1, h3⟩ := and2 h1
      obtain ⟨h1, h2⟩ := and2 h1
      have e := of_decide_eq_true h1; subst e
      exact s_cmp xs.K xs.ok (ckE_ok a S X Γ _ _ xs h2) (ckE_ok b S X Γ _ _ xs h3) (by simpa using h4)
    · cases h
  | .chn op op' a b c, S, X, Γ, m, e, xs, h => by
    unfold ckE at h
    split at h
    · obtain ⟨h1, h6⟩ := and2 h
      obtain ⟨h1, h5⟩ := and2 h1
      obtain ⟨h1, h4⟩ := and2 h1
      obtain ⟨h1, h3⟩ := and2 h1
      obtain ⟨h1, h2⟩ := and2 h1
      have e := of_decide_eq_true h1; subst e
      have e := of_decide_eq_true h2; subst e
      exact s_chn xs.K xs.ok (ckE_ok a S X Γ _ _ xs h3) (ckE_ok b S X Γ _ _ xs h4) (ckE_ok c S X Γ _ _ xs h5) (by simpa using h6)
    · cases h
  | .isn a, S, X, Γ, m, e, xs, h => by
    unfold ckE at h
    split at h
    · exact s_isn (ckE_ok a S X Γ _ _ xs h)
    · cases h
  | .ntn a, S, X, Γ, m, e, xs, h => by
    unfold ckE at h
    split at h
    · exact s_ntn (ckE_ok a S X Γ _ _ xs h)
    · cases h
  | .isb b a, S, X, Γ, m, e, xs, h => by
    unfold ckE at h
    split at h
    · obtain ⟨h1, h2⟩ := and2 h
      have e := eq_of_beq h1; subst e
      exact s_isb (ckE_ok a S X Γ _ _ xs h2)
    · cases h
  | .and_ a b, S, X, Γ, m, e, xs, h => by
    unfold ckE at h
    split at h
    · obtain ⟨h1, h2⟩ := and2 h
      exact s_and (ckE_ok a S X Γ _ _ xs h1) (pe_one (ckE_ok b S X Γ _ _ xs h2))
    · obtain ⟨h1, h2⟩ := and2 h
      exact s_and (ckE_ok a S X Γ _ _ xs h1) (ckE_ok b S X Γ _ _ xs h2)
    · cases h
  | .or_ a b, S, X, Γ, m, e, xs, h => by
    unfold ckE at h
    split at h
    · obtain ⟨h1, h2⟩ := and2 h
      exact s_or (ckE_ok a S X Γ _ _ xs h1) (pe_one (ckE_ok b S X Γ _ _ xs h2))
    · obtain ⟨h1, h2⟩ := and2 h
      exact s_or (ckE_ok a S X Γ _ _ xs h1) (ckE_ok b S X Γ _ _ xs h2)
    · cases h
  | .not_ a, S, X, Γ, m, e, xs, h => by
    unfold ckE at h
    split at h
    · exact s_not (ckE_ok a S X Γ _ _ xs h)
    · cases h
  | .ite t a b, S, X, Γ, m, e, xs, h => by
    unfold ckE at h
    split at h
    · obtain ⟨h1, h6⟩ := and2 h
      obtain ⟨h1, h5⟩ := and2 h1
      obtain ⟨h1, h4⟩ := and2 h1
      obtain ⟨h1, h3⟩ := and2 h1
      obtain ⟨h1, h2⟩ := and2 h1
      exact s_ite (of_decide_eq_true h6) (ckT_ok t S X Γ _ xs h1).1 (ckE_ok a S X Γ _ _ xs h2) (ckE_ok b S X Γ _ _ xs h3) (okB_ok xs h4) (okB_ok xs h5)
    · cases h
  | .idx a b, S, X, Γ, m, e, xs, h => by
    unfold ckE at h
    split at h
    · obtain ⟨h1, h3⟩ := and2 h
      obtain ⟨h1, h2⟩ := and2 h1
      exact s_idx xs.K xs.ok (ckE_ok a S X Γ _ _ xs h1) (ckE_ok b S X Γ _ _ xs h2) (by simpa using h3)
    · cases h
  | .slc a lo hi, S, X, Γ, m, e, xs, h => by
    unfold ckE at h
    split at h
    · obtain ⟨h1, h3⟩ := and2 h
      obtain ⟨h1, h2⟩ := and2 h1
      exact s_slc xs.K (ckE_ok a S X Γ _ _ xs h1) (ckO_ok lo S X Γ _ xs h2) (ckO_ok hi S X Γ _ xs h3)
    · cases h
  | .call f es, S, X, Γ, m, e, xs, h => by
    unfold ckE at h
    split at h
    · obtain ⟨h1, h3⟩ := and2 h
      obtain ⟨h1, h2⟩ := and2 h1
      split at h3
      · rename_i hf
        obtain ⟨h3, h7⟩ := and2 h3
        obtain ⟨h3, h6⟩ := and2 h3
        obtain ⟨h3, h5⟩ := and2 h3
        obtain ⟨h3, h4⟩ := and2 h3
        have e := of_decide_eq_true h3; subst e
        split at h7
        · rename_i hb
          split at h7
          · obtain ⟨h8, h9⟩ := and2 h7
            split at h8
            · rename_i hbs
              subst hb
              exact call_ok xs h1 h2 hf (of_decide_eq_true h4) h5 h6 (a_bag (slot_of xs h8) (xs.bs.trans hbs) (ckA_ok es S X Γ _ xs h9))
            · cases h8
          · cases h7
        · rename_i hb
          have hb := eq_false_of_ne_true hb
          subst hb
          exact call_ok xs h1 h2 hf (of_decide_eq_true h4) h5 h6 (a_pure (ckA_ok es S X Γ _ xs h7))
      · cases h3
    · obtain ⟨h1, h3⟩ := and2 h
      obtain ⟨h1, h2⟩ := and2 h1
      split at h3
      · rename_i hf
        obtain ⟨h3, h6⟩ := and2 h3
        obtain ⟨h3, h5⟩ := and2 h3
        obtain ⟨h3, h4⟩ := and2 h3
        have e := of_decide_eq_true h3; subst e
        have e := of_decide_eq_true h4; subst e
        obtain ⟨bg0, e5, hbg⟩ : ∃ b : Bool, (!b) = true ∧ S.fns.find? (fun p => p.1 == _) = some (_, _, b, 0) := ⟨_, h5, hf⟩
        cases bg0 with
        | true => cases e5
        | false =>
        clear hf h5
        have hf := hbg
        cases es with
        | nil =>
          exact call0_ok xs h1 h2 hf
        | cons a b => cases h6
      · cases h3
    · cases h
  | .bi f a, S, X, Γ, m, e, xs, h => by
    unfold ckE at h
    split at h
    · obtain ⟨h1, h4⟩ := and2 h
      obtain ⟨h1, h3⟩ := and2 h1
      obtain ⟨h1, h2⟩ := and2 h1
      exact s_bi (eq_of_beq h1) xs.K xs.ok (cbs xs.ok) (gl_of xs h2) (ckE_ok a S X Γ _ _ xs h3) (fun z => by rw [if_pos z]; exact Nat.le_refl _) h4
    · cases h
  | .isi a t, S, X, Γ, m, e, xs, h => by
    unfold ckE at h
    split at h
    · obtain ⟨h1, h6⟩ := and2 h
      obtain ⟨h1, h5⟩ := and2 h1
      obtain ⟨h1, h4⟩ := and2 h1
      obtain ⟨h1, h3⟩ := and2 h1
      obtain ⟨h1, h2⟩ := and2 h1
      have e1 := eq_of_beq h1; subst e1
      exact s_isi (eq_of_beq h2) xs.K xs.ok (gl_of xs h3) (gl_of xs h4) (ckE_ok a S X Γ _ _ xs h5) h6
    · cases h
  | .get a b, S, X, Γ, m, e, xs, h => by
    unfold ckE at h
    split at h
    · obtain ⟨h1, h6⟩ := and2 h
      obtain ⟨h1, h5⟩ := and2 h1
      obtain ⟨h1, h4⟩ := and2 h1
      obtain ⟨h1, h3⟩ := and2 h1
      obtain ⟨h1, h2⟩ := and2 h1
      have e1 := eq_of_beq h1; subst e1
      exact s_get xs.ok (ckE_ok a S X Γ _ _ xs h2) (ckE_ok b S X Γ _ _ xs h3) (plAt_ok h6) h5 h4
    · cases h
  | .get2 a b c, S, X, Γ, m, e, xs, h => by
    unfold ckE at h
    split at h
    · obtain ⟨h1, h8⟩ := and2 h
      obtain ⟨h1, h7⟩ := and2 h1
      obtain ⟨h1, h6⟩ := and2 h1
      obtain ⟨h1, h5⟩ := and2 h1
      obtain ⟨h1, h4⟩ := and2 h1
      obtain ⟨h1, h3⟩ := and2 h1
      obtain ⟨h1, h2⟩ := and2 h1
      have e1 := eq_of_beq h1; subst e1
      exact s_get2 xs.ok (ckE_ok a S X Γ _ _ xs h2) (ckE_ok b S X Γ _ _ xs h3) (ckE_ok c S X Γ _ _ xs h4) (plAt_ok h8) h7 h5 h6
    · cases h
  | .index a b, S, X, Γ, m, e, xs, h => by
    unfold ckE at h
    split at h
    · obtain ⟨h1, h6⟩ := and2 h
      obtain ⟨h1, h5⟩ := and2 h1
      obtain ⟨h1, h4⟩ := and2 h1
      obtain ⟨h1, h3⟩ := and2 h1
      obtain ⟨h1, h2⟩ := and2 h1
      have e1 := eq_of_beq h1
      subst e1
      exact s_index xs.K (ckE_ok a S X Γ _ _ xs h2) (ckE_ok b S X Γ _ _ xs h3) h4 (plAt_ok h6) h5
    · cases h
  | .bgi k, S, X, Γ, m, e, xs, h => by
    unfold ckE at h
    split at h
    · obtain ⟨h1, h2⟩ := and2 h
      have e := of_decide_eq_true h2
      subst e
      obtain ⟨i, b1, b2⟩ := bs_of xs h1
      exact s_bgi b2 b1
    · cases h
  | .bgc, S, X, Γ, m, e, xs, h => by
    unfold ckE at h
    split at h
    · obtain ⟨k5, h6⟩ := and2 h
      obtain ⟨k4, h5⟩ := and2 k5
      obtain ⟨k3, h4⟩ := and2 k4
      obtain ⟨k2, h3⟩ := and2 k3
      obtain ⟨h1, h2⟩ := and2 k2
      obtain ⟨i, b1, b2⟩ := bs_of xs h1
      rw [of_decide_eq_true h3, of_decide_eq_true h4, of_decide_eq_true h5, of_decide_eq_true h6, ← eq_of_beq h2]
      exact s_bgc b2 b1
    · cases h
  | .lc elt own tg it c, S, X, Γ, m, e, xs, h => by
    unfold ckE at h
    split at h
    · rename_i x t i ifs scope pos
      obtain ⟨h, h10⟩ := and2 h
      obtain ⟨h, h9⟩ := and2 h
      obtain ⟨h, h8⟩ := and2 h
      obtain ⟨h, h7⟩ := and2 h
      obtain ⟨h, h6⟩ := and2 h
      obtain ⟨h, h5⟩ := and2 h
      obtain ⟨h, h4⟩ := and2 h
      obtain ⟨h, h3⟩ := and2 h
      obtain ⟨h1, h2⟩ := and2 h
      have g1 := fun (s : Shared) (H : Hp) (Ca : Addr) (cl : List (Str × Addr)) (fp : List Addr) => ckG_ok (xs.blk (s := s) (H := H) (cl := cl) (Ca := Ca) (fp := fp)) tg t h2
      have g2 : ∀ (s : Shared) (H : Hp) (Ca : Addr) (cl : List (Str × Addr)) (fp : List Addr), PTs (X.blk s H scope (compEnvC scope cl Ca X.env) fp) ifs (rc C (setz Γ ((ownOf S.N scope own).map (·.2))) c) := fun s H Ca cl fp => by rw [own_snd]; exact ckC_ok c _ _ _ _ (xs.blk (s := s) (H := H) (cl := cl) (Ca := Ca) (fp := fp)) h4
      have g3 : ∀ (s : Shared) (H : Hp) (Ca : Addr) (cl : List (Str × Addr)) (fp : List Addr), PE (X.blk s H scope (compEnvC scope cl Ca X.env) fp) x (rd C 9 (setz Γ ((ownOf S.N scope own).map (·.2))) elt) := fun s H Ca cl fp => by rw [own_snd]; exact ckE_ok elt _ _ _ _ _ (xs.blk (s := s) (H := H) (cl := cl) (Ca := Ca) (fp := fp)) h5
      have key : PE X (.ListComp x [⟨t, i, ifs, 0⟩] scope pos) (rd C m Γ (.lc elt ((ownOf S.N scope own).map (·.2)) tg it c)) := by
        rcases Bool.or_eq_true_iff.mp h3 with h3 | h3
        · obtain ⟨j, y, py, rfl, rfl, k1, k2⟩ := kyB_out h3
          obtain ⟨n1, n2, n3, n4⟩ := slot_of xs k1
          exact s_lcK (n := 0) xs.K xs.ok (by rw [xs.N]; exact xs.nd) n1 n2 n3 n4 k2 (by rw [xs.N, xs.sc]; exact blkOk_by h1) g1 g2 g3 (by rw [own_snd]; exact fun j hj => mayB_ok xs (List.all_eq_true.mp h7 j hj)) (by rw [own_snd]; exact fun j hj => by simpa using List.all_eq_true.mp h8 j hj)
            (by rw [own_snd]; have z := okB_ok (Γ := setz Γ own) xs h9; exact z)
        · exact s_lc (n := 0) xs.K xs.ok (by rw [xs.N]; exact xs.nd) (ckI_ok it S X Γ t i xs h3) (by rw [xs.N, xs.sc]; exact blkOk_by h1) g1 g2 g3
            (plIt_ok h6) (by rw [own_snd]; exact fun j hj => mayB_ok xs (List.all_eq_true.mp h7 j hj)) (by rw [own_snd]; exact fun j hj => by simpa using List.all_eq_true.mp h8 j hj)
            (by rw [own_snd]; have z := okB_ok (Γ := setz Γ own) xs h9; exact z) (pair_tp h10)
      rw [own_snd] at key
      exact key
    · cases h
  | .lc2 elt own tg it c tg2 it2 c2, S, X, Γ, m, e, xs, h => by
    unfold ckE at h
    split at h
    · rename_i x t i ifs t2 i2 ifs2 scope pos
      obtain ⟨h, h15⟩ := and2 h
      obtain ⟨h, h14⟩ := and2 h
      obtain ⟨h, h13⟩ := and2 h
      obtain ⟨h, h12⟩ := and2 h
      obtain ⟨h, h11⟩ := and2 h
      obtain ⟨h, h10⟩ := and2 h
      obtain ⟨h, h9⟩ := and2 h
      obtain ⟨h, h8⟩ := and2 h
      obtain ⟨h, h7⟩ := and2 h
      obtain ⟨h, h6⟩ := and2 h
      obtain ⟨h, h5⟩ := and2 h
      obtain ⟨h, h4⟩ := and2 h
      obtain ⟨h, h3⟩ := and2 h
      obtain ⟨h1, h2⟩ := and2 h
      have key := s_lc2 (C := C) (X := X) (Γ := Γ) (m := m) (n := 0) (elt := x) (tgt := t) (iter := i) (ifs := ifs) (tgt2 := t2) (iter2 := i2) (ifs2 := ifs2) (scope := scope) (own := ownOf S.N scope own) (eelt := elt) (etg := tg) (eit := it) (eif := c) (etg2 := tg2) (eit2 := it2) (eif2 := c2) (pos := pos) xs.K xs.ok (by rw [xs.N]; exact xs.nd) (wkI (ckI_ok it S X Γ t i xs h3) fun σ H R q => ri_of q)
        (by rw [xs.N, xs.sc]; exact blkOk_by h1)
        (fun s H Ca cl fp => ckG_ok (xs.blk (s := s) (H := H) (cl := cl) (Ca := Ca) (fp := fp)) tg t h2)
        (fun s H Ca cl fp => by rw [own_snd]; exact ckC_ok c _ _ _ _ (xs.blk (s := s) (H := H) (cl := cl) (Ca := Ca) (fp := fp)) h4)
        (fun s H Ca cl fp => by rw [own_snd]; exact ckI_ok it2 _ _ _ _ _ (xs.blk (s := s) (H := H) (cl := cl) (Ca := Ca) (fp := fp)) h11)
        (fun s H Ca cl fp => ckG_ok (xs.blk (s := s) (H := H) (cl := cl) (Ca := Ca) (fp := fp)) tg2 t2 h10)
        (fun s H Ca cl fp => by rw [own_snd]; exact ckC_ok c2 _ _ _ _ (xs.blk (s := s) (H := H) (cl := cl) (Ca := Ca) (fp := fp)) h12)
        (fun s H Ca cl fp => by rw [own_snd]; exact ckE_ok elt _ _ _ _ _ (xs.blk (s := s) (H := H) (cl := cl) (Ca := Ca) (fp := fp)) h5)
        (plIt_ok h6) (fun env => plIt_ok h13) (by rw [own_snd]; exact fun j hj => mayB_ok xs (List.all_eq_true.mp h7 j hj)) (by rw [own_snd]; exact fun j hj => by simpa using List.all_eq_true.mp h8 j hj)
        (by rw [own_snd]; exact fun j hj => by simpa using List.all_eq_true.mp h14 j hj) (pair_tp h9) (pair_tp h15)
      rw [own_snd] at key
      exact key
    · cases h
  | .dc k v own tg it c, S, X, Γ, m, e, xs, h => by
    unfold ckE at h
    split at h
    · rename_i kx vx t i ifs scope pos
      obtain ⟨h, h10⟩ := and2 h
      obtain ⟨h, h8⟩ := and2 h
      obtain ⟨h, h7⟩ := and2 h
      obtain ⟨h, h6⟩ := and2 h
      obtain ⟨h, h9⟩ := and2 h
      obtain ⟨h, h5⟩ := and2 h
      obtain ⟨h, h4⟩ := and2 h
      obtain ⟨h, h3⟩ := and2 h
      obtain ⟨h1, h2⟩ := and2 h
      have g1 := fun (s : Shared) (H : Hp) (Ca : Addr) (cl : List (Str × Addr)) (fp : List Addr) => ckG_ok (xs.blk (s := s) (H := H) (cl := cl) (Ca := Ca) (fp := fp)) tg t h2
      have g2 : ∀ (s : Shared) (H : Hp) (Ca : Addr) (cl : List (Str × Addr)) (fp : List Addr), PTs (X.blk s H scope (compEnvC scope cl Ca X.env) fp) ifs (rc C (setz Γ ((ownOf S.N scope own).map (·.2))) c) := fun s H Ca cl fp => by rw [own_snd]; exact ckC_ok c _ _ _ _ (xs.blk (s := s) (H := H) (cl := cl) (Ca := Ca) (fp := fp)) h4
      have g3 : ∀ (s : Shared) (H : Hp) (Ca : Addr) (cl : List (Str × Addr)) (fp : List Addr), PE (X.blk s H scope (compEnvC scope cl Ca X.env) fp) kx (rd C 9 (setz Γ ((ownOf S.N scope own).map (·.2))) k) := fun s H Ca cl fp => by rw [own_snd]; exact ckE_ok k _ _ _ _ _ (xs.blk (s := s) (H := H) (cl := cl) (Ca := Ca) (fp := fp)) h5
      have g4 : ∀ (s : Shared) (H : Hp) (Ca : Addr) (cl : List (Str × Addr)) (fp : List Addr), PE (X.blk s H scope (compEnvC scope cl Ca X.env) fp) vx (rd C 0 (setz Γ ((ownOf S.N scope own).map (·.2))) v) := fun s H Ca cl fp => by rw [own_snd]; exact ckE_ok v _ _ _ _ _ (xs.blk (s := s) (H := H) (cl := cl) (Ca := Ca) (fp := fp)) h9
      have key : PE X (.DictComp kx vx [⟨t, i, ifs, 0⟩] scope pos) (rd C m Γ (.dc k v ((ownOf S.N scope own).map (·.2)) tg it c)) := by
        rcases Bool.or_eq_true_iff.mp h3 with h3 | h3
        · obtain ⟨j, y, py, rfl, rfl, k1, k2⟩ := kyB_out h3
          obtain ⟨n1, n2, n3, n4⟩ := slot_of xs k1
          exact s_dcK (n := 0) xs.K xs.ok (by rw [xs.N]; exact xs.nd) n1 n2 n3 n4 k2 (by rw [xs.N, xs.sc]; exact blkOk_by h1) g1 g2 g3 g4 (by rw [own_snd]; exact fun j hj => mayB_ok xs (List.all_eq_true.mp h7 j hj)) (by rw [own_snd]; exact fun j hj => by simpa using List.all_eq_true.mp h8 j hj)
        · exact s_dc (n := 0) xs.K xs.ok (by rw [xs.N]; exact xs.nd) (wkI (ckI_ok it S X Γ t i xs h3) fun σ H R q => ri_of q) (by rw [xs.N, xs.sc]; exact blkOk_by h1) g1 g2 g3 g4
            (plIt_ok h6) (by rw [own_snd]; exact fun j hj => mayB_ok xs (List.all_eq_true.mp h7 j hj)) (by rw [own_snd]; exact fun j hj => by simpa using List.all_eq_true.mp h8 j hj) (pair_tp h10)
      rw [own_snd] at key
      exact key
    · cases h
  | .sst a, S, X, Γ, m, e, xs, h => by
    unfold ckE at h
    split at h
    · obtain ⟨h1, h6⟩ := and2 h
      obtain ⟨h1, h5⟩ := and2 h1
      obtain ⟨h1, h4⟩ := and2 h1
      obtain ⟨h1, h3⟩ := and2 h1
      obtain ⟨h1, h2⟩ := and2 h1
      have e1 := eq_of_beq h1; subst e1
      have e2 := eq_of_beq h2; subst e2
      exact s_sst xs.K xs.ok (gl_of xs h3) (gl_of xs h4) (ckE_ok a S X Γ _ _ xs h5) h6
    · cases h
  | .nev, S, X, Γ, m, e, xs, h => s_nev
  | .lrg a, S, X, Γ, m, e, xs, h => by
    unfold ckE at h
    split at h
    · obtain ⟨h1, h6⟩ := and2 h
      obtain ⟨h1, h5⟩ := and2 h1
      obtain ⟨h1, h4⟩ := and2 h1
      obtain ⟨h1, h3⟩ := and2 h1
      obtain ⟨h1, h2⟩ := and2 h1
      have e1 := eq_of_beq h1; subst e1
      have e2 := eq_of_beq h2; subst e2
      exact s_lrg xs.ok (gl_of xs h3) (gl_of xs h4) (ckE_ok a S X Γ _ _ xs h5) h6
    · cases h
  | .lit a, S, X, Γ, m, e, xs, h => by
    unfold ckE at h
    split at h
    · obtain ⟨h1, h6⟩ := and2 h
      obtain ⟨h1, h5⟩ := and2 h1
      obtain ⟨h1, h4⟩ := and2 h1
      obtain ⟨h1, h3⟩ := and2 h1
      obtain ⟨h1, h2⟩ := and2 h1
      have e1 := eq_of_beq h1; subst e1
      have e2 := eq_of_beq h2; subst e2
      exact s_lit xs.K xs.ok (gl_of xs h3) (ckE_ok a S X Γ _ _ xs h4) (plAt_ok h5) h6
    · cases h
  | .sit a, S, X, Γ, m, e, xs, h => by
    unfold ckE at h
    split at h
    · obtain ⟨h1, h6⟩ := and2 h
      obtain ⟨h1, h5⟩ := and2 h1
      obtain ⟨h1, h4⟩ := and2 h1
      obtain ⟨h1, h3⟩ := and2 h1
      obtain ⟨h1, h2⟩ := and2 h1
      have e1 := eq_of_beq h1; subst e1
      have e2 := eq_of_beq h2; subst e2
      exact s_sit xs.K xs.ok (gl_of xs h3) (ckE_ok a S X Γ _ _ xs h4) (plAt_ok h5) h6
    · cases h
  | .tsl a b, S, X, Γ, m, e, xs, h => by
    unfold ckE at h
    split at h
    · obtain ⟨h1, h3⟩ := and2 h
      obtain ⟨h1, h2⟩ := and2 h1
      exact s_tsl xs.K (ckE_ok a S X Γ _ _ xs h1) (ckE_ok b S X Γ _ _ xs h2) h3
    · cases h
  | .tst a b, S, X, Γ, m, e, xs, h => by
    unfold ckE at h
    split at h
    · obtain ⟨h1, h3⟩ := and2 h
      obtain ⟨h1, h2⟩ := and2 h1
      exact s_tst xs.K (ckE_ok a S X Γ _ _ xs h1) (ckE_ok b S X Γ _ _ xs h2) h3
    · cases h
  | .dsp a, S, X, Γ, m, e, xs, h => by
    unfold ckE at h
    split at h
    · split at h
      · exact s_dsp0
      · cases h
    · cases h
  | .dm2 a b, S, X, Γ, m, e, xs, h => by unfold ckE at h; cases h
  | .dzp a b, S, X, Γ, m, e, xs, h => by unfold ckE at h; cases h
theorem ckT_ok {C : Cn} : ∀ (ee : Ex) (S : Sc) (X : Cx) (Γ : Gam) (e : Expr), XS S X C → ckT S Γ ee e = true → PT X e (rt C Γ ee) ∧ (isBO e = true → PW X e (rt C Γ ee))
  | .var i, S, X, Γ, e, xs, h => by
    unfold ckT at h
    split at h
    · obtain ⟨h1, h2⟩ := and2 h
      have s := slot_of xs h1
      exact ⟨t_val (s_var (C := C) s.ix s.vis (of_decide_eq_true h2) s.deb s.cd) (plT_ok rfl), fun z => by cases z⟩
    · cases h
  | .kb b, S, X, Γ, e, xs, h => by
    unfold ckT at h
    split at h
    · have e := eq_of_beq h; subst e; exact ⟨t_val (s_bl (m := 9)) (plT_ok rfl), fun z => by cases z⟩
    · cases h
  | .cmp op a b, S, X, Γ, e, xs, h => by
    unfold ckT at h
    split at h
    · obtain ⟨h1, h4⟩ := and2 h
      obtain ⟨h1, h3⟩ := and2 h1
      obtain ⟨h1, h2⟩ := and2 h1
      have e := of_decide_eq_true h1; subst e
      exact ⟨t_cmp xs.K xs.ok (ckE_ok a S X Γ _ _ xs h2) (ckE_ok b S X Γ _ _ xs h3) (by simpa using h4), fun z => by cases z⟩
    · cases h
  | .chn op op' a b c, S, X, Γ, e, xs, h => by
    unfold ckT at h
    split at h
    · obtain ⟨h1, h6⟩ := and2 h
      obtain ⟨h1, h5⟩ := and2 h1
      obtain ⟨h1, h4⟩ := and2 h1
      obtain ⟨h1, h3⟩ := and2 h1
      obtain ⟨h1, h2⟩ := and2 h1
      have e := of_decide_eq_true h1; subst e
      have e := of_decide_eq_true h2; subst e
      exact ⟨t_chn xs.K xs.ok (ckE_ok a S X Γ _ _ xs h3) (ckE_ok b S X Γ _ _ xs h4) (ckE_ok c S X Γ _ _ xs h5) (by simpa using h6), fun z => by cases z⟩
    · cases h
  | .isn a, S, X, Γ, e, xs, h => by
    unfold ckT at h
    split at h
    · exact ⟨t_isn (ckE_ok a S X Γ _ _ xs h), fun z => by cases z⟩
    · cases h
  | .ntn a, S, X, Γ, e, xs, h => by
    unfold ckT at h
    split at h
    · exact ⟨t_ntn (ckE_ok a S X Γ _ _ xs h), fun z => by cases z⟩
    · cases h
  | .isb b a, S, X, Γ, e, xs, h => by
    unfold ckT at h
    split at h
    · obtain ⟨h1, h2⟩ := and2 h
      have e := eq_of_beq h1; subst e
      exact ⟨t_isb (ckE_ok a S X Γ _ _ xs h2), fun z => by cases z⟩
    · cases h
  | .and_ a b, S, X, Γ, e, xs, h => by
    unfold ckT at h
    split at h
    · obtain ⟨h1, h2⟩ := and2 h
      exact ⟨(w_and (ckT_ok a S X Γ _ xs h1).1 (pw_and1 (ckT_ok b S X Γ _ xs h2).1)).pt, fun _ => w_and (ckT_ok a S X Γ _ xs h1).1 (pw_and1 (ckT_ok b S X Γ _ xs h2).1)⟩
    · obtain ⟨h1, h2⟩ := and2 h
      have w := w_and (ckT_ok a S X Γ _ xs h1).1 ((ckT_ok b S X Γ _ xs h2).2 rfl)
      exact ⟨w.pt, fun _ => w⟩
    · cases h
  | .or_ a b, S, X, Γ, e, xs, h => by
    unfold ckT at h
    split at h
    · obtain ⟨h1, h2⟩ := and2 h
      exact ⟨(w_or (ckT_ok a S X Γ _ xs h1).1 (pw_or1 (ckT_ok b S X Γ _ xs h2).1)).pt, fun _ => w_or (ckT_ok a S X Γ _ xs h1).1 (pw_or1 (ckT_ok b S X Γ _ xs h2).1)⟩
    · obtain ⟨h1, h2⟩ := and2 h
      have w := w_or (ckT_ok a S X Γ _ xs h1).1 ((ckT_ok b S X Γ _ xs h2).2 rfl)
      exact ⟨w.pt, fun _ => w⟩
    · cases h
  | .not_ a, S, X, Γ, e, xs, h => by
    unfold ckT at h
    split at h
    · exact ⟨t_not (ckT_ok a S X Γ _ xs h).1, fun z => by cases z⟩
    · cases h
  | .idx a b, S, X, Γ, e, xs, h => by
    unfold ckT at h
    split at h
    · obtain ⟨h1, h3⟩ := and2 h
      obtain ⟨h1, h2⟩ := and2 h1
      exact ⟨t_val (m := 9) (s_idx xs.K xs.ok (ckE_ok a S X Γ _ _ xs h1) (ckE_ok b S X Γ _ _ xs h2) (by simpa using h3)) (plT_ok rfl), fun z => by cases z⟩
    · cases h
  | .call f es, S, X, Γ, e, xs, h => by
    unfold ckT at h
    split at h
    · obtain ⟨h1, h3⟩ := and2 h
      obtain ⟨h1, h2⟩ := and2 h1
      split at h3
      · rename_i hf
        obtain ⟨h3, h7⟩ := and2 h3
        obtain ⟨h3, h6⟩ := and2 h3
        obtain ⟨h3, h5⟩ := and2 h3
        obtain ⟨h3, h4⟩ := and2 h3
        have e := of_decide_eq_true h3; subst e
        split at h7
        · rename_i hb
          split at h7
          · obtain ⟨h8, h9⟩ := and2 h7
            split at h8
            · rename_i hbs
              subst hb
              exact ⟨t_val (m := 9) (call_ok xs h1 h2 hf (of_decide_eq_true h4) h5 h6 (a_bag (slot_of xs h8) (xs.bs.trans hbs) (ckA_ok es S X Γ _ xs h9))) (plT_ok rfl), fun z => by cases z⟩
            · cases h8
          · cases h7
        · rename_i hb
          have hb := eq_false_of_ne_true hb
          subst hb
          exact ⟨t_val (m := 9) (call_ok xs h1 h2 hf (of_decide_eq_true h4) h5 h6 (a_pure (ckA_ok es S X Γ _ xs h7))) (plT_ok rfl), fun z => by cases z⟩
      · cases h3
    · cases h
  | .bi f a, S, X, Γ, e, xs, h => by
    unfold ckT at h
    split at h
    · obtain ⟨h1, h4⟩ := and2 h
      obtain ⟨h1, h3⟩ := and2 h1
      obtain ⟨h1, h2⟩ := and2 h1
      exact ⟨t_val (m := 9) (s_bi (eq_of_beq h1) xs.K xs.ok (cbs xs.ok) (gl_of xs h2) (ckE_ok a S X Γ _ _ xs h3) (fun z => by rw [if_pos z]; exact Nat.le_refl _) h4) (plT_ok rfl), fun z => by cases z⟩
    · cases h
  | .kn, S, X, Γ, e, xs, h => by unfold ckT at h; cases h
  | .ki i, S, X, Γ, e, xs, h => by unfold ckT at h; cases h
  | .ks s, S, X, Γ, e, xs, h => by unfold ckT at h; cases h
  | .glo x d, S, X, Γ, e, xs, h => by unfold ckT at h; cases h
  | .tup es, S, X, Γ, e, xs, h => by unfold ckT at h; cases h
  | .lst es, S, X, Γ, e, xs, h => by unfold ckT at h; cases h
  | .tst a b, S, X, Γ, e, xs, h => by unfold ckT at h; cases h
  | .dsp a, S, X, Γ, e, xs, h => by unfold ckT at h; cases h
  | .dmg a b c, S, X, Γ, e, xs, h => by unfold ckT at h; cases h
  | .bin op a b, S, X, Γ, e, xs, h => by unfold ckT at h; cases h
  | .neg a, S, X, Γ, e, xs, h => by unfold ckT at h; cases h
  | .ite t a b, S, X, Γ, e, xs, h => by unfold ckT at h; cases h
  | .slc a lo hi, S, X, Γ, e, xs, h => by unfold ckT at h; cases h
  | .isi a t, S, X, Γ, e, xs, h => by
    unfold ckT at h
    split at h
    · obtain ⟨h1, h6⟩ := and2 h
      obtain ⟨h1, h5⟩ := and2 h1
      obtain ⟨h1, h4⟩ := and2 h1
      obtain ⟨h1, h3⟩ := and2 h1
      obtain ⟨h1, h2⟩ := and2 h1
      have e1 := eq_of_beq h1; subst e1
      exact ⟨t_val (m := 9) (s_isi (eq_of_beq h2) xs.K xs.ok (gl_of xs h3) (gl_of xs h4) (ckE_ok a S X Γ _ _ xs h5) h6) (plT_ok rfl), fun z => by cases z⟩
    · cases h
  | .get a t, S, X, Γ, e, xs, h => by unfold ckT at h; cases h
  | .get2 a t c, S, X, Γ, e, xs, h => by unfold ckT at h; cases h
  | .index a t, S, X, Γ, e, xs, h => by unfold ckT at h; cases h
  | .bgi _, S, X, Γ, e, xs, h => by unfold ckT at h; cases h
  | .bgc, S, X, Γ, e, xs, h => by unfold ckT at h; cases h
  | .lc _ _ _ _ _, S, X, Γ, e, xs, h => by unfold ckT at h; cases h
  | .lc2 _ _ _ _ _ _ _ _, S, X, Γ, e, xs, h => by unfold ckT at h; cases h
  | .dc _ _ _ _ _ _, S, X, Γ, e, xs, h => by unfold ckT at h; cases h
  | .nev, S, X, Γ, e, xs, h => by
    unfold ckT at h
    exact ⟨t_nev, fun z => by rw [z] at h; cases h⟩
  | .lrg a, S, X, Γ, e, xs, h => by unfold ckT at h; cases h
  | .lit a, S, X, Γ, e, xs, h => by unfold ckT at h; cases h
  | .sit a, S, X, Γ, e, xs, h => by unfold ckT at h; cases h
  | .dm2 a b, S, X, Γ, e, xs, h => by unfold ckT at h; cases h
  | .dzp a b, S, X, Γ, e, xs, h => by unfold ckT at h; cases h
  | .tsl a b, S, X, Γ, e, xs, h => by unfold ckT at h; cases h
  | .sst a, S, X, Γ, e, xs, h => by unfold ckT at h; cases h
theorem ckA_ok {C : Cn} : ∀ (ee : Exs) (S : Sc) (X : Cx) (Γ : Gam) (l : List Expr), XS S X C → ckA S Γ ee l = true → PA X l (ra C Γ ee)
  | .nil, S, X, Γ, l, xs, h => by
    unfold ckA at h
    split at h
    · exact a_nil
    · cases h
  | .cons e es, S, X, Γ, l, xs, h => by
    unfold ckA at h
    split at h
    · obtain ⟨h1, h3⟩ := and2 h
      obtain ⟨h1, h2⟩ := and2 h1
      exact a_cons (ckE_ok e S X Γ _ _ xs h1) (ckA_ok es S X Γ _ xs h2) h3
    · cases h
theorem ckO_ok {C : Cn} : ∀ (ee : Oe) (S : Sc) (X : Cx) (Γ : Gam) (l : Option Expr), XS S X C → ckO S Γ ee l = true → PO X l (ro C Γ ee)
  | .no, S, X, Γ, l, xs, h => by
    unfold ckO at h
    split at h
    · exact o_no
    · cases h
  | .yes e, S, X, Γ, l, xs, h => by
    unfold ckO at h
    split at h
    · exact o_yes (ckE_ok e S X Γ _ _ xs h)
    · cases h
theorem ckC_ok {C : Cn} : ∀ (ee : Oe) (S : Sc) (X : Cx) (Γ : Gam) (l : List Expr), XS S X C → ckC S Γ ee l = true → PTs X l (rc C Γ ee)
  | .no, S, X, Γ, l, xs, h => by
    unfold ckC at h
    split at h
    · exact c_no
    · cases h
  | .yes e, S, X, Γ, l, xs, h => by
    unfold ckC at h
    split at h
    · exact c_yes (ckT_ok e S X Γ _ xs h).1
    · cases h
theorem ckI_ok {C : Cn} : ∀ (ee : Dn.It) (S : Sc) (X : Cx) (Γ : Gam) (t e : Expr), XS S X C → ckI S Γ ee t e = true → PI X t e (ri C Γ ee)
  | .ex a, S, X, Γ, t, e, xs, h => by
    unfold ckI at h
    exact i_ex xs.K (ckE_ok a S X Γ _ _ xs h)
  | .r1 a, S, X, Γ, t, e, xs, h => by
    unfold ckI at h
    split at h
    · obtain ⟨h1, h4⟩ := and2 h
      obtain ⟨h1, h3⟩ := and2 h1
      obtain ⟨h1, h2⟩ := and2 h1
      have e := eq_of_beq h1; subst e
      exact i_r1 xs.ok (gl_of xs h2) (ckE_ok a S X Γ _ _ xs h3) h4
    · cases h
  | .r2 a b, S, X, Γ, t, e, xs, h => by
    unfold ckI at h
    split at h
    · obtain ⟨h1, h6⟩ := and2 h
      obtain ⟨h1, h5⟩ := and2 h1
      obtain ⟨h1, h4⟩ := and2 h1
      obtain ⟨h1, h3⟩ := and2 h1
      obtain ⟨h1, h2⟩ := and2 h1
      have e := eq_of_beq h1; subst e
      exact i_r2 xs.ok (gl_of xs h2) (ckE_ok a S X Γ _ _ xs h3) (ckE_ok b S X Γ _ _ xs h4) h5 h6
    · cases h
  | .enum a, S, X, Γ, t, e, xs, h => by
    unfold ckI at h
    split at h
    · obtain ⟨h1, h4⟩ := and2 h
      obtain ⟨h1, h3⟩ := and2 h1
      obtain ⟨h1, h2⟩ := and2 h1
      have e := eq_of_beq h1; subst e
      exact i_enum xs.K xs.ok (gl_of xs h2) (ckE_ok a S X Γ _ _ xs h3) h4
    · cases h
  | .zip a b, S, X, Γ, t, e, xs, h => by
    unfold ckI at h
    split at h
    · obtain ⟨h1, h6⟩ := and2 h
      obtain ⟨h1, h5⟩ := and2 h1
      obtain ⟨h1, h4⟩ := and2 h1
      obtain ⟨h1, h3⟩ := and2 h1
      obtain ⟨h1, h2⟩ := and2 h1
      have e := eq_of_beq h1; subst e
      exact i_zip xs.K xs.ok (gl_of xs h2) (ckE_ok a S X Γ _ _ xs h3) (ckE_ok b S X Γ _ _ xs h4) h5 h6
    · cases h
  | .keys i, S, X, Γ, t, e, xs, h => by unfold ckI at h; cases h
  | .items a, S, X, Γ, t, e, xs, h => by unfold ckI at h; cases h
  | .values a, S, X, Γ, t, e, xs, h => by unfold ckI at h; cases h
end
end Dn

set_option Elab.async false
set_option linter.all false
set_option maxRecDepth 100000
/-! Dn, part T: the check of statements. -/
namespace Dn
open PySem PySem.Spec PyProof.Rows L2
def Sc.isF (S : Sc) : Bool := match S.sc.kind with
  | .function => true
  | _ => false
def lcLocal (S : Sc) (x : Str) (p2 : Pos) (sc : Scope) (p : Pos) : Bool := S.sc.names.lookup x == some NameKind.local && p2.line == p.line && !(sc.names.any fun (n, k) => n == x && (k == .local || k == .cell))
/-- a comprehension that walks over no slot's dict -/
def lcPl : Ex → Bool
  | .lc _ _ _ (.keys _) _ => false
  | .lc _ _ _ _ _ => true
  | .lc2 _ _ _ _ _ _ _ _ => true
  | .nev => true
  | _ => false
/-- the value is stored plainly -/
def nsw (S : Sc) (v : Expr) (x : Str) (p2 : Pos) : Bool := match v with
  | .ListComp _ _ sc p => !lcLocal S x p2 sc p
  | .DictComp _ _ _ sc p => !lcLocal S x p2 sc p
  | .SetComp _ _ _ _ => false
  | _ => true
theorem nsw_ok {S : Sc} {env : Env} (hs : env.scope = S.sc) {v : Expr} {x : Str} {p2 : Pos} {l : Nat} (h : nsw S v x p2 = true) : swapsWith v (some (.Name x p2)) l env = pure false := by
  have key : ∀ (b : Bool) (sc : Scope) (p : Pos), lcLocal S x p2 sc p = false → (b && env.kindOf x == some NameKind.local && p2.line == p.line && !(sc.names.any fun (n, k) => n == x && (k == .local || k == .cell))) = false := fun b sc p h => by
    unfold lcLocal at h
    have e : env.kindOf x = S.sc.names.lookup x := by unfold Env.kindOf; rw [hs]
    rw [e]
    cases b
    · rfl
    · rw [Bool.true_and]; exact h
  cases v with
  | ListComp a b sc p =>
    unfold nsw at h
    unfold swapsWith
    show pure _ = pure false
    rw [Expr.pos, key _ sc p (by simpa using h)]
  | DictComp a b c sc p =>
    unfold nsw at h
    unfold swapsWith
    show pure _ = pure false
    rw [Expr.pos, key _ sc p (by simpa using h)]
  | SetComp a b c d => cases h
  | _ => rfl
def noComp : Expr → Bool
  | .ListComp _ _ _ _ => false
  | .SetComp _ _ _ _ => false
  | .DictComp _ _ _ _ _ => false
  | _ => true
theorem noComp_ok {e : Expr} {env : Env} {l : Nat} (h : noComp e = true) : swapsWith e none l env = pure false := by
  cases e <;> first | rfl | cases h
theorem swT_ok {ts : List Expr} {k : Nat} {pt : Pos} {e : Expr} {l : Nat} {env : Env} : swapsWithSole [.Tuple ts k pt] e l env = pure false := by
  cases e <;> rfl
theorem swS_ok {o i : Expr} {pt : Pos} {e : Expr} {l : Nat} {env : Env} : swapsWith e (some (.Subscript o i pt)) l env = pure false := by
  cases e <;> rfl
/-- a tuple that is made of what is not folded -/
def isTup : Expr → Bool
  | .Tuple vs _ _ => !(vs.all (foldedForSure 8))
  | _ => false
theorem swN_ok {ts : List Expr} {k : Nat} {pt : Pos} {e : Expr} {env : Env} (h : isTup e = false) : swappedStores [.Tuple ts k pt] e env = pure none := by
  cases e with
  | Tuple vs k2 p2 =>
    have h2 : vs.all (foldedForSure 8) = true := by
      unfold isTup at h
      simpa using h
    unfold swappedStores
    simp only [h2, if_true]
    repeat (any_goals (first | rfl | (split)))
  | _ => rfl
/-- a target that is no local name -/
def offL (S : Sc) (es : List Expr) : Bool := es.any fun e => match e with
  | .Name x _ => !(S.sc.names.lookup x == some NameKind.local)
  | _ => true
theorem fm_lt {α β : Type} (f : α → Option β) : ∀ (l : List α), (∃ x ∈ l, f x = none) → (l.filterMap f).length < l.length
  | [], h => by obtain ⟨x, hx, _⟩ := h; simp at hx
  | y :: l, h => by
    obtain ⟨x, hx, e⟩ := h
    cases z : f y with
    | none => rw [List.filterMap_cons_none z]; exact Nat.lt_succ_of_le (List.length_filterMap_le f l)
    | some w =>
      rw [List.filterMap_cons_some z, List.length_cons, List.length_cons]
      refine Nat.succ_lt_succ (fm_lt f l ?_)
      rcases List.mem_cons.mp hx with rfl | hx
      · rw [z] at e; cases e
      · exact ⟨x, hx, e⟩
theorem swO_ok {S : Sc} {ts : List Expr} {k : Nat} {pt : Pos} {e : Expr} {env : Env} (hs : env.scope = S.sc) (h : offL S ts = true) : swappedStores [.Tuple ts k pt] e env = pure none := by
  obtain ⟨y, hy, z⟩ := List.any_eq_true.mp h
  cases e with
  | Tuple vs k2 p2 =>
    have key : ∀ f : Expr → Option Str, f y = none → ((ts.filterMap f).length != ts.length) = true := fun f hf => by
      simpa using Nat.ne_of_lt (fm_lt f ts ⟨y, hy, hf⟩)
    unfold swappedStores
    dsimp only
    split
    · rfl
    · split
      · rfl
      · rw [if_pos]
        rw [Bool.or_eq_true]
        refine .inl (key _ ?_)
        cases y with
        | Name x p =>
          have e : env.kindOf x = S.sc.names.lookup x := by unfold Env.kindOf; rw [hs]
          have z' : (S.sc.names.lookup x == some NameKind.local) = false := by simpa using z
          dsimp only
          rw [e, z']
          rfl
        | _ => rfl
  | _ => rfl
/-- a, b = x, y: is the pair not made -/
def parB (S : Sc) (x y : Str) (px py : Pos) (a b : Expr) : Bool := S.isF && S.sc.names.lookup x == some NameKind.local && S.sc.names.lookup y == some NameKind.local && py.line == px.line && !(x == y) && noStar a && noStar b && !([a, b].all (foldedForSure 8)) && !([a, b].all (constantsAlone 8))
theorem parB_ok {S : Sc} {env : Env} (hs : env.scope = S.sc) {x y : Str} {px py pt pt2 : Pos} {k k2 : Nat} {a b : Expr} (h : parB S x y px py a b = true) :
    swappedStores [.Tuple [.Name x px, .Name y py] k pt] (.Tuple [a, b] k2 pt2) env = pure (some [x, y]) := by
  unfold parB at h
  obtain ⟨h, h9⟩ := and2 h
  obtain ⟨h, h8⟩ := and2 h
  obtain ⟨h, h7⟩ := and2 h
  obtain ⟨h, h6⟩ := and2 h
  obtain ⟨h, h5⟩ := and2 h
  obtain ⟨h, h4⟩ := and2 h
  obtain ⟨h, h3⟩ := and2 h
  obtain ⟨h1, h2⟩ := and2 h
  have kf : env.blockKind = .function := by
    unfold Env.blockKind
    rw [hs]
    unfold Sc.isF at h1
    split at h1
    · rename_i e; rw [e]; rfl
    · cases h1
  have k1 : env.kindOf x = some .local := by unfold Env.kindOf; rw [hs]; exact eq_of_beq h2
  have k2 : env.kindOf y = some .local := by unfold Env.kindOf; rw [hs]; exact eq_of_beq h3
  have xy : (x == y) = false := by simpa using h5
  have yx : (y == x) = false := by
    rw [beq_eq_false_iff_ne] at xy ⊢
    exact fun z => xy z.symm
  have l1 : (py.line == px.line) = true := h4
  have st : ([a, b].any fun | .Starred .. => true | _ => false) = false := by
    have q : ∀ e, noStar e = true → (match e with | .Starred .. => true | _ => false) = false := fun e h => by cases e <;> first | rfl | cases h
    simp only [List.any_cons, List.any_nil, q a h6, q b h7, Bool.or_false]
  have h8' : ([a, b].all (foldedForSure 8)) = false := by
    cases q : [a, b].all (foldedForSure 8) with
    | true => rw [q] at h8; cases h8
    | false => rfl
  have h9' : ([a, b].all (constantsAlone 8)) = false := by
    cases q : [a, b].all (constantsAlone 8) with
    | true => rw [q] at h9; cases h9
    | false => rfl
  have d2 : [x, y].eraseDups = [x, y] := by simp [List.eraseDups_cons, yx]
  unfold swappedStores
  simp only [kf, k1, k2, Expr.pos, l1, List.filterMap, List.head?, Option.map, Option.getD, h8', h9', beq_self_eq_true, Bool.and_self, if_true]
  refine (if_neg (by simp)).trans ((if_neg fun z => ?_).trans ((if_neg fun z => ?_).trans ?_))
  · have z2 : ([a, b].any fun | .Starred .. => true | _ => false) = true := z
    rw [st] at z2; cases z2
  · rw [d2] at z
    simp at z
  · rfl
/-- .. of three -/
def par3B (S : Sc) (x y z : Str) (px py pz : Pos) (a b c : Expr) : Bool := S.isF && S.sc.names.lookup x == some NameKind.local && S.sc.names.lookup y == some NameKind.local && S.sc.names.lookup z == some NameKind.local && (py.line == px.line && pz.line == px.line) && (!(x == y) && !(x == z) && !(y == z)) && noStar a && noStar b && noStar c && !([a, b, c].all (foldedForSure 8)) && !([a, b, c].all (constantsAlone 8))
theorem par3B_ok {S : Sc} {env : Env} (hs : env.scope = S.sc) {x y z : Str} {px py pz pt pt2 : Pos} {k k2 : Nat} {a b c : Expr} (h : par3B S x y z px py pz a b c = true) :
    swappedStores [.Tuple [.Name x px, .Name y py, .Name z pz] k pt] (.Tuple [a, b, c] k2 pt2) env = pure (some [x, y, z]) := by
  unfold par3B at h
  obtain ⟨h, h11⟩ := and2 h
  obtain ⟨h, h10⟩ := and2 h
  obtain ⟨h, h9⟩ := and2 h
  obtain ⟨h, h8⟩ := and2 h
  obtain ⟨h, h7⟩ := and2 h
  obtain ⟨h, h6⟩ := and2 h
  obtain ⟨h, h5⟩ := and2 h
  obtain ⟨h, h4⟩ := and2 h
  obtain ⟨h, h3⟩ := and2 h
  obtain ⟨h1, h2⟩ := and2 h
  obtain ⟨l1, l2⟩ := and2 h5
  obtain ⟨h6, h6c⟩ := and2 h6
  obtain ⟨h6a, h6b⟩ := and2 h6
  have kf : env.blockKind = .function := by
    unfold Env.blockKind
    rw [hs]
    unfold Sc.isF at h1
    split at h1
    · rename_i e; rw [e]; rfl
    · cases h1
  have k1 : env.kindOf x = some .local := by unfold Env.kindOf; rw [hs]; exact eq_of_beq h2
  have k2 : env.kindOf y = some .local := by unfold Env.kindOf; rw [hs]; exact eq_of_beq h3
  have k3 : env.kindOf z = some .local := by unfold Env.kindOf; rw [hs]; exact eq_of_beq h4
  have sym : ∀ {u v : Str}, (!(u == v)) = true → (v == u) = false := fun {u v} q => by
    rw [beq_eq_false_iff_ne]
    intro e; subst e; simp at q
  have yx := sym h6a
  have zx := sym h6b
  have zy := sym h6c
  have st : ([a, b, c].any fun | .Starred .. => true | _ => false) = false := by
    have q : ∀ e, noStar e = true → (match e with | .Starred .. => true | _ => false) = false := fun e h => by cases e <;> first | rfl | cases h
    simp only [List.any_cons, List.any_nil, q a h7, q b h8, q c h9, Bool.or_false]
  have h8' : ([a, b, c].all (foldedForSure 8)) = false := by
    cases q : [a, b, c].all (foldedForSure 8) with
    | true => rw [q] at h10; cases h10
    | false => rfl
  have h9' : ([a, b, c].all (constantsAlone 8)) = false := by
    cases q : [a, b, c].all (constantsAlone 8) with
    | true => rw [q] at h11; cases h11
    | false => rfl
  have d2 : [x, y, z].eraseDups = [x, y, z] := by simp [List.eraseDups_cons, yx, zx, zy]
  unfold swappedStores
  simp only [kf, k1, k2, k3, Expr.pos, l1, l2, List.filterMap, List.head?, Option.map, Option.getD, h8', h9', beq_self_eq_true, Bool.and_self, if_true]
  refine (if_neg (by simp)).trans ((if_neg fun z => ?_).trans ((if_neg fun z => ?_).trans ?_))
  · have z2 : ([a, b, c].any fun | .Starred .. => true | _ => false) = true := z
    rw [st] at z2; cases z2
  · rw [d2] at z
    simp at z
  · rfl
/-- a test of two levels' lists -/
def eqGam (a b : Gam) : Bool := decide (a = b)
mutual
/-- what levels stand behind a statement; some none: nothing comes behind it; none: not known -/
def ckS (S : Sc) (own : Nat) (ΓL Γ : Gam) : St → Stmt → Option (Option Gam)
  | .asg tg e, st => (match tg with
    | .nm i => (match st with
      | .Assign [.Name x p2] v _ => if (slotB S i x && locB S x && okB S Γ e && mayBs S i && ckE S Γ 9 e v && nsw S v x p2) = true then some (some (setL Γ i (min 9 (lv S.own Γ e))))
        else if (slotB S i x && S.isF && okB S Γ e && mayBs S i && ckE S Γ 9 e v && (lcPl e && (match v with
          | .ListComp _ _ sc p => lcLocal S x p2 sc p
          | _ => false))) = true then some (some (setL Γ i (min 9 (lv S.own Γ e)))) else none
      | _ => none)
    | .tp ts => (match st with
      | .Assign [.Tuple es k pt] v _ => if (ckGs S ts es && tgB S Γ (slotss ts) && ckE S Γ 0 e v && (!isTup v || offL S es)) = true then some (some Γ)
        else (match ts, e, es, v with
          | [.nm i, .nm j], .tup (.cons ea (.cons eb .nil)), [.Name x px, .Name y py], .Tuple [a, b] _ _ =>
            if (slotB S i x && slotB S j y && !(i == j) && tgB S Γ [i, j] && ckE S Γ 0 ea a && ckE S Γ 0 eb b && parB S x y px py a b) = true then some (some Γ) else none
          | [.nm i, .nm j, .nm l], .tup (.cons ea (.cons eb (.cons ec .nil))), [.Name x px, .Name y py, .Name z pz], .Tuple [a, b, c] _ _ =>
            if (slotB S i x && slotB S j y && slotB S l z && (!(i == j) && !(i == l) && !(j == l)) && tgB S Γ [i, j, l] && ckE S Γ 0 ea a && ckE S Γ 0 eb b && ckE S Γ 0 ec c && par3B S x y z px py pz a b c) = true then some (some Γ) else none
          | _, _, _, _ => none)
      | _ => none))
  | .setp i ps k v, st => (match ps with
    | .nil => (match st with
      | .Assign [.Subscript (.Name x _) y _] z _ => if (slotB S i x && decide (lvl Γ i = 1) && ckE S Γ 9 k y && ckE S Γ 0 v z && !isSl y) = true then some (some Γ)
        else if (slotB S i x && decide (1 ≤ lvl Γ i) && decide (lvl Γ i ≤ min 9 (lv S.own Γ v) + 1) && okB S Γ v && ckE S Γ 9 k y && ckE S Γ 9 v z && !isSl y) = true then some (some Γ) else none
      | _ => none)
    | .cons q .nil => (match st with
      | .Assign [.Subscript (.Subscript (.Name x _) w _) y _] z _ => if (slotB S i x && decide (lvl Γ i = 2) && ckE S Γ 9 q w && ckE S Γ 9 k y && ckE S Γ 0 v z && !isSl w) = true then some (some Γ) else none
      | _ => none)
    | _ => none)
  | .mut mu i ps es, st => (match ps with
    | .nil => (match mu, es, st with
      | .append, .cons e .nil, .Expr (.Call (.Attribute (.Name x _) f ap) [a] [] cp) _ => if (f == Str.ofString "append" && slotB S i x && (ap.endLine == cp.line) && noStar a && ckE S Γ 9 e a && okB S Γ e && decide (1 ≤ lvl Γ i) && decide (lvl Γ i ≤ min 9 (lv S.own Γ e) + 1)) = true then some (some Γ) else none
      | .insert, .cons k (.cons e .nil), .Expr (.Call (.Attribute (.Name x _) f ap) [y, a] [] cp) _ => if (f == Str.ofString "insert" && slotB S i x && (ap.endLine == cp.line) && noStar y && noStar a && ckE S Γ 9 k y && ckE S Γ 9 e a && okB S Γ e && decide (1 ≤ lvl Γ i) && decide (lvl Γ i ≤ min 9 (lv S.own Γ e) + 1)) = true then some (some Γ) else none
      | .extend, .cons e .nil, .Expr (.Call (.Attribute (.Name x _) f ap) [a] [] cp) _ => if (f == Str.ofString "extend" && slotB S i x && (ap.endLine == cp.line) && noStar a && ckE S Γ 1 e a && decide (lvl Γ i = 1)) = true then some (some Γ) else none
      | .update, .cons e .nil, .Expr (.Call (.Attribute (.Name x _) f ap) [a] [] cp) _ => if (f == Str.ofString "update" && slotB S i x && (ap.endLine == cp.line) && noStar a && ckE S Γ 0 e a && decide (lvl Γ i = 1)) = true then some (some Γ) else none
      | _, _, _ => none)
    | .cons q .nil => (match mu, es, st with
      | .pop, .cons k .nil, .Expr (.Call (.Attribute (.Subscript (.Name x _) w _) f ap) [y] [] cp) _ => if (f == Str.ofString "pop" && slotB S i x && (ap.endLine == cp.line) && noStar y && ckE S Γ 9 q w && ckE S Γ 9 k y && !isSl w && decide (lvl Γ i = 2)) = true then some (some Γ) else none
      | .pop, .cons k (.cons e .nil), .Expr (.Call (.Attribute (.Subscript (.Name x _) w _) f ap) [y, z] [] cp) _ => if (f == Str.ofString "pop" && slotB S i x && (ap.endLine == cp.line) && noStar y && noStar z && ckE S Γ 9 q w && ckE S Γ 9 k y && ckE S Γ 0 e z && !isSl w && decide (lvl Γ i = 2)) = true then some (some Γ) else none
      | _, _, _ => none)
    | _ => none)
  | .aug i op e, st => (match st with
    | .AugAssign (.Name x _) o v _ => if (decide (o = bopOf op) && slotB S i x && locB S x && mayBs S i && ckE S Γ 9 e v && (decide (op = .add) || decide (op = .sub) || decide (op = .mul))) = true then some (some Γ) else none
    | _ => none)
  | .ifs c a b, st => (match st with
    | .If x y z _ => if ckT S Γ c x = true then (match ckSs S own ΓL Γ a y, ckSs S own ΓL Γ b z with
      | some none, some r => some r
      | some r, some none => some r
      | some (some r), some (some r') => if eqGam r r' = true then some (some r) else none
      | _, _ => none) else none
    | _ => none)
  | .for_ tg it b, st => (match st with
    | .For t i body [] _ => if (ckI S Γ it t i && ckG S tg t && tgB S Γ (slots tg) && plIt i && (!itPair it || isTp tg)) = true then (match ckSs S own Γ Γ b body with
      | some none => some (some Γ)
      | some (some r) => if eqGam r Γ = true then some (some Γ) else none
      | none => none) else none
    | _ => none)
  | .whl _ c b, st => (match st with
    | .While x body [] _ => if ckT S Γ c x = true then (match ckSs S own Γ Γ b body with
      | some none => some (some Γ)
      | some (some r) => if eqGam r Γ = true then some (some Γ) else none
      | none => none) else none
    | _ => none)
  | .ret e, st => (match st with
    | .Return (some v) _ => if (ckE S Γ 9 e v && okB S Γ e && decide (own ≤ min 9 (lv S.own Γ e))) = true then some none
      else (match e, v with
        | .var i, .Name x _ => if (slotB S i x && decide (lvl Γ i = own)) = true then some none else none
        | _, _ => none)
    | _ => none)
  | .expr e, st => (match st with
    | .Expr v _ => if (ckE S Γ 0 e v && noComp v) = true then some (some Γ) else none
    | _ => none)
  | .cont, st => (match st with
    | .Continue _ => if eqGam ΓL Γ = true then some none else none
    | _ => none)
  | .brk, st => (match st with
    | .Break _ => if eqGam ΓL Γ = true then some none else none
    | _ => none)
  | .pass, st => (match st with
    | .Pass _ => some (some Γ)
    | _ => none)
  | .low _ _, _ => none
  | .nev, _ => some (some Γ)
  | .bgs k e, st => (match st with
    | .Assign [.Subscript (.Name x _) (.Constant (.int j) _ _) _] v _ => if ((match S.bs with
      | some i => slotB S i x
      | none => false) && decide (j = (k : Int)) && ckE S Γ 9 e v) = true then some (some Γ) else none
    | _ => none)
  | .bgx, st => (match st with
    | .AugAssign (.Subscript (.Name x _) (.Constant (.int j) _ _) _) .Add (.Constant (.int j2) _ _) _ => if ((match S.bs with
      | some i => slotB S i x
      | none => false) && decide (j = ((2 : Nat) : Int)) && decide (j2 = 1)) = true then some (some Γ) else none
    | _ => none)
def ckSs (S : Sc) (own : Nat) (ΓL Γ : Gam) : Sts → List Stmt → Option (Option Gam)
  | .nil, l => (match l with
    | [] => some (some Γ)
    | _ => none)
  | .cons s r, l => (match s with
    | .low i n => if n ≤ lvl Γ i then ckSs S own ΓL (setL Γ i n) r l else none
    | s => (match l with
      | st :: rest => (match ckS S own ΓL Γ s st with
        | some (some Γ1) => ckSs S own ΓL Γ1 r rest
        | some none => (match r, rest with
          | .nil, [] => some none
          | _, _ => none)
        | none => none)
      | [] => none))
end
end Dn

set_option Elab.async false
set_option linter.all false
set_option maxRecDepth 100000
/-! Dn, part U: the check of statements is right. -/
namespace Dn
open PySem PySem.Spec PyProof.Rows L2
section
variable {S : Sc} {X : Cx} {C : Cn} {Γ : Gam} {own : Nat} {ΓL : Gam}
theorem if_some {α : Type} {c : Prop} [Decidable c] {a r : α} {b : Option α} (h : (if c then some a else b) = some r) : (c ∧ a = r) ∨ (¬ c ∧ b = some r) := by
  by_cases q : c
  · rw [if_pos q] at h; cases h; exact .inl ⟨q, rfl⟩
  · rw [if_neg q] at h; exact .inr ⟨q, h⟩
theorem if_some' {α : Type} {c : Prop} [Decidable c] {a : Option α} {r : α} (h : (if c then a else none) = some r) : c ∧ a = some r := by
  by_cases q : c
  · rw [if_pos q] at h; exact ⟨q, h⟩
  · rw [if_neg q] at h; cases h
theorem ne_of_nb {i j : Nat} (h : (!(i == j)) = true) : i ≠ j := by simpa using h
theorem sl_of {e : Expr} (h : (!isSl e) = true) : isSl e = false := by simpa using h
theorem swSS_ok {o i : Expr} {pt : Pos} {e : Expr} {l : Nat} {env : Env} : swapsWithSole [.Subscript o i pt] e l env = pure false := by
  cases e <;> rfl
theorem swSN_ok {o i : Expr} {pt : Pos} {e : Expr} {env : Env} : swappedStores [.Subscript o i pt] e env = pure none := by
  cases e <;> rfl
theorem tgB_ok {l : List Nat} (xs : XS S X C) (h : tgB S Γ l = true) : tgOk C Γ l := fun i hi => by
  have := List.all_eq_true.mp h i hi
  obtain ⟨h1, h2⟩ := and2 this
  exact ⟨by simpa using h1, mayB_ok xs h2⟩
/-- name = [..] on one line, by the check of the comprehension -/
theorem asgL_ok {x : Str} {p2 pos : Pos} {v : Expr} {e : Ex} {i : Nat} (xs : XS S X C) (hi : slotB S i x = true) (hF : S.isF = true)
    (hl : (match v with
          | .ListComp _ _ sc p => lcLocal S x p2 sc p
          | _ => false) = true) (hpl : lcPl e = true) (he : ckE S Γ 9 e v = true) : PS X (.Assign [.Name x p2] v pos) (tAsg (rd C 9 Γ e) (gName i)) := by
  cases v with
  | ListComp ve gens scope p =>
    have hl : lcLocal S x p2 scope p = true := hl
    cases e with
    | lc elt own tg it c =>
      unfold ckE at he
      split at he
      · rename_i x' t i' ifs scope' pos' heq
        cases heq
        obtain ⟨h1, h10⟩ := and2 he
        obtain ⟨h1, h9⟩ := and2 h1
        obtain ⟨h1, h8⟩ := and2 h1
        obtain ⟨h1, h7⟩ := and2 h1
        obtain ⟨h1, h6⟩ := and2 h1
        obtain ⟨h1, h5⟩ := and2 h1
        obtain ⟨h1, h4⟩ := and2 h1
        obtain ⟨h1, h3⟩ := and2 h1
        obtain ⟨h1, h2⟩ := and2 h1
        have h3 : ckI S Γ it t i' = true := by
          rcases Bool.or_eq_true_iff.mp h3 with h3 | h3
          · cases it with
            | keys j => cases hpl
            | _ => unfold kyB at h3; simp at h3
          · exact h3
        unfold lcLocal at hl
        obtain ⟨l1, l3⟩ := and2 hl
        obtain ⟨l1, l2⟩ := and2 l1
        have hk : X.env.scope.kind = .function := by
          rw [xs.sc]
          unfold Sc.isF at hF
          split at hF
          · rename_i e; exact e
          · cases hF
        have hloc : X.env.scope.names.lookup x = some .local := by rw [xs.sc]; exact eq_of_beq l1
        have sw : swapsWith (.ListComp ve [⟨t, i', ifs, 0⟩] scope p) (some (.Name x p2)) pos.line X.env = pure true := sw_true hk hloc l2 (by simpa using l3)
        have key := ps_setLc (X := X) (wi := riL C Γ it) (g := rg X.K tg) (tt := rc C (setz Γ own) c) (te := rd C 9 (setz Γ own) elt) (i := i) (y := x) (py := p2) (elt := ve) (tg := t) (iter := i') (ifs := ifs) (scope := scope) (own := ownOf S.N scope own) (pos := p) (spos := pos) xs.ok.calm (by rw [xs.N]; exact xs.nd) (slot_of xs hi).ix hloc sw (wkI (ckI_ok it S X Γ t i' xs h3) fun σ H R h => ri_of h)
          (by rw [xs.N, xs.sc]; exact blkOk_by h1)
          (fun s H Ca cl fp => ckG_ok (xs.blk (s := s) (H := H) (cl := cl) (Ca := Ca) (fp := fp)) tg t h2)
          (fun s H Ca cl fp => ckC_ok c _ _ _ _ (xs.blk (s := s) (H := H) (cl := cl) (Ca := Ca) (fp := fp)) h4)
          (fun s H Ca cl fp => ckE_ok elt _ _ _ _ _ (xs.blk (s := s) (H := H) (cl := cl) (Ca := Ca) (fp := fp)) h5)
          (plIt_ok h6)
        refine wkS key fun D σ H h => ?_
        have r := lc_rd (C := C) (X := X) (Γ := Γ) (own := ownOf S.N scope own) (eelt := elt) (etg := tg) (eit := it) (eif := c) (m := 9) xs.K (by rw [own_snd]; exact fun j hj => mayB_ok xs (List.all_eq_true.mp h7 j hj)) (by rw [own_snd]; exact fun j hj => by simpa using List.all_eq_true.mp h8 j hj)
          (by rw [own_snd]; have z := okB_ok (Γ := setz Γ own) xs h9; exact z) (pair_tp h10) (σ := σ) (H := H) (Q := fun x H1 => gName i x σ H1 D.nx) (by rw [own_snd]; exact h)
        rw [own_snd] at r
        show tLc _ _ _ _ _ σ H _
        rw [own_snd]
        exact r
      · cases he
    | lc2 elt own tg it c tg2 it2 c2 =>
      unfold ckE at he
      split at he
      · rename_i x' t i' ifs t2 i2 ifs2 scope' pos' heq
        cases heq
        obtain ⟨he, h15⟩ := and2 he
        obtain ⟨he, h14⟩ := and2 he
        obtain ⟨he, h13⟩ := and2 he
        obtain ⟨he, h12⟩ := and2 he
        obtain ⟨he, h11⟩ := and2 he
        obtain ⟨he, h10⟩ := and2 he
        obtain ⟨he, h9⟩ := and2 he
        obtain ⟨he, h8⟩ := and2 he
        obtain ⟨he, h7⟩ := and2 he
        obtain ⟨he, h6⟩ := and2 he
        obtain ⟨he, h5⟩ := and2 he
        obtain ⟨he, h4⟩ := and2 he
        obtain ⟨he, h3⟩ := and2 he
        obtain ⟨h1, h2⟩ := and2 he
        unfold lcLocal at hl
        obtain ⟨l1, l3⟩ := and2 hl
        obtain ⟨l1, l2⟩ := and2 l1
        have hk : X.env.scope.kind = .function := by
          rw [xs.sc]
          unfold Sc.isF at hF
          split at hF
          · rename_i e; exact e
          · cases hF
        have hloc : X.env.scope.names.lookup x = some .local := by rw [xs.sc]; exact eq_of_beq l1
        have sw : swapsWith (.ListComp ve [⟨t, i', ifs, 0⟩, ⟨t2, i2, ifs2, 0⟩] scope p) (some (.Name x p2)) pos.line X.env = pure true := sw_true hk hloc l2 (by simpa using l3)
        have ho2 : ∀ j ∈ slots tg2, j ∈ (ownOf S.N scope own).map (·.2) := by rw [own_snd]; exact fun j hj => by simpa using List.all_eq_true.mp h14 j hj
        have key := ps_setLc2 (X := X) (wi := riL C Γ it) (g := rg X.K tg) (tt := rc C (setz Γ own) c) (wi1 := ri C (setz Γ own) it2) (g1 := rg X.K tg2) (tt1 := rc C (setz Γ own) c2) (te := rd C 0 (setz Γ own) elt) (i := i) (y := x) (py := p2) (elt := ve) (tg := t) (iter := i') (ifs := ifs) (tg1 := t2) (iter1 := i2) (ifs1 := ifs2) (scope := scope) (own := ownOf S.N scope own) (vs1 := slots tg2) (pos := p) (spos := pos) xs.ok.calm (by rw [xs.N]; exact xs.nd) (slot_of xs hi).ix hloc sw (wkI (ckI_ok it S X Γ t i' xs h3) fun σ H R h => ri_of h)
          (by rw [xs.N, xs.sc]; exact blkOk_by h1) ho2
          (fun s H Ca cl fp => ckG_ok (xs.blk (s := s) (H := H) (cl := cl) (Ca := Ca) (fp := fp)) tg t h2)
          (fun s H Ca cl fp => ckC_ok c _ _ _ _ (xs.blk (s := s) (H := H) (cl := cl) (Ca := Ca) (fp := fp)) h4)
          (fun s H Ca cl fp => ckI_ok it2 _ _ _ _ _ (xs.blk (s := s) (H := H) (cl := cl) (Ca := Ca) (fp := fp)) h11)
          (fun s H Ca cl fp => ckG_ok (xs.blk (s := s) (H := H) (cl := cl) (Ca := Ca) (fp := fp)) tg2 t2 h10)
          (fun s H Ca cl fp => ckC_ok c2 _ _ _ _ (xs.blk (s := s) (H := H) (cl := cl) (Ca := Ca) (fp := fp)) h12)
          (fun s H Ca cl fp => ckE_ok elt _ _ _ _ _ (xs.blk (s := s) (H := H) (cl := cl) (Ca := Ca) (fp := fp)) h5)
          (plIt_ok h6) (fun env => plIt_ok h13)
        refine wkS key fun D σ H h => ?_
        have r := lc2_rd (C := C) (X := X) (Γ := Γ) (own := ownOf S.N scope own) (eelt := elt) (etg := tg) (eit := it) (eif := c) (etg2 := tg2) (eit2 := it2) (eif2 := c2) (m := 9) xs.K (by rw [own_snd]; exact fun j hj => mayB_ok xs (List.all_eq_true.mp h7 j hj)) (by rw [own_snd]; exact fun j hj => by simpa using List.all_eq_true.mp h8 j hj)
          ho2 (pair_tp h9) (pair_tp h15) (σ := σ) (H := H) (Q := fun x H1 => gName i x σ H1 D.nx) (by rw [own_snd]; exact h)
        rw [own_snd] at r
        show tLc2 _ _ _ _ _ _ _ _ _ σ H _
        rw [own_snd]
        exact r
      · cases he
    | nev => exact ⟨fun pins s σ H E I h => by
        obtain ⟨B, G, b, ρ, d, b', st, en, he2, q⟩ := rd_out (show rd C 9 Γ .nev σ H _ from h)
        exact (fail_some (b := b) he2).elim⟩
    | _ => cases hpl
  | _ => cases hl
theorem lvE_eq {e : Ex} (xs : XS S X C) : lvE C Γ e = min 9 (lv S.own Γ e) := by unfold lvE; rw [xs.own]
theorem eqGam_ok {a b : Gam} (h : eqGam a b = true) : a = b := of_decide_eq_true h
end
theorem getsub {k : Expr} {x : Str} {p2 p3 : Pos} {env : Env} (h : isSl k = false) : ∀ v, assign (.Subscript (.Name x p2) k p3) env v = (do
      let ov ← holding [v] (eval (.Name x p2) env)
      let iv ← holding [v, ov] (eval k env)
      standAt p3
      holding [v, ov, iv] (setItem ov iv v)
      release [v, ov, iv] []) := by
  intro v
  cases k <;> first | rfl | cases h
theorem z_par3 {C : Cn} {X : Cx} {Γ ΓL : Gam} {own i j l : Nat} {ea eb ec : Ex} {st : Stmt} (h : PS X st (tPar3 i j l (tCons (rd C 0 Γ ea) (tCons (rd C 0 Γ eb) (tCons (rd C 0 Γ ec) tNil))))) (ok : tgOk C Γ [i, j, l]) : PS X st (zs C own ΓL Γ (.asg (.tp [.nm i, .nm j, .nm l]) (.tup (.cons ea (.cons eb (.cons ec .nil))))) Γ) :=
  wkS h fun E σ H ⟨B, G0, H0, G, b, ρ, o, b', S, hex, q⟩ => by
  obtain ⟨d, b1, h1, h2⟩ := bnd_some hex
  obtain ⟨xs, b2, h3, h4⟩ := bnd_some h1
  obtain ⟨rfl, rfl⟩ := ret_some h4
  obtain ⟨d1, b3, h5, h6⟩ := bnd_some h3
  obtain ⟨ys, b4, h7, h8⟩ := bnd_some h6
  obtain ⟨rfl, rfl⟩ := ret_some h8
  obtain ⟨d2, b5, h9, h10⟩ := bnd_some h7
  obtain ⟨zs, b6, h11, h12⟩ := bnd_some h10
  obtain ⟨rfl, rfl⟩ := ret_some h12
  obtain ⟨d3, b8, h13, h14⟩ := bnd_some h11
  obtain ⟨ws, b9, h15, h16⟩ := bnd_some h14
  obtain ⟨rfl, rfl⟩ := ret_some h16
  obtain ⟨rfl, rfl⟩ := ret_some h15
  obtain ⟨ρ1, b7, e1, e2⟩ := bnd_some h2
  obtain ⟨e3, rfl⟩ := lift_some e1
  obtain ⟨rfl, rfl⟩ := ret_some e2
  have e4 : ((bindT (.nm i) d1 ρ).bind fun ρ' => (bindT (.nm j) d2 ρ').bind fun ρ' => (bindT (.nm l) d3 ρ').bind fun ρ' => some ρ') = some ρ1 := e3
  obtain ⟨ρa, e5, e6⟩ := Option.bind_eq_some_iff.mp e4
  obtain ⟨ρb, e7, e8⟩ := Option.bind_eq_some_iff.mp e6
  obtain ⟨ρc, e9, e10⟩ := Option.bind_eq_some_iff.mp e8
  cases e10
  refine ⟨B, G, b, ρ, d1, _, S.st, S.env, h5, fun v G1 H1 f P1 ⟨k, hk, _, R⟩ _ => ⟨B, G1, _, ρ, d2, _, P1.st, S.env.post P1, h9, fun w G2 H2 g P2 ⟨k2, hk2, _, R2⟩ _ => ⟨B, G2, _, ρ, d3, _, P2.st, (S.env.post P1).post P2, h13, fun u G3 H3 g3 P3 ⟨k3, hk3, _, R3⟩ _ => ⟨v, w, u, rfl, ?_⟩⟩⟩⟩
  have R0 := (((R.cast (k := 0) (by omega)).2).mono P2.gs).mono P3.gs
  have R1 := ((R2.cast (k := 0) (by omega)).2).mono P3.gs
  have R4 := (R3.cast (k := 0) (by omega)).2
  have S2 := S.step ((P1.trans P2).trans P3)
  unfold bindT at e5 e7 e9
  by_cases q1 : i < ρ.length
  · rw [if_pos q1] at e5
    cases e5
    by_cases q2 : j < (ρ.set i (some d1)).length
    · rw [if_pos q2] at e7
      cases e7
      by_cases q3 : l < ((ρ.set i (some d1)).set j (some d2)).length
      · rw [if_pos q3] at e9
        cases e9
        obtain ⟨o1, o2⟩ := ok i (by simp)
        obtain ⟨o3, o4⟩ := ok j (by simp)
        obtain ⟨o5, o6⟩ := ok l (by simp)
        exact q G3 H3 _ (((S2.set0 q1 o1 o2 R0).set0 q2 o3 o4 R1).set0 q3 o5 o6 R4)
      · rw [if_neg q3] at e9; cases e9
    · rw [if_neg q2] at e7; cases e7
  · rw [if_neg q1] at e5; cases e5
mutual
theorem ckS_ok {C : Cn} {X : Cx} (hp : PassesOwn (model X.prog X.w) X.A X.env X.xe) : ∀ (s : St) (S : Sc) (own : Nat) (ΓL Γ : Gam) (st : Stmt) (r : Option Gam), XS S X C → ckS S own ΓL Γ s st = some r → ∀ Γ2, (∀ g, r = some g → g = Γ2) → PS X st (zs C own ΓL Γ s Γ2)
  | .asg tg e, S, own, ΓL, Γ, st, r, xs, h, Γ2, hr => by
    unfold ckS at h
    split at h
    · split at h
      · rename_i i st x p2 v pos
        have hN : X.N.Nodup := by rw [xs.N]; exact xs.nd
        rcases if_some h with ⟨c, rfl⟩ | ⟨_, h⟩
        · obtain ⟨c, c6⟩ := and2 c
          obtain ⟨c, c5⟩ := and2 c
          obtain ⟨c, c4⟩ := and2 c
          obtain ⟨c, c3⟩ := and2 c
          obtain ⟨c1, c2⟩ := and2 c
          obtain ⟨l1, l2⟩ := loc_of xs c2
          rw [← hr _ rfl, ← lvE_eq xs]
          exact z_asg hN (slot_of xs c1).ix l1 l2 (ckE_ok e S X Γ _ _ xs c5) (okB_ok xs c3) (mayB_ok xs c4) (nsw_ok xs.sc c6)
        · rcases if_some h with ⟨c, rfl⟩ | ⟨_, h⟩
          · obtain ⟨c, c6⟩ := and2 c
            obtain ⟨c, c5⟩ := and2 c
            obtain ⟨c, c4⟩ := and2 c
            obtain ⟨c, c3⟩ := and2 c
            obtain ⟨c1, c2⟩ := and2 c
            rw [← hr _ rfl, ← lvE_eq xs]
            exact z_asgL (asgL_ok xs c1 c2 (and2 c6).2 (and2 c6).1 c5) (okB_ok xs c3) (mayB_ok xs c4)
          · cases h
      · cases h
    · split at h
      · rename_i ts st es k pt v pos
        rcases if_some h with ⟨c, rfl⟩ | ⟨_, h⟩
        · obtain ⟨c, c4⟩ := and2 c
          obtain ⟨c, c3⟩ := and2 c
          obtain ⟨c1, c2⟩ := and2 c
          obtain ⟨p1, p2, p3⟩ := ckGs_ok xs ts es c1
          rw [← hr _ rfl]
          exact z_asgT xs.K (ckE_ok e S X Γ _ _ xs c3) (g_tp xs.ok.calm p1 p2 p3) (tgB_ok xs c2) swT_ok ((Bool.or_eq_true_iff.mp c4).elim (fun c4 => swN_ok (by simpa using c4)) fun c4 => swO_ok xs.sc c4) rfl
        · split at h
          · rcases if_some h with ⟨c, rfl⟩ | ⟨_, h⟩
            · obtain ⟨c, c7⟩ := and2 c
              obtain ⟨c, c6⟩ := and2 c
              obtain ⟨c, c5⟩ := and2 c
              obtain ⟨c, c4⟩ := and2 c
              obtain ⟨c, c3⟩ := and2 c
              obtain ⟨c1, c2⟩ := and2 c
              rw [← hr _ rfl]
              have hN : X.N.Nodup := by rw [xs.N]; exact xs.nd
              have q := c7
              unfold parB at q
              obtain ⟨q, q9⟩ := and2 q
              obtain ⟨q, q8⟩ := and2 q
              obtain ⟨q, q7⟩ := and2 q
              obtain ⟨q, q6⟩ := and2 q
              obtain ⟨q, q5⟩ := and2 q
              obtain ⟨q, q4⟩ := and2 q
              obtain ⟨q, q3⟩ := and2 q
              obtain ⟨q1, q2⟩ := and2 q
              have ij := ne_of_nb c3
              exact z_par (y := "") (py := pt) (pt := pt) (kt := 0) (k2 := 0) (pt2 := pt) (ps_par xs.ok.calm hN (slot_of xs c1).ix (slot_of xs c2).ix ij (by rw [xs.sc]; exact eq_of_beq q2) (by rw [xs.sc]; exact eq_of_beq q3)
                (pa_cons (ckE_ok _ S X Γ _ _ xs c5) (pa_cons (ckE_ok _ S X Γ _ _ xs c6) pa_nil (star_of q7 _ _)) (star_of q6 _ _)) (parB_ok xs.sc c7) swT_ok) ij (tgB_ok xs c4)
            · cases h
          · rcases if_some h with ⟨c, rfl⟩ | ⟨_, h⟩
            · obtain ⟨c, c9⟩ := and2 c
              obtain ⟨c, c8⟩ := and2 c
              obtain ⟨c, c7⟩ := and2 c
              obtain ⟨c, c6⟩ := and2 c
              obtain ⟨c, c5⟩ := and2 c
              obtain ⟨c, c4⟩ := and2 c
              obtain ⟨c, c3⟩ := and2 c
              obtain ⟨c1, c2⟩ := and2 c
              obtain ⟨d, d3⟩ := and2 c4
              obtain ⟨d1, d2⟩ := and2 d
              rw [← hr _ rfl]
              have hN : X.N.Nodup := by rw [xs.N]; exact xs.nd
              have q := c9
              unfold par3B at q
              obtain ⟨q, q11⟩ := and2 q
              obtain ⟨q, q10⟩ := and2 q
              obtain ⟨q, q9⟩ := and2 q
              obtain ⟨q, q8⟩ := and2 q
              obtain ⟨q, q7⟩ := and2 q
              obtain ⟨q, q6⟩ := and2 q
              obtain ⟨q, q5⟩ := and2 q
              obtain ⟨q, q4⟩ := and2 q
              obtain ⟨q, q3⟩ := and2 q
              obtain ⟨q1, q2⟩ := and2 q
              have ij := ne_of_nb d1
              have il := ne_of_nb d2
              have jl := ne_of_nb d3
              exact z_par3 (ps_par3 xs.ok.calm hN (slot_of xs c1).ix (slot_of xs c2).ix (slot_of xs c3).ix ij il jl (by rw [xs.sc]; exact eq_of_beq q2) (by rw [xs.sc]; exact eq_of_beq q3) (by rw [xs.sc]; exact eq_of_beq q4)
                (pa_cons (ckE_ok _ S X Γ _ _ xs c6) (pa_cons (ckE_ok _ S X Γ _ _ xs c7) (pa_cons (ckE_ok _ S X Γ _ _ xs c8) pa_nil (star_of q9 _ _)) (star_of q8 _ _)) (star_of q7 _ _)) (par3B_ok xs.sc c9) swT_ok) (tgB_ok xs c5)
            · cases h
          · cases h
      · cases h
  | .setp i ps k v, S, own, ΓL, Γ, st, r, xs, h, Γ2, hr => by
    unfold ckS at h
    split at h
    · split at h
      · rcases if_some h with ⟨c, rfl⟩ | ⟨_, h⟩
        · obtain ⟨c, c5⟩ := and2 c
          obtain ⟨c, c4⟩ := and2 c
          obtain ⟨c, c3⟩ := and2 c
          obtain ⟨c1, c2⟩ := and2 c
          rw [← hr _ rfl]
          have hl := of_decide_eq_true c2
          have hk := ckE_ok k S X Γ _ _ xs c3
          have hv := ckE_ok v S X Γ _ _ xs c4
          have hsl := sl_of c5
          exact z_set (z_setd (slot_of xs c1) xs.K xs.ok hk hv hl swS_ok) (z_setl (slot_of xs c1) hk hv hl swSS_ok swSN_ok rfl (getsub hsl))
        · rcases if_some h with ⟨c, rfl⟩ | ⟨_, h⟩
          · obtain ⟨c, c7⟩ := and2 c
            obtain ⟨c, c6⟩ := and2 c
            obtain ⟨c, c5⟩ := and2 c
            obtain ⟨c, c4⟩ := and2 c
            obtain ⟨c, c3⟩ := and2 c
            obtain ⟨c1, c2⟩ := and2 c
            rw [← hr _ rfl]
            have l1 := of_decide_eq_true c2
            have l2 := of_decide_eq_true c3
            rw [← lvE_eq xs] at l2
            have hk := ckE_ok k S X Γ _ _ xs c5
            have hv := ckE_ok v S X Γ _ _ xs c6
            have hsl := sl_of c7
            exact z_set (z_setdN (n := lvl Γ i - 1) (slot_of xs c1) xs.ok hk hv (okB_ok xs c4) (by omega) (by omega) swS_ok) (z_setlN (n := lvl Γ i - 1) (slot_of xs c1) hk hv (okB_ok xs c4) (by omega) (by omega) swSS_ok swSN_ok rfl (getsub hsl))
          · cases h
      · cases h
    · split at h
      · rcases if_some h with ⟨c, rfl⟩ | ⟨_, h⟩
        · obtain ⟨c, c6⟩ := and2 c
          obtain ⟨c, c5⟩ := and2 c
          obtain ⟨c, c4⟩ := and2 c
          obtain ⟨c, c3⟩ := and2 c
          obtain ⟨c1, c2⟩ := and2 c
          rw [← hr _ rfl]
          exact z_setp1 (slot_of xs c1) xs.ok (ckE_ok _ S X Γ _ _ xs c3) (ckE_ok _ S X Γ _ _ xs c4) (ckE_ok _ S X Γ _ _ xs c5) (of_decide_eq_true c2) (sl_of c6) swS_ok
        · cases h
      · cases h
    · cases h
  | .mut mu i ps es, S, own, ΓL, Γ, st, r, xs, h, Γ2, hr => by
    unfold ckS at h
    split at h
    · split at h
      · rcases if_some h with ⟨c, rfl⟩ | ⟨_, h⟩
        · obtain ⟨c, c8⟩ := and2 c
          obtain ⟨c, c7⟩ := and2 c
          obtain ⟨c, c6⟩ := and2 c
          obtain ⟨c, c5⟩ := and2 c
          obtain ⟨c, c4⟩ := and2 c
          obtain ⟨c, c3⟩ := and2 c
          obtain ⟨c1, c2⟩ := and2 c
          rw [← hr _ rfl]
          have e1 := eq_of_beq c1
          subst e1
          have l1 := of_decide_eq_true c7
          have l2 := of_decide_eq_true c8
          rw [← lvE_eq xs] at l2
          exact z_append (n := lvl Γ i - 1) (slot_of xs c2) (mets1 c3 c4) (ckE_ok _ S X Γ _ _ xs c5) (okB_ok xs c6) (by omega) (by omega)
        · cases h
      · rcases if_some h with ⟨c, rfl⟩ | ⟨_, h⟩
        · obtain ⟨c, c10⟩ := and2 c
          obtain ⟨c, c9⟩ := and2 c
          obtain ⟨c, c8⟩ := and2 c
          obtain ⟨c, c7⟩ := and2 c
          obtain ⟨c, c6⟩ := and2 c
          obtain ⟨c, c5⟩ := and2 c
          obtain ⟨c, c4⟩ := and2 c
          obtain ⟨c, c3⟩ := and2 c
          obtain ⟨c1, c2⟩ := and2 c
          rw [← hr _ rfl]
          have e1 := eq_of_beq c1
          subst e1
          have l1 := of_decide_eq_true c9
          have l2 := of_decide_eq_true c10
          rw [← lvE_eq xs] at l2
          exact z_insert (n := lvl Γ i - 1) (slot_of xs c2) (mets2 c3 c4 c5) (ckE_ok _ S X Γ _ _ xs c6) (ckE_ok _ S X Γ _ _ xs c7) (okB_ok xs c8) (by omega) (by omega) c5
        · cases h
      · rcases if_some h with ⟨c, rfl⟩ | ⟨_, h⟩
        · obtain ⟨c, c6⟩ := and2 c
          obtain ⟨c, c5⟩ := and2 c
          obtain ⟨c, c4⟩ := and2 c
          obtain ⟨c, c3⟩ := and2 c
          obtain ⟨c1, c2⟩ := and2 c
          rw [← hr _ rfl]
          have e1 := eq_of_beq c1
          subst e1
          exact z_extend (slot_of xs c2) xs.K (mets1 c3 c4) (ckE_ok _ S X Γ _ _ xs c5) (of_decide_eq_true c6)
        · cases h
      · rcases if_some h with ⟨c, rfl⟩ | ⟨_, h⟩
        · obtain ⟨c, c6⟩ := and2 c
          obtain ⟨c, c5⟩ := and2 c
          obtain ⟨c, c4⟩ := and2 c
          obtain ⟨c, c3⟩ := and2 c
          obtain ⟨c1, c2⟩ := and2 c
          rw [← hr _ rfl]
          have e1 := eq_of_beq c1
          subst e1
          exact z_update (slot_of xs c2) (mets1 c3 c4) (ckE_ok _ S X Γ _ _ xs c5) (of_decide_eq_true c6)
        · cases h
      · cases h
    · split at h
      · rcases if_some h with ⟨c, rfl⟩ | ⟨_, h⟩
        · obtain ⟨c, c8⟩ := and2 c
          obtain ⟨c, c7⟩ := and2 c
          obtain ⟨c, c6⟩ := and2 c
          obtain ⟨c, c5⟩ := and2 c
          obtain ⟨c, c4⟩ := and2 c
          obtain ⟨c, c3⟩ := and2 c
          obtain ⟨c1, c2⟩ := and2 c
          rw [← hr _ rfl]
          have e1 := eq_of_beq c1
          subst e1
          exact z_pop1 (slot_of xs c2) xs.ok (ckE_ok _ S X Γ _ _ xs c5) (ckE_ok _ S X Γ _ _ xs c6) (of_decide_eq_true c8) (sl_of c7) c3 c4 rfl
        · cases h
      · rcases if_some h with ⟨c, rfl⟩ | ⟨_, h⟩
        · obtain ⟨c, c10⟩ := and2 c
          obtain ⟨c, c9⟩ := and2 c
          obtain ⟨c, c8⟩ := and2 c
          obtain ⟨c, c7⟩ := and2 c
          obtain ⟨c, c6⟩ := and2 c
          obtain ⟨c, c5⟩ := and2 c
          obtain ⟨c, c4⟩ := and2 c
          obtain ⟨c, c3⟩ := and2 c
          obtain ⟨c1, c2⟩ := and2 c
          rw [← hr _ rfl]
          have e1 := eq_of_beq c1
          subst e1
          exact z_pop2 (slot_of xs c2) xs.ok (ckE_ok _ S X Γ _ _ xs c6) (ckE_ok _ S X Γ _ _ xs c7) (ckE_ok _ S X Γ _ _ xs c8) (of_decide_eq_true c10) (sl_of c9) c3 c4 c5 rfl
        · cases h
      · cases h
    · cases h
  | .aug i op e, S, own, ΓL, Γ, st, r, xs, h, Γ2, hr => by
    unfold ckS at h
    split at h
    · rcases if_some h with ⟨c, rfl⟩ | ⟨_, h⟩
      · obtain ⟨c, c6⟩ := and2 c
        obtain ⟨c, c5⟩ := and2 c
        obtain ⟨c, c4⟩ := and2 c
        obtain ⟨c, c3⟩ := and2 c
        obtain ⟨c1, c2⟩ := and2 c
        rw [← hr _ rfl]
        have e1 := of_decide_eq_true c1
        subst e1
        obtain ⟨l1, l2⟩ := loc_of xs c3
        refine z_aug (by rw [xs.N]; exact xs.nd) (slot_of xs c2).ix l1 l2 (ckE_ok _ S X Γ _ _ xs c5) ?_ (mayB_ok xs c4)
        rcases Bool.or_eq_true_iff.mp c6 with z | z
        · rcases Bool.or_eq_true_iff.mp z with z | z
          · exact .inl (of_decide_eq_true z)
          · exact .inr (.inl (of_decide_eq_true z))
        · exact .inr (.inr (of_decide_eq_true z))
      · cases h
    · cases h
  | .ifs c a b, S, own, ΓL, Γ, st, r, xs, h, Γ2, hr => by
    unfold ckS at h
    split at h
    · rcases if_some' h with ⟨q, h⟩
      have ht := (ckT_ok c S X Γ _ xs q).1
      split at h
      · rename_i h1 h2
        cases h
        exact z_if ht (ckSs_ok hp a S own ΓL Γ _ _ xs h1 Γ2 fun g e => by cases e) (ckSs_ok hp b S own ΓL Γ _ _ xs h2 Γ2 hr)
      · rename_i h1 h2
        cases h
        exact z_if ht (ckSs_ok hp a S own ΓL Γ _ _ xs h1 Γ2 hr) (ckSs_ok hp b S own ΓL Γ _ _ xs h2 Γ2 fun g e => by cases e)
      · rename_i h1 h2
        obtain ⟨q2, h⟩ := if_some' h
        cases h
        have e := eqGam_ok q2
        subst e
        have e := hr _ rfl
        subst e
        exact z_if ht (ckSs_ok hp a S own ΓL Γ _ _ xs h1 _ fun g e => by cases e; rfl) (ckSs_ok hp b S own ΓL Γ _ _ xs h2 _ fun g e => by cases e; rfl)
      · cases h
    · cases h
  | .for_ tg it b, S, own, ΓL, Γ, st, r, xs, h, Γ2, hr => by
    unfold ckS at h
    split at h
    · rename_i t i body pos
      obtain ⟨q, h⟩ := if_some' h
      obtain ⟨q, q6⟩ := and2 q
      obtain ⟨q, q4⟩ := and2 q
      obtain ⟨q, q3⟩ := and2 q
      obtain ⟨q1, q2⟩ := and2 q
      have go : ∀ (r2 : Option Gam), ckSs S own Γ Γ b body = some r2 → (∀ g, r2 = some g → g = Γ) → PS X (.For t i body [] pos) (zs C own ΓL Γ (.for_ tg it b) Γ) := fun r2 hb hg =>
        z_for xs.K hp xs.ok (ckI_ok it S X Γ _ _ xs q1) (ckG_ok xs tg _ q2) (tgB_ok xs q3) (pair_tp q6) (ckSs_ok hp b S own Γ Γ _ _ xs hb Γ hg) (plIt_ok q4)
      split at h
      · rename_i h1
        cases h
        have e := hr _ rfl
        subst e
        exact go _ h1 fun g e => by cases e
      · rename_i h1
        obtain ⟨q5, h⟩ := if_some' h
        cases h
        have e := hr _ rfl
        subst e
        exact go _ h1 fun g e => by cases e; exact eqGam_ok q5
      · cases h
    · cases h
  | .whl nn cc b, S, own, ΓL, Γ, st, r, xs, h, Γ2, hr => by
    unfold ckS at h
    split at h
    · rename_i x body pos
      obtain ⟨q, h⟩ := if_some' h
      have go : ∀ (r2 : Option Gam), ckSs S own Γ Γ b body = some r2 → (∀ g, r2 = some g → g = Γ) → PS X (.While x body [] pos) (zs C own ΓL Γ (.whl nn cc b) Γ) := fun r2 hb hg =>
        z_whl hp (ckT_ok cc S X Γ _ xs q).1 (ckSs_ok hp b S own Γ Γ _ _ xs hb Γ hg)
      split at h
      · rename_i h1
        cases h
        have e := hr _ rfl
        subst e
        exact go _ h1 fun g e => by cases e
      · rename_i h1
        obtain ⟨q5, h⟩ := if_some' h
        cases h
        have e := hr _ rfl
        subst e
        exact go _ h1 fun g e => by cases e; exact eqGam_ok q5
      · cases h
    · cases h
  | .ret e, S, own, ΓL, Γ, st, r, xs, h, Γ2, hr => by
    unfold ckS at h
    split at h
    · rcases if_some h with ⟨c, rfl⟩ | ⟨_, h⟩
      · obtain ⟨c, c3⟩ := and2 c
        obtain ⟨c1, c2⟩ := and2 c
        exact z_ret (ckE_ok _ S X Γ _ _ xs c1) (okB_ok xs c2) (by rw [lvE_eq xs]; exact of_decide_eq_true c3)
      · split at h
        · rcases if_some h with ⟨c, rfl⟩ | ⟨_, h⟩
          · obtain ⟨c1, c2⟩ := and2 c
            have s := slot_of xs c1
            exact z_retv s.ix s.vis (of_decide_eq_true c2) s.deb s.cd
          · cases h
        · cases h
    · cases h
  | .expr e, S, own, ΓL, Γ, st, r, xs, h, Γ2, hr => by
    unfold ckS at h
    split at h
    · rcases if_some h with ⟨c, rfl⟩ | ⟨_, h⟩
      · obtain ⟨c1, c2⟩ := and2 c
        rw [← hr _ rfl]
        exact z_expr (ckE_ok _ S X Γ _ _ xs c1) (noComp_ok c2)
      · cases h
    · cases h
  | .cont, S, own, ΓL, Γ, st, r, xs, h, Γ2, hr => by
    unfold ckS at h
    split at h
    · rcases if_some h with ⟨c, rfl⟩ | ⟨_, h⟩
      · have e := eqGam_ok c
        subst e
        exact z_cont
      · cases h
    · cases h
  | .brk, S, own, ΓL, Γ, st, r, xs, h, Γ2, hr => by
    unfold ckS at h
    split at h
    · rcases if_some h with ⟨c, rfl⟩ | ⟨_, h⟩
      · have e := eqGam_ok c
        subst e
        exact z_brk
      · cases h
    · cases h
  | .pass, S, own, ΓL, Γ, st, r, xs, h, Γ2, hr => by
    unfold ckS at h
    split at h
    · cases h
      rw [← hr _ rfl]
      exact z_pass
    · cases h
  | .low _ _, S, own, ΓL, Γ, st, r, xs, h, Γ2, hr => by unfold ckS at h; cases h
  | .nev, S, own, ΓL, Γ, st, r, xs, h, Γ2, hr => z_nev
  | .bgs k e, S, own, ΓL, Γ, st, r, xs, h, Γ2, hr => by
    unfold ckS at h
    split at h
    · obtain ⟨c, h⟩ := if_some' h
      cases h
      obtain ⟨c, c3⟩ := and2 c
      obtain ⟨c1, c2⟩ := and2 c
      obtain ⟨i, b1, b2⟩ := bs_of xs c1
      rw [← hr _ rfl, of_decide_eq_true c2]
      exact z_bgs b2 b1 (ckE_ok e S X Γ _ _ xs c3) swSS_ok swSN_ok
    · cases h
  | .bgx, S, own, ΓL, Γ, st, r, xs, h, Γ2, hr => by
    unfold ckS at h
    split at h
    · obtain ⟨c, h⟩ := if_some' h
      cases h
      obtain ⟨c, c3⟩ := and2 c
      obtain ⟨c1, c2⟩ := and2 c
      obtain ⟨i, b1, b2⟩ := bs_of xs c1
      rw [← hr _ rfl, of_decide_eq_true c2, of_decide_eq_true c3]
      exact z_bgx b2 b1
    · cases h
theorem ckSs_ok {C : Cn} {X : Cx} (hp : PassesOwn (model X.prog X.w) X.A X.env X.xe) : ∀ (s : Sts) (S : Sc) (own : Nat) (ΓL Γ : Gam) (l : List Stmt) (r : Option Gam), XS S X C → ckSs S own ΓL Γ s l = some r → ∀ Γ2, (∀ g, r = some g → g = Γ2) → PSs X l (zss C own ΓL Γ s Γ2)
  | .nil, S, own, ΓL, Γ, l, r, xs, h, Γ2, hr => by
    unfold ckSs at h
    split at h
    · cases h
      rw [← hr _ rfl]
      exact z_nil
    · cases h
  | .cons s rs, S, own, ΓL, Γ, l, r, xs, h, Γ2, hr => by
    unfold ckSs at h
    split at h
    · rename_i i n
      by_cases q : n ≤ lvl Γ i
      · rw [if_pos q] at h
        exact z_low (ckSs_ok hp rs S own ΓL _ l r xs h Γ2 hr) q
      · rw [if_neg q] at h; cases h
    · split at h
      · split at h
        · rename_i Γ1 hs
          exact z_cons (ckS_ok hp s S own ΓL Γ _ _ xs hs Γ1 fun g e => by cases e; rfl) (ckSs_ok hp rs S own ΓL Γ1 _ r xs h Γ2 hr)
        · rename_i hs
          split at h
          · cases h
            exact z_cons (ckS_ok hp s S own ΓL Γ _ _ xs hs Γ2 fun g e => by cases e) z_nil
          · cases h
        · cases h
      · cases h
end
end Dn

set_option Elab.async false
set_option linter.all false
set_option maxRecDepth 100000
/-! Dn, part V: all defs of a table keep what they promise. -/
namespace Dn
open PySem PySem.Spec PyProof.Rows L2
/-- a def of the text with its meaning: N the slots' names, the parameters first -/
structure Ent where
  d : He.DefD
  N : List Str
  m : Fn
  cs : List (Str × D)
def fnBag : Fn → Bool
  | .py p => p.bag
  | .take => true
def fnNp : Fn → Nat
  | .py p => p.np
  | .take => 1
def fnOwn : Fn → Nat
  | .py p => p.own
  | .take => 9
def tbl : Nat → List Ent → List (Str × Nat × Bool × Nat)
  | _, [] => []
  | i, e :: es => (e.d.name, i, fnBag e.m, fnNp e.m) :: tbl (i + 1) es
def ownF (es : List Ent) (i : Nat) : Nat := match es[i]? with
  | some e => fnOwn e.m
  | none => 9
def Ft (es : List Ent) : List Fn := es.map (·.m)
def isFun : ScopeKind → Bool
  | .function => true
  | _ => false
def scB (N ps : List Str) (sc : Scope) : Bool := isFun sc.kind && !sc.isCoroutine && !sc.isGenerator && decide N.Nodup && decide (N.take ps.length = ps) &&
  (ps.all fun x => match sc.names.lookup x with
    | some .local => true
    | some .cell => true
    | _ => false) && sc.names.all fun y => !(y.2 == NameKind.free)
theorem scB_ok {N ps : List Str} {sc : Scope} (h : scB N ps sc = true) : FnScope N ps sc := by
  unfold scB at h
  obtain ⟨h, h7⟩ := and2 h
  obtain ⟨h, h6⟩ := and2 h
  obtain ⟨h, h5⟩ := and2 h
  obtain ⟨h, h4⟩ := and2 h
  obtain ⟨h, h3⟩ := and2 h
  obtain ⟨h1, h2⟩ := and2 h
  refine ⟨?_, by simpa using h2, by simpa using h3, of_decide_eq_true h4, of_decide_eq_true h5, fun x hx => ?_, fun y hy e => ?_⟩
  · unfold isFun at h1
    split at h1
    · assumption
    · cases h1
  · have q := List.all_eq_true.mp h6 x hx
    split at q
    · rename_i e; exact .inl e
    · rename_i e; exact .inr e
    · cases q
  · have q := List.all_eq_true.mp h7 y hy
    rw [e] at q
    cases q
def pars (e : Ent) : List Str := e.N.take ((if fnBag e.m = true then 1 else 0) + fnNp e.m)
def scOf (es : List Ent) (e : Ent) : Sc := ⟨e.N, e.d.scope, fun _ => true, tbl 0 es, if fnBag e.m = true then some 0 else none, ownF es, e.cs⟩
/-- the check of one def -/
def ckDef (es : List Ent) (e : Ent) : Bool := match e.m with
  | .take => true
  | .py p => scB e.N (pars e) e.d.scope && decide (p.ns = e.N.length) && decide ((if p.bag = true then 1 else 0) + p.np ≤ p.ns) && (match ckSs (scOf es e) p.own [] (List.replicate p.ns 0) p.body e.d.body with
    | some _ => true
    | none => false)
theorem tbl_mem : ∀ {es : List Ent} {n : Nat} {q : Str × Nat × Bool × Nat}, q ∈ tbl n es → ∃ i e, es[i]? = some e ∧ q = (e.d.name, n + i, fnBag e.m, fnNp e.m)
  | [], _, _, h => by simp [tbl] at h
  | e :: es, n, q, h => by
    rcases List.mem_cons.mp h with rfl | h
    · exact ⟨0, e, rfl, rfl⟩
    · obtain ⟨i, e', h1, h2⟩ := tbl_mem h
      exact ⟨i + 1, e', by simpa using h1, by rw [h2, Nat.add_assoc, Nat.add_comm 1 i]⟩
theorem run_len {F : List Fn} {k i : Nat} {ds : List D} {b : Bg} {r : D × Bg} {m : Fn} (hm : F[i]? = some m) (h : run F k i ds b = some r) : ds.length = fnNp m := by
  cases k with
  | zero => cases h
  | succ k =>
    unfold run at h
    rw [hm] at h
    cases m with
    | py p =>
      dsimp only at h
      by_cases q : ds.length = p.np
      · exact q
      · rw [if_neg q] at h; cases h
    | take =>
      dsimp only at h
      split at h
      · rfl
      · cases h
section
variable {P : Program} {w : World} {K : PySem.W.Frag} {mg : Str → Option Value} {base : Heap} {es : List Ent}
/-- what is known of a def's object -/
structure EntOk (K : PySem.W.Frag) (mg : Str → Option Value) (e : Ent) (f : Addr) (fd : FuncData) : Prop where
  fn : FunD K e.d.name e.d.qual e.d.params e.d.body e.d.scope [] [] f fd
  mg : mg e.d.name = some (.ref f)
  bind : Binds K fd (pars e) []
/-- what is known of the module -/
structure ModOk (K : PySem.W.Frag) (mg : Str → Option Value) (es : List Ent) : Prop where
  sys : ∃ o, K.lookup sysModules = some o
  free : ∀ x ∈ (["len", "tuple", "list", "dict", "sorted", "abs", "int", "str", "repr", "all", "any", "sum", "isinstance", "range", "enumerate", "zip", "bool", "set"] : List String), mg (Str.ofString x) = none
  ents : ∀ e ∈ es, ∃ f fd, EntOk K mg e f fd
  con : ∀ e ∈ es, ∀ p ∈ e.cs, ∃ u, mg p.1 = some u ∧ GlobOk K u p.2
theorem pars_len {e : Ent} (h : (if fnBag e.m = true then 1 else 0) + fnNp e.m ≤ e.N.length) : (pars e).length = (if fnBag e.m = true then 1 else 0) + fnNp e.m := by
  unfold pars
  rw [List.length_take]
  omega
theorem rep_get {ds : List D} {n j : Nat} {d : D} (h : (ds.map some ++ List.replicate n none)[j]? = some (some d)) : ds[j]? = some d := by
  by_cases hj : j < ds.length
  · rw [List.getElem?_append_left (by simpa using hj), List.getElem?_map] at h
    obtain ⟨x, h1, h2⟩ := Option.map_eq_some_iff.mp h
    cases h2; exact h1
  · rw [List.getElem?_append_right (by simpa using hj), List.getElem?_replicate] at h
    by_cases q : j - (ds.map some).length < n
    · rw [if_pos q] at h; cases h
    · rw [if_neg q] at h; cases h
theorem entry_get {p : Py} {ds : List D} {i : Nat} {d : D} (h : (entry p ds)[i]? = some (some d)) : (if p.bag = true then 1 else 0) ≤ i ∧ ds[i - (if p.bag = true then 1 else 0)]? = some d := by
  unfold entry at h
  cases hb : p.bag with
  | false =>
    rw [hb] at h
    simp only [Bool.false_eq_true, if_false, List.nil_append, Nat.sub_zero, Nat.zero_le, true_and] at h ⊢
    exact rep_get h
  | true =>
    rw [hb] at h
    simp only [if_true] at h ⊢
    cases i with
    | zero => simp at h
    | succ i => exact ⟨Nat.succ_le_succ (Nat.zero_le _), rep_get (by simpa using h)⟩
theorem gn_zero {f : Addr} {fd : FuncData} {ps : List Str} {k0 : Nat} {φ : List D → M D} (h : ∀ ds b r, φ ds b ≠ some r) {bag : Bool} {np own : Nat} : Gn P w K mg base k0 f fd ps (pr K φ bag np own) :=
  ⟨fun vs H Q ⟨_, _, b, ds, r, b', _, _, _, _, _, q, _⟩ => absurd q (h ds b _), fun _ _ _ H _ _ vs Q _ _ _ _ _ ⟨_, _, b, ds, r, b', _, _, _, _, _, q, _⟩ => absurd q (h ds b _)⟩
theorem start_len {N : List Str} {vs : List V} (h : vs.length ≤ N.length) : (L2.start N vs).length = N.length := by
  unfold L2.start
  rw [List.length_append, List.length_map, List.length_replicate]
  omega
theorem start_get {N : List Str} {vs : List V} {i : Nat} {v : V} (h : vs[i]? = some v) : (L2.start N vs)[i]? = some (some v) := by
  unfold L2.start
  have hi : i < vs.length := (List.getElem?_eq_some_iff.mp h).1
  rw [List.getElem?_append_left (by simpa using hi), List.getElem?_map, h]
  rfl
theorem cel_of {B : Addr} {H : Hp} {b : Bg} (h : BagAt B H b) : ∃ Ca x y z, H B = some (.lst [x, y, z, .ref Ca]) ∧ H Ca ≠ none := by
  obtain ⟨ok, Ca, n, h1, h2⟩ := h
  exact ⟨Ca, _, _, _, h1, by rw [h2]; simp⟩
theorem lvl_rep (n i : Nat) : lvl (List.replicate n 0) i = 0 := by
  unfold lvl
  rw [List.getD_eq_getElem?_getD, List.getElem?_replicate]
  split <;> rfl
/-- the state at a def's entry -/
theorem si_entry {C : Cn} {p : Py} {N : List Str} {B : Addr} {G H : Hp} {b : Bg} {vs' : List V} {ds : List D} (st : StOk B G H b) (hr : Rps C.K G vs' ds) (hds : ds.length = p.np) (hn : p.ns = N.length) (hle : (if p.bag = true then 1 else 0) + p.np ≤ p.ns) (hbs : C.bs = if p.bag = true then some 0 else none) :
    SI C B G H (List.replicate p.ns 0) G b H (L2.start N ((if p.bag = true then [.ref B] else []) ++ vs')) (entry p ds) := by
  have hl := hr.length
  have hvl : ((if p.bag = true then [V.ref B] else []) ++ vs').length = (if p.bag = true then 1 else 0) + p.np := by
    rw [List.length_append, hl, hds]
    cases p.bag <;> simp
  refine ⟨.refl st, ?_, ⟨fun _ => [], fun i d hd => ?_, fun _ _ _ _ ha => by simp at ha⟩, fun i hi => ?_, cel_of st.bag⟩
  · rw [start_len (by omega)]
    unfold entry
    rw [List.length_append, List.length_append, List.length_map, List.length_replicate, hds]
    cases hb : p.bag with
    | false => rw [hb] at hle; simp at hle ⊢; omega
    | true => rw [hb] at hle; simp at hle ⊢; omega
  · obtain ⟨h1, h2⟩ := entry_get hd
    obtain ⟨v, h3, h4⟩ := hr.get h2
    refine ⟨v, start_get ?_, ?_, List.nodup_nil, by simp⟩
    · cases hb : p.bag with
      | false => rw [hb] at h3; simpa using h3
      | true =>
        rw [hb] at h1 h3
        simp only [if_true] at h1 h3 ⊢
        cases i with
        | zero => omega
        | succ i => simpa using h3
    · rw [lvl_rep]; exact ⟨rfl, h4⟩
  · rw [hbs] at hi
    cases hb : p.bag with
    | false => rw [hb] at hi; simp at hi
    | true =>
      rw [hb] at hi
      have e : i = 0 := by simpa using hi.symm
      subst e
      refine ⟨start_get (by simp), ?_⟩
      unfold entry
      rw [hb]
      rfl
/-- ALL DEFS: by the depth of calls -/
theorem gn_all (hm : ModOk K mg es) (ck : ∀ e ∈ es, ckDef es e = true) (take : ∀ k e f fd, e ∈ es → e.m = .take → EntOk K mg e f fd → Gn P w K mg base (k + 1) f fd (pars e) (pr K (fun ds => match ds with | [.int n] => takeM n | _ => fail) true 1 9)) :
    ∀ (k i : Nat) (e : Ent) (f : Addr) (fd : FuncData), es[i]? = some e → EntOk K mg e f fd → Gn P w K mg base k f fd (pars e) (pr K (run (Ft es) k i) (fnBag e.m) (fnNp e.m) (fnOwn e.m)) := by
  intro k
  induction k with
  | zero => intro i e f fd he E; exact gn_zero fun ds b r h => by cases h
  | succ k ih =>
    intro i e f fd he E
    have hF : (Ft es)[i]? = some e.m := by unfold Ft; rw [List.getElem?_map, he]; rfl
    have hme : e ∈ es := List.mem_of_getElem? he
    cases hm' : e.m with
    | take =>
      have q : run (Ft es) (k + 1) i = fun ds => match ds with | [.int n] => takeM n | _ => fail := by
        funext ds
        unfold run
        rw [hF, hm']
        all_goals rfl
      rw [q]
      exact take k e f fd hme hm' E
    | py p =>
      have c := ck e hme
      unfold ckDef at c
      rw [hm'] at c
      dsimp only at c
      obtain ⟨c, c4⟩ := and2 c
      obtain ⟨c, c3⟩ := and2 c
      obtain ⟨c1, c2⟩ := and2 c
      have hns := of_decide_eq_true c2
      have hle := of_decide_eq_true c3
      have S := scB_ok c1
      have hpl : (pars e).length = (if p.bag = true then 1 else 0) + p.np := by
        have := pars_len (e := e) (by rw [hm']; show (if p.bag = true then 1 else 0) + p.np ≤ _; omega)
        rw [hm'] at this
        exact this
      obtain ⟨oc, od, dV, kV, doc, pm, an, cdv, ct, osl, rfl, lk, hcd, _, _⟩ := E.fn.ex
      cases hck : ckSs (scOf es e) p.own [] (List.replicate p.ns 0) p.body e.d.body with
      | none => rw [hck] at c4; cases c4
      | some r =>
        refine gn_of lk hcd S (pr_cnt hpl) fun Ar outs sh H vs Q hr hq hw => ?_
        have xs : XS (scOf es e) (cxOf noX P w K mg base e.N e.d.qual e.d.scope f cdv Ar outs sh H noE).nox ⟨K, run (Ft es) k, if p.bag = true then some 0 else none, ownF es⟩ := by
          refine ⟨rfl, S.nd, rfl, fun _ _ => rfl, rfl, ?_, rfl, ⟨rfl, hr.mono (Nat.zero_le _), hq, hm.sys, hm.free⟩, fun q hqm => ?_, fun q hqm => hm.con e hme q hqm⟩
          · show _ = if fnBag e.m = true then some 0 else none
            rw [hm']
            rfl
          · obtain ⟨j, e2, h1, rfl⟩ := tbl_mem hqm
            obtain ⟨f2, fd2, E2⟩ := hm.ents e2 (List.mem_of_getElem? h1)
            refine ⟨k, f2, fd2, pars e2, ?_, hr, E2.mg, E2.fn.kp, E2.bind⟩
            have g := ih j e2 f2 fd2 h1 E2
            rw [Nat.zero_add]
            have ho : ownF es j = fnOwn e2.m := by unfold ownF; rw [h1]
            show Gn P w K mg base k f2 fd2 (pars e2) (pr K (run (Ft es) k j) (fnBag e2.m) (fnNp e2.m) (ownF es j))
            rw [ho]
            exact g
        refine ⟨zss ⟨K, run (Ft es) k, if p.bag = true then some 0 else none, ownF es⟩ p.own [] (List.replicate p.ns 0) p.body (r.getD []), PSs.nox (ckSs_ok PassesOwn.never p.body _ _ _ _ _ r xs hck (r.getD []) fun g e => by rw [e]; rfl), ?_⟩
        obtain ⟨B, G, b, ds, res, b', vs', rfl, hds, st, hrs, hrun, q⟩ := hw
        have hrun2 : bnd (exs (run (Ft es) k) (entry p ds) p.body) outD b = some (res, b') := by
          unfold run at hrun
          rw [hF, hm'] at hrun
          dsimp only at hrun
          rw [if_pos (show ds.length = p.np from hds)] at hrun
          exact hrun
        obtain ⟨o, b1, h1, h2⟩ := bnd_some hrun2
        refine ⟨B, G, H, G, b, entry p ds, o, b1, si_entry st hrs hds hns hle rfl, h1, ?_⟩
        cases o with
        | nx ρ1 =>
          obtain ⟨rfl, rfl⟩ := ret_some h2
          exact fun G' H' σ' S' => q .non G' H' [] S'.p (.nc rfl .non) List.nodup_nil (by simp)
        | rt d =>
          obtain ⟨rfl, rfl⟩ := ret_some h2
          exact q
        | bk ρ1 => cases h2
        | ct ρ1 => cases h2
end
end Dn

set_option Elab.async false
set_option linter.all false
set_option maxRecDepth 100000
/-! Dn, part W: a law's end over what its def keeps while nothing is shown. -/
namespace Dn
open PySem PySem.Spec PyProof.Rows L2
section
variable {P : Program} {w : World} {K : PySem.W.Frag} {mg mb : Str → Option Value} {k : Nat} {fa a : Addr} {fd : FuncData} {x : Str} {want : List V → Hp → VK → Prop} {sh : Shared} {us : List Value} {ns : List Int}
/-- from an abstract heap in which nothing but the script may be held -/
theorem law_from (KX : K.In sh.heap) (hG : sh.heap.Ns mainGlobals mg) (hB : sh.heap.Ns builtinsNs mb) (hbb : ∀ x : Str, x ≠ "__name__" → mb x = bootBuiltins x) (lim : sh.heap.NoLimit) (gens : sh.gens = #[])
    (ha : sh.heap.get? a = some { cls := .type "list", data := .seq us.toArray }) (room : Room k callerA) (F : ∀ bas : Heap, K.In bas → bas.Ns mainGlobals mg → Gn P w K mg bas k fa fd [x] want)
    (bind : ∀ (s : Shared) (u : Value), BindsTo s fd ⟨[u], []⟩ [(x, u)]) {H : Hp} (only : Only H) (hw : want [.ref a] H fun v _ => v = .bl true) (hok : HOk P w H sh.heap) (hA : ∀ b, H b ≠ none → b = a) (hK : H a ≠ none → K.lookup a = none) :
    codeAny (model P w) callerA (.call (.ref fa) ⟨[.ref a], []⟩) (fun r s2 => r = .ok (.ret (.bool true)) ∧ OldK sh.heap s2.heap ∧ s2.os = sh.os ∧ AllBare s2.gens) sh := by
  have keep : ∀ {b : Addr} {o : Obj}, sh.heap.get? b = some o → H b = none → (hidT sh.heap H).get? b = some o := fun e z => hidT_get e z
  have free : ∀ {b : Addr} {o : Obj} {es : Array DictEntry} {ep : Nat}, sh.heap.get? b = some o → o.data = .dict es ep → H b = none := by
    intro b o es ep e d
    by_cases q : H b = none
    · exact q
    · have z := hA b q
      subst z
      rw [ha] at e
      cases e
      have d2 : Data.seq us.toArray _ = Data.dict es ep := d
      cases d2
  have ns_ : ∀ {b : Addr} {m : Str → Option Value}, sh.heap.Ns b m → (hidT sh.heap H).Ns b m := fun {b m} ⟨o, es, ep, e, d, r⟩ => ⟨o, es, ep, keep e (free e d), d, r⟩
  have KB : K.In (hidT sh.heap H) := fun b o e => keep (KX b o e) (by
    by_cases q : H b = none
    · exact q
    · have z := hA b q
      subst z
      rw [hK q] at e
      cases e)
  have hM : Mod K mg (hidT sh.heap H) := by
    obtain ⟨mc, l1, l2⟩ := lim
    exact ⟨KB, ns_ hG, ⟨mb, ns_ hB, hbb⟩, ⟨mc, ns_ l1, l2⟩⟩
  have e0 : Env0 P w K mg (hidT sh.heap H) callerA [] sh H := ⟨rfl, hM, fun b o e => of_hidT e, Nat.le_of_eq (hidT_size _ _), trivial, fun b hb => absurd (show b ∈ ([] : List Addr) from hb) (by simp), hok, .of_eq gens⟩
  refine codeAny_mono ((F _ KB (ns_ hG)).go callerA [] sh H ⟨[.ref a], []⟩ [.ref a] [.ref a] _ room rfl e0 (bind sh (.ref a)) (.cons rfl .nil) hw) fun r s2 h => ?_
  match r, h with
  | .ok (.ret u), h =>
    obtain ⟨v, H2, os, bare, un, hok2, rv, qv⟩ := h
    have qv : v = .bl true := qv
    subst qv
    obtain rfl : u = Value.bool true := rv
    refine ⟨rfl, OldK.of_keep fun b o e => ?_, os, bare⟩
    by_cases q : H b = none
    · exact un.keep b o e q (by intro z; exact absurd (show b ∈ ([] : List Addr) from z) (by simp)) (by simp)
    · rcases only b with z | ⟨ob, xs, z⟩
      · exact absurd z q
      · have z2 := un.frzs b ob _ z
        obtain ⟨g1, _⟩ := hok b _ z
        obtain ⟨g2, _⟩ := hok2 b _ z2
        rw [e] at g1
        cases g1
        exact g2
theorem law_end (KX : K.In sh.heap) (hG : sh.heap.Ns mainGlobals mg) (hB : sh.heap.Ns builtinsNs mb) (hbb : ∀ x : Str, x ≠ "__name__" → mb x = bootBuiltins x) (lim : sh.heap.NoLimit) (gens : sh.gens = #[])
    (ha : sh.heap.get? a = some { cls := .type "list", data := .seq us.toArray }) (hi : IntsAre us ns) (hl : ns.length ≤ sizeLine) (room : Room k callerA) (F : ∀ bas : Heap, K.In bas → bas.Ns mainGlobals mg → Gn P w K mg bas k fa fd [x] want)
    (bind : ∀ (s : Shared) (u : Value), BindsTo s fd ⟨[u], []⟩ [(x, u)]) (hw : ∀ H : Hp, Only H → SqL K H a (ns.map V.int) → want [.ref a] H fun v _ => v = .bl true) :
    codeAny (model P w) callerA (.call (.ref fa) ⟨[.ref a], []⟩) (fun r s2 => r = .ok (.ret (.bool true)) ∧ OldK sh.heap s2.heap ∧ s2.os = sh.os ∧ AllBare s2.gens) sh := by
  have rv := vals_ints hi
  have lenV := hi.length
  cases hk : K.lookup a with
  | some o =>
    have e := KX a o hk
    rw [ha] at e
    cases e
    have on : Only fun _ => none := fun _ => .inl rfl
    have sq : SqL K (fun _ => none) a (ns.map V.int) := .inr ⟨_, us.toArray, _, hk, rfl, rfl, rfl, by rw [List.size_toArray, lenV]; exact hl, by simpa using rv⟩
    refine law_from KX hG hB hbb lim gens ha room F bind on (hw _ on sq) (fun b u z => ?_) (fun b z => absurd rfl z) fun z => absurd rfl z
    have z2 : (none : Option HO) = some u := z
    cases z2
  | none =>
    have at_ : ∀ b, b = a → (if b = a then some (HO.frz { cls := .type "list", data := .seq us.toArray } (.lst (ns.map V.int))) else none) = some (HO.frz { cls := .type "list", data := .seq us.toArray } (.lst (ns.map V.int))) := fun b q => if_pos q
    have on : Only fun b => if b = a then some (.frz { cls := .type "list", data := .seq us.toArray } (.lst (ns.map V.int))) else none := fun b => by
      by_cases q : b = a
      · exact .inr ⟨_, _, if_pos q⟩
      · exact .inl (if_neg q)
    refine law_from KX hG hB hbb lim gens ha room F bind on (hw _ on (.inl (.inr ⟨_, if_pos rfl⟩))) (fun b u z => ?_) (fun b z => ?_) fun _ => hk
    · by_cases q : b = a
      · have z2 := (at_ b q).symm.trans z
        cases z2
        subst q
        exact ⟨ha, by rw [List.length_map]; exact hl, us, _, rv, ha⟩
      · have z2 := (if_neg q).symm.trans z
        cases z2
    · by_cases q : b = a
      · exact q
      · exact absurd (if_neg q) z
end
/-- a law from its def's promise -/
theorem walkG {l : PySem.W.OpenLaw} {n k : Nat} {q : Program} {loose : List Str} {XP : (Str → Option Value) → Heap → Prop} {YP : World → Heap → Prop} {d : DefRec} {x : Str} (hn : l.most = some n) (hn2 : n ≤ sizeLine) (hdf : d.params.defaults = []) (room : Room k callerA)
    (F : ∀ (w : World) (mg : Str → Option Value) (fa : Addr) (h : Heap), YP w h → h.Ns mainGlobals mg → mg d.name = some (.ref fa) →
      ∃ (K : PySem.W.Frag) (fd : FuncData) (want : List V → Hp → VK → Prop), K.In h ∧ (∀ (s : Shared) (u : Value), BindsTo s fd ⟨[u], []⟩ [(x, u)]) ∧
        (∀ (H : Hp) (a : Addr) (ns : List Int), ns.length ≤ n → Only H → SqL K H a (ns.map V.int) → want [.ref a] H fun v _ => v = .bl true) ∧ ∀ bas : Heap, K.In bas → bas.Ns mainGlobals mg → Gn l.prog w K mg bas k fa fd [x] want) :
    PySem.W.WalkO q loose XP YP l.row.toRowW d [] (fun f vs => PySem.call f vs) := by
  refine Att.attach_call hn hdf fun w s₀ sh mg mb fa o pm cd doc a us ns G Y ho hd hcd hmg hobj hints hlen hg => ?_
  obtain ⟨K, fd, want, KX, hb, hw, hF⟩ := F w mg fa _ Y G.T.g hmg
  exact law_end KX G.T.g G.T.b G.T.builtins G.T.nolimit hg hobj hints (Nat.le_trans hlen hn2) room hF hb fun H hO hS => hw H a ns hlen hO hS
end Dn

set_option Elab.async false
set_option linter.all false
set_option maxRecDepth 100000
/-! Dn, part X: the bag made of the script. -/
namespace Dn
open PySem PySem.Spec PyProof.Rows L2
/-- the bag at the beginning -/
def bag0 (ns : List Int) : Bg := ⟨0, 1234567891, 0, (cutG ns none (some 63)).map fun i => if i < 0 then -i else i⟩
theorem bag0_ok (ns : List Int) : (bag0 ns).ok := by
  refine ⟨Int.le_refl _, by show (0 : Int) ≤ 1234567891; decide, by show (1234567891 : Int) < 2147483647; decide, Int.le_refl _, fun c hc => ?_, ?_⟩
  · obtain ⟨i, _, rfl⟩ := List.mem_map.mp hc
    show 0 ≤ if i < 0 then -i else i
    split <;> omega
  · show ((cutG ns none (some 63)).map _).length < 1000
    rw [List.length_map]
    unfold cutG
    rw [List.length_take]
    have : HT.sIx ns.length ns.length (some 63) ≤ 63 := by unfold HT.sIx; simp; omega
    omega
/-- what `_law_bag` keeps: it is handed a list of ints, and makes a bag of it -/
def wantBag (K : PySem.W.Frag) : List V → Hp → VK → Prop := fun vs H Q => ∃ a ns, vs = [.ref a] ∧ SqL K H a (ns.map V.int) ∧ ∀ B H', (∀ c o, H c = some o → H' c = some o) → H B = none → BagAt B H' (bag0 ns) → Q (.ref B) H'
def absI (i : Int) : Int := if i < 0 then -i else i
section
variable {X : Cx} {scope : Scope} {sn cn : Str} {p1 p2 p3 p4 p5 p6 p7 p8 p9 p10 p11 p12 p13 p14 : Pos} {j1 j2 j3 j4 : Nat} {N : List Str}
theorem bag_body (hx : XOk X 0) (hN : X.N = [sn, cn]) (hne : sn ≠ cn) (hs : SlotM X 0 sn) (ok : BlkOk X.N X.env.scope scope [(cn, 1)])
    (hc : ∀ (s : Shared) (H : Hp) (Ca : Addr) (cl : List (Str × Addr)) (fp : List Addr), PG (X.blk s H scope (compEnvC scope cl Ca X.env) fp) (.Name cn p7) (gName 1))
    (he : ∀ (s : Shared) (H : Hp) (Ca : Addr) (cl : List (Str × Addr)) (fp : List Addr), PE (X.blk s H scope (compEnvC scope cl Ca X.env) fp) (.Call (.Name "abs" p4) [.Name cn p5] [] p6) (fun σ H Q => ∃ i, σ[1]? = some (some (.int i)) ∧ Q (.int (absI i)) H)) :
    PSs X [.Return (some (.List [.Constant (.int 0) j1 p1, .Constant (.int 1234567891) j2 p2, .Constant (.int 0) j3 p3, .ListComp (.Call (.Name "abs" p4) [.Name cn p5] [] p6) [⟨.Name cn p7, .Subscript (.Name sn p8) (.Slice none (some (.Constant (.int 63) j4 p9)) none p10) p11, [], 0⟩] scope p12] p13)) p14]
      (fun E σ H => ∃ a ns, σ = [some (.ref a), none] ∧ SqL X.K H a (ns.map V.int) ∧ ∀ B H', (∀ c o, H c = some o → H' c = some o) → H B = none → BagAt B H' (bag0 ns) → E.rt (.ref B) H') := by
  have hnd : X.N.Nodup := by rw [hN]; simp [hne]
  refine wkSs (pss_one (ps_ret (pe_lst (pa_cons pe_int (pa_cons pe_int (pa_cons pe_int (pa_cons (pe_lc hx.calm hnd (pi_list (pe_slice sl_list (pe_var hs.ix hs.vis hs.deb hs.cd) po_none (po_some pe_int))) ok hc (fun _ _ _ _ _ => pts_nil) he) pa_nil))))))) fun E σ H ⟨a, ns, e, hq, q⟩ => ?_
  subst e
  refine ⟨.ref a, rfl, 63, rfl, a, _, rfl, hq, fun p hp => ⟨p, rfl, ⟨_, .inl (.inl upd_same)⟩, fun L hL => ?_⟩⟩
  have npL : p ≠ L := fun z => by rw [← z, upd_same] at hL; cases hL
  have hHL : H L = none := by rw [upd_ne (Ne.symm npL)] at hL; exact hL
  have cm : cutV (ns.map V.int) none (some 63) = (cutG ns none (some 63)).map V.int := cutV_map _ _ _
  have ln : (cutG ns none (some 63)).length < 1000 := by have := (bag0_ok ns).sz; unfold bag0 at this; rw [List.length_map] at this; exact this
  generalize hcs : cutG ns none (some 63) = cs at cm ln
  rw [cm] at hL ⊢
  refine lc_list (K := X.K) (a := p) (xs := cs.map V.int) (g := gName 1) (tt := tYes) (te := fun σ H Q => ∃ i, σ[1]? = some (some (.int i)) ∧ Q (.int (absI i)) H) (vs := List.map (fun x => x.snd) [(cn, 1)]) (σ := [some (.ref a), none])
    (Qd := fun H1 => [V.int 0, .int 1234567891, .int 0, .ref L].length ≤ sizeLine ∧ ∀ p, H1 p = none → E.rt (.ref p) (upd H1 p (.lst [V.int 0, .int 1234567891, .int 0, .ref L]))) (fun i H' => H' = upd (upd H p (.lst (cs.map V.int))) L (.lst ((cs.take i).map fun i => V.int (absI i)))) rfl (fun i H' _ h => ?_) (fun i y H' hy h => ?_) fun H' h => ?_
  · rw [h]
    exact .inl (.inl (by rw [upd_ne npL, upd_same]))
  · rw [List.getElem?_map] at hy
    obtain ⟨c, hc1, rfl⟩ := Option.map_eq_some_iff.mp hy
    refine ⟨?_, ?_⟩
    · rfl
    · have goal : ∃ j, ((wipe [some (V.ref a), none] [1]).set 1 (some (.int c)))[1]? = some (some (.int j)) ∧ ∃ acc, H' L = some (.lst acc) ∧ acc.length < sizeLine ∧
          upd H' L (.lst (acc ++ [V.int (absI j)])) = upd (upd H p (.lst (cs.map V.int))) L (.lst ((cs.take (i + 1)).map fun i => V.int (absI i))) := by
        refine ⟨c, rfl, _, by rw [h, upd_same], ?_, ?_⟩
        · rw [List.length_map, List.length_take, sizeLine_eq]; omega
        · rw [h, upd_upd, List.take_add_one, hc1]
          simp
      exact goal
  · rw [List.length_map, List.take_length] at h
    subst h
    refine ⟨by rw [sizeLine_eq]; show 4 ≤ 16777216; decide, fun B hB => ?_⟩
    have nBL : B ≠ L := fun z => by rw [z, upd_same] at hB; cases hB
    have hB2 : (upd H p (.lst (cs.map V.int))) B = none := by rw [upd_ne nBL] at hB; exact hB
    have nBp : B ≠ p := fun z => by rw [z, upd_same] at hB2; cases hB2
    have hB3 : H B = none := by rw [upd_ne nBp] at hB2; exact hB2
    refine q B _ (fun c o e => ?_) hB3 ⟨bag0_ok ns, L, Ne.symm nBL, upd_same, ?_⟩
    · have c1 : c ≠ B := fun z => by subst z; rw [hB3] at e; cases e
      have c2 : c ≠ L := fun z => by subst z; rw [hHL] at e; cases e
      have c3 : c ≠ p := fun z => by subst z; rw [hp] at e; cases e
      rw [upd_ne c1, upd_ne c2, upd_ne c3]; exact e
    · rw [upd_ne (Ne.symm nBL), upd_same]
      unfold bag0
      rw [hcs, List.map_map]
      rfl
end
end Dn

set_option Elab.async false
set_option linter.all false
set_option maxRecDepth 100000
/-! Dn, part Y: `_law_bag` keeps its promise. -/
namespace Dn
open PySem PySem.Spec PyProof.Rows L2
def scBag (d : He.DefD) (sn cn : Str) : Sc := ⟨[sn, cn], d.scope, fun _ => true, [], none, fun _ => 9, []⟩
/-- is it the def that makes the bag -/
def bagB (d : He.DefD) (sn cn : Str) : Bool := match d.body with
  | [.Return (some (.List [.Constant (.int i1) _ _, .Constant (.int i2) _ _, .Constant (.int i3) _ _, .ListComp (.Call (.Name ab _) [.Name c1 _] [] _) [⟨.Name c2 _, .Subscript (.Name s1 _) (.Slice none (some (.Constant (.int i4) _ _)) none _) _, [], 0⟩] scope _] _)) _] =>
    decide (i1 = 0) && decide (i2 = 1234567891) && decide (i3 = 0) && decide (i4 = 63) && ab == Str.ofString "abs" && c1 == cn && c2 == cn && s1 == sn && scB [sn, cn] [sn] d.scope && blkC [sn, cn] d.scope scope [(cn, 1)] &&
      slotB (scBag d sn cn) 0 sn && slotB ((scBag d sn cn).blk scope) 1 cn && locB ((scBag d sn cn).blk scope) cn && glB ((scBag d sn cn).blk scope) (Str.ofString "abs") && !(sn == cn)
  | _ => false
section
variable {P : Program} {w : World} {K : PySem.W.Frag} {mg : Str → Option Value} {base : Heap} {es : List Ent}
theorem gn_bag {d : He.DefD} {f : Addr} {fd : FuncData} {sn cn : Str} (hm : ModOk K mg es) (E : FunD K d.name d.qual d.params d.body d.scope [] [] f fd) (h : bagB d sn cn = true) (k : Nat) : Gn P w K mg base (k + 1) f fd [sn] (wantBag K) := by
  obtain ⟨oc, od, dV, kV, doc, pm, an, cdv, ct, osl, rfl, lk, hcd, _, _⟩ := E.ex
  unfold bagB at h
  split at h
  · rename_i i1 j1 p1 i2 j2 p2 i3 j3 p3 ab p4 c1 p5 p6 c2 p7 s1 p8 i4 j4 p9 p10 p11 scope p12 p13 p14 hbody
    obtain ⟨h, h15⟩ := and2 h
    obtain ⟨h, h14⟩ := and2 h
    obtain ⟨h, h13⟩ := and2 h
    obtain ⟨h, h12⟩ := and2 h
    obtain ⟨h, h11⟩ := and2 h
    obtain ⟨h, h10⟩ := and2 h
    obtain ⟨h, h9⟩ := and2 h
    obtain ⟨h, h8⟩ := and2 h
    obtain ⟨h, h7⟩ := and2 h
    obtain ⟨h, h6⟩ := and2 h
    obtain ⟨h, h5⟩ := and2 h
    obtain ⟨h, h4⟩ := and2 h
    obtain ⟨h, h3⟩ := and2 h
    obtain ⟨h1, h2⟩ := and2 h
    have S := scB_ok h9
    have ne : sn ≠ cn := by
      intro z
      rw [z] at h15
      simp at h15
    have z1 := of_decide_eq_true h1
    have z2 := of_decide_eq_true h2
    have z3 := of_decide_eq_true h3
    have z4 := of_decide_eq_true h4
    have z5 := eq_of_beq h5
    have z6 := eq_of_beq h6
    have z7 := eq_of_beq h7
    have z8 := eq_of_beq h8
    subst z1 z2 z3 z4 z5 z6 z7 z8
    refine gn_of lk hcd S (fun vs H Q ⟨a, ns, e, _⟩ => by rw [e]; rfl) fun Ar outs sh H vs Q hr hq hw => ?_
    have xs : XS (scBag d s1 c2) (cxOf noX P w K mg base [s1, c2] d.qual d.scope f cdv Ar outs sh H noE).nox ⟨K, fun _ _ => fail, none, fun _ => 9⟩ :=
      ⟨rfl, S.nd, rfl, fun _ _ => rfl, rfl, rfl, rfl, ⟨rfl, hr.mono (Nat.zero_le _), hq, hm.sys, hm.free⟩, fun q hq => absurd (show q ∈ ([] : List (Str × Nat × Bool × Nat)) from hq) (by simp), fun q hq => absurd (show q ∈ ([] : List (Str × D)) from hq) (by simp)⟩
    have sl := slot_of xs h11
    have key := bag_body (X := (cxOf noX P w K mg base [s1, c2] d.qual d.scope f cdv Ar outs sh H noE).nox) (p1 := p1) (p2 := p2) (p3 := p3) (p4 := p4) (p5 := p5) (p6 := p6) (p7 := p7) (p8 := p8) (p9 := p9) (p10 := p10) (p11 := p11) (p12 := p12) (p13 := p13) (p14 := p14) (j1 := j1) (j2 := j2) (j3 := j3) (j4 := j4) (scope := scope) (sn := s1) (cn := c2)
      xs.ok rfl ne ⟨sl.ix, sl.vis, sl.deb, sl.cd⟩ (by exact blkOk_by h10) (fun s H Ca cl fp => ?_) (fun s H Ca cl fp => ?_)
    · rw [hbody]
      refine ⟨_, PSs.nox key, ?_⟩
      obtain ⟨a, ns, rfl, hq2, q⟩ := hw
      exact ⟨a, ns, rfl, hq2, q⟩
    · have xb := xs.blk (s := s) (H := H) (scope := scope) (cl := cl) (Ca := Ca) (fp := fp)
      obtain ⟨l1, l2⟩ := loc_of xb h13
      exact pg_name S.nd rfl l1 l2
    · have xb := xs.blk (s := s) (H := H) (scope := scope) (cl := cl) (Ca := Ca) (fp := fp)
      have sb := slot_of xb h12
      refine wkE (pe_callB call_abs (gl_of xb h14) (hm.free "abs" (by decide)) boot_abs (pa_cons (pe_var sb.ix sb.vis sb.deb sb.cd) pa_nil)) fun σ H Q ⟨i, e1, q⟩ => ?_
      exact ⟨_, e1, i, rfl, q⟩
  · cases h
end
end Dn

set_option Elab.async false
set_option linter.all false
set_option maxRecDepth 100000
/-! Dn, part Z: the law's def. -/
namespace Dn
open PySem PySem.Spec PyProof.Rows L2
def scLaw (es : List Ent) (d : He.DefD) (N : List Str) : Sc := ⟨N, d.scope, fun _ => true, tbl 0 es, some 1, ownF es, es.flatMap (·.cs)⟩
/-- is it the law's def: first the bag, then what the term tells -/
def lawOk (es : List Ent) (d : He.DefD) (N : List Str) (bn : Str) (body : Sts) : Bool := match d.body with
  | .Assign [.Name x _] (.Call (.Name f _) [.Name y _] [] _) _ :: rest =>
    f == bn && scB N (N.take 1) d.scope && slotB (scLaw es d N) 0 y && slotB (scLaw es d N) 1 x && locB (scLaw es d N) x && glB (scLaw es d N) f && okName f && decide (2 ≤ N.length) &&
      (match ckSs (scLaw es d N) 0 [] (List.replicate N.length 0) body rest with
      | some _ => true
      | none => false)
  | _ => false
def wantLaw (K : PySem.W.Frag) (es : List Ent) (k : Nat) (N : List Str) (body : Sts) : List V → Hp → VK → Prop := fun vs H Q => ∃ a ns, vs = [.ref a] ∧ SqL K H a (ns.map V.int) ∧
  (∃ b', exs (run (Ft es) k) (List.replicate N.length none) body (bag0 ns) = some (.rt (.bl true), b')) ∧ ∀ H', Q (.bl true) H'
section
variable {P : Program} {w : World} {K : PySem.W.Frag} {mg : Str → Option Value} {base : Heap} {es : List Ent}
theorem si_law {C : Cn} {N : List Str} {B a : Addr} {H' : Hp} {b : Bg} {Γ : Gam} (hN : 2 ≤ N.length) (hb : BagAt B H' b) (hbs : C.bs = some 1) :
    SI C B (fun _ => none) H' Γ (fun _ => none) b H' ((L2.start N [.ref a]).set 1 (some (.ref B))) (List.replicate N.length none) := by
  have st : StOk B (fun _ => none) H' b := ⟨fun a o e => (by have e2 : (none : Option HO) = some o := e; cases e2), rfl, hb⟩
  have hl : (L2.start N [V.ref a]).length = N.length := start_len (by show 1 ≤ N.length; omega)
  refine ⟨.refl st, by rw [List.length_set, hl, List.length_replicate], ⟨fun _ => [], fun i d hd => ?_, fun _ _ _ _ h => by simp at h⟩, fun i hi => ?_, cel_of hb⟩
  · rw [List.getElem?_replicate] at hd
    by_cases q : i < N.length
    · rw [if_pos q] at hd; cases hd
    · rw [if_neg q] at hd; cases hd
  · rw [hbs] at hi
    have e : i = 1 := by simpa using hi.symm
    subst e
    refine ⟨by rw [List.getElem?_set_self (by rw [hl]; omega)], ?_⟩
    rw [List.getElem?_replicate, if_pos (by omega)]
theorem gn_law {d : He.DefD} {f fb : Addr} {fd fdb : FuncData} {N : List Str} {bn sn : Str} {body : Sts} {k : Nat} (hm : ModOk K mg es) (ck : ∀ e ∈ es, ckDef es e = true) (E : FunD K d.name d.qual d.params d.body d.scope [] [] f fd) (h : lawOk es d N bn body = true)
    (notake : ∀ e ∈ es, e.m ≠ .take) (hbag : Gn P w K mg base k fb fdb [sn] (wantBag K)) (hbm : mg bn = some (.ref fb)) (hbk : PySem.W.keepIn K (.ref fb) = true) (hbb : Binds K fdb [sn] []) :
    Gn P w K mg base (k + 1) f fd (N.take 1) (wantLaw K es k N body) := by
  obtain ⟨oc, od, dV, kV, doc, pm, an, cdv, ct, osl, rfl, lk, hcd, _, _⟩ := E.ex
  unfold lawOk at h
  split at h
  · rename_i x p1 fn p2 y p3 p4 p5 rest hbody
    obtain ⟨h, h9⟩ := and2 h
    obtain ⟨h, h8⟩ := and2 h
    obtain ⟨h, h7⟩ := and2 h
    obtain ⟨h, h6⟩ := and2 h
    obtain ⟨h, h5⟩ := and2 h
    obtain ⟨h, h4⟩ := and2 h
    obtain ⟨h, h3⟩ := and2 h
    obtain ⟨h1, h2⟩ := and2 h
    have z1 := eq_of_beq h1
    subst z1
    have hlen := of_decide_eq_true h8
    have S := scB_ok h2
    cases hck : ckSs (scLaw es d N) 0 [] (List.replicate N.length 0) body rest with
    | none => rw [hck] at h9; cases h9
    | some r =>
      refine gn_of lk hcd S (fun vs H Q ⟨a, ns, e, _⟩ => by rw [e, List.length_take]; show 1 = _; omega) fun Ar outs sh H vs Q hr hq hw => ?_
      have xs : XS (scLaw es d N) (cxOf noX P w K mg base N d.qual d.scope f cdv Ar outs sh H noE).nox ⟨K, run (Ft es) k, some 1, ownF es⟩ := by
        refine ⟨rfl, S.nd, rfl, fun _ _ => rfl, rfl, rfl, rfl, ⟨rfl, hr.mono (Nat.zero_le _), hq, hm.sys, hm.free⟩, fun q hqm => ?_, fun q hqm => by
          obtain ⟨e2, he2, hq2⟩ := List.mem_flatMap.mp hqm
          exact hm.con e2 he2 q hq2⟩
        obtain ⟨j, e2, g1, rfl⟩ := tbl_mem hqm
        obtain ⟨f2, fd2, E2⟩ := hm.ents e2 (List.mem_of_getElem? g1)
        refine ⟨k, f2, fd2, pars e2, ?_, hr, E2.mg, E2.fn.kp, E2.bind⟩
        have g := gn_all (P := P) (w := w) (base := base) hm ck (fun k e f fd he hmt => absurd hmt (notake e he)) k j e2 f2 fd2 g1 E2
        rw [Nat.zero_add]
        have ho : ownF es j = fnOwn e2.m := by unfold ownF; rw [g1]
        show Gn P w K mg base k f2 fd2 (pars e2) (pr K (run (Ft es) k j) (fnBag e2.m) (fnNp e2.m) (ownF es j))
        rw [ho]
        exact g
      have s0 := slot_of xs h3
      have s1 := slot_of xs h4
      obtain ⟨l1, l2⟩ := loc_of xs h5
      have call := e_call (X := (cxOf noX P w K mg base N d.qual d.scope f cdv Ar outs sh H noE).nox) (pn := p2) (pos := p4) hbag hr hq (gl_of xs h6) hbm hbk hbb (pa_cons (pe_var s0.ix s0.vis s0.deb s0.cd (pos := p3)) pa_nil) (name_of h7).1 rfl rfl
      have first := ps_set (X := (cxOf noX P w K mg base N d.qual d.scope f cdv Ar outs sh H noE).nox) (pos := p5) (pos' := p1) S.nd s1.ix l1 call rfl l2
      have body_ := ckSs_ok (C := ⟨K, run (Ft es) k, some 1, ownF es⟩) (X := (cxOf noX P w K mg base N d.qual d.scope f cdv Ar outs sh H noE).nox) PassesOwn.never body _ _ _ _ _ r xs hck (r.getD []) fun g e => by rw [e]; rfl
      rw [hbody]
      refine ⟨_, PSs.nox (pss_cons first body_), ?_⟩
      obtain ⟨a, ns, rfl, hq2, ⟨b', hex⟩, q⟩ := hw
      refine ⟨.ref a, start_get rfl, a, ns, rfl, hq2, fun B H' kp nB hB => ?_⟩
      refine ⟨B, fun _ => none, H', fun _ => none, _, List.replicate N.length none, _, b', si_law hlen hB rfl, hex, fun v G' H2 fp P2 R nd fr => ?_⟩
      have ev : v = .bl true := R.bl
      subst ev
      exact q H2
  · cases h
end
end Dn

set_option Elab.async false
set_option linter.all false
set_option maxRecDepth 100000
set_option maxHeartbeats 2000000
/-! Dn, part Hd: what the head tells: the defs, the free names, and that sys.modules stands. -/
namespace Dn
open PySem PySem.Spec PyProof.Rows L2
abbrev AlS : Type := Bool × He.AlD
/-- a constant of the module stands as told -/
def conOk (K : PySem.W.Frag) (p : Str × D) : Bool := match PySem.W.nsIn K mainGlobals p.1 with
  | some (some u) => isC K p.2 u
  | _ => false
def obsS (cs : List (Str × D)) (fa : List He.Fa) (fn : List He.DefD) (K : PySem.W.Frag) : AlS := ((K.lookup sysModules).isSome && cs.all (conOk K), He.obsD fa fn K)
def valS (fn : List He.DefD) : AlS := (true, He.valD fn)
def SaysS (cs : List (Str × D)) (fa : List He.Fa) (fn : List He.DefD) (K : PySem.W.Frag) : Prop := obsS cs fa fn K = valS fn
def obsSG (n : Nat) (cs : List (Str × D)) (fa : List He.Fa) (fn : List He.DefD) (g : Addr → Option Obj) : AlS := obsS cs fa fn (He.frG g (He.asD g n ++ [sysModules]))
def hookS (n : Nat) (cs : List (Str × D)) (fa : List He.Fa) (fn : List He.DefD) : PySem.W.Hook where
  α := AlS
  obs := fun s => obsSG n cs fa fn s.heap.get?
  val := fun _ => valS fn
  says := fun _ h => ∃ K : PySem.W.Frag, K.In h ∧ SaysS cs fa fn K
  of := fun _ _ e => ⟨_, He.frG_in, e⟩
  keeps := fun _ _ _ ⟨K, hK, c⟩ kp => ⟨K, PySem.W.Frag.In.keeps hK kp, c⟩
theorem obsSG_eq {n : Nat} {cs : List (Str × D)} {fa : List He.Fa} {fn : List He.DefD} {g : Addr → Option Obj} {s : Shared} (h : ∀ a, g a = s.heap.get? a) : obsSG n cs fa fn g = (hookS n cs fa fn).obs s := by
  have e : g = s.heap.get? := funext h
  rw [e] <;> rfl
theorem SaysS.one {cs : List (Str × D)} {fa : List He.Fa} {fn : List He.DefD} {K : PySem.W.Frag} (c : SaysS cs fa fn K) : (K.lookup sysModules).isSome = true ∧ cs.all (conOk K) = true :=
  Bool.and_eq_true_iff.mp (show ((K.lookup sysModules).isSome && cs.all (conOk K)) = true from congrArg (fun z : AlS => z.1) c)
theorem SaysS.sys {cs : List (Str × D)} {fa : List He.Fa} {fn : List He.DefD} {K : PySem.W.Frag} (c : SaysS cs fa fn K) : ∃ o, K.lookup sysModules = some o := Option.isSome_iff_exists.mp c.one.1
theorem SaysS.con {cs : List (Str × D)} {fa : List He.Fa} {fn : List He.DefD} {K : PySem.W.Frag} {h : Heap} {mg : Str → Option Value} (c : SaysS cs fa fn K) (KX : K.In h) (G : h.Ns mainGlobals mg) : ∀ p ∈ cs, ∃ u, mg p.1 = some u ∧ GlobOk K u p.2 := fun p hp => by
  have q := List.all_eq_true.mp c.one.2 p hp
  unfold conOk at q
  split at q
  · rename_i u e
    exact ⟨u, PySem.W.mg_of KX G e, globOk_of q⟩
  · cases q
theorem SaysS.d {cs : List (Str × D)} {fa : List He.Fa} {fn : List He.DefD} {K : PySem.W.Frag} (c : SaysS cs fa fn K) : He.SaysD fa fn K := congrArg (fun z : AlS => z.2) c
/-! ### the text's defs -/
def noDef : He.DefD := ⟨("", none), "", "", ⟨[], [], none, [], [], none, []⟩, [], ⟨.function, [], false, false, []⟩, [], []⟩
def defsIn : List Stmt → List He.DefD
  | [] => []
  | .FunctionDef n a b _ _ _ sc _ _ _ :: r => ⟨(n, none), n, n, a, b, sc, [], []⟩ :: defsIn r
  | _ :: r => defsIn r
theorem defsIn_plain : ∀ {l : List Stmt} {d : He.DefD}, d ∈ defsIn l → d.at_ = (d.name, none) ∧ d.dfl = [] ∧ d.kwd = []
  | [], _, h => by simp [defsIn] at h
  | st :: r, d, h => by
    have ih := @defsIn_plain r d
    cases st with
    | FunctionDef n a b _ _ _ sc _ _ _ =>
      rcases List.mem_cons.mp (show d ∈ ⟨(n, none), n, n, a, b, sc, [], []⟩ :: defsIn r from h) with rfl | h
      · exact ⟨rfl, rfl, rfl⟩
      · exact ih h
    | _ => exact ih h
section
variable {fa : List He.Fa} {l : List Stmt} {K : PySem.W.Frag} {h : Heap} {mg : Str → Option Value}
theorem says_all {fn : List He.DefD} (c : He.SaysD fa fn K) : ∀ x ∈ fa, x.ok K = true := by
  have c1 := (Bool.and_eq_true_iff.mp (show ((fa.all fun f => f.ok K) && fn.all fun d => d.ok K) = true from congrArg (fun z : He.AlD => z.1) c)).1
  exact List.all_eq_true.mp c1
/-- a def's object, by its name -/
theorem says_def (KX : K.In h) (G : h.Ns mainGlobals mg) (c : He.SaysD fa (defsIn l) K) (hfa : ∀ d ∈ defsIn l, He.Fa.glo d.name ∈ fa) {d : He.DefD} (hd : d ∈ defsIn l) : ∃ fd, FunD K d.name d.qual d.params d.body d.scope [] [] (He.ga K d.name) fd ∧ mg d.name = some (.ref (He.ga K d.name)) := by
  obtain ⟨i, hi⟩ := List.mem_iff_getElem?.mp hd
  obtain ⟨fd, F⟩ := c.def_ i hi
  obtain ⟨e1, e2, e3⟩ := defsIn_plain hd
  have g := He.glo_ok KX G (says_all c _ (hfa d hd))
  refine ⟨fd, ?_, g⟩
  have v1 : d.dvs K = [] := by unfold He.DefD.dvs; rw [e2]; rfl
  have v2 : d.kws K = [] := by unfold He.DefD.kws; rw [e3]; rfl
  rw [v1, v2, e1] at F
  exact F
theorem getD_mem {α : Type} {l : List α} {j : Nat} {x : α} (h : j < l.length) : l.getD j x ∈ l := by
  rw [List.getD_eq_getElem?_getD, List.getElem?_eq_getElem h]
  exact List.getElem_mem h
end
end Dn

set_option Elab.async false
set_option linter.all false
set_option maxRecDepth 100000
/-! Dn, plain laws, part one: what the evaluator tells whatever is drawn. -/
namespace Dn
open PySem L2

/-- whatever is drawn, m goes through and tells something of Q -/
def Ok {α : Type} (m : M α) (Q : α → Prop) : Prop := ∀ b, ∃ a b', m b = some (a, b') ∧ Q a
section
variable {α β γ : Type}
theorem ok_ret {a : α} {Q : α → Prop} (h : Q a) : Ok (ret a) Q := fun b => ⟨a, b, rfl, h⟩
theorem ok_bnd {m : M α} {f : α → M β} {P : α → Prop} {Q : β → Prop} (h : Ok m P) (k : ∀ a, P a → Ok (f a) Q) : Ok (bnd m f) Q := fun b => by
  obtain ⟨a, b', e, p⟩ := h b
  obtain ⟨c, b2, e2, q⟩ := k a p b'
  exact ⟨c, b2, by unfold bnd; rw [e]; exact e2, q⟩
theorem Ok.mono {m : M α} {P Q : α → Prop} (h : Ok m P) (k : ∀ a, P a → Q a) : Ok m Q := fun b => by
  obtain ⟨a, b', e, p⟩ := h b
  exact ⟨a, b', e, k a p⟩
theorem ok_eq {m m' : M α} {Q : α → Prop} (e : m = m') (h : Ok m' Q) : Ok m Q := e ▸ h
@[simp] theorem bnd_r (a : α) (f : α → M β) : bnd (ret a) f = f a := rfl
@[simp] theorem bnd_f (f : α → M β) : bnd fail f = fail := rfl
@[simp] theorem bnd_b (m : M α) (f : α → M β) (g : β → M γ) : bnd (bnd m f) g = bnd m fun x => bnd (f x) g := by
  funext b
  show (match (match m b with | some (a, b') => f a b' | none => none) with | some (a, b') => g a b' | none => none) = (match m b with | some (a, b') => (match f a b' with | some (a, b') => g a b' | none => none) | none => none)
  cases m b <;> rfl
theorem bnd_id (m : M α) : bnd m ret = m := by
  funext b
  show (match m b with | some (a, b') => some (a, b') | none => none) = m b
  cases m b <;> rfl
@[simp] theorem lift_s (a : α) : lift (some a) = ret a := rfl
@[simp] theorem boolOf_b (b : Bool) : boolOf (.bl b) = ret b := rfl
@[simp] theorem intOf_i (i : Int) : intOf (.int i) = ret i := rfl
@[simp] theorem itemsOf_l (xs : List D) : itemsOf (.lst xs) = ret xs := rfl
@[simp] theorem itemsOf_t (xs : List D) : itemsOf (.tup xs) = ret xs := rfl
@[simp] theorem lstOf_l (xs : List D) : lstOf (.lst xs) = ret xs := rfl
@[simp] theorem lstOf_t (xs : List D) : lstOf (.tup xs) = ret xs := rfl
@[simp] theorem dctOf_d (xs : List (D × D)) : dctOf (.dct xs) = ret xs := rfl
theorem bnd_ite {c : Prop} [Decidable c] (a b : M α) (f : α → M β) : bnd (if c then a else b) f = if c then bnd a f else bnd b f := by
  by_cases h : c
  · rw [if_pos h, if_pos h]
  · rw [if_neg h, if_neg h]
theorem ok_ite {c : Prop} [Decidable c] {a b : M α} {Q : α → Prop} (h1 : c → Ok a Q) (h2 : ¬c → Ok b Q) : Ok (if c then a else b) Q := by
  by_cases h : c
  · rw [if_pos h]; exact h1 h
  · rw [if_neg h]; exact h2 h
theorem ok_lift {o : Option α} {a : α} {Q : α → Prop} (e : o = some a) (q : Q a) : Ok (lift o) Q := by rw [e]; exact ok_ret q
end

/-- one by one -/
abbrev All2 {α β : Type} (R : α → β → Prop) (xs : List α) (ys : List β) : Prop := PySem.W.EachIs R xs ys
theorem all2_map {α β γ : Type} {R : α → β → Prop} {f : γ → β} : ∀ {xs : List α} {zs : List γ}, All2 (fun x z => R x (f z)) xs zs → All2 R xs (zs.map f)
  | _, _, .nil => .nil
  | _, _, .cons h t => .cons h (all2_map t)
theorem all2_ex {α β γ : Type} {R : α → γ → Prop} {f : γ → β} : ∀ {xs : List α} {ys : List β}, All2 (fun x y => ∃ z, y = f z ∧ R x z) xs ys → ∃ zs, ys = zs.map f ∧ All2 R xs zs
  | _, _, .nil => ⟨[], rfl, .nil⟩
  | _, _, .cons h t => by
    obtain ⟨z, rfl, r⟩ := h
    obtain ⟨zs, rfl, rs⟩ := all2_ex t
    exact ⟨z :: zs, rfl, .cons r rs⟩
theorem all2_fst {α β : Type} {R : α → β → Prop} {g : β → α} (hr : ∀ x y, R x y → g y = x) : ∀ {xs : List α} {ys : List β}, All2 R xs ys → ys.map g = xs
  | _, _, .nil => rfl
  | _, _, .cons h t => by rw [List.map_cons, hr _ _ h, all2_fst hr t]
theorem all2_right {α β : Type} {R : α → β → Prop} : ∀ {xs : List α} {ys : List β}, All2 R xs ys → ∀ y ∈ ys, ∃ x ∈ xs, R x y
  | _, _, .nil, _, h => by cases h
  | _, _, .cons r t, y, h => by
    rcases List.mem_cons.mp h with rfl | h
    · exact ⟨_, List.mem_cons_self, r⟩
    · obtain ⟨x, hx, q⟩ := all2_right t y h
      exact ⟨x, List.mem_cons_of_mem _ hx, q⟩

/-! ### loops -/
theorem loop_ret {f : D → M (List D)} {g : D → List D} : ∀ (xs : List D), (∀ x ∈ xs, f x = ret (g x)) → loopM f xs = ret (xs.flatMap g)
  | [], _ => rfl
  | x :: xs, h => by
    show bnd (f x) (fun a => bnd (loopM f xs) fun r => ret (a ++ r)) = _
    rw [h x List.mem_cons_self, loop_ret xs fun y hy => h y (List.mem_cons_of_mem _ hy)]
    rfl
theorem loop_map {α : Type} {f : D → M (List D)} {e : α → D} {g : α → D} (xs : List α) (h : ∀ x ∈ xs, f (e x) = ret [g x]) : loopM f (xs.map e) = ret (xs.map g) := by
  induction xs with
  | nil => rfl
  | cons x xs ih =>
    show bnd (f (e x)) (fun a => bnd (loopM f (xs.map e)) fun r => ret (a ++ r)) = _
    rw [h x List.mem_cons_self, ih fun y hy => h y (List.mem_cons_of_mem _ hy)]
    rfl
theorem loop_flat {α : Type} {f : D → M (List D)} {e : α → D} {g : α → List D} (xs : List α) (h : ∀ x ∈ xs, f (e x) = ret (g x)) : loopM f (xs.map e) = ret (xs.flatMap g) := by
  induction xs with
  | nil => rfl
  | cons x xs ih =>
    show bnd (f (e x)) (fun a => bnd (loopM f (xs.map e)) fun r => ret (a ++ r)) = _
    rw [h x List.mem_cons_self, ih fun y hy => h y (List.mem_cons_of_mem _ hy)]
    rfl
theorem ok_loop {R : D → D → Prop} {f : D → M (List D)} : ∀ (xs : List D), (∀ x ∈ xs, Ok (f x) fun l => ∃ y, l = [y] ∧ R x y) → Ok (loopM f xs) fun ys => All2 R xs ys
  | [], _ => ok_ret .nil
  | x :: xs, h => by
    refine ok_bnd (h x List.mem_cons_self) fun l hl => ?_
    obtain ⟨y, rfl, r⟩ := hl
    exact ok_bnd (ok_loop xs fun z hz => h z (List.mem_cons_of_mem _ hz)) fun ys hys => ok_ret (.cons r hys)
theorem iter_ok {f : Rho → D → M Out} (I : List D → Rho → Prop) : ∀ (xs done : List D) (ρ : Rho), I done ρ →
    (∀ dn x r ρ, done ++ xs = dn ++ x :: r → I dn ρ → Ok (f ρ x) fun o => ∃ ρ', (o = .nx ρ' ∨ o = .ct ρ') ∧ I (dn ++ [x]) ρ') → Ok (iter f ρ xs) fun o => ∃ ρ', o = .nx ρ' ∧ I (done ++ xs) ρ'
  | [], done, ρ, h, _ => ok_ret ⟨ρ, rfl, by rw [List.append_nil]; exact h⟩
  | x :: xs, done, ρ, h, k => by
    refine ok_bnd (k done x xs ρ rfl h) fun o ho => ?_
    obtain ⟨ρ', e, i⟩ := ho
    have t := iter_ok I xs (done ++ [x]) ρ' i fun dn y r ρ hy => k dn y r ρ (by rw [← hy, List.append_assoc]; rfl)
    rw [List.append_assoc] at t
    rcases e with rfl | rfl
    · exact t
    · exact t
/-- a loop over items of one kind -/
theorem iter_map {α : Type} {f : Rho → D → M Out} {e : α → D} (I : List α → Rho → Prop) : ∀ (xs done : List α) (ρ : Rho), I done ρ →
    (∀ dn x r ρ, done ++ xs = dn ++ x :: r → I dn ρ → Ok (f ρ (e x)) fun o => ∃ ρ', (o = .nx ρ' ∨ o = .ct ρ') ∧ I (dn ++ [x]) ρ') → Ok (iter f ρ (xs.map e)) fun o => ∃ ρ', o = .nx ρ' ∧ I (done ++ xs) ρ'
  | [], done, ρ, h, _ => ok_ret ⟨ρ, rfl, by rw [List.append_nil]; exact h⟩
  | x :: xs, done, ρ, h, k => by
    refine ok_bnd (k done x xs ρ rfl h) fun o ho => ?_
    obtain ⟨ρ', q, i⟩ := ho
    have t := iter_map (f := f) (e := e) I xs (done ++ [x]) ρ' i fun dn y r ρ hy => k dn y r ρ (by rw [← hy, List.append_assoc]; rfl)
    rw [List.append_assoc] at t
    rcases q with rfl | rfl
    · exact t
    · exact t
/-- a loop that keeps something -/
theorem iter_keep {f : Rho → D → M Out} {I : Rho → Prop} (xs : List D) (ρ : Rho) (h : I ρ)
    (k : ∀ x ∈ xs, ∀ ρ, I ρ → Ok (f ρ x) fun o => ∃ ρ', (o = .nx ρ' ∨ o = .ct ρ') ∧ I ρ') : Ok (iter f ρ xs) fun o => ∃ ρ', o = .nx ρ' ∧ I ρ' :=
  (iter_ok (fun _ => I) xs [] ρ h fun dn x r ρ hx i => k x (by rw [show xs = dn ++ x :: r from hx]; simp) ρ i).mono fun o ho => ho

/-! ### the run of a def -/
theorem run_py {F : List Fn} {i : Nat} {p : Py} (h : F[i]? = some (.py p)) (k : Nat) {ds : List D} (hl : ds.length = p.np) : run F (k + 1) i ds = bnd (exs (run F k) (entry p ds) p.body) outD := by
  show (match F[i]? with | some (.py p) => if ds.length = p.np then bnd (exs (run F k) (entry p ds) p.body) outD else fail | some .take => _ | none => fail) = _
  rw [h]
  exact if_pos hl
theorem exs_nil (Φ : Nat → List D → M D) (ρ : Rho) : exs Φ ρ .nil = ret (.nx ρ) := by simp [exs]
theorem exs_cons (Φ : Nat → List D → M D) (ρ : Rho) (s : St) (r : Sts) : exs Φ ρ (.cons s r) = bnd (ex Φ ρ s) fun o => match o with
    | .nx ρ' => exs Φ ρ' r
    | o => ret o := by
  rw [exs]
  all_goals first | rfl | congr 1
/-- a statement that goes on -/
theorem ok_step {Φ : Nat → List D → M D} {ρ : Rho} {s : St} {r : Sts} {P : Rho → Prop} {Q : Out → Prop} (h : Ok (ex Φ ρ s) fun o => ∃ ρ', o = .nx ρ' ∧ P ρ') (k : ∀ ρ', P ρ' → Ok (exs Φ ρ' r) Q) : Ok (exs Φ ρ (.cons s r)) Q := by
  rw [exs_cons]
  refine ok_bnd h fun o ho => ?_
  obtain ⟨ρ', rfl, p⟩ := ho
  exact k ρ' p

/-! ### sizes, and what can be shown and compared -/
mutual
/-- no dict, no instance; small numbers, texts of signs -/
def okD : D → Bool
  | .tup xs => okDs xs
  | .lst xs => okDs xs
  | .int i => decide (i.natAbs < 10 ^ 12)
  | .str s => s.cps.toList.all fun c => decide (c < 16 ^ 8)
  | .dct _ => false
  | .ins _ => false
  | _ => true
def okDs : List D → Bool
  | [] => true
  | x :: xs => okD x && okDs xs
end
mutual
def wD : D → Nat
  | .tup xs => wDs xs
  | .lst xs => wDs xs
  | .int _ => 40
  | .str s => s.cps.size
  | _ => 0
def wDs : List D → Nat
  | [] => 0
  | x :: xs => wD x + 1 + wDs xs
end
mutual
theorem flat_of_ok : ∀ d : D, okD d = true → flat d = true
  | .non, _ => rfl
  | .bl _, _ => rfl
  | .int _, _ => rfl
  | .str _, _ => rfl
  | .tup xs, h => by simpa [flat] using flats_of_ok xs (by simpa [okD] using h)
  | .lst xs, h => by simpa [flat] using flats_of_ok xs (by simpa [okD] using h)
  | .dct _, h => by simp [okD] at h
  | .ins _, h => by simp [okD] at h
theorem flats_of_ok : ∀ ds : List D, okDs ds = true → flats ds = true
  | [], _ => rfl
  | d :: ds, h => by
    have h' : okD d = true ∧ okDs ds = true := by simpa [okDs] using h
    simp [flats, flat_of_ok d h'.1, flats_of_ok ds h'.2]
end
theorem log2_lt {n k : Nat} (h : n < 2 ^ k) (hk : 0 < k) : n.log2 < k := by
  by_cases h0 : n = 0
  · subst h0; simpa using hk
  · exact (Nat.log2_lt h0).mpr h
mutual
theorem short_of_ok : ∀ d : D, okD d = true → (toP d).leavesShort 13 = true
  | .non, _ => rfl
  | .bl _, _ => rfl
  | .int i, h => by
    simp only [toP, PyData.leavesShort, decide_eq_true_eq]
    exact PyData.shown_int_le (by simpa [okD] using h)
  | .str s, h => by simpa [toP, PyData.leavesShort, okD] using h
  | .tup xs, h => by simpa [toP, PyData.leavesShort] using shorts_of_ok xs (by simpa [okD] using h)
  | .lst xs, h => by simpa [toP, PyData.leavesShort] using shorts_of_ok xs (by simpa [okD] using h)
  | .dct _, h => by simp [okD] at h
  | .ins _, h => by simp [okD] at h
theorem shorts_of_ok : ∀ ds : List D, okDs ds = true → PyData.leavesShortAll 13 (toPs ds) = true
  | [], _ => rfl
  | d :: ds, h => by
    have h' : okD d = true ∧ okDs ds = true := by simpa [okDs] using h
    simp [toPs, PyData.leavesShortAll, short_of_ok d h'.1, shorts_of_ok ds h'.2]
end
mutual
theorem showable_of_ok : ∀ d : D, okD d = true → (toP d).showable = true
  | .non, _ => rfl
  | .bl _, _ => rfl
  | .int i, h => by
    have h' : i.natAbs < 10 ^ 12 := by simpa [okD] using h
    simp only [toP, PyData.showable, decide_eq_true_eq]
    exact Nat.lt_trans (log2_lt (k := 40) (Nat.lt_trans h' (by decide)) (by decide)) (by decide)
  | .str s, h => rfl
  | .tup xs, h => by simpa [toP, PyData.showable] using showables_of_ok xs (by simpa [okD] using h)
  | .lst xs, h => by simpa [toP, PyData.showable] using showables_of_ok xs (by simpa [okD] using h)
  | .dct _, h => by simp [okD] at h
  | .ins _, h => by simp [okD] at h
theorem showables_of_ok : ∀ ds : List D, okDs ds = true → PyData.showableAll (toPs ds) = true
  | [], _ => rfl
  | d :: ds, h => by
    have h' : okD d = true ∧ okDs ds = true := by simpa [okDs] using h
    simp [toPs, PyData.showableAll, showable_of_ok d h'.1, showables_of_ok ds h'.2]
end
mutual
theorem weight_of_ok : ∀ d : D, okD d = true → (toP d).weight ≤ wD d
  | .non, _ => by simp [toP, PyData.weight, wD]
  | .bl _, _ => by simp [toP, PyData.weight, wD]
  | .int i, h => by
    have h' : i.natAbs < 10 ^ 12 := by simpa [okD] using h
    simp only [toP, PyData.weight, wD]
    have := log2_lt (k := 40) (Nat.lt_trans h' (by decide)) (by decide)
    split <;> omega
  | .str s, h => by simp [toP, PyData.weight, wD]
  | .tup xs, h => by simpa [toP, PyData.weight, wD] using weights_of_ok xs (by simpa [okD] using h)
  | .lst xs, h => by simpa [toP, PyData.weight, wD] using weights_of_ok xs (by simpa [okD] using h)
  | .dct _, h => by simp [okD] at h
  | .ins _, h => by simp [okD] at h
theorem weights_of_ok : ∀ ds : List D, okDs ds = true → PyData.weightAll (toPs ds) ≤ wDs ds
  | [], _ => by simp [toPs, PyData.weightAll, wDs]
  | d :: ds, h => by
    have h' : okD d = true ∧ okDs ds = true := by simpa [okDs] using h
    have a := weight_of_ok d h'.1
    have b := weights_of_ok ds h'.2
    simp only [toPs, PyData.weightAll, wDs]
    omega
end
theorem sz_line : sizeLine = line := sizeLine_eq
theorem show_ok {d : D} (h : okD d = true) (hd : dep d ≤ 60) (hw : wD d ≤ 2 ^ 20) : showOk d = true := by
  have h1 := noIns_of d (flat_of_ok d h)
  have h2 := showable_of_ok d h
  have h3 := PyData.shown_fits (B := 13) (by decide) (by decide) (short_of_ok d h) (Nat.le_trans (weight_of_ok d h) hw)
  rw [sz_line] at h3
  unfold showOk
  rw [h1, h2, decide_eq_true h3, decide_eq_true hd]
  rfl
theorem repr_ok {d : D} (h : okD d = true) (hd : dep d ≤ 60) (hw : wD d ≤ 2 ^ 20) : biM .repr d = some (.str (toP d).shown) := by
  show showD d = _
  unfold showD
  rw [if_pos (show_ok h hd hw)]
mutual
theorem eq_self : ∀ d : D, okD d = true → eqD d d = true
  | .non, _ => rfl
  | .bl b, _ => by simp [eqD]
  | .int i, _ => by simp [eqD]
  | .str s, _ => by simp [eqD]
  | .tup xs, h => by simpa [eqD] using eqs_self xs (by simpa [okD] using h)
  | .lst xs, h => by simpa [eqD] using eqs_self xs (by simpa [okD] using h)
  | .dct _, h => by simp [okD] at h
  | .ins _, h => by simp [okD] at h
theorem eqs_self : ∀ ds : List D, okDs ds = true → eqDs ds ds = true
  | [], _ => rfl
  | d :: ds, h => by
    have h' : okD d = true ∧ okDs ds = true := by simpa [okDs] using h
    simp [eqDs, eq_self d h'.1, eqs_self ds h'.2]
end
theorem eqOk_of {a b : D} (ha : okD a = true) (hb : okD b = true) (hd : dep a ≤ 60) : eqOk a b = true := by
  unfold eqOk roomy
  rw [flat_of_ok a ha, flat_of_ok b hb, decide_eq_true (Nat.le_trans (Nat.min_le_left _ _) hd)]
  rfl
theorem eqOk_of' {a b : D} (ha : okD a = true) (hb : okD b = true) (hd : dep b ≤ 60) : eqOk a b = true := by
  unfold eqOk roomy
  rw [flat_of_ok a ha, flat_of_ok b hb, decide_eq_true (Nat.le_trans (Nat.min_le_right _ _) hd)]
  rfl
theorem cmp_self {d : D} (h : okD d = true) (hd : dep d ≤ 60) : cmpD .eq d d = some true := by
  show (if eqOk d d = true then some (eqD d d) else none) = _
  rw [if_pos (eqOk_of h h hd), eq_self d h]
theorem eq_str (x y : Str) : cmpD .eq (.str x) (.str y) = some (x == y) := by
  show (if eqOk (.str x) (.str y) = true then some (eqD (.str x) (.str y)) else none) = _
  rw [if_pos (by simp [eqOk, flat, roomy, dep])]
  simp [eqD]
theorem ne_str (x y : Str) : cmpD .ne (.str x) (.str y) = some (!(x == y)) := by
  show (if eqOk (.str x) (.str y) = true then some (!eqD (.str x) (.str y)) else none) = _
  rw [if_pos (by simp [eqOk, flat, roomy, dep])]
  simp [eqD]
theorem eq_int (x y : Int) : cmpD .eq (.int x) (.int y) = some (x == y) := by
  show (if eqOk (.int x) (.int y) = true then some (eqD (.int x) (.int y)) else none) = _
  rw [if_pos (by simp [eqOk, flat, roomy, dep])]
  simp [eqD]
theorem ne_int (x y : Int) : cmpD .ne (.int x) (.int y) = some (!(x == y)) := by
  show (if eqOk (.int x) (.int y) = true then some (!eqD (.int x) (.int y)) else none) = _
  rw [if_pos (by simp [eqOk, flat, roomy, dep])]
  simp [eqD]
end Dn

set_option Elab.async false
set_option linter.all false
set_option maxRecDepth 100000
/-! Dn, plain laws, part two: the drawing that all the laws begin with. -/
namespace Dn
open PySem L2
/-- _law_take -/
def tkB : Sts := (.cons (.ifs (.cmp .eq (.bgi 0) (.ki 0)) (.cons (.asg (.nm 4) .bgc)
 (.cons (.low 4 0)
 (.cons .bgx
 (.cons (.ifs (.cmp .ge (.var 4) (.bin .pow (.ki 10) (.ki 18))) (.cons (.bgs 0 (.var 4))
 .nil) .nil)
 (.cons (.asg (.nm 5) (.bin .add (.bin .add (.bin .mul (.bgi 1) (.ki 48271)) (.bin .mod (.bi .int (.var 4)) (.ki 2147483647))) (.bin .mul (.ki 7919) (.bgi 2))))
 (.cons (.low 5 0)
 (.cons (.bgs 1 (.bin .mod (.bi .int (.var 5)) (.ki 2147483647)))
 .nil))))))) .nil)
 (.cons (.ifs (.cmp .gt (.bgi 0) (.ki 0)) (.cons (.asg (.nm 6) (.bin .mod (.bi .int (.bgi 0)) (.var 1)))
 (.cons (.low 6 0)
 (.cons (.bgs 0 (.bin .fdiv (.bi .int (.bgi 0)) (.var 1)))
 (.cons (.ret (.var 6))
 .nil)))) .nil)
 (.cons (.asg (.nm 2) (.bin .mod (.bi .int (.bin .mul (.bin .add (.bgi 1) (.ki 1)) (.ki 39373))) (.ki 1000000007)))
 (.cons (.low 2 0)
 (.cons (.asg (.nm 3) (.bin .mod (.bi .int (.bin .mul (.bin .mod (.bi .int (.bin .mul (.var 2) (.var 2))) (.ki 998244353)) (.ki 30011))) (.ki 998244353)))
 (.cons (.low 3 0)
 (.cons (.ret (.bin .mod (.bi .int (.bin .fdiv (.var 3) (.ki 7))) (.var 1)))
 .nil)))))))
def pTake : Py := ⟨"_law_take", true, 1, 7, 0, tkB⟩
/-- _law_some, T: where _law_take stands -/
def pSome (T : Nat) : Py := ⟨"_law_some", true, 1, 2, 0, (.cons (.ret (.idx (.var 1) (.call T (.cons (.bi .len (.var 1)) .nil)))) .nil)⟩
def pMixed (T : Nat) : Py := ⟨"_law_mixed", true, 1, 4, 0, (.cons (.asg (.nm 2) (.lst .nil))
 (.cons (.low 2 1)
 (.cons (.for_ (.nm 3) (.ex (.var 1)) (.cons (.mut .insert 2 .nil (.cons (.call T (.cons (.bin .add (.bi .len (.var 2)) (.ki 1)) .nil)) (.cons (.var 3) .nil)))
 .nil))
 (.cons (.low 2 0)
 (.cons (.ret (.var 2))
 .nil)))))⟩
def pAlike : Py := ⟨"_law_alike", false, 2, 2, 0, (.cons (.ret (.and_ (.cmp .eq (.var 0) (.var 1)) (.cmp .eq (.bi .repr (.var 0)) (.bi .repr (.var 1)))))
 .nil)⟩

def cellB (b : Bg) : Int := (cutG b.cells (some b.ix) none ++ [0]).headD 0
theorem bgC_at (b : Bg) : bgC b = some (.int (cellB b), b) := rfl
theorem small_of {i n : Int} (h0 : 0 ≤ i) (h : i < n) (hn : n ≤ 2 ^ 64) : smallI i = true := by
  unfold smallI
  rw [decide_eq_true (by omega), decide_eq_true (by omega)]
  rfl
theorem take_ok {F : List Fn} {k T : Nat} (hT : F[T]? = some (.py pTake)) {n : Int} (h0 : 0 < n) (h1 : n < 1073741824) : Ok (run F (k + 1) T [.int n]) fun d => ∃ r, d = .int r ∧ 0 ≤ r ∧ r < n := by
  rw [run_py hT k rfl]
  have nz : n ≠ 0 := by omega
  have ab : n.natAbs < 1073741824 := by omega
  have B : ∀ a b c d, Ok (bnd (exs (run F k) [none, some (.int n), a, b, c, d, none] (match tkB with | .cons _ r => r | .nil => .nil)) outD) fun d => ∃ r, d = .int r ∧ 0 ≤ r ∧ r < n := by
    intro v2 v3 v4 v5 b
    by_cases hs : 0 < b.st
    · refine ⟨.int (b.st.fmod n), { b with st := b.st.fdiv n }, ?_, _, rfl, Int.fmod_nonneg_of_pos _ h0, Int.fmod_lt_of_pos _ h0⟩
      have : 0 ≤ b.st.fdiv n := Int.fdiv_nonneg (by omega) (by omega)
      simp [tkB, exs, ex, ev, bnd, bgI, bgGet, lift, cmpD, hs, boolOf, ret, biM, biD, binD, nz, ab, bindT, bgSet, intOf, this, outD]
    · have m1 : 0 ≤ ((b.ch + 1) * 39373).fmod 1000000007 := Int.fmod_nonneg_of_pos _ (by decide)
      have m2 : ((b.ch + 1) * 39373).fmod 1000000007 < 1000000007 := Int.fmod_lt_of_pos _ (by decide)
      have s1 := small_of m1 m2 (by decide)
      refine ⟨_, b, ?_, ((((((b.ch + 1) * 39373).fmod 1000000007 * ((b.ch + 1) * 39373).fmod 1000000007).fmod 998244353 * 30011).fmod 998244353).fdiv 7).fmod n, rfl, Int.fmod_nonneg_of_pos _ h0, Int.fmod_lt_of_pos _ h0⟩
      have s2 : smallI 39373 = true := by decide
      have s3 : smallI 30011 = true := by decide
      simp [tkB, exs, ex, ev, bnd, bgI, bgGet, lift, cmpD, hs, boolOf, ret, biM, biD, binD, nz, ab, bindT, bgSet, intOf, outD, s1, s2, s3]
  intro b
  have A : ∃ a c d e b', exs (run F k) [none, some (.int n), none, none, none, none, none] (match tkB with | .cons s _ => .cons s .nil | .nil => .nil) b = some (.nx [none, some (.int n), a, c, d, e, none], b') := by
    by_cases hs : b.st = 0
    · have s1 : smallI 48271 = true := by decide
      have s2 : smallI 7919 = true := by decide
      generalize hc : cellB b = c
      have m1 : 0 ≤ (b.ch * 48271 + c.fmod 2147483647 + 7919 * (b.ix + 1)).fmod 2147483647 := Int.fmod_nonneg_of_pos _ (by decide)
      have m2 : (b.ch * 48271 + c.fmod 2147483647 + 7919 * (b.ix + 1)).fmod 2147483647 < 2147483647 := Int.fmod_lt_of_pos _ (by decide)
      by_cases hb : (1000000000000000000 : Int) ≤ c
      · have hb' : (0 : Int) ≤ c := by omega
        refine ⟨none, none, some (.int c), some (.int (b.ch * 48271 + c.fmod 2147483647 + 7919 * (b.ix + 1))), ⟨c, (b.ch * 48271 + c.fmod 2147483647 + 7919 * (b.ix + 1)).fmod 2147483647, b.ix + 1, b.cells⟩, ?_⟩
        simp only [tkB]
        simp [exs, ex, ev, bnd, bgI, bgGet, lift, cmpD, hs, boolOf, ret, biM, biD, binD, bindT, bgSet, intOf, s1, s2, bgC_at, hc, hb, hb', m1, m2, eqOk, flat, roomy, dep, eqD]
      · refine ⟨none, none, some (.int c), some (.int (b.ch * 48271 + c.fmod 2147483647 + 7919 * (b.ix + 1))), ⟨b.st, (b.ch * 48271 + c.fmod 2147483647 + 7919 * (b.ix + 1)).fmod 2147483647, b.ix + 1, b.cells⟩, ?_⟩
        simp only [tkB]
        simp [exs, ex, ev, bnd, bgI, bgGet, lift, cmpD, hs, boolOf, ret, biM, biD, binD, bindT, bgSet, intOf, s1, s2, bgC_at, hc, hb, m1, m2, eqOk, flat, roomy, dep, eqD]
    · refine ⟨none, none, none, none, b, ?_⟩
      simp only [tkB]
      simp [exs, ex, ev, bnd, bgI, bgGet, lift, cmpD, hs, boolOf, ret, eqOk, flat, roomy, dep, eqD]
  obtain ⟨v2, v3, v4, v5, b', e⟩ := A
  obtain ⟨r, b2, e2, q⟩ := B v2 v3 v4 v5 b'
  refine ⟨r, b2, ?_, q⟩
  rw [← e2]
  have split : ∀ (s : St) (r : Sts) (ρ : Rho) (f : Out → M D) b, exs (run F k) ρ (.cons s .nil) b = some (.nx [none, some (.int n), v2, v3, v4, v5, none], b') → bnd (exs (run F k) ρ (.cons s r)) f b = bnd (exs (run F k) [none, some (.int n), v2, v3, v4, v5, none] r) f b' := by
    intro s r ρ f b h
    rw [exs_cons] at h ⊢
    unfold bnd at h ⊢
    cases hx : ex (run F k) ρ s b with
    | none => rw [hx] at h; cases h
    | some p =>
      obtain ⟨o, b3⟩ := p
      rw [hx] at h
      cases o with
      | nx ρ' =>
        simp only [exs_nil] at h
        cases h
        rfl
      | _ => cases h
  exact split _ _ _ _ _ e
theorem atI_pos {α : Type} {xs : List α} {r : Int} (h0 : 0 ≤ r) (h1 : r < xs.length) : ∃ x, atI xs r = some x ∧ x ∈ xs ∧ xs[r.toNat]? = some x := by
  have hl : r.toNat < xs.length := by omega
  refine ⟨xs[r.toNat], ?_, List.getElem_mem hl, by simp [hl]⟩
  unfold atI ixN
  rw [if_pos h0, if_pos h1]
  simp [hl]
theorem some_ok {F : List Fn} {k j T : Nat} (hF : F[j]? = some (.py (pSome T))) (hT : F[T]? = some (.py pTake)) {xs : List D} (h0 : 0 < xs.length) (h1 : xs.length < 1073741824) : Ok (run F (k + 2) j [.lst xs]) fun d => d ∈ xs := by
  rw [run_py hF _ rfl]
  show Ok (bnd (exs (run F (k + 1)) [none, some (.lst xs)] (.cons (.ret (.idx (.var 1) (.call T (.cons (.bi .len (.var 1)) .nil)))) .nil)) outD) _
  simp [exs, ex, ev, evs, biM, biD]
  refine ok_bnd (take_ok hT (by omega) (by omega)) ?_
  rintro _ ⟨r, rfl, r0, r1⟩
  obtain ⟨x, e, hx, _⟩ := atI_pos (xs := xs) r0 r1
  simp [idxD, e, outD]
  exact ok_ret hx
theorem some_okT {F : List Fn} {k j T : Nat} (hF : F[j]? = some (.py (pSome T))) (hT : F[T]? = some (.py pTake)) {xs : List D} (h0 : 0 < xs.length) (h1 : xs.length < 1073741824) : Ok (run F (k + 2) j [.tup xs]) fun d => d ∈ xs := by
  rw [run_py hF _ rfl]
  show Ok (bnd (exs (run F (k + 1)) [none, some (.tup xs)] (.cons (.ret (.idx (.var 1) (.call T (.cons (.bi .len (.var 1)) .nil)))) .nil)) outD) _
  simp [exs, ex, ev, evs, biM, biD]
  refine ok_bnd (take_ok hT (by omega) (by omega)) ?_
  rintro _ ⟨r, rfl, r0, r1⟩
  obtain ⟨x, e, hx, _⟩ := atI_pos (xs := xs) r0 r1
  simp [idxD, e, outD]
  exact ok_ret hx
theorem insert_perm {α : Type} (x : α) : ∀ (n : Nat) (xs : List α), n ≤ xs.length → (xs.insertIdx n x).Perm (x :: xs)
  | 0, xs, _ => by simp
  | n + 1, [], h => by simp at h
  | n + 1, y :: xs, h => by
    rw [List.insertIdx_succ_cons]
    exact ((insert_perm x n xs (by simpa using h)).cons y).trans (List.Perm.swap _ _ _)
theorem mixed_ok {F : List Fn} {k j T : Nat} (hF : F[j]? = some (.py (pMixed T))) (hT : F[T]? = some (.py pTake)) {xs : List D} (h1 : xs.length < 1073741) : Ok (run F (k + 2) j [.lst xs]) fun d => ∃ ys, d = .lst ys ∧ ys.Perm xs := by
  rw [run_py hF _ rfl]
  show Ok (bnd (exs (run F (k + 1)) [none, some (.lst xs), none, none] (pMixed T).body) outD) _
  simp only [pMixed, exs_cons, exs_nil]
  simp [ex, ev, evs, evi, bindT, exs]
  refine ok_bnd (iter_ok (fun dn ρ => ∃ ys a, ρ = [none, some (.lst xs), some (.lst ys), a] ∧ ys.Perm dn) xs [] _ ⟨[], none, rfl, .nil⟩ ?_) ?_
  · rintro dn x r ρ e ⟨ys, a, rfl, p⟩
    have hl : dn.length < xs.length := by
      have := congrArg List.length e
      simp at this
      omega
    have hy := p.length_eq
    simp [bindT, ev, evs, biM, biD, binD]
    refine ok_bnd (take_ok hT (by omega) (by omega)) ?_
    rintro _ ⟨q, rfl, q0, q1⟩
    have c : ys.length < line ∧ 0 ≤ q ∧ q ≤ ys.length := ⟨by unfold line; omega, q0, by omega⟩
    simp [upAt, mutD, c]
    refine ok_ret ⟨_, .inl rfl, _, ⟨_, rfl⟩, ?_⟩
    have p1 := insert_perm x q.toNat ys (by omega)
    have p2 : (x :: dn).Perm (dn ++ [x]) := List.perm_append_comm (l₁ := [x]) (l₂ := dn)
    exact p1.trans ((p.cons x).trans p2)
  · rintro _ ⟨ρ', rfl, ys, a, rfl, p⟩
    simp [outD]
    exact ok_ret ⟨ys, rfl, by simpa using p⟩
theorem alike_ok {F : List Fn} {k j : Nat} (hF : F[j]? = some (.py pAlike)) {d : D} (h : okD d = true) (hd : dep d ≤ 60) (hw : wD d ≤ 2 ^ 20) : run F (k + 1) j [d, d] = ret (.bl true) := by
  rw [run_py hF _ rfl]
  show bnd (exs (run F k) [some d, some d] pAlike.body) outD = _
  simp [pAlike, exs, ex, ev, cmp_self h hd, repr_ok h hd hw, eq_str, outD]
end Dn

set_option Elab.async false
set_option linter.all false
set_option maxRecDepth 100000
/-! Dn, plain laws, part three: names, sorting, pairs, dicts. -/
namespace Dn
open PySem L2

/-! ### sorting -/
theorem merge_same {α : Type} {le : α → α → Bool} {xs : List α} (h : xs.Pairwise fun a b => le a b = true) : xs.mergeSort le = xs := List.mergeSort_of_pairwise h
theorem alike_strs (ss : List Str) : alikeB (ss.map D.str) = true := by
  unfold alikeB
  have h1 : (ss.map D.str).all notTup = true := by simp [notTup]
  rw [h1, Bool.or_true, Bool.and_true, List.all_eq_true]
  intro d hd
  obtain ⟨s, _, rfl⟩ := List.mem_map.mp hd
  rw [Bool.and_eq_true, Bool.and_eq_true, List.all_eq_true]
  refine ⟨⟨rfl, by simp [dep]⟩, fun e he => ?_⟩
  obtain ⟨t, _, rfl⟩ := List.mem_map.mp he
  show PySem.W.alike (.str s) (.str t) = true
  simp [PySem.W.alike]
theorem sort_strsD (ss : List Str) : biM .sorted (.lst (ss.map D.str)) = some (.lst ((ss.mergeSort leS).map D.str)) := by
  show (if firstB (ss.map D.str) = true then some (D.lst ((ss.map D.str).mergeSort fstLe)) else if alikeB (ss.map D.str) = true then some (D.lst ((ss.map D.str).mergeSort leD)) else none) = _
  cases ss with
  | nil => simp [firstB]
  | cons s ss =>
    rw [if_neg (by simp [firstB, fstK, isR, isL, noIns]), if_pos (alike_strs (s :: ss)), sort_strs]
/-- below, strictly -/
def ltS (a b : Str) : Prop := leS a b = true ∧ a ≠ b
theorem sorted_lt {ss : List Str} (h : ss.Nodup) : (ss.mergeSort leS).Pairwise ltS := by
  have h1 := List.pairwise_mergeSort (le := leS) leS_trans leS_total ss
  have h2 : (ss.mergeSort leS).Nodup := (List.mergeSort_perm ss leS).nodup_iff.mpr h
  exact List.Pairwise.and h1 h2
theorem lt_nodup {ss : List Str} (h : ss.Pairwise ltS) : ss.Nodup := h.imp fun h => h.2
theorem lt_le {ss : List Str} (h : ss.Pairwise ltS) : ss.Pairwise fun a b => leS a b = true := h.imp fun h => h.1
theorem sort_any {xs : List D} (h : alikeB xs = true) : ∃ ys, biM .sorted (.lst xs) = some (.lst ys) ∧ ys.Perm xs := by
  by_cases c : firstB xs = true
  · exact ⟨xs.mergeSort fstLe, by show (if firstB xs = true then some (D.lst (xs.mergeSort fstLe)) else if alikeB xs = true then some (D.lst (xs.mergeSort leD)) else none) = _; rw [if_pos c], List.mergeSort_perm _ _⟩
  · exact ⟨xs.mergeSort leD, by show (if firstB xs = true then some (D.lst (xs.mergeSort fstLe)) else if alikeB xs = true then some (D.lst (xs.mergeSort leD)) else none) = _; rw [if_neg c, if_pos h], List.mergeSort_perm _ _⟩
/-- already sorted -/
theorem sort_same {xs : List D} (h : alikeB xs = true) (h1 : firstB xs = true → xs.Pairwise fun a b => fstLe a b = true) (h2 : xs.Pairwise fun a b => leD a b = true) : biM .sorted (.lst xs) = some (.lst xs) := by
  by_cases c : firstB xs = true
  · show (if firstB xs = true then some (D.lst (xs.mergeSort fstLe)) else if alikeB xs = true then some (D.lst (xs.mergeSort leD)) else none) = _
    rw [if_pos c, merge_same (h1 c)]
  · show (if firstB xs = true then some (D.lst (xs.mergeSort fstLe)) else if alikeB xs = true then some (D.lst (xs.mergeSort leD)) else none) = _
    rw [if_neg c, if_pos h, merge_same h2]

/-! ### pairs with a name in front -/
def prD (p : Str × D) : D := .tup [.str p.1, p.2]
def le1 (a b : Str × D) : Bool := leS a.1 b.1
theorem fstLe_pr (a b : Str × D) : fstLe (prD a) (prD b) = le1 a b := leD_str a.1 b.1
theorem first_pr {ps : List (Str × D)} (h : ∀ p ∈ ps, noIns p.2 = true) (hn : (ps.map (·.1)).Nodup) : firstB (ps.map prD) = true := by
  unfold firstB
  rw [Bool.and_eq_true, Bool.and_eq_true]
  refine ⟨⟨?_, ?_⟩, ?_⟩
  · rw [List.all_eq_true]
    intro d hd
    obtain ⟨p, hp, rfl⟩ := List.mem_map.mp hd
    simp [prD, noIns, noInss, h p hp]
  · refine decide_eq_true ?_
    have e : (ps.map prD).map fstK = (ps.map (·.1)).map fun s => some (Sum.inr s) := by
      rw [List.map_map, List.map_map]; rfl
    rw [e]
    exact List.Pairwise.map _ (fun a b h e => h (Sum.inr.inj (Option.some.inj e))) hn
  · rw [Bool.or_eq_true]
    refine .inl ?_
    rw [List.all_eq_true]
    intro d hd
    obtain ⟨p, hp, rfl⟩ := List.mem_map.mp hd
    rfl
theorem sort_pr {ps : List (Str × D)} (h : ∀ p ∈ ps, noIns p.2 = true) (hn : (ps.map (·.1)).Nodup) : biM .sorted (.lst (ps.map prD)) = some (.lst ((ps.mergeSort le1).map prD)) := by
  show (if firstB (ps.map prD) = true then some (D.lst ((ps.map prD).mergeSort fstLe)) else _) = _
  rw [if_pos (first_pr h hn), List.map_mergeSort fun a _ b _ => (fstLe_pr a b).symm]

/-! ### dicts -/
def kv (p : Str × D) : D × D := (.str p.1, p.2)
theorem dpairs_pr (ps : List (Str × D)) : dpairs (ps.map prD) = some (ps.map kv) := by
  induction ps with
  | nil => rfl
  | cons p ps ih =>
    show (if isKey (.str p.1) = true then (dpairs (ps.map prD)).map fun t => (D.str p.1, p.2) :: t else none) = _
    rw [ih]; rfl
theorem has_kv (ps : List (Str × D)) (n : Str) : dhas (ps.map kv) (.str n) = decide (n ∈ ps.map (·.1)) := by
  unfold dhas
  rw [List.any_map, Bool.eq_iff_iff]
  simp [kv, keq]
theorem put_new {ps : List (Str × D)} {n : Str} {d : D} (h : n ∉ ps.map (·.1)) : dput (ps.map kv) (.str n) d = (ps ++ [(n, d)]).map kv := by
  unfold dput
  rw [has_kv, if_neg (by simpa using h)]
  simp [kv]
theorem merge_kv : ∀ (qs ps : List (Str × D)), ((ps ++ qs).map (·.1)).Nodup → dmerge (ps.map kv) (qs.map kv) = (ps ++ qs).map kv
  | [], ps, _ => by simp [dmerge]
  | q :: qs, ps, h => by
    show dmerge (dput (ps.map kv) (.str q.1) q.2) (qs.map kv) = _
    have hq : q.1 ∉ ps.map (·.1) := by
      rw [List.map_append, List.nodup_append] at h
      intro hm
      exact h.2.2 _ hm _ (by simp) rfl
    rw [put_new hq, merge_kv qs (ps ++ [(q.1, q.2)]) (by simpa using h)]
    simp
theorem dict_pr {ps : List (Str × D)} (h : (ps.map (·.1)).Nodup) : biM .dict (.tup (ps.map prD)) = some (.dct (ps.map kv)) := by
  show (dpairs (ps.map prD)).map (fun kvs => D.dct (dmerge [] kvs)) = _
  rw [dpairs_pr]
  show some (D.dct (dmerge (([] : List (Str × D)).map kv) (ps.map kv))) = _
  rw [merge_kv ps [] (by simpa using h)]
  rfl
theorem dict_prL {ps : List (Str × D)} (h : (ps.map (·.1)).Nodup) : biM .dict (.lst (ps.map prD)) = some (.dct (ps.map kv)) := dict_pr h
theorem get_kv {ps : List (Str × D)} (h : (ps.map (·.1)).Nodup) {n : Str} {d : D} (hm : (n, d) ∈ ps) : dget (ps.map kv) (.str n) = some d := by
  unfold dget
  induction ps with
  | nil => cases hm
  | cons p ps ih =>
    rw [List.map_cons, List.nodup_cons] at h
    rw [List.map_cons, List.find?_cons]
    rcases List.mem_cons.mp hm with rfl | hm
    · simp [kv, keq]
    · have hne : p.1 ≠ n := fun e => h.1 (e ▸ List.mem_map.mpr ⟨_, hm, rfl⟩)
      have : keq (kv p).1 (.str n) = false := by simp [kv, keq, hne]
      rw [this]
      exact ih h.2 hm
theorem idx_kv {ps : List (Str × D)} (h : (ps.map (·.1)).Nodup) {n : Str} {d : D} (hm : (n, d) ∈ ps) : idxD (.dct (ps.map kv)) (.str n) = some d := by
  show (if isKey (.str n) = true then dget (ps.map kv) (.str n) else none) = _
  rw [get_kv h hm]; rfl
/-- the others, and the new one behind -/
def others (ps : List (Str × D)) (n : Str) : List (Str × D) := ps.filter fun p => !(p.1 == n)
theorem others_nodup {ps : List (Str × D)} (h : (ps.map (·.1)).Nodup) (n : Str) (d : D) : ((others ps n ++ [(n, d)]).map (·.1)).Nodup := by
  rw [List.map_append, List.nodup_append]
  refine ⟨(List.filter_sublist.map _).nodup h, by simp, fun a ha b hb => ?_⟩
  obtain ⟨p, hp, rfl⟩ := List.mem_map.mp ha
  have := (List.mem_filter.mp hp).2
  simp at hb this
  rw [hb]; exact this
theorem put_kv : ∀ {ps : List (Str × D)}, (ps.map (·.1)).Nodup → ∀ (n : Str) (d : D), ∃ qs : List (Str × D), dput (ps.map kv) (.str n) d = qs.map kv ∧ qs.Perm (others ps n ++ [(n, d)]) := by
  intro ps h n d
  by_cases hm : n ∈ ps.map (·.1)
  · refine ⟨ps.map fun p => if p.1 == n then (p.1, d) else p, ?_, ?_⟩
    · unfold dput
      rw [has_kv, if_pos (decide_eq_true hm), List.map_map, List.map_map]
      refine List.map_congr_left fun p _ => ?_
      by_cases e : p.1 = n
      · simp [kv, keq, e]
      · simp [kv, keq, e]
    · induction ps with
      | nil => cases hm
      | cons p ps ih =>
        rw [List.map_cons, List.nodup_cons] at h
        by_cases e : p.1 = n
        · have h0 : ∀ q ∈ ps, q.1 ≠ n := fun q hq e2 => h.1 (by rw [e, ← e2]; exact List.mem_map.mpr ⟨q, hq, rfl⟩)
          have e1 : (ps.map fun p => if p.1 == n then (p.1, d) else p) = ps := by
            conv => rhs; rw [← List.map_id ps]
            refine List.map_congr_left fun q hq => ?_
            simp [h0 q hq]
          have e2 : others (p :: ps) n = ps := by
            unfold others
            rw [List.filter_cons_of_neg (by simp [e]), List.filter_eq_self]
            intro q hq
            simp [h0 q hq]
          rw [List.map_cons, e1, e2]
          simp only [e, beq_self_eq_true, if_true]
          exact List.perm_append_comm (l₁ := [(n, d)]) (l₂ := ps)
        · have hm2 : n ∈ ps.map (·.1) := by
            rcases List.mem_cons.mp (by simpa using hm : n ∈ p.1 :: ps.map (·.1)) with q | q
            · exact absurd q.symm e
            · exact q
          have e2 : others (p :: ps) n = p :: others ps n := by
            unfold others
            rw [List.filter_cons_of_pos (by simp [e])]
          rw [List.map_cons, e2]
          rw [if_neg (by simpa using e)]
          exact (ih h.2 hm2).cons p
  · refine ⟨ps ++ [(n, d)], put_new hm, ?_⟩
    have e2 : others ps n = ps := by
      unfold others
      rw [List.filter_eq_self]
      intro q hq
      have : q.1 ≠ n := fun e => hm (e ▸ List.mem_map.mpr ⟨q, hq, rfl⟩)
      simp [this]
    rw [e2]
theorem sort_keys {qs : List (Str × D)} (h : qs.length < 64) : biM .sorted (.dct (qs.map kv)) = some (.lst (((qs.map (·.1)).mergeSort leS).map D.str)) := by
  show (if (((qs.map kv).all isStrKey || (qs.map kv).all isIntKey) && decide ((qs.map kv).length < 64)) = true then some (D.lst (((qs.map kv).map (·.1)).mergeSort leD)) else none) = _
  have e : (qs.map kv).map (·.1) = (qs.map (·.1)).map D.str := by rw [List.map_map, List.map_map]; rfl
  rw [if_pos (by simp [kv, isStrKey, h]), e, sort_strs]
theorem keys_same {ps qs : List (Str × D)} (hp : qs.Perm ps) : (qs.map (·.1)).mergeSort leS = (ps.mergeSort le1).map (·.1) := by
  have e : (ps.mergeSort le1).map (·.1) = (ps.map (·.1)).mergeSort leS := List.map_mergeSort fun a _ b _ => rfl
  rw [e]
  exact List.Perm.eq_of_pairwise (fun a b _ _ h1 h2 => leS_anti h1 h2) (List.pairwise_mergeSort leS_trans leS_total _) (List.pairwise_mergeSort leS_trans leS_total _)
    ((List.mergeSort_perm _ _).trans ((hp.map _).trans (List.mergeSort_perm _ _).symm))

/-! ### slices, indexes -/
theorem cut_take {α : Type} (xs : List α) {i : Int} (h : 0 ≤ i) : cutG xs none (some i) = xs.take i.toNat := by
  have e : HT.sIx xs.length xs.length (some i) = min i.toNat xs.length := by
    show (if i < 0 then _ else _) = _
    rw [if_neg (by omega)]
  unfold cutG
  rw [e]
  simp [HT.sIx]
theorem cut_last {α : Type} (xs : List α) : cutG xs none (some (-1)) = xs.dropLast := by
  have e : HT.sIx xs.length xs.length (some (-1)) = xs.length - 1 := by
    show (if (-1 : Int) < 0 then ((-1 : Int) + (xs.length : Int)).toNat else min (-1 : Int).toNat xs.length) = _
    rw [if_pos (by decide)]
    omega
  unfold cutG
  rw [e, List.dropLast_eq_take]
  simp [HT.sIx]
theorem strs_of (ss : List Str) : strsOf (ss.map D.str) = some ss := by
  induction ss with
  | nil => rfl
  | cons s ss ih =>
    show (strsOf (ss.map D.str)).map (fun t => s :: t) = _
    rw [ih]; rfl
theorem idx_of {dn r : List Str} {z : Str} (h : z ∉ dn) : idxOfS z (dn ++ z :: r) = some dn.length := by
  induction dn with
  | nil => simp [idxOfS]
  | cons y dn ih =>
    rw [List.mem_cons, not_or] at h
    show (if y = z then some 0 else (idxOfS z (dn ++ z :: r)).map (· + 1)) = _
    rw [if_neg (fun e => h.1 e.symm), ih h.2]
    rfl
theorem any_strs (ss : List Str) (x : Str) : ((ss.map D.str).any fun y => eqD y (.str x)) = decide (x ∈ ss) := by
  rw [List.any_map, Bool.eq_iff_iff]
  simp [eqD]
theorem in_strs (ss : List Str) (x : Str) : cmpD .isin (.str x) (.tup (ss.map D.str)) = some (decide (x ∈ ss)) := by
  show (if inOk (.str x) (ss.map D.str) = true then some ((ss.map D.str).any fun y => eqD y (.str x)) else none) = _
  rw [if_pos (by simp [inOk, flat, eqOk, roomy, dep]), any_strs]
end Dn

set_option Elab.async false
set_option linter.all false
set_option maxRecDepth 100000
/-! Dn, plain laws, part four: statement by statement; lists as they are held. -/
namespace Dn
open PySem L2
def stL (ss : List Str) : List D := ss.map D.str
def rows (ps : List (Str × D)) : List D := ps.map prD
def ents (ps : List (Str × D)) : List (D × D) := ps.map kv
section
variable {Φ : Nat → List D → M D} {ρ ρ' : Rho} {r : Sts} {Q : Out → Prop}
theorem ok_run {F : List Fn} {i : Nat} {p : Py} (h : F[i]? = some (.py p)) {k : Nat} {ds : List D} (hl : ds.length = p.np) {Q : D → Prop} (hb : Ok (exs (run F k) (entry p ds) p.body) fun o => ∃ d, o = .rt d ∧ Q d) : Ok (run F (k + 1) i ds) Q := by
  rw [run_py h k hl]
  refine ok_bnd hb ?_
  rintro _ ⟨d, rfl, q⟩
  exact ok_ret q
theorem run_eq {F : List Fn} {i : Nat} {p : Py} (h : F[i]? = some (.py p)) {k : Nat} {ds : List D} (hl : ds.length = p.np) {d : D} (hb : exs (run F k) (entry p ds) p.body = ret (.rt d)) : run F (k + 1) i ds = ret d := by
  rw [run_py h k hl, hb]; rfl
theorem st_eq {s : St} (h : ex Φ ρ s = ret (.nx ρ')) (k : Ok (exs Φ ρ' r) Q) : Ok (exs Φ ρ (.cons s r)) Q := by rw [exs_cons, h]; exact k
theorem st_low {i n : Nat} (k : Ok (exs Φ ρ r) Q) : Ok (exs Φ ρ (.cons (.low i n) r)) Q := st_eq (by simp [ex]) k
theorem st_ret {e : Ex} {P : D → Prop} (h : Ok (ev Φ ρ e) P) (k : ∀ d, P d → Q (.rt d)) : Ok (exs Φ ρ (.cons (.ret e) r)) Q := by
  rw [exs_cons]
  refine ok_bnd (P := fun o => ∃ d, o = .rt d ∧ P d) ?_ ?_
  · rw [ex]
    exact ok_bnd h fun d hd => ok_ret ⟨d, rfl, hd⟩
  · rintro _ ⟨d, rfl, hd⟩
    exact ok_ret (k d hd)
theorem st_asg {i : Nat} {e : Ex} {P : D → Prop} (h : Ok (ev Φ ρ e) P) (hi : i < ρ.length) (k : ∀ d, P d → Ok (exs Φ (ρ.set i (some d)) r) Q) : Ok (exs Φ ρ (.cons (.asg (.nm i) e) r)) Q := by
  rw [exs_cons]
  refine ok_bnd (P := fun o => ∃ d, o = .nx (ρ.set i (some d)) ∧ P d) ?_ ?_
  · rw [ex]
    refine ok_bnd h fun d hd => ?_
    rw [bindT, if_pos hi]
    exact ok_ret ⟨d, rfl, hd⟩
  · rintro _ ⟨d, rfl, hd⟩
    exact k d hd
theorem st_asgE {i : Nat} {e : Ex} {d : D} (h : ev Φ ρ e = ret d) (hi : i < ρ.length) (k : Ok (exs Φ (ρ.set i (some d)) r) Q) : Ok (exs Φ ρ (.cons (.asg (.nm i) e) r)) Q :=
  st_asg (P := fun x => x = d) (h ▸ ok_ret rfl) hi fun _ e => e ▸ k
/-- a branch not taken -/
theorem st_skip {c : Ex} {a : Sts} (h : ev Φ ρ c = ret (.bl false)) (k : Ok (exs Φ ρ r) Q) : Ok (exs Φ ρ (.cons (.ifs c a .nil) r)) Q :=
  st_eq (by rw [ex, h]; simp [exs]) k
theorem st_if {c : Ex} {a b : Sts} {P : Bool → Prop} {R : Rho → Prop} (h : Ok (ev Φ ρ c) fun d => ∃ t, d = .bl t ∧ P t) (hb : ∀ t, P t → Ok (exs Φ ρ (if t = true then a else b)) fun o => ∃ ρ', o = .nx ρ' ∧ R ρ') (k : ∀ ρ', R ρ' → Ok (exs Φ ρ' r) Q) :
    Ok (exs Φ ρ (.cons (.ifs c a b) r)) Q := by
  refine ok_step (P := R) ?_ k
  rw [ex]
  refine ok_bnd h ?_
  rintro _ ⟨t, rfl, p⟩
  rw [boolOf_b, bnd_r]
  have := hb t p
  cases t <;> simpa using this
/-- a branch that may end the def -/
theorem st_ifR {c : Ex} {a b : Sts} {P : Bool → Prop} (h : Ok (ev Φ ρ c) fun d => ∃ t, d = .bl t ∧ P t)
    (h1 : P true → Ok (exs Φ ρ a) fun o => (∃ d, o = .rt d ∧ Q (.rt d)) ∨ ∃ ρ', o = .nx ρ' ∧ Ok (exs Φ ρ' r) Q) (h2 : P false → Ok (exs Φ ρ b) fun o => (∃ d, o = .rt d ∧ Q (.rt d)) ∨ ∃ ρ', o = .nx ρ' ∧ Ok (exs Φ ρ' r) Q) : Ok (exs Φ ρ (.cons (.ifs c a b) r)) Q := by
  rw [exs_cons]
  refine ok_bnd (P := fun o => (∃ d, o = .rt d ∧ Q (.rt d)) ∨ ∃ ρ', o = .nx ρ' ∧ Ok (exs Φ ρ' r) Q) ?_ ?_
  · rw [ex]
    refine ok_bnd h ?_
    rintro _ ⟨t, rfl, p⟩
    rw [boolOf_b, bnd_r]
    cases t
    · simpa using h2 p
    · simpa using h1 p
  · rintro _ (⟨d, rfl, q⟩ | ⟨ρ', rfl, q⟩)
    · exact ok_ret q
    · exact q
theorem ok_nil {Q : Out → Prop} (h : Q (.nx ρ)) : Ok (exs Φ ρ .nil) Q := by rw [exs_nil]; exact ok_ret h
theorem ok_for {tg : Tg} {it : It} {b : Sts} {xs : List D} (he : evi Φ ρ it = ret xs) (I : List D → Rho → Prop) (h0 : I [] ρ)
    (hb : ∀ dn x r ρ, xs = dn ++ x :: r → I dn ρ → ∃ ρ1, bindT tg x ρ = some ρ1 ∧ Ok (exs Φ ρ1 b) fun o => ∃ ρ', (o = .nx ρ' ∨ o = .ct ρ') ∧ I (dn ++ [x]) ρ')
    (k : ∀ ρ', I xs ρ' → Ok (exs Φ ρ' r) Q) : Ok (exs Φ ρ (.cons (.for_ tg it b) r)) Q := by
  refine ok_step (P := I xs) ?_ k
  rw [ex, he, bnd_r]
  refine (iter_ok I xs [] ρ h0 fun dn x r ρ e i => ?_).mono fun o ho => ho
  obtain ⟨ρ1, e1, h1⟩ := hb dn x r ρ e i
  rw [e1, lift_s, bnd_r]
  exact h1
theorem ok_forM {α : Type} {tg : Tg} {it : It} {b : Sts} {zs : List α} {e : α → D} {xs : List D} (hx : xs = zs.map e) (he : evi Φ ρ it = ret xs) (I : List α → Rho → Prop) (h0 : I [] ρ)
    (hb : ∀ dn x r ρ, zs = dn ++ x :: r → I dn ρ → ∃ ρ1, bindT tg (e x) ρ = some ρ1 ∧ Ok (exs Φ ρ1 b) fun o => ∃ ρ', (o = .nx ρ' ∨ o = .ct ρ') ∧ I (dn ++ [x]) ρ')
    (k : ∀ ρ', I zs ρ' → Ok (exs Φ ρ' r) Q) : Ok (exs Φ ρ (.cons (.for_ tg it b) r)) Q := by
  refine ok_step (P := I zs) ?_ k
  rw [ex, he, bnd_r, hx]
  refine (iter_map I zs [] ρ h0 fun dn x r ρ e i => ?_).mono fun o ho => ho
  obtain ⟨ρ1, e1, h1⟩ := hb dn x r ρ e i
  rw [e1, lift_s, bnd_r]
  exact h1
theorem ok_forD {α : Type} {tg : Tg} {it : It} {b : Sts} {e : α → D} {C : List α → Prop} (he : Ok (evi Φ ρ it) fun xs => ∃ zs, xs = zs.map e ∧ C zs) (I : List α → List α → Rho → Prop) (h0 : ∀ zs, C zs → I zs [] ρ)
    (hb : ∀ zs, C zs → ∀ dn x r ρ, zs = dn ++ x :: r → I zs dn ρ → ∃ ρ1, bindT tg (e x) ρ = some ρ1 ∧ Ok (exs Φ ρ1 b) fun o => ∃ ρ', (o = .nx ρ' ∨ o = .ct ρ') ∧ I zs (dn ++ [x]) ρ')
    (k : ∀ zs, C zs → ∀ ρ', I zs zs ρ' → Ok (exs Φ ρ' r) Q) : Ok (exs Φ ρ (.cons (.for_ tg it b) r)) Q := by
  refine ok_step (P := fun ρ' => ∃ zs, C zs ∧ I zs zs ρ') ?_ fun ρ' ⟨zs, c, i⟩ => k zs c ρ' i
  rw [ex]
  refine ok_bnd he ?_
  rintro _ ⟨zs, rfl, c⟩
  refine (iter_map (I zs) zs [] ρ (h0 zs c) fun dn x r ρ e i => ?_).mono fun o ⟨ρ', h1, h2⟩ => ⟨ρ', h1, zs, c, h2⟩
  obtain ⟨ρ1, e1, h1⟩ := hb zs c dn x r ρ e i
  rw [e1, lift_s, bnd_r]
  exact h1
theorem st_app {x : Nat} {e : Ex} {xs : List D} {P : D → Prop} (h : Ok (ev Φ ρ e) P) (hx : ρ.getD x none = some (.lst xs)) (hl : xs.length < line) (k : ∀ d, P d → Ok (exs Φ (ρ.set x (some (.lst (xs ++ [d])))) r) Q) : Ok (exs Φ ρ (.cons (.mut .append x .nil (.cons e .nil)) r)) Q := by
  rw [exs_cons]
  refine ok_bnd (P := fun o => ∃ d, o = .nx (ρ.set x (some (.lst (xs ++ [d])))) ∧ P d) ?_ ?_
  · simp only [ex, evs, bnd_r, bnd_b, hx, lift_s]
    refine ok_bnd h fun d hd => ?_
    simp only [upAt, mutD, if_pos hl, lift_s, bnd_r]
    exact ok_ret ⟨d, rfl, hd⟩
  · rintro _ ⟨d, rfl, hd⟩
    exact k d hd
end

/-! lists as they are held -/
theorem dict_rows {ps : List (Str × D)} (h : (ps.map (·.1)).Nodup) : biM .dict (.tup (rows ps)) = some (.dct (ents ps)) := dict_pr h
theorem dict_rowsL {ps : List (Str × D)} (h : (ps.map (·.1)).Nodup) : biM .dict (.lst (rows ps)) = some (.dct (ents ps)) := dict_prL h
theorem get_ents {ps : List (Str × D)} (h : (ps.map (·.1)).Nodup) {n : Str} {d : D} (hm : (n, d) ∈ ps) : dget (ents ps) (.str n) = some d := get_kv h hm
theorem isK (n : Str) : isKey (.str n) = true := rfl
theorem at0 (a : D) (l : List D) : atI (a :: l) 0 = some a := by simp [atI, ixN]
theorem at1 (a b : D) (l : List D) : atI (a :: b :: l) 1 = some b := by
  unfold atI ixN
  rw [if_pos (by decide), if_pos (by simp only [List.length_cons]; omega)]
  rfl
theorem at2 (a b c : D) (l : List D) : atI (a :: b :: c :: l) 2 = some c := by
  unfold atI ixN
  rw [if_pos (by decide), if_pos (by simp only [List.length_cons]; omega)]
  rfl
/-- pairs of texts, one by one in order -/
theorem le_pair {a b c d : Str} (h : ltS a c ∨ (a = c ∧ leS b d = true)) : leD (.tup [.str a, .str b]) (.tup [.str c, .str d]) = true := by
  show (!PySem.W.dataLt (.tuple [.str c, .str d]) (.tuple [.str a, .str b])) = true
  rw [PySem.W.dataLt_pair (by simp [PySem.W.alike]) (by simp [PySem.W.alike])]
  have ev : ∀ x y : Str, PyData.eqv (.str x) (.str y) = decide (x = y) := fun x y => by rw [Bool.eq_iff_iff]; simp [PyData.eqv]
  have no : ∀ x y : Str, leS x y = true → PySem.W.dataLt (.str y) (.str x) = false := fun x y h => by
    have := leD_str x y
    rw [h] at this
    simpa [leD, toP] using this
  rw [ev, ev]
  rcases h with ⟨h1, h2⟩ | ⟨rfl, h⟩
  · rw [if_neg (by simpa using fun e => h2 e.symm), no a c h1]; rfl
  · rw [if_pos (by simp)]
    by_cases e : d = b
    · rw [if_pos (by simpa using e)]; rfl
    · rw [if_neg (by simpa using e), no b d h]; rfl
theorem idx_ents {ps : List (Str × D)} (h : (ps.map (·.1)).Nodup) {n : Str} {d : D} (hm : (n, d) ∈ ps) : idxD (.dct (ents ps)) (.str n) = some d := idx_kv h hm
theorem loop_rows {f : D → M (List D)} {ps : List (Str × D)} {g : Str × D → D} (h : ∀ p ∈ ps, f (prD p) = ret [g p]) : loopM f (rows ps) = ret (ps.map g) := loop_map ps h
theorem loop_rowsF {f : D → M (List D)} {ps : List (Str × D)} {g : Str × D → List D} (h : ∀ p ∈ ps, f (prD p) = ret (g p)) : loopM f (rows ps) = ret (ps.flatMap g) := loop_flat ps h
theorem loop_strs {f : D → M (List D)} {ss : List Str} {g : Str → D} (h : ∀ s ∈ ss, f (.str s) = ret [g s]) : loopM f (stL ss) = ret (ss.map g) := loop_map ss h
theorem sort_strs' (ss : List Str) : biM .sorted (.lst (stL ss)) = some (.lst (stL (ss.mergeSort leS))) := sort_strsD ss
theorem sort_rows {ps : List (Str × D)} (h : ∀ p ∈ ps, noIns p.2 = true) (hn : (ps.map (·.1)).Nodup) : biM .sorted (.lst (rows ps)) = some (.lst (rows (ps.mergeSort le1))) := sort_pr h hn
theorem in_strs' (ss : List Str) (x : Str) : cmpD .isin (.str x) (.tup (stL ss)) = some (decide (x ∈ ss)) := in_strs ss x
theorem index_strs {dn r : List Str} {z : Str} (h : z ∉ dn) : indexD (.tup (stL (dn ++ z :: r))) (.str z) = some (.int dn.length) := by
  show ((strsOf ((dn ++ z :: r).map D.str)).bind fun ss => (idxOfS z ss).map fun (n : Nat) => D.int (n : Int)) = _
  rw [strs_of]
  show (idxOfS z (dn ++ z :: r)).map (fun (n : Nat) => D.int (n : Int)) = _
  rw [idx_of h]; rfl
theorem len_strs (ss : List Str) : (stL ss).length = ss.length := List.length_map _
theorem len_rows (ps : List (Str × D)) : (rows ps).length = ps.length := List.length_map _
theorem rows_app (ps qs : List (Str × D)) : rows ps ++ rows qs = rows (ps ++ qs) := (List.map_append ..).symm
theorem rows_add (ps : List (Str × D)) (n : Str) (d : D) : rows ps ++ [.tup [.str n, d]] = rows (ps ++ [(n, d)]) := by simp [rows, prD]
theorem mem_strs {ss : List Str} {d : D} (h : d ∈ stL ss) : ∃ s ∈ ss, d = .str s := by
  obtain ⟨s, h1, h2⟩ := List.mem_map.mp h
  exact ⟨s, h1, h2.symm⟩
theorem perm_strs {ys : List D} {ss : List Str} (h : ys.Perm (stL ss)) : ∃ ts, ys = stL ts ∧ ts.Perm ss := by
  suffices H : ∀ {ys zs : List D}, ys.Perm zs → ∀ ss, zs = stL ss → ∃ ts, ys = stL ts ∧ ts.Perm ss from H h ss rfl
  intro ys zs h
  induction h with
  | nil => intro ss e; exact ⟨[], rfl, by cases ss with | nil => exact .nil | cons a b => simp [stL] at e⟩
  | cons x _ ih =>
    intro ss e
    cases ss with
    | nil => simp [stL] at e
    | cons s ss =>
      have e' : x = .str s ∧ _ = stL ss := List.cons.inj (show _ = D.str s :: stL ss from e)
      obtain ⟨ts, e1, p⟩ := ih ss e'.2
      exact ⟨s :: ts, by rw [e'.1, e1]; rfl, p.cons s⟩
  | swap x y l =>
    intro ss e
    match ss, e with
    | s :: t :: ss, e =>
      have e' : x = .str s ∧ _ = stL (t :: ss) := List.cons.inj (show _ = D.str s :: stL (t :: ss) from e)
      have e2 : y = .str t ∧ l = stL ss := List.cons.inj (show _ = D.str t :: stL ss from e'.2)
      exact ⟨t :: s :: ss, by rw [e'.1, e2.1, e2.2]; rfl, .swap _ _ _⟩
    | [_], e => simp [stL] at e
    | [], e => simp [stL] at e
  | trans _ _ ih1 ih2 =>
    intro ss e
    obtain ⟨ts, e1, p1⟩ := ih2 ss e
    obtain ⟨us, e2, p2⟩ := ih1 ts e1
    exact ⟨us, e2, p2.trans p1⟩
/-- some of the names, drawn and sorted -/
theorem names_ok {F : List Fn} {k j T : Nat} (hF : F[j]? = some (.py (pMixed T))) (hT : F[T]? = some (.py pTake)) {ss : List Str} (h1 : ss.length < 1073741) : Ok (run F (k + 2) j [.lst (stL ss)]) fun d => ∃ ts, d = .lst (stL ts) ∧ ts.Perm ss :=
  (mixed_ok hF hT (by rw [len_strs]; exact h1)).mono fun d hd => by
    obtain ⟨ys, rfl, p⟩ := hd
    obtain ⟨ts, rfl, q⟩ := perm_strs p
    exact ⟨ts, rfl, q⟩
theorem take_sorted {ts ss : List Str} (hp : ts.Perm ss) (hn : ss.Nodup) (m : Nat) : ((ts.take m).mergeSort leS).Pairwise ltS ∧ (∀ s ∈ (ts.take m).mergeSort leS, s ∈ ss) ∧ ((ts.take m).mergeSort leS).length = min m ss.length :=
  ⟨sorted_lt ((List.take_sublist m ts).nodup (hp.nodup_iff.mpr hn)), fun s hs => hp.mem_iff.mp (List.mem_of_mem_take ((List.mergeSort_perm _ _).mem_iff.mp hs)), by rw [List.length_mergeSort, List.length_take, hp.length_eq]⟩
theorem slc_strs (ss : List Str) {i : Int} (h : 0 ≤ i) : slcD (.lst (stL ss)) none (some i) = some (.lst (stL (ss.take i.toNat))) := by
  show some (D.lst (cutG (stL ss) none (some i))) = _
  rw [cut_take _ h]
  unfold stL
  rw [List.map_take]

theorem enum_strs (ss : List Str) : ∀ n, enumD n (stL ss) = (ss.zipIdx n).map fun p => .tup [.int (p.2 : Nat), .str p.1] := by
  induction ss with
  | nil => intro n; rfl
  | cons s ss ih =>
    intro n
    show D.tup [.int n, .str s] :: enumD (n + 1) (stL ss) = _
    rw [ih, List.zipIdx_cons]; rfl
theorem enum_rows (ps : List (Str × D)) : ∀ n, enumD n (rows ps) = (ps.zipIdx n).map fun p => .tup [.int (p.2 : Nat), prD p.1] := by
  induction ps with
  | nil => intro n; rfl
  | cons s ss ih =>
    intro n
    show D.tup [.int n, prD s] :: enumD (n + 1) (rows ss) = _
    rw [ih, List.zipIdx_cons]; rfl
theorem slc_last (ss : List Str) : slcD (.lst (stL ss)) none (some (-1)) = some (.lst (stL ss.dropLast)) := by
  show some (D.lst (cutG (stL ss) none (some (-1)))) = _
  rw [cut_last]
  unfold stL
  rw [List.map_dropLast]
/-! sizes -/
theorem okDs_iff {xs : List D} : okDs xs = true ↔ ∀ x ∈ xs, okD x = true := by
  induction xs with
  | nil => simp [okDs]
  | cons x xs ih => simp [okDs, ih]
theorem deps_le {xs : List D} {n : Nat} (h : ∀ x ∈ xs, dep x ≤ n) : deps xs ≤ n := by
  induction xs with
  | nil => simp [deps]
  | cons x xs ih =>
    have a := h x List.mem_cons_self
    have b := ih fun y hy => h y (List.mem_cons_of_mem _ hy)
    simp only [deps]
    omega
theorem wDs_le {xs : List D} {w : Nat} (h : ∀ x ∈ xs, wD x ≤ w) : wDs xs ≤ xs.length * (w + 1) := by
  induction xs with
  | nil => simp [wDs]
  | cons x xs ih =>
    have a := h x List.mem_cons_self
    have b := ih fun y hy => h y (List.mem_cons_of_mem _ hy)
    simp only [wDs, List.length_cons, Nat.add_mul, Nat.one_mul]
    omega
/-- good: of small size and depth -/
structure Gd (n w : Nat) (d : D) : Prop where
  ok : okD d = true
  dep : dep d ≤ n
  w : wD d ≤ w
theorem Gd.mono {n n' w w' : Nat} {d : D} (h : Gd n w d) (hn : n ≤ n') (hw : w ≤ w') : Gd n' w' d := ⟨h.ok, Nat.le_trans h.dep hn, Nat.le_trans h.w hw⟩
theorem Gd.tup {n w k : Nat} {xs : List D} (h : ∀ x ∈ xs, Gd n w x) (hk : xs.length ≤ k) : Gd (n + 1) (k * (w + 1)) (.tup xs) :=
  ⟨by rw [okD]; exact okDs_iff.mpr fun x hx => (h x hx).ok, by rw [Dn.dep]; exact Nat.succ_le_succ (deps_le fun x hx => (h x hx).dep), by rw [wD]; exact Nat.le_trans (wDs_le fun x hx => (h x hx).w) (Nat.mul_le_mul_right _ hk)⟩
theorem Gd.lst {n w k : Nat} {xs : List D} (h : ∀ x ∈ xs, Gd n w x) (hk : xs.length ≤ k) : Gd (n + 1) (k * (w + 1)) (.lst xs) :=
  ⟨by rw [okD]; exact okDs_iff.mpr fun x hx => (h x hx).ok, by rw [Dn.dep]; exact Nat.succ_le_succ (deps_le fun x hx => (h x hx).dep), by rw [wD]; exact Nat.le_trans (wDs_le fun x hx => (h x hx).w) (Nat.mul_le_mul_right _ hk)⟩
theorem Gd.two {n w v : Nat} {a b : D} (ha : Gd n w a) (hb : Gd n v b) : Gd (n + 1) (w + v + 2) (.tup [a, b]) := by
  have := ha.dep; have := hb.dep; have := ha.w; have := hb.w
  exact ⟨by simp [okD, okDs, ha.ok, hb.ok], by simp [Dn.dep, deps]; omega, by simp [wD, wDs]; omega⟩
theorem Gd.three {n w v u : Nat} {a b c : D} (ha : Gd n w a) (hb : Gd n v b) (hc : Gd n u c) : Gd (n + 1) (w + v + u + 3) (.tup [a, b, c]) := by
  have := ha.dep; have := hb.dep; have := ha.w; have := hb.w; have := hc.dep; have := hc.w
  exact ⟨by simp [okD, okDs, ha.ok, hb.ok, hc.ok], by simp [Dn.dep, deps]; omega, by simp [wD, wDs]; omega⟩
theorem Gd.one {n w : Nat} {a : D} (ha : Gd n w a) : Gd (n + 1) (w + 1) (.tup [a]) := by
  have := ha.dep; have := ha.w
  exact ⟨by simp [okD, okDs, ha.ok], by simp [Dn.dep, deps]; omega, by simp [wD, wDs]; omega⟩
theorem Gd.lst2 {n w v : Nat} {a b : D} (ha : Gd n w a) (hb : Gd n v b) : Gd (n + 1) (w + v + 2) (.lst [a, b]) := by
  have := ha.dep; have := hb.dep; have := ha.w; have := hb.w
  exact ⟨by simp [okD, okDs, ha.ok, hb.ok], by simp [Dn.dep, deps]; omega, by simp [wD, wDs]; omega⟩
theorem Gd.lst3 {n w v u : Nat} {a b c : D} (ha : Gd n w a) (hb : Gd n v b) (hc : Gd n u c) : Gd (n + 1) (w + v + u + 3) (.lst [a, b, c]) := by
  have := ha.dep; have := hb.dep; have := ha.w; have := hb.w; have := hc.dep; have := hc.w
  exact ⟨by simp [okD, okDs, ha.ok, hb.ok, hc.ok], by simp [Dn.dep, deps]; omega, by simp [wD, wDs]; omega⟩
theorem Gd.int {n : Nat} {i : Int} (h : i.natAbs < 10 ^ 12) : Gd n 40 (.int i) := ⟨by simp only [okD]; exact decide_eq_true h, by simp [Dn.dep], by simp [wD]⟩
theorem Gd.bl {n : Nat} {b : Bool} : Gd n 0 (.bl b) := ⟨rfl, by simp [Dn.dep], by simp [wD]⟩
/-- a name -/
def nmB (s : Str) : Bool := decide (s.cps.size ≤ 12) && okD (.str s)
theorem Gd.nm {n : Nat} {s : Str} (h : nmB s = true) : Gd n 12 (.str s) := by
  obtain ⟨h1, h2⟩ := Bool.and_eq_true_iff.mp h
  exact ⟨h2, by simp [Dn.dep], by simpa [wD] using of_decide_eq_true h1⟩
/-- closed data -/
def gdB (n w : Nat) (d : D) : Bool := okD d && decide (dep d ≤ n) && decide (wD d ≤ w)
theorem Gd.dec {n w : Nat} {d : D} (h : gdB n w d = true) : Gd n w d := by
  obtain ⟨h1, h2⟩ := Bool.and_eq_true_iff.mp h
  obtain ⟨h3, h4⟩ := Bool.and_eq_true_iff.mp h1
  exact ⟨h3, of_decide_eq_true h4, of_decide_eq_true h2⟩
theorem Gd.flat {n w : Nat} {d : D} (h : Gd n w d) : flat d = true := flat_of_ok d h.ok
theorem Gd.noIns {n w : Nat} {d : D} (h : Gd n w d) : noIns d = true := noIns_of d h.flat
theorem Gd.alike {F : List Fn} {k j n w : Nat} (hF : F[j]? = some (.py pAlike)) {d : D} (h : Gd n w d) (hn : n ≤ 60) (hw : w ≤ 2 ^ 20) : run F (k + 1) j [d, d] = ret (.bl true) := alike_ok hF h.ok (Nat.le_trans h.dep hn) (Nat.le_trans h.w hw)
theorem Gd.repr {n w : Nat} {d : D} (h : Gd n w d) (hn : n ≤ 60) (hw : w ≤ 2 ^ 20) : biM .repr d = some (.str (toP d).shown) := repr_ok h.ok (Nat.le_trans h.dep hn) (Nat.le_trans h.w hw)
theorem in_good {x : D} {ys : List D} {n w : Nat} (hx : Gd n w x) (hn : n ≤ 60) (hy : ∀ y ∈ ys, okD y = true) : cmpD .isin x (.tup ys) = some (ys.any fun y => eqD y x) := by
  show (if inOk x ys = true then some (ys.any fun y => eqD y x) else none) = _
  rw [if_pos]
  unfold inOk
  rw [hx.flat, Bool.true_and, List.all_eq_true]
  exact fun y hm => eqOk_of' (hy y hm) hx.ok (Nat.le_trans hx.dep hn)
/-- rows of texts: they can be sorted -/
theorem alike_srows {rs : List (List Str)} (h : ∀ r ∈ rs, r ≠ []) : alikeB (rs.map fun r => .tup (stL r)) = true := by
  have fl : ∀ ss : List Str, flats (stL ss) = true := fun ss => by
    induction ss with
    | nil => rfl
    | cons s ss ih => show (flat (.str s) && flats (stL ss)) = true; rw [ih]; rfl
  have dp : ∀ ss : List Str, deps (stL ss) = 0 := fun ss => by
    induction ss with
    | nil => rfl
    | cons s ss ih => show max (dep (.str s)) (deps (stL ss)) = 0; rw [ih]; rfl
  have al : ∀ ss ts : List Str, PySem.W.alikeAll (toPs (stL ss)) (toPs (stL ts)) = true := fun ss => by
    induction ss with
    | nil => intro ts; simp [stL, toPs, PySem.W.alikeAll]
    | cons s ss ih =>
      intro ts
      cases ts with
      | nil => simp [stL, toPs, PySem.W.alikeAll]
      | cons t ts =>
        show PySem.W.alikeAll (.str s :: toPs (stL ss)) (.str t :: toPs (stL ts)) = true
        rw [PySem.W.alikeAll, ih ts]
        simp [PySem.W.alike]
  unfold alikeB
  have h1 : (rs.map fun r => D.tup (stL r)).all tupNe = true := by
    rw [List.all_eq_true]
    intro d hd
    obtain ⟨r, hr, rfl⟩ := List.mem_map.mp hd
    cases r with
    | nil => exact absurd rfl (h _ hr)
    | cons s r => rfl
  rw [h1, Bool.true_or, Bool.and_true, List.all_eq_true]
  intro d hd
  obtain ⟨r, _, rfl⟩ := List.mem_map.mp hd
  rw [Bool.and_eq_true, Bool.and_eq_true, List.all_eq_true]
  refine ⟨⟨by rw [flat]; exact fl r, ?_⟩, fun e he => ?_⟩
  · rw [Dn.dep, dp]; decide
  · obtain ⟨t, _, rfl⟩ := List.mem_map.mp he
    show PySem.W.alike (.tuple (toPs (stL r))) (.tuple (toPs (stL t))) = true
    rw [PySem.W.alike]; exact al r t
end Dn

set_option Elab.async false
set_option linter.all false
set_option maxRecDepth 100000
/-! Dn, plain laws, part five: statements that tell one thing; comprehensions; dicts looked into; big numbers. -/
namespace Dn
open PySem L2
section
variable {Φ : Nat → List D → M D} {ρ : Rho} {c e : Ex} {a r : Sts} {d : D} {X : M Out} {i : Nat}
theorem y_skip (h : ev Φ ρ c = ret (.bl false)) (k : exs Φ ρ r = X) : exs Φ ρ (.cons (.ifs c a .nil) r) = X := by
  rw [exs_cons, ex, h]
  simp only [bnd_r, boolOf_b, Bool.false_eq_true, if_false, exs_nil]
  exact k
theorem y_then (h : ev Φ ρ c = ret (.bl true)) (k : exs Φ ρ a = ret (.rt d)) : exs Φ ρ (.cons (.ifs c a .nil) r) = ret (.rt d) := by
  rw [exs_cons, ex, h]
  simp only [bnd_r, boolOf_b, if_true]
  rw [k]; rfl
theorem y_ret (h : ev Φ ρ e = ret d) : exs Φ ρ (.cons (.ret e) r) = ret (.rt d) := by
  rw [exs_cons, ex, h]; rfl
theorem y_low {n : Nat} (k : exs Φ ρ r = X) : exs Φ ρ (.cons (.low i n) r) = X := by
  rw [exs_cons]
  simp only [ex, bnd_r]
  exact k
theorem y_asg (h : ev Φ ρ e = ret d) (hi : i < ρ.length) (k : exs Φ (ρ.set i (some d)) r = X) : exs Φ ρ (.cons (.asg (.nm i) e) r) = X := by
  rw [exs_cons, ex, h]
  simp only [bnd_r, bindT, if_pos hi, lift_s]
  exact k
/-- a comprehension over items of one kind -/
theorem y_lc {α : Type} {elt : Ex} {own : List Nat} {it : It} {zs : List α} {f : α → D} {g : α → D} (h : evi Φ ρ it = ret (zs.map f)) (hi : i < (wipeR ρ own).length) (he : ∀ z ∈ zs, ev Φ ((wipeR ρ own).set i (some (f z))) elt = ret (g z)) :
    ev Φ ρ (.lc elt own (.nm i) it .no) = ret (.lst (zs.map g)) := by
  rw [ev, h]
  simp only [bnd_r]
  rw [loop_map (g := g) zs fun z hz => by simp only [bindT, if_pos hi, lift_s, bnd_r, evc, if_true, he z hz]]
  rfl
theorem y_call {f : Nat} {es : Exs} {xs : List D} (h : evs Φ ρ es = ret xs) (k : Φ f xs = ret d) : ev Φ ρ (.call f es) = ret d := by
  rw [ev, h]; exact k
theorem y_itex {xs : List D} (h : ev Φ ρ e = ret (.lst xs)) : evi Φ ρ (.ex e) = ret xs := by
  rw [evi, h]; rfl
theorem y_bi {f : Bi} {x : D} (h : ev Φ ρ e = ret x) (k : biM f x = some d) : ev Φ ρ (.bi f e) = ret d := by
  rw [ev, h]; simp only [bnd_r, k, lift_s]
theorem y_iteT {a' b' : Ex} (h : ev Φ ρ c = ret (.bl true)) (k : ev Φ ρ a' = ret d) : ev Φ ρ (.ite c a' b') = ret d := by
  rw [ev, h]; simp only [bnd_r, boolOf_b, if_true]; exact k
theorem y_iteF {a' b' : Ex} (h : ev Φ ρ c = ret (.bl false)) (k : ev Φ ρ b' = ret d) : ev Φ ρ (.ite c a' b') = ret d := by
  rw [ev, h]; simp only [bnd_r, boolOf_b, Bool.false_eq_true, if_false]; exact k
theorem y_and {a' b' : Ex} {x y : Bool} (h : ev Φ ρ a' = ret (.bl x)) (k : x = true → ev Φ ρ b' = ret (.bl y)) (hy : x = false → y = false) : ev Φ ρ (.and_ a' b') = ret (.bl y) := by
  rw [ev, h]
  cases x with
  | true => simp only [bnd_r, boolOf_b, if_true, k rfl]
  | false => simp only [bnd_r, boolOf_b, Bool.false_eq_true, if_false, hy rfl]
theorem y_not {a' : Ex} {x : Bool} (h : ev Φ ρ a' = ret (.bl x)) : ev Φ ρ (.not_ a') = ret (.bl (!x)) := by
  rw [ev, h]; rfl
end
/-! ### dicts with texts in front -/
theorem keq_str (x y : Str) : keq (.str x) (.str y) = (x == y) := rfl
theorem dget_cons (k v : D) (r : List (D × D)) (z : D) : dget ((k, v) :: r) z = if keq k z = true then some v else dget r z := by
  unfold dget
  rw [List.find?_cons]
  cases h : keq k z <;> simp
theorem dhas_cons (k v : D) (r : List (D × D)) (z : D) : dhas ((k, v) :: r) z = (keq k z || dhas r z) := by
  unfold dhas
  rw [List.any_cons]
theorem map_out {kvs : List (D × D)} {k v : D} (h : dhas kvs k = false) : (kvs.map fun p => if keq p.1 k then (p.1, v) else p) = kvs := by
  conv => rhs; rw [← List.map_id kvs]
  refine List.map_congr_left fun q hq => ?_
  have : keq q.1 k = false := by
    cases y : keq q.1 k with
    | false => rfl
    | true =>
      have : dhas kvs k = true := List.any_eq_true.mpr ⟨q, hq, y⟩
      rw [h] at this; cases this
  simp [this]
theorem dget_out {kvs : List (D × D)} {k : D} (h : dhas kvs k = false) : dget kvs k = none := by
  unfold dget
  rw [Option.map_eq_none_iff, List.find?_eq_none]
  intro q hq y
  have : dhas kvs k = true := List.any_eq_true.mpr ⟨q, hq, y⟩
  rw [h] at this; cases this
theorem dget_put {kvs : List (D × D)} {s : Str} {v : D} (hk : ∀ p ∈ kvs, isStrKey p = true) (z : Str) : dget (dput kvs (.str s) v) (.str z) = if s = z then some v else dget kvs (.str z) := by
  have hb : ∀ (kvs : List (D × D)), (∀ p ∈ kvs, isStrKey p = true) → dhas kvs (.str s) = true → dget (kvs.map fun p => if keq p.1 (.str s) then (p.1, v) else p) (.str z) = if s = z then some v else dget kvs (.str z) := by
    intro kvs
    induction kvs with
    | nil => intro _ h; simp [dhas] at h
    | cons p kvs ih =>
      intro hk h
      obtain ⟨a, w⟩ := p
      cases a with
      | str x =>
        rw [List.map_cons, dget_cons]
        rw [dhas_cons] at h
        dsimp only
        rw [keq_str] at h ⊢
        by_cases e : x = s
        · subst e
          simp only [beq_self_eq_true, if_true]
          rw [dget_cons, keq_str]
          by_cases e2 : x = z
          · subst e2; simp
          · have hx : (x == z) = false := by simp [e2]
            rw [hx, if_neg e2]
            simp only [Bool.false_eq_true, if_false]
            cases h2 : dhas kvs (.str x) with
            | true =>
              have := ih (fun q hq => hk q (List.mem_cons_of_mem _ hq)) h2
              rw [if_neg e2] at this
              exact this
            | false => rw [map_out h2]
        · have hx : (x == s) = false := by simp [e]
          rw [hx, Bool.false_or] at h
          have := ih (fun q hq => hk q (List.mem_cons_of_mem _ hq)) h
          rw [hx]
          simp only [Bool.false_eq_true, if_false]
          rw [dget_cons, keq_str, this]
          by_cases e3 : x = z
          · subst e3
            simp [Ne.symm e]
          · have hz : (x == z) = false := by simp [e3]
            simp [hz]
      | _ => exact absurd (hk _ List.mem_cons_self) (by simp [isStrKey])
  unfold dput
  cases h : dhas kvs (.str s) with
  | true => rw [if_pos rfl]; exact hb kvs hk h
  | false =>
    rw [if_neg (by simp)]
    unfold dget
    rw [List.find?_append]
    by_cases e : s = z
    · subst e
      have := dget_out h
      unfold dget at this
      rw [Option.map_eq_none_iff] at this
      rw [this]
      simp [keq_str]
    · have hz : (s == z) = false := by simp [e]
      cases kvs.find? (fun p => keq p.1 (.str z)) with
      | none => simp [keq_str, hz, e]
      | some q => simp [e]
theorem put_strs {kvs : List (D × D)} {s : Str} {v : D} (hk : ∀ p ∈ kvs, isStrKey p = true) : ∀ p ∈ dput kvs (.str s) v, isStrKey p = true := by
  unfold dput
  intro p hp
  by_cases h : dhas kvs (.str s) = true
  · rw [if_pos h] at hp
    obtain ⟨q, hq, rfl⟩ := List.mem_map.mp hp
    have := hk q hq
    by_cases y : keq q.1 (.str s) = true
    · rw [if_pos y]; cases q with | mk a b => cases a <;> first | rfl | simp [isStrKey] at this
    · rw [if_neg y]; exact this
  · rw [if_neg h] at hp
    rcases List.mem_append.mp hp with hp | hp
    · exact hk p hp
    · rw [List.mem_singleton.mp hp]; rfl
/-- one dict over another: texts in front, once each in the second -/
theorem dget_merge (z : Str) : ∀ (ps : List (Str × D)) (kvs : List (D × D)), (∀ p ∈ kvs, isStrKey p = true) → (ps.map (·.1)).Nodup → dget (dmerge kvs (ents ps)) (.str z) = ((ps.find? fun p => p.1 == z).map (·.2)).or (dget kvs (.str z))
  | [], kvs, _, _ => rfl
  | p :: ps, kvs, hk, nd => by
    rw [List.map_cons, List.nodup_cons] at nd
    show dget (dmerge (dput kvs (.str p.1) p.2) (ents ps)) (.str z) = _
    rw [dget_merge z ps _ (put_strs hk) nd.2, dget_put hk, List.find?_cons]
    by_cases e : p.1 = z
    · have : ps.find? (fun p => p.1 == z) = none := by
        rw [List.find?_eq_none]
        intro q hq y
        have y : q.1 = z := by simpa using y
        exact nd.1 (by rw [e, ← y]; exact List.mem_map_of_mem hq)
      simp [this, e]
    · have : (p.1 == z) = false := by simp [e]
      simp [this, e]
theorem dget_ents (z : Str) : ∀ (ps : List (Str × D)), dget (ents ps) (.str z) = (ps.find? fun p => p.1 == z).map (·.2)
  | [] => rfl
  | p :: ps => by
    unfold dget ents
    rw [List.map_cons, List.find?_cons, List.find?_cons]
    show Option.map (·.2) (match p.1 == z with | true => some (kv p) | false => _) = _
    cases h : p.1 == z with
    | true => rfl
    | false => exact dget_ents z ps
theorem ents_strs (ps : List (Str × D)) : ∀ p ∈ ents ps, isStrKey p = true := by
  intro p hp
  obtain ⟨q, _, rfl⟩ := List.mem_map.mp hp
  rfl
/-! ### big numbers -/
theorem big_repr {i : Int} (h : i.natAbs.log2 < 1920) : biM .repr (.int i) = some (.str (toP (.int i)).shown) := by
  show showD _ = _
  unfold showD
  rw [if_pos]
  unfold showOk
  have e : (toP (.int i)).shown.length ≤ line := by
    have := int_text_fits h
    rw [sizeLine_eq] at this
    exact this
  rw [decide_eq_true e]
  simp [noIns, toP, PyData.showable, h, dep]
theorem alike_int {F : List Fn} {k j : Nat} (hF : F[j]? = some (.py pAlike)) {i : Int} (h : i.natAbs.log2 < 1920) : run F (k + 1) j [.int i, .int i] = ret (.bl true) := by
  rw [run_py hF _ rfl]
  show bnd (exs (run F k) [some (.int i), some (.int i)] pAlike.body) outD = _
  simp [pAlike, exs, ex, ev, eq_int, big_repr h, eq_str, outD]
theorem mul_med {i j : Int} {a b : Nat} (hi : i.natAbs < 2 ^ a) (hj : j.natAbs < 2 ^ b) (ha : a ≤ 40000) (hb : b ≤ 40000) : binD .mul (.int i) (.int j) = some (.int (i * j)) := by
  show (if smallI i || smallI j || (medI i && medI j) then some (D.int (i * j)) else none) = _
  have e : medE = 40000 := by unfold medE; rfl
  have m1 : medI i = true := by
    unfold medI
    rw [e]
    exact decide_eq_true (Nat.lt_of_lt_of_le hi (Nat.pow_le_pow_right (by decide) ha))
  have m2 : medI j = true := by
    unfold medI
    rw [e]
    exact decide_eq_true (Nat.lt_of_lt_of_le hj (Nat.pow_le_pow_right (by decide) hb))
  rw [m1, m2]
  simp
/-! ### loops that tell one thing -/
theorem iter_eq {α : Type} {f : Rho → D → M Out} {e : α → D} (I : List α → Rho → Prop) : ∀ (xs dn : List α) (ρ : Rho), I dn ρ → (∀ d x r ρ, dn ++ xs = d ++ x :: r → I d ρ → ∃ ρ', f ρ (e x) = ret (.nx ρ') ∧ I (d ++ [x]) ρ') → ∃ ρ', iter f ρ (xs.map e) = ret (.nx ρ') ∧ I (dn ++ xs) ρ'
  | [], dn, ρ, h, _ => ⟨ρ, rfl, by rw [List.append_nil]; exact h⟩
  | x :: xs, dn, ρ, h, k => by
    obtain ⟨ρ1, e1, h1⟩ := k dn x xs ρ rfl h
    obtain ⟨ρ2, e2, h2⟩ := iter_eq I xs (dn ++ [x]) ρ1 h1 fun d y r ρ hy => k d y r ρ (by rw [← hy, List.append_assoc]; rfl)
    refine ⟨ρ2, ?_, by rw [List.append_assoc] at h2; exact h2⟩
    show bnd (f ρ (e x)) _ = _
    rw [e1]
    exact e2
theorem y_for {Φ : Nat → List D → M D} {ρ : Rho} {r b : Sts} {X : M Out} {α : Type} {tg : Tg} {it : It} {zs : List α} {e : α → D} (he : evi Φ ρ it = ret (zs.map e)) (I : List α → Rho → Prop) (h0 : I [] ρ)
    (hb : ∀ d x s ρ, zs = d ++ x :: s → I d ρ → ∃ ρ1 ρ', bindT tg (e x) ρ = some ρ1 ∧ exs Φ ρ1 b = ret (.nx ρ') ∧ I (d ++ [x]) ρ') (k : ∀ ρ', I zs ρ' → exs Φ ρ' r = X) : exs Φ ρ (.cons (.for_ tg it b) r) = X := by
  rw [exs_cons, ex, he, bnd_r]
  obtain ⟨ρ', e1, h1⟩ := iter_eq (f := fun ρ x => bnd (lift (bindT tg x ρ)) fun ρ1 => exs Φ ρ1 b) (e := e) I zs [] ρ h0 fun d x s ρ hy hi => by
    obtain ⟨ρ1, ρ', a1, a2, a3⟩ := hb d x s ρ hy hi
    exact ⟨ρ', by rw [a1, lift_s, bnd_r, a2], a3⟩
  rw [e1, bnd_r]
  exact k ρ' h1
/-! ### texts, once each, sorted -/
def srt (ss : List Str) : List Str := (onceS [] ss).mergeSort leS
theorem mem_srt {ss : List Str} {z : Str} : z ∈ srt ss ↔ z ∈ ss := by
  unfold srt
  rw [(List.mergeSort_perm _ _).mem_iff, (onceS_nd ss [] List.nodup_nil).2 z]
  simp
theorem srt_ext {xs ys : List Str} (h : ∀ z, z ∈ xs ↔ z ∈ ys) : srt xs = srt ys := by
  have a := onceS_nd xs [] List.nodup_nil
  have b := onceS_nd ys [] List.nodup_nil
  have p : (onceS [] xs).Perm (onceS [] ys) := perm_nd a.1 b.1 fun z => by rw [a.2 z, b.2 z]; simp [h z]
  exact List.Perm.eq_of_pairwise (fun a b _ _ h1 h2 => leS_anti h1 h2) (List.pairwise_mergeSort leS_trans leS_total _) (List.pairwise_mergeSort leS_trans leS_total _)
    ((List.mergeSort_perm _ _).trans (p.trans (List.mergeSort_perm _ _).symm))
theorem nd_len : ∀ {l m : List Str}, l.Nodup → (∀ z ∈ l, z ∈ m) → l.length ≤ m.length
  | [], _, _, _ => Nat.zero_le _
  | x :: l, m, nd, hs => by
    obtain ⟨n1, n2⟩ := List.nodup_cons.mp nd
    have p := List.perm_cons_erase (hs x List.mem_cons_self)
    have e := p.length_eq
    rw [List.length_cons] at e ⊢
    have := nd_len (m := m.erase x) n2 fun z hz => by
      have ne : z ≠ x := fun q => n1 (by rw [← q]; exact hz)
      exact (List.mem_erase_of_ne ne).mpr (hs z (List.mem_cons_of_mem _ hz))
    omega
theorem once_len {ss m : List Str} (h : ∀ z ∈ ss, z ∈ m) : (onceS [] ss).length ≤ m.length := by
  have a := onceS_nd ss [] List.nodup_nil
  exact nd_len a.1 fun z hz => h z (by simpa using (a.2 z).mp hz)
theorem srt_len {ss m : List Str} (h : ∀ z ∈ ss, z ∈ m) : (srt ss).length ≤ m.length := by
  unfold srt
  rw [List.length_mergeSort]
  exact once_len h
theorem sst_srt {ss : List Str} (h : ss.length < 64) : sstD (.lst (stL ss)) = some (.lst (stL (srt ss))) := by
  show (if (stL ss).all isStrD = true ∧ (stL ss).length < 64 then some (D.lst ((onceD (stL ss)).mergeSort leD)) else none) = _
  rw [if_pos ⟨by simp [stL, isStrD], by rw [len_strs]; exact h⟩]
  unfold stL
  rw [onceD_strs, sort_strs]
  rfl
theorem keysV {v : D} : ∀ (ns acc : List Str) (kvs : List (D × D)), kvs.map (·.1) = acc.map D.str → (dmerge kvs (ns.map fun z => (D.str z, v))).map (·.1) = (onceS acc ns).map D.str
  | [], acc, kvs, h => h
  | z :: ns, acc, kvs, h => keysV ns _ (dput kvs (.str z) v) (dput_keysS h)
theorem dput_len (kvs : List (D × D)) (k v : D) : (dput kvs k v).length ≤ kvs.length + 1 := by
  unfold dput
  by_cases h : dhas kvs k = true
  · rw [if_pos h, List.length_map]; omega
  · rw [if_neg h, List.length_append]; simp
theorem fold_keys {v : D} {f : List (D × D) → D → M (List (D × D))} (hf : ∀ kvs z, kvs.length < line → f kvs (.str z) = ret (dput kvs (.str z) v)) : ∀ (ss : List Str) (kvs : List (D × D)), kvs.length + ss.length ≤ line → foldM f kvs (stL ss) = ret (dmerge kvs (ss.map fun z => (D.str z, v)))
  | [], kvs, _ => rfl
  | z :: ss, kvs, h => by
    rw [List.length_cons] at h
    show bnd (f kvs (.str z)) (fun b' => foldM f b' (stL ss)) = _
    rw [hf kvs z (by omega), bnd_r]
    exact fold_keys hf ss _ (by have := dput_len kvs (.str z) v; omega)
theorem sorted_keysV {v : D} {ss : List Str} (h : (onceS [] ss).length < 64) : biM .sorted (.dct (dmerge [] (ss.map fun z => (D.str z, v)))) = some (.lst (stL (srt ss))) := by
  have e := keysV (v := v) ss [] [] rfl
  generalize dmerge [] (ss.map fun z => (D.str z, v)) = kvs at e
  show (if ((kvs.all isStrKey || kvs.all isIntKey) && decide (kvs.length < 64)) = true then some (D.lst ((kvs.map (·.1)).mergeSort leD)) else none) = _
  have hl : kvs.length < 64 := by
    have := congrArg List.length e
    rw [List.length_map, List.length_map] at this
    omega
  have ha : kvs.all isStrKey = true := by
    rw [List.all_eq_true]
    intro p hp
    have : p.1 ∈ kvs.map (·.1) := List.mem_map_of_mem hp
    rw [e] at this
    obtain ⟨s, _, hs⟩ := List.mem_map.mp this
    obtain ⟨a, b⟩ := p
    dsimp only at hs
    subst hs; rfl
  rw [if_pos (by rw [ha, decide_eq_true hl]; rfl), e, sort_strs]
  rfl
end Dn

set_option Elab.async false
set_option linter.all false
set_option maxRecDepth 100000
set_option maxHeartbeats 0
/-! the table of the defs, printed by ents.py -/
namespace K06
open PySem Dn
abbrev Rw : PySem.W.OpenLaw := PySem.Challenge.rw_everyversion_k06_whole_what_is_put_in
def dAt (i : Nat) : He.DefD := (defsIn Rw.prog.main.body).getD i noDef
/-- the constants of the module -/
def d_TRUE : D := (.tup [(.str "true")])
def cs : List (Str × D) := [("TRUE", d_TRUE)]
/-- parts_within(thing) -/
def b0 : Sts := (.cons (.ifs (.cmp .isin (.idx (.var 0) (.ki 0)) (.tup (.cons (.ks "num") (.cons (.ks "col") (.cons (.ks "key") (.cons (.ks "true") .nil)))))) (.cons (.ret (.lst .nil))
 .nil) .nil)
 (.cons (.ret (.ite (.cmp .isin (.idx (.var 0) (.ki 0)) (.tup (.cons (.ks "via") (.cons (.ks "by") .nil)))) (.lst (.cons (.idx (.var 0) (.ki 2)) .nil)) (.bi .list (.slc (.var 0) (.yes (.ki 1)) .no))))
 .nil))
def p0 : Py := ⟨"parts_within", false, 1, 1, 0, b0⟩
def e0 : Ent := ⟨dAt 0, ["thing"], .py p0, cs⟩
/-- columns_met(thing) -/
def b1 : Sts := (.cons (.ifs (.cmp .isin (.idx (.var 0) (.ki 0)) (.tup (.cons (.ks "col") (.cons (.ks "via") .nil)))) (.cons (.ret (.lst (.cons (.idx (.var 0) (.ki 1)) .nil)))
 .nil) .nil)
 (.cons (.ret (.lc2 (.var 2) [1, 2] (.nm 1) (.ex (.call 0 (.cons (.var 0) .nil))) .no (.nm 2) (.ex (.call 1 (.cons (.var 1) .nil))) .no))
 .nil))
def p1 : Py := ⟨"columns_met", false, 1, 3, 0, b1⟩
def e1 : Ent := ⟨dAt 1, ["thing", "part", "column"], .py p1, cs⟩
/-- columns_in(thing) -/
def b2 : Sts := (.cons (.ret (.bi .tuple (.bi .sorted (.dc (.var 1) (.kb true) [1] (.nm 1) (.ex (.call 1 (.cons (.var 0) .nil))) .no))))
 .nil)
def p2 : Py := ⟨"columns_in", false, 1, 2, 0, b2⟩
def e2 : Ent := ⟨dAt 2, ["thing", "column"], .py p2, cs⟩
/-- parts_many(thing) -/
def b3 : Sts := (.cons (.ret (.bin .add (.ki 1) (.bi .sum (.lc (.call 3 (.cons (.var 1) .nil)) [1] (.nm 1) (.ex (.call 0 (.cons (.var 0) .nil))) .no))))
 .nil)
def p3 : Py := ⟨"parts_many", false, 1, 2, 0, b3⟩
def e3 : Ent := ⟨dAt 3, ["thing", "part"], .py p3, cs⟩
/-- put_in(thing, columns, key) -/
def b4 : Sts := (.cons (.ifs (.cmp .eq (.idx (.var 0) (.ki 0)) (.ks "key")) (.cons (.ret (.var 2))
 .nil) .nil)
 (.cons (.ifs (.cmp .eq (.idx (.var 0) (.ki 0)) (.ks "col")) (.cons (.ret (.get2 (.var 1) (.idx (.var 0) (.ki 1)) (.var 0)))
 .nil) .nil)
 (.cons (.ifs (.cmp .eq (.idx (.var 0) (.ki 0)) (.ks "by")) (.cons (.ret (.tup (.cons (.ks "by") (.cons (.idx (.var 0) (.ki 1)) (.cons (.call 4 (.cons (.idx (.var 0) (.ki 2)) (.cons (.var 1) (.cons (.var 2) .nil)))) .nil)))))
 .nil) .nil)
 (.cons (.ifs (.cmp .isin (.idx (.var 0) (.ki 0)) (.tup (.cons (.ks "num") (.cons (.ks "true") .nil)))) (.cons (.ret (.var 0))
 .nil) .nil)
 (.cons (.ret (.tst (.idx (.var 0) (.ki 0)) (.lc (.call 4 (.cons (.var 3) (.cons (.var 1) (.cons (.var 2) .nil)))) [3] (.nm 3) (.ex (.slc (.var 0) (.yes (.ki 1)) .no)) .no)))
 .nil)))))
def p4 : Py := ⟨"put_in", false, 3, 4, 0, b4⟩
def e4 : Ent := ⟨dAt 4, ["thing", "columns", "key", "part"], .py p4, cs⟩
/-- both(one, other) -/
def b5 : Sts := (.cons (.ifs (.cmp .eq (.var 0) (.glo "TRUE" d_TRUE)) (.cons (.ret (.var 1))
 .nil) .nil)
 (.cons (.ret (.ite (.cmp .eq (.var 1) (.glo "TRUE" d_TRUE)) (.var 0) (.tup (.cons (.ks "and") (.cons (.var 0) (.cons (.var 1) .nil))))))
 .nil))
def p5 : Py := ⟨"both", false, 2, 2, 0, b5⟩
def e5 : Ent := ⟨dAt 5, ["one", "other"], .py p5, cs⟩
/-- _law_led(_law_way, _law_x) -/
def b6 : Sts := (.cons (.asg (.nm 2) (.idx (.var 0) (.ki 0)))
 (.cons (.ifs (.cmp .eq (.var 2) (.ks "list")) (.cons (.ret (.ite (.chn .le .lt (.ki 0) (.var 1) (.bi .len (.idx (.var 0) (.ki 1)))) (.idx (.idx (.var 0) (.ki 1)) (.var 1)) .kn))
 .nil) .nil)
 (.cons (.ifs (.cmp .eq (.var 2) (.ks "turned")) (.cons (.ret (.neg (.var 1)))
 .nil) .nil)
 (.cons (.ifs (.cmp .isin (.var 2) (.tup (.cons (.ks "plus") (.cons (.ks "times") .nil)))) (.cons (.ret (.ite (.cmp .eq (.var 2) (.ks "plus")) (.bin .add (.var 1) (.idx (.var 0) (.ki 1))) (.bin .mul (.var 1) (.idx (.var 0) (.ki 1)))))
 .nil) .nil)
 (.cons (.ret (.ite (.cmp .eq (.var 2) (.ks "over")) (.bin .fdiv (.var 1) (.idx (.var 0) (.ki 1))) (.bin .sub (.var 1) (.bin .mul (.idx (.var 0) (.ki 1)) (.bin .fdiv (.var 1) (.idx (.var 0) (.ki 1)))))))
 .nil)))))
def p6 : Py := ⟨"_law_led", false, 2, 3, 0, b6⟩
def e6 : Ent := ⟨dAt 6, ["_law_way", "_law_x", "_law_word"], .py p6, cs⟩
/-- _law_is_int(_law_thing) -/
def b7 : Sts := (.cons (.ret (.and_ (.isi (.var 0) .int) (.not_ (.isi (.var 0) .bool))))
 .nil)
def p7 : Py := ⟨"_law_is_int", false, 1, 1, 0, b7⟩
def e7 : Ent := ⟨dAt 7, ["_law_thing"], .py p7, cs⟩
/-- _law_take(_law_bag_here, _law_many) -/
def b8 : Sts := (.cons (.ifs (.cmp .eq (.bgi 0) (.ki 0)) (.cons (.asg (.nm 4) .bgc)
 (.cons (.low 4 0)
 (.cons .bgx
 (.cons (.ifs (.cmp .ge (.var 4) (.bin .pow (.ki 10) (.ki 18))) (.cons (.bgs 0 (.var 4))
 .nil) .nil)
 (.cons (.asg (.nm 5) (.bin .add (.bin .add (.bin .mul (.bgi 1) (.ki 48271)) (.bin .mod (.bi .int (.var 4)) (.ki 2147483647))) (.bin .mul (.ki 7919) (.bgi 2))))
 (.cons (.low 5 0)
 (.cons (.bgs 1 (.bin .mod (.bi .int (.var 5)) (.ki 2147483647)))
 .nil))))))) .nil)
 (.cons (.ifs (.cmp .gt (.bgi 0) (.ki 0)) (.cons (.asg (.nm 6) (.bin .mod (.bi .int (.bgi 0)) (.var 1)))
 (.cons (.low 6 0)
 (.cons (.bgs 0 (.bin .fdiv (.bi .int (.bgi 0)) (.var 1)))
 (.cons (.ret (.var 6))
 .nil)))) .nil)
 (.cons (.asg (.nm 2) (.bin .mod (.bi .int (.bin .mul (.bin .add (.bgi 1) (.ki 1)) (.ki 39373))) (.ki 1000000007)))
 (.cons (.low 2 0)
 (.cons (.asg (.nm 3) (.bin .mod (.bi .int (.bin .mul (.bin .mod (.bi .int (.bin .mul (.var 2) (.var 2))) (.ki 998244353)) (.ki 30011))) (.ki 998244353)))
 (.cons (.low 3 0)
 (.cons (.ret (.bin .mod (.bi .int (.bin .fdiv (.var 3) (.ki 7))) (.var 1)))
 .nil)))))))
def p8 : Py := ⟨"_law_take", true, 1, 7, 0, b8⟩
def e8 : Ent := ⟨dAt 9, ["_law_bag_here", "_law_many", "_law_begin", "_law_second", "_law_cell", "_law_stirred", "_law_value"], .py p8, cs⟩
/-- _law_some(_law_bag_here, _law_things) -/
def b9 : Sts := (.cons (.ret (.idx (.var 1) (.call 8 (.cons (.bi .len (.var 1)) .nil))))
 .nil)
def p9 : Py := ⟨"_law_some", true, 1, 2, 0, b9⟩
def e9 : Ent := ⟨dAt 10, ["_law_bag_here", "_law_things"], .py p9, cs⟩
/-- _law_mixed(_law_bag_here, _law_things) -/
def b10 : Sts := (.cons (.asg (.nm 2) (.lst .nil))
 (.cons (.low 2 1)
 (.cons (.for_ (.nm 3) (.ex (.var 1)) (.cons (.mut .insert 2 .nil (.cons (.call 8 (.cons (.bin .add (.bi .len (.var 2)) (.ki 1)) .nil)) (.cons (.var 3) .nil)))
 .nil))
 (.cons (.low 2 0)
 (.cons (.ret (.var 2))
 .nil)))))
def p10 : Py := ⟨"_law_mixed", true, 1, 4, 0, b10⟩
def e10 : Ent := ⟨dAt 11, ["_law_bag_here", "_law_things", "_law_found", "_law_thing"], .py p10, cs⟩
/-- _law_alike(_law_found, _law_due) -/
def b11 : Sts := (.cons (.ret (.and_ (.cmp .eq (.var 0) (.var 1)) (.cmp .eq (.bi .repr (.var 0)) (.bi .repr (.var 1)))))
 .nil)
def p11 : Py := ⟨"_law_alike", false, 2, 2, 0, b11⟩
def e11 : Ent := ⟨dAt 12, ["_law_found", "_law_due"], .py p11, cs⟩
/-- _law_barred() -/
def b12 : Sts := (.cons (.asg (.nm 0) (.lst (.cons (.ks "add") (.cons (.ks "and") (.cons (.ks "apart") (.cons (.ks "ask") (.cons (.ks "below") (.cons (.ks "by") (.cons (.ks "call") (.cons (.ks "change") (.cons (.ks "check") (.cons (.ks "column") (.cons (.ks "columns") (.cons (.ks "count") .nil))))))))))))))
 (.cons (.low 0 0)
 (.cons (.asg (.nm 0) (.bin .add (.var 0) (.lst (.cons (.ks "drop") (.cons (.ks "end") (.cons (.ks "from") (.cons (.ks "int") (.cons (.ks "join") (.cons (.ks "key") (.cons (.ks "keys") (.cons (.ks "list") (.cons (.ks "may") (.cons (.ks "move") (.cons (.ks "need") (.cons (.ks "none") (.cons (.ks "not") .nil))))))))))))))))
 (.cons (.low 0 0)
 (.cons (.asg (.nm 0) (.bin .add (.var 0) (.lst (.cons (.ks "or") (.cons (.ks "over") (.cons (.ks "part") (.cons (.ks "plus") (.cons (.ks "put") (.cons (.ks "ref") (.cons (.ks "rest") (.cons (.ks "row") (.cons (.ks "rows") (.cons (.ks "same") (.cons (.ks "set") (.cons (.ks "split") (.cons (.ks "table") .nil))))))))))))))))
 (.cons (.low 0 0)
 (.cons (.ret (.bin .add (.var 0) (.lst (.cons (.ks "tables") (.cons (.ks "take") (.cons (.ks "times") (.cons (.ks "to") (.cons (.ks "together") (.cons (.ks "total") (.cons (.ks "true") (.cons (.ks "turned") (.cons (.ks "via") .nil))))))))))))
 .nil)))))))
def p12 : Py := ⟨"_law_barred", false, 0, 1, 0, b12⟩
def e12 : Ent := ⟨dAt 13, ["_law_found"], .py p12, cs⟩
/-- _law_is_name(_law_thing) -/
def b13 : Sts := (.cons (.asg (.tp [(.nm 1), (.nm 2)]) (.tup (.cons (.ks "abcdefghijklmnopqrstuvwxyz") (.cons (.ks "0123456789") .nil))))
 (.cons (.ifs (.or_ (.not_ (.isi (.var 0) .str)) (.or_ (.not_ (.chn .le .le (.ki 1) (.bi .len (.var 0)) (.ki 12))) (.or_ (.cmp .notin (.idx (.var 0) (.ki 0)) (.var 1)) (.cmp .isin (.var 0) (.call 12 .nil))))) (.cons (.ret (.kb false))
 .nil) .nil)
 (.cons (.ret (.cmp .eq (.lc (.var 3) [3] (.nm 3) (.ex (.var 0)) (.yes (.cmp .notin (.var 3) (.bin .add (.var 1) (.var 2))))) (.lst .nil)))
 .nil)))
def p13 : Py := ⟨"_law_is_name", false, 1, 4, 0, b13⟩
def e13 : Ent := ⟨dAt 14, ["_law_thing", "_law_letters", "_law_figures", "_law_sign"], .py p13, cs⟩
/-- _law_is_headed(_law_thing, _law_word, _law_size) -/
def b14 : Sts := (.cons (.ret (.and_ (.isi (.var 0) .tuple) (.and_ (.cmp .eq (.bi .len (.var 0)) (.var 2)) (.and_ (.isi (.idx (.var 0) (.ki 0)) .str) (.cmp .eq (.idx (.var 0) (.ki 0)) (.var 1))))))
 .nil)
def p14 : Py := ⟨"_law_is_headed", false, 3, 3, 0, b14⟩
def e14 : Ent := ⟨dAt 15, ["_law_thing", "_law_word", "_law_size"], .py p14, cs⟩
/-- _law_is_from_one(_law_thing) -/
def b15 : Sts := (.cons (.ret (.and_ (.call 7 (.cons (.var 0) .nil)) (.chn .le .le (.ki 1) (.var 0) (.ki 1000))))
 .nil)
def p15 : Py := ⟨"_law_is_from_one", false, 1, 1, 0, b15⟩
def e15 : Ent := ⟨dAt 16, ["_law_thing"], .py p15, cs⟩
/-- _law_is_way(_law_thing) -/
def b16 : Sts := (.cons (.ifs (.call 14 (.cons (.var 0) (.cons (.ks "turned") (.cons (.ki 1) .nil)))) (.cons (.ret (.kb true))
 .nil) .nil)
 (.cons (.ifs (.call 14 (.cons (.var 0) (.cons (.ks "plus") (.cons (.ki 2) .nil)))) (.cons (.ret (.call 7 (.cons (.idx (.var 0) (.ki 1)) .nil)))
 .nil) .nil)
 (.cons (.ifs (.call 14 (.cons (.var 0) (.cons (.ks "list") (.cons (.ki 2) .nil)))) (.cons (.ifs (.or_ (.not_ (.isi (.idx (.var 0) (.ki 1)) .tuple)) (.not_ (.chn .le .le (.ki 1) (.bi .len (.idx (.var 0) (.ki 1))) (.ki 1000)))) (.cons (.ret (.kb false))
 .nil) .nil)
 (.cons (.ret (.cmp .eq (.lc (.var 1) [1] (.nm 1) (.ex (.idx (.var 0) (.ki 1))) (.yes (.not_ (.call 7 (.cons (.var 1) .nil))))) (.lst .nil)))
 .nil)) .nil)
 (.cons (.ifs (.or_ (.not_ (.isi (.var 0) .tuple)) (.or_ (.cmp .ne (.bi .len (.var 0)) (.ki 2)) (.not_ (.isi (.idx (.var 0) (.ki 0)) .str)))) (.cons (.ret (.kb false))
 .nil) .nil)
 (.cons (.ret (.and_ (.cmp .isin (.idx (.var 0) (.ki 0)) (.tup (.cons (.ks "times") (.cons (.ks "over") (.cons (.ks "rest") .nil))))) (.call 15 (.cons (.idx (.var 0) (.ki 1)) .nil))))
 .nil)))))
def p16 : Py := ⟨"_law_is_way", false, 1, 2, 0, b16⟩
def e16 : Ent := ⟨dAt 17, ["_law_thing", "_law_one"], .py p16, cs⟩
/-- _law_is_expression(_law_thing) -/
def b17 : Sts := (.cons (.ifs (.call 14 (.cons (.var 0) (.cons (.ks "key") (.cons (.ki 1) .nil)))) (.cons (.ret (.kb true))
 .nil) .nil)
 (.cons (.ifs (.call 14 (.cons (.var 0) (.cons (.ks "num") (.cons (.ki 2) .nil)))) (.cons (.ret (.call 7 (.cons (.idx (.var 0) (.ki 1)) .nil)))
 .nil) .nil)
 (.cons (.ifs (.call 14 (.cons (.var 0) (.cons (.ks "col") (.cons (.ki 2) .nil)))) (.cons (.ret (.call 13 (.cons (.idx (.var 0) (.ki 1)) .nil)))
 .nil) .nil)
 (.cons (.ifs (.call 14 (.cons (.var 0) (.cons (.ks "via") (.cons (.ki 3) .nil)))) (.cons (.ret (.and_ (.call 13 (.cons (.idx (.var 0) (.ki 1)) .nil)) (.call 17 (.cons (.idx (.var 0) (.ki 2)) .nil))))
 .nil) .nil)
 (.cons (.ifs (.call 14 (.cons (.var 0) (.cons (.ks "by") (.cons (.ki 3) .nil)))) (.cons (.ret (.and_ (.call 16 (.cons (.idx (.var 0) (.ki 1)) .nil)) (.call 17 (.cons (.idx (.var 0) (.ki 2)) .nil))))
 .nil) .nil)
 (.cons (.ifs (.or_ (.not_ (.isi (.var 0) .tuple)) (.or_ (.cmp .ne (.bi .len (.var 0)) (.ki 3)) (.not_ (.isi (.idx (.var 0) (.ki 0)) .str)))) (.cons (.ret (.kb false))
 .nil) .nil)
 (.cons (.ifs (.cmp .notin (.idx (.var 0) (.ki 0)) (.tup (.cons (.ks "+") (.cons (.ks "-") (.cons (.ks "*") .nil))))) (.cons (.ret (.kb false))
 .nil) .nil)
 (.cons (.ret (.and_ (.call 17 (.cons (.idx (.var 0) (.ki 1)) .nil)) (.call 17 (.cons (.idx (.var 0) (.ki 2)) .nil))))
 .nil))))))))
def p17 : Py := ⟨"_law_is_expression", false, 1, 1, 0, b17⟩
def e17 : Ent := ⟨dAt 18, ["_law_thing"], .py p17, cs⟩
/-- _law_subs(_law_thing) -/
def b18 : Sts := (.cons (.ifs (.cmp .isin (.idx (.var 0) (.ki 0)) (.tup (.cons (.ks "num") (.cons (.ks "key") (.cons (.ks "col") (.cons (.ks "true") .nil)))))) (.cons (.ret (.lst .nil))
 .nil) .nil)
 (.cons (.ret (.ite (.cmp .isin (.idx (.var 0) (.ki 0)) (.tup (.cons (.ks "via") (.cons (.ks "by") .nil)))) (.lst (.cons (.idx (.var 0) (.ki 2)) .nil)) (.bi .list (.slc (.var 0) (.yes (.ki 1)) .no))))
 .nil))
def p18 : Py := ⟨"_law_subs", false, 1, 1, 0, b18⟩
def e18 : Ent := ⟨dAt 19, ["_law_thing"], .py p18, cs⟩
/-- _law_all_subs(_law_thing) -/
def b19 : Sts := (.cons (.asg (.nm 1) (.lst (.cons (.var 0) .nil)))
 (.cons (.for_ (.nm 2) (.ex (.call 18 (.cons (.var 0) .nil))) (.cons (.mut .extend 1 .nil (.cons (.call 19 (.cons (.var 2) .nil)) .nil))
 .nil))
 (.cons (.low 1 0)
 (.cons (.ret (.var 1))
 .nil))))
def p19 : Py := ⟨"_law_all_subs", false, 1, 3, 0, b19⟩
def e19 : Ent := ⟨dAt 20, ["_law_thing", "_law_found", "_law_one"], .py p19, cs⟩
/-- _law_columns_in(_law_thing) -/
def b20 : Sts := (.cons (.asg (.nm 1) (.ite (.cmp .isin (.idx (.var 0) (.ki 0)) (.tup (.cons (.ks "col") (.cons (.ks "via") .nil)))) (.lst (.cons (.idx (.var 0) (.ki 1)) .nil)) (.lst .nil)))
 (.cons (.for_ (.nm 2) (.ex (.ite (.cmp .ne (.idx (.var 0) (.ki 0)) (.ks "via")) (.call 18 (.cons (.var 0) .nil)) (.lst .nil))) (.cons (.mut .extend 1 .nil (.cons (.call 20 (.cons (.var 2) .nil)) .nil))
 .nil))
 (.cons (.ret (.bi .tuple (.sst (.var 1))))
 .nil)))
def p20 : Py := ⟨"_law_columns_in", false, 1, 3, 0, b20⟩
def e20 : Ent := ⟨dAt 21, ["_law_thing", "_law_found", "_law_one"], .py p20, cs⟩
/-- _law_any_way(_law_bag_here) -/
def b21 : Sts := (.cons (.asg (.nm 1) (.lst (.cons (.tup (.cons (.ks "plus") (.cons (.call 9 (.cons (.lst (.cons (.ki 0) (.cons (.ki 3) (.cons (.neg (.ki 7)) (.cons (.ki 100) .nil))))) .nil)) .nil))) (.cons (.tup (.cons (.ks "turned") .nil)) (.cons (.tup (.cons (.ks "times") (.cons (.call 9 (.cons (.lst (.cons (.ki 1) (.cons (.ki 2) (.cons (.ki 1000) .nil)))) .nil)) .nil))) .nil)))))
 (.cons (.low 1 0)
 (.cons (.asg (.nm 1) (.bin .add (.var 1) (.lst (.cons (.tup (.cons (.ks "over") (.cons (.call 9 (.cons (.lst (.cons (.ki 1) (.cons (.ki 3) (.cons (.ki 10) .nil)))) .nil)) .nil))) (.cons (.tup (.cons (.ks "rest") (.cons (.call 9 (.cons (.lst (.cons (.ki 1) (.cons (.ki 4) (.cons (.ki 1000) .nil)))) .nil)) .nil))) .nil)))))
 (.cons (.low 1 0)
 (.cons (.ret (.call 9 (.cons (.bin .add (.var 1) (.lst (.cons (.tup (.cons (.ks "list") (.cons (.bi .tuple (.lc (.bin .sub (.call 8 (.cons (.ki 9) .nil)) (.ki 3)) [2] (.nm 2) (.r1 (.bin .add (.ki 1) (.call 8 (.cons (.ki 4) .nil)))) .no)) .nil))) .nil))) .nil)))
 .nil)))))
def p21 : Py := ⟨"_law_any_way", true, 0, 3, 0, b21⟩
def e21 : Ent := ⟨dAt 22, ["_law_bag_here", "_law_some_here", "_law_turn"], .py p21, cs⟩
/-- _law_any_name(_law_bag_here) -/
def b22 : Sts := (.cons (.ret (.call 9 (.cons (.lst (.cons (.ks "a") (.cons (.ks "bird") (.cons (.ks "c1") (.cons (.ks "m") (.cons (.ks "n") (.cons (.ks "p") (.cons (.ks "q2") (.cons (.ks "who") (.cons (.ks "b") (.cons (.ks "xyzxyzxyzxyz") (.cons (.ks "num") (.cons (.ks "col") .nil))))))))))))) .nil)))
 .nil)
def p22 : Py := ⟨"_law_any_name", true, 0, 1, 0, b22⟩
def e22 : Ent := ⟨dAt 23, ["_law_bag_here"], .py p22, cs⟩
/-- _law_any_expression(_law_bag_here, _law_deep) -/
def b23 : Sts := (.cons (.asg (.nm 2) (.ite (.cmp .gt (.var 1) (.ki 0)) (.call 8 (.cons (.ki 8) .nil)) (.call 8 (.cons (.ki 3) .nil))))
 (.cons (.ifs (.cmp .lt (.var 2) (.ki 3)) (.cons (.ret (.call 9 (.cons (.lst (.cons (.tup (.cons (.ks "num") (.cons (.call 9 (.cons (.lst (.cons (.ki 0) (.cons (.ki 1) (.cons (.neg (.ki 5)) (.cons (.ki 123456789) .nil))))) .nil)) .nil))) (.cons (.tup (.cons (.ks "key") .nil)) (.cons (.tup (.cons (.ks "col") (.cons (.call 22 .nil) .nil))) .nil)))) .nil)))
 .nil) .nil)
 (.cons (.asg (.nm 3) (.call 23 (.cons (.bin .sub (.var 1) (.ki 1)) .nil)))
 (.cons (.ifs (.cmp .eq (.var 2) (.ki 3)) (.cons (.ret (.tup (.cons (.ks "via") (.cons (.call 22 .nil) (.cons (.var 3) .nil)))))
 .nil) .nil)
 (.cons (.ifs (.cmp .lt (.var 2) (.ki 6)) (.cons (.ret (.tup (.cons (.ks "by") (.cons (.call 21 .nil) (.cons (.var 3) .nil)))))
 .nil) .nil)
 (.cons (.ret (.tup (.cons (.call 9 (.cons (.lst (.cons (.ks "+") (.cons (.ks "-") (.cons (.ks "*") .nil)))) .nil)) (.cons (.var 3) (.cons (.call 23 (.cons (.bin .sub (.var 1) (.ki 1)) .nil)) .nil)))))
 .nil))))))
def p23 : Py := ⟨"_law_any_expression", true, 1, 4, 0, b23⟩
def e23 : Ent := ⟨dAt 24, ["_law_bag_here", "_law_deep", "_law_way", "_law_one"], .py p23, cs⟩
/-- _law_any_condition(_law_bag_here, _law_deep) -/
def b24 : Sts := (.cons (.asg (.nm 2) (.ite (.cmp .gt (.var 1) (.ki 0)) (.call 8 (.cons (.ki 8) .nil)) (.call 8 (.cons (.ki 2) .nil))))
 (.cons (.ifs (.cmp .lt (.var 2) (.ki 1)) (.cons (.ret (.tup (.cons (.ks "true") .nil)))
 .nil) .nil)
 (.cons (.ifs (.cmp .lt (.var 2) (.ki 3)) (.cons (.ret (.tup (.cons (.ks "none") (.cons (.call 23 (.cons (.var 1) .nil)) .nil))))
 .nil) .nil)
 (.cons (.ifs (.cmp .lt (.var 2) (.ki 5)) (.cons (.ret (.tup (.cons (.call 9 (.cons (.lst (.cons (.ks "<") (.cons (.ks "=") .nil))) .nil)) (.cons (.call 23 (.cons (.var 1) .nil)) (.cons (.call 23 (.cons (.bin .sub (.var 1) (.ki 1)) .nil)) .nil)))))
 .nil) .nil)
 (.cons (.ifs (.cmp .eq (.var 2) (.ki 5)) (.cons (.ret (.tup (.cons (.ks "not") (.cons (.call 24 (.cons (.bin .sub (.var 1) (.ki 1)) .nil)) .nil))))
 .nil) .nil)
 (.cons (.ret (.tup (.cons (.call 9 (.cons (.lst (.cons (.ks "and") (.cons (.ks "or") .nil))) .nil)) (.cons (.call 24 (.cons (.bin .sub (.var 1) (.ki 1)) .nil)) (.cons (.call 24 (.cons (.bin .sub (.var 1) (.ki 1)) .nil)) .nil)))))
 .nil))))))
def p24 : Py := ⟨"_law_any_condition", true, 1, 3, 0, b24⟩
def e24 : Ent := ⟨dAt 25, ["_law_bag_here", "_law_deep", "_law_way"], .py p24, cs⟩
/-- _law_without_via(_law_thing) -/
def b25 : Sts := (.cons (.ifs (.cmp .eq (.idx (.var 0) (.ki 0)) (.ks "via")) (.cons (.ret (.call 25 (.cons (.idx (.var 0) (.ki 2)) .nil)))
 .nil) .nil)
 (.cons (.ifs (.cmp .isin (.idx (.var 0) (.ki 0)) (.tup (.cons (.ks "num") (.cons (.ks "key") (.cons (.ks "col") (.cons (.ks "true") .nil)))))) (.cons (.ret (.var 0))
 .nil) .nil)
 (.cons (.asg (.nm 1) (.bi .tuple (.lc (.call 25 (.cons (.var 2) .nil)) [2] (.nm 2) (.ex (.call 18 (.cons (.var 0) .nil))) .no)))
 (.cons (.low 1 0)
 (.cons (.ret (.ite (.cmp .eq (.idx (.var 0) (.ki 0)) (.ks "by")) (.bin .add (.tup (.cons (.ks "by") (.cons (.idx (.var 0) (.ki 1)) .nil))) (.var 1)) (.bin .add (.tup (.cons (.idx (.var 0) (.ki 0)) .nil)) (.var 1))))
 .nil)))))
def p25 : Py := ⟨"_law_without_via", false, 1, 3, 0, b25⟩
def e25 : Ent := ⟨dAt 26, ["_law_thing", "_law_parts", "_law_one"], .py p25, cs⟩
/-- _law_put(_law_thing, _law_columns, _law_key) -/
def b26 : Sts := (.cons (.ifs (.cmp .eq (.idx (.var 0) (.ki 0)) (.ks "col")) (.cons (.ret (.get2 (.var 1) (.idx (.var 0) (.ki 1)) (.var 0)))
 .nil) .nil)
 (.cons (.ifs (.cmp .eq (.idx (.var 0) (.ki 0)) (.ks "key")) (.cons (.ret (.var 2))
 .nil) .nil)
 (.cons (.ifs (.cmp .isin (.idx (.var 0) (.ki 0)) (.tup (.cons (.ks "num") (.cons (.ks "true") .nil)))) (.cons (.ret (.var 0))
 .nil) .nil)
 (.cons (.asg (.nm 3) (.bi .tuple (.lc (.call 26 (.cons (.var 4) (.cons (.var 1) (.cons (.var 2) .nil)))) [4] (.nm 4) (.ex (.call 18 (.cons (.var 0) .nil))) .no)))
 (.cons (.low 3 0)
 (.cons (.ret (.ite (.cmp .eq (.idx (.var 0) (.ki 0)) (.ks "by")) (.bin .add (.tup (.cons (.ks "by") (.cons (.idx (.var 0) (.ki 1)) .nil))) (.var 3)) (.bin .add (.tup (.cons (.idx (.var 0) (.ki 0)) .nil)) (.var 3))))
 .nil))))))
def p26 : Py := ⟨"_law_put", false, 3, 5, 0, b26⟩
def e26 : Ent := ⟨dAt 27, ["_law_thing", "_law_columns", "_law_key", "_law_parts", "_law_one"], .py p26, cs⟩
/-- _law_worth_by(_law_e, _law_row, _law_key) -/
def b27 : Sts := (.cons (.ifs (.cmp .eq (.idx (.var 0) (.ki 0)) (.ks "num")) (.cons (.ret (.idx (.var 0) (.ki 1)))
 .nil) .nil)
 (.cons (.ifs (.cmp .isin (.idx (.var 0) (.ki 0)) (.tup (.cons (.ks "key") (.cons (.ks "col") .nil)))) (.cons (.ret (.ite (.cmp .eq (.idx (.var 0) (.ki 0)) (.ks "key")) (.var 2) (.idx (.var 1) (.idx (.var 0) (.ki 1)))))
 .nil) .nil)
 (.cons (.asg (.nm 3) (.lc (.call 27 (.cons (.var 4) (.cons (.var 1) (.cons (.var 2) .nil)))) [4] (.nm 4) (.ex (.call 18 (.cons (.var 0) .nil))) .no))
 (.cons (.low 3 0)
 (.cons (.ifs (.cmp .isin .kn (.var 3)) (.cons (.ret .kn)
 .nil) .nil)
 (.cons (.ifs (.cmp .eq (.idx (.var 0) (.ki 0)) (.ks "by")) (.cons (.ret (.call 6 (.cons (.idx (.var 0) (.ki 1)) (.cons (.idx (.var 3) (.ki 0)) .nil))))
 .nil) .nil)
 (.cons (.ret (.ite (.cmp .eq (.idx (.var 0) (.ki 0)) (.ks "+")) (.bin .add (.idx (.var 3) (.ki 0)) (.idx (.var 3) (.ki 1))) (.ite (.cmp .eq (.idx (.var 0) (.ki 0)) (.ks "-")) (.bin .sub (.idx (.var 3) (.ki 0)) (.idx (.var 3) (.ki 1))) (.bin .mul (.idx (.var 3) (.ki 0)) (.idx (.var 3) (.ki 1))))))
 .nil)))))))
def p27 : Py := ⟨"_law_worth_by", false, 3, 5, 0, b27⟩
def e27 : Ent := ⟨dAt 28, ["_law_e", "_law_row", "_law_key", "_law_worths", "_law_one"], .py p27, cs⟩
/-- _law_holds_by(_law_c, _law_row, _law_key) -/
def b28 : Sts := (.cons (.ifs (.cmp .eq (.idx (.var 0) (.ki 0)) (.ks "true")) (.cons (.ret (.kb true))
 .nil) .nil)
 (.cons (.ifs (.cmp .isin (.idx (.var 0) (.ki 0)) (.tup (.cons (.ks "<") (.cons (.ks "=") (.cons (.ks "none") .nil))))) (.cons (.asg (.nm 4) (.lc (.call 27 (.cons (.var 5) (.cons (.var 1) (.cons (.var 2) .nil)))) [5] (.nm 5) (.ex (.call 18 (.cons (.var 0) .nil))) .no))
 (.cons (.low 4 0)
 (.cons (.ifs (.cmp .eq (.idx (.var 0) (.ki 0)) (.ks "none")) (.cons (.ret (.isn (.idx (.var 4) (.ki 0))))
 .nil) .nil)
 (.cons (.ret (.ite (.cmp .eq (.idx (.var 0) (.ki 0)) (.ks "=")) (.cmp .eq (.idx (.var 4) (.ki 0)) (.idx (.var 4) (.ki 1))) (.and_ (.cmp .notin .kn (.var 4)) (.cmp .lt (.idx (.var 4) (.ki 0)) (.idx (.var 4) (.ki 1))))))
 .nil)))) .nil)
 (.cons (.asg (.nm 3) (.lc (.call 28 (.cons (.var 5) (.cons (.var 1) (.cons (.var 2) .nil)))) [5] (.nm 5) (.ex (.call 18 (.cons (.var 0) .nil))) .no))
 (.cons (.low 3 0)
 (.cons (.ret (.ite (.cmp .eq (.idx (.var 0) (.ki 0)) (.ks "not")) (.not_ (.idx (.var 3) (.ki 0))) (.ite (.cmp .eq (.idx (.var 0) (.ki 0)) (.ks "and")) (.and_ (.idx (.var 3) (.ki 0)) (.idx (.var 3) (.ki 1))) (.or_ (.idx (.var 3) (.ki 0)) (.idx (.var 3) (.ki 1))))))
 .nil)))))
def p28 : Py := ⟨"_law_holds_by", false, 3, 6, 0, b28⟩
def e28 : Ent := ⟨dAt 29, ["_law_c", "_law_row", "_law_key", "_law_held", "_law_worths", "_law_one"], .py p28, cs⟩
/-- _law_by(_law_thing, _law_row, _law_key) -/
def b29 : Sts := (.cons (.ret (.ite (.call 17 (.cons (.var 0) .nil)) (.call 27 (.cons (.var 0) (.cons (.var 1) (.cons (.var 2) .nil)))) (.call 28 (.cons (.var 0) (.cons (.var 1) (.cons (.var 2) .nil))))))
 .nil)
def p29 : Py := ⟨"_law_by", false, 3, 3, 0, b29⟩
def e29 : Ent := ⟨dAt 30, ["_law_thing", "_law_row", "_law_key"], .py p29, cs⟩
/-- _law_is_put_right(_law_bag_here, _law_thing) -/
def b30 : Sts := (.cons (.asg (.nm 2) (.lst (.cons (.ks "a") (.cons (.ks "bird") (.cons (.ks "c1") (.cons (.ks "m") (.cons (.ks "n") (.cons (.ks "p") (.cons (.ks "q2") (.cons (.ks "who") (.cons (.ks "b") (.cons (.ks "xyzxyzxyzxyz") (.cons (.ks "num") (.cons (.ks "col") .nil))))))))))))))
 (.cons (.low 2 0)
 (.cons (.asg (.nm 3) (.slc (.call 10 (.cons (.var 2) .nil)) .no (.yes (.call 9 (.cons (.lst (.cons (.ki 0) (.cons (.ki 2) (.cons (.ki 4) (.cons (.ki 9) .nil))))) .nil)))))
 (.cons (.low 3 0)
 (.cons (.asg (.nm 4) (.bi .dict (.lc (.tup (.cons (.var 13) (.cons (.call 25 (.cons (.call 23 (.cons (.ki 1) .nil)) .nil)) .nil))) [13] (.nm 13) (.ex (.var 3)) .no)))
 (.cons (.low 4 0)
 (.cons (.asg (.nm 5) (.call 9 (.cons (.lst (.cons (.tup (.cons (.ks "key") .nil)) (.cons (.tup (.cons (.ks "-") (.cons (.tup (.cons (.ks "key") .nil)) (.cons (.tup (.cons (.ks "num") (.cons (.ki 5) .nil))) .nil)))) (.cons (.tup (.cons (.ks "col") (.cons (.ks "a") .nil))) .nil)))) .nil)))
 (.cons (.asg (.tp [(.nm 7), (.nm 8)]) (.tup (.cons (.call 4 (.cons (.var 1) (.cons (.var 4) (.cons (.var 5) .nil)))) (.cons (.bi .repr (.lst (.cons (.var 1) (.cons (.var 4) (.cons (.var 5) .nil))))) .nil))))
 (.cons (.ifs (.not_ (.call 11 (.cons (.var 7) (.cons (.call 26 (.cons (.var 1) (.cons (.var 4) (.cons (.var 5) .nil)))) .nil)))) (.cons (.ret (.kb false))
 .nil) .nil)
 (.cons (.for_ (.nm 6) (.r1 (.ki 3)) (.cons (.asg (.tp [(.nm 11), (.nm 12)]) (.tup (.cons (.bi .dict (.lc (.tup (.cons (.var 13) (.cons (.call 9 (.cons (.lst (.cons .kn (.cons (.ki 0) (.cons (.ki 1) (.cons (.ki 5) (.cons (.neg (.ki 3)) (.cons (.ki 12) .nil))))))) .nil)) .nil))) [13] (.nm 13) (.ex (.var 2)) .no)) (.cons (.bin .sub (.call 8 (.cons (.ki 9) .nil)) (.ki 4)) .nil))))
 (.cons (.asg (.nm 9) (.bi .dict (.var 11)))
 (.cons (.mut .update 9 .nil (.cons (.bi .dict (.lc (.tup (.cons (.var 13) (.cons (.call 27 (.cons (.idx (.var 4) (.var 13)) (.cons (.var 11) (.cons (.var 12) .nil)))) .nil))) [13] (.nm 13) (.keys 4) .no)) .nil))
 (.cons (.asg (.nm 10) (.call 27 (.cons (.var 5) (.cons (.var 11) (.cons (.var 12) .nil)))))
 (.cons (.low 9 0)
 (.cons (.ifs (.not_ (.call 11 (.cons (.call 29 (.cons (.var 7) (.cons (.var 11) (.cons (.var 12) .nil)))) (.cons (.call 29 (.cons (.var 1) (.cons (.var 9) (.cons (.var 10) .nil)))) .nil)))) (.cons (.ret (.kb false))
 .nil) .nil)
 .nil)))))))
 (.cons (.ret (.cmp .eq (.bi .repr (.lst (.cons (.var 1) (.cons (.var 4) (.cons (.var 5) .nil))))) (.var 8)))
 .nil)))))))))))
def p30 : Py := ⟨"_law_is_put_right", true, 1, 14, 0, b30⟩
def e30 : Ent := ⟨dAt 31, ["_law_bag_here", "_law_thing", "_law_names", "_law_some_here", "_law_columns", "_law_key", "_law_turn", "_law_told", "_law_kept", "_law_late", "_law_at", "_law_row", "_law_place", "_law_name"], .py p30, cs⟩
def es : List Ent := [e0, e1, e2, e3, e4, e5, e6, e7, e8, e9, e10, e11, e12, e13, e14, e15, e16, e17, e18, e19, e20, e21, e22, e23, e24, e25, e26, e27, e28, e29, e30]
def lawN : List Str := ["_law_script", "_law_bag_here", "_law_turn", "_law_thing", "_law_e", "_law_c", "_law_other", "_law_kept", "_law_due", "_law_one", "_law_two"]
def lawB : Sts := (.cons (.for_ (.nm 2) (.r1 (.ki 6)) (.cons (.asg (.tp [(.nm 4), (.nm 5), (.nm 6)]) (.tup (.cons (.call 23 (.cons (.ki 3) .nil)) (.cons (.call 24 (.cons (.ki 3) .nil)) (.cons (.call 24 (.cons (.ki 1) .nil)) .nil)))))
 (.cons (.for_ (.nm 3) (.ex (.tup (.cons (.var 4) (.cons (.var 5) .nil)))) (.cons (.asg (.nm 7) (.bi .repr (.var 3)))
 (.cons (.low 7 0)
 (.cons (.asg (.nm 8) (.lst (.cons (.call 20 (.cons (.var 3) .nil)) (.cons (.bi .len (.call 19 (.cons (.var 3) .nil))) .nil))))
 (.cons (.low 8 0)
 (.cons (.ifs (.not_ (.call 11 (.cons (.lst (.cons (.call 2 (.cons (.var 3) .nil)) (.cons (.call 3 (.cons (.var 3) .nil)) .nil))) (.cons (.var 8) .nil)))) (.cons (.ret (.kb false))
 .nil) .nil)
 (.cons (.ifs (.or_ (.cmp .ne (.bi .repr (.var 3)) (.var 7)) (.not_ (.call 30 (.cons (.call 25 (.cons (.var 3) .nil)) .nil)))) (.cons (.ret (.kb false))
 .nil) .nil)
 .nil)))))))
 (.cons (.for_ (.tp [(.nm 9), (.nm 10)]) (.ex (.tup (.cons (.tup (.cons (.var 5) (.cons (.var 6) .nil))) (.cons (.tup (.cons (.var 5) (.cons (.tup (.cons (.ks "true") .nil)) .nil))) (.cons (.tup (.cons (.tup (.cons (.ks "true") .nil)) (.cons (.var 5) .nil))) (.cons (.tup (.cons (.tup (.cons (.ks "true") .nil)) (.cons (.tup (.cons (.ks "true") .nil)) .nil))) .nil)))))) (.cons (.asg (.nm 8) (.ite (.cmp .eq (.var 10) (.tup (.cons (.ks "true") .nil))) (.var 9) (.ite (.cmp .eq (.var 9) (.tup (.cons (.ks "true") .nil))) (.var 10) (.tup (.cons (.ks "and") (.cons (.var 9) (.cons (.var 10) .nil)))))))
 (.cons (.ifs (.not_ (.call 11 (.cons (.call 5 (.cons (.var 9) (.cons (.var 10) .nil))) (.cons (.var 8) .nil)))) (.cons (.ret (.kb false))
 .nil) .nil)
 .nil)))
 .nil))))
 (.cons (.ret (.kb true))
 .nil))
def lawD : He.DefD := dAt 32
def bagD : He.DefD := dAt 8
end K06

set_option Elab.async false
set_option linter.all false
set_option maxRecDepth 100000
namespace K06
open PySem Dn L2
abbrev F : List Fn := Ft es
theorem fT : F[8]? = some (.py pTake) := rfl
theorem fS : F[9]? = some (.py (pSome 8)) := rfl
theorem fM : F[10]? = some (.py (pMixed 8)) := rfl
theorem fA : F[11]? = some (.py pAlike) := rfl
/-- words of one part, of two parts -/
inductive O1 where | none | not
inductive O2 where | add | sub | mul | lt | eq | and | or
def O1.s : O1 → Str | .none => "none" | .not => "not"
def O2.s : O2 → Str | .add => "+" | .sub => "-" | .mul => "*" | .lt => "<" | .eq => "=" | .and => "and" | .or => "or"
/-- ways -/
inductive Wy where | plus (n : Int) | turned | times (n : Int) | over (n : Int) | rest (n : Int) | list (ns : List Int)
def enW : Wy → D
  | .plus n => .tup [.str "plus", .int n]
  | .turned => .tup [.str "turned"]
  | .times n => .tup [.str "times", .int n]
  | .over n => .tup [.str "over", .int n]
  | .rest n => .tup [.str "rest", .int n]
  | .list ns => .tup [.str "list", .tup (ns.map D.int)]
/-- expressions and conditions -/
inductive Th where
  | num (n : Int)
  | key
  | col (s : Str)
  | tru
  | via (s : Str) (t : Th)
  | by_ (w : Wy) (t : Th)
  | n1 (o : O1) (t : Th)
  | n2 (o : O2) (t u : Th)
def en : Th → D
  | .num n => .tup [.str "num", .int n]
  | .key => .tup [.str "key"]
  | .col s => .tup [.str "col", .str s]
  | .tru => .tup [.str "true"]
  | .via s t => .tup [.str "via", .str s, en t]
  | .by_ w t => .tup [.str "by", enW w, en t]
  | .n1 o t => .tup [.str o.s, en t]
  | .n2 o t u => .tup [.str o.s, en t, en u]
def parts : Th → List Th
  | .via _ t => [t]
  | .by_ _ t => [t]
  | .n1 _ t => [t]
  | .n2 _ t u => [t, u]
  | _ => []
theorem r0 (k : Nat) (t : Th) : run F (k + 1) 0 [en t] = ret (.lst ((parts t).map en)) := by
  cases t with
  | n1 o t => cases o <;> kernel_rfl
  | n2 o t u => cases o <;> kernel_rfl
  | _ => kernel_rfl
theorem r18 (k : Nat) (t : Th) : run F (k + 1) 18 [en t] = ret (.lst ((parts t).map en)) := by
  cases t with
  | n1 o t => cases o <;> kernel_rfl
  | n2 o t u => cases o <;> kernel_rfl
  | _ => kernel_rfl
def hgt : Th → Nat
  | .via _ t => hgt t + 1
  | .by_ _ t => hgt t + 1
  | .n1 _ t => hgt t + 1
  | .n2 _ t u => max (hgt t) (hgt u) + 1
  | _ => 0
theorem parts_hgt {t x : Th} (h : x ∈ parts t) : hgt x < hgt t := by
  cases t with
  | n2 o t u =>
    simp only [parts, List.mem_cons, List.not_mem_nil, or_false] at h
    simp only [hgt]
    rcases h with rfl | rfl <;> omega
  | _ => simp [parts] at h <;> (subst h; simp [hgt])
/-! the names -/
def nms : List Str := ["a", "bird", "c1", "m", "n", "p", "q2", "who", "b", "xyzxyzxyzxyz", "num", "col"]
/-- the columns that are met -/
def cols : Th → List Str
  | .col s => [s]
  | .via s _ => [s]
  | .by_ _ t => cols t
  | .n1 _ t => cols t
  | .n2 _ t u => cols t ++ cols u
  | _ => []
theorem r1 : ∀ (n k : Nat) (t : Th), hgt t < n → n + 1 ≤ k → (cols t).length ≤ line → run F k 1 [en t] = ret (.lst (stL (cols t)))
  | 0, _, _, h, _, _ => absurd h (Nat.not_lt_zero _)
  | n + 1, k, t, h, hk, hl => by
    obtain ⟨k, rfl⟩ : ∃ k', k = k' + 1 := ⟨k - 1, by omega⟩
    have key : (∀ Φ, ev Φ [some (en t), none, none] (.cmp .isin (.idx (.var 0) (.ki 0)) (.tup (.cons (.ks "col") (.cons (.ks "via") .nil)))) = ret (.bl false)) → cols t = (parts t).flatMap cols → run F (k + 1) 1 [en t] = ret (.lst (stL (cols t))) := fun hc hp => by
      refine run_eq (p := p1) rfl rfl ?_
      show exs (run F k) [some (en t), none, none] b1 = _
      refine y_skip (hc _) (y_ret ?_)
      obtain ⟨k, rfl⟩ : ∃ k', k = k' + 1 := ⟨k - 1, by omega⟩
      simp only [ev, evi, evs, evc, List.getD_cons_zero, List.getD_cons_succ, lift_s, bnd_r, bnd_b, r0, itemsOf_l]
      rw [loop_flat (g := fun x => stL (cols x)) (parts t) fun x hx => by
        have ih := r1 n (k + 1) x (by have := parts_hgt hx; omega) (by omega) (by
          refine Nat.le_trans ?_ hl
          rw [hp]
          exact (List.sublist_flatten_of_mem (List.mem_map_of_mem hx)).length_le)
        simp only [wipeR, List.set, bindT, List.length_cons, List.length_nil, if_true, lift_s, bnd_r, show (1 < 0 + 1 + 1 + 1) = True by simp, List.getD_cons_zero, List.getD_cons_succ, ih, itemsOf_l, slots]
        rw [show stL (cols x) = (cols x).map D.str from rfl, loop_map (g := D.str) (cols x) fun z hz => by simp [bindT, wipeR]]]
      have e : (parts t).flatMap (fun x => stL (cols x)) = stL (cols t) := by
        rw [hp]
        unfold stL
        rw [List.map_flatMap]
      rw [bnd_r, e, len_strs, if_pos hl]
    cases t with
    | col s => kernel_rfl
    | via s t => kernel_rfl
    | n1 o t => cases o <;> exact key (fun Φ => by kernel_rfl) (by simp [cols, parts])
    | n2 o t u => cases o <;> exact key (fun Φ => by kernel_rfl) (by simp [cols, parts])
    | by_ w t => exact key (fun Φ => by kernel_rfl) (by simp [cols, parts])
    | _ => exact key (fun Φ => by kernel_rfl) (by simp [cols, parts])
/-! goodness -/
def gW : Wy → Bool
  | .plus n => decide (n.natAbs ≤ 1000)
  | .turned => true
  | .times n => decide (1 ≤ n) && decide (n ≤ 1000)
  | .over n => decide (1 ≤ n) && decide (n ≤ 1000)
  | .rest n => decide (1 ≤ n) && decide (n ≤ 1000)
  | .list ns => decide (1 ≤ ns.length) && decide (ns.length ≤ 4) && ns.all fun n => decide (n.natAbs ≤ 10)
def gT : Th → Bool
  | .num n => decide (n.natAbs ≤ 123456789)
  | .col s => nms.contains s
  | .via s t => nms.contains s && gT t
  | .by_ w t => gW w && gT t
  | .n1 _ t => gT t
  | .n2 _ t u => gT t && gT u
  | _ => true
theorem gparts {t x : Th} (h : gT t = true) (hx : x ∈ parts t) : gT x = true := by
  cases t with
  | n2 o t u =>
    simp only [parts, List.mem_cons, List.not_mem_nil, or_false] at hx
    simp only [gT, Bool.and_eq_true] at h
    rcases hx with rfl | rfl
    · exact h.1
    · exact h.2
  | n1 o t =>
    simp only [parts, List.mem_cons, List.not_mem_nil, or_false] at hx
    subst hx; exact h
  | via s t =>
    simp only [parts, List.mem_cons, List.not_mem_nil, or_false] at hx
    simp only [gT, Bool.and_eq_true] at h
    subst hx; exact h.2
  | by_ s t =>
    simp only [parts, List.mem_cons, List.not_mem_nil, or_false] at hx
    simp only [gT, Bool.and_eq_true] at h
    subst hx; exact h.2
  | _ => simp [parts] at hx
theorem gcols : ∀ (t : Th), gT t = true → ∀ z ∈ cols t, z ∈ nms
  | .col s, h, z, hz => by
    simp only [cols, List.mem_singleton] at hz
    subst hz
    exact List.contains_iff_mem.mp h
  | .via s t, h, z, hz => by
    simp only [cols, List.mem_singleton] at hz
    subst hz
    simp only [gT, Bool.and_eq_true] at h
    exact List.contains_iff_mem.mp h.1
  | .by_ _ t, h, z, hz => gcols t (by simp only [gT, Bool.and_eq_true] at h; exact h.2) z hz
  | .n1 _ t, h, z, hz => gcols t h z hz
  | .n2 _ t u, h, z, hz => by
    simp only [gT, Bool.and_eq_true] at h
    simp only [cols, List.mem_append] at hz
    rcases hz with hz | hz
    · exact gcols t h.1 z hz
    · exact gcols u h.2 z hz
  | .num _, _, z, hz => by simp [cols] at hz
  | .key, _, z, hz => by simp [cols] at hz
  | .tru, _, z, hz => by simp [cols] at hz
def cnt : Th → Nat
  | .via _ t => cnt t + 1
  | .by_ _ t => cnt t + 1
  | .n1 _ t => cnt t + 1
  | .n2 _ t u => cnt t + cnt u + 1
  | _ => 1
theorem cnt_le : ∀ t, cnt t < 2 ^ (hgt t + 1)
  | .via _ t => by have := cnt_le t; simp only [cnt, hgt]; rw [Nat.pow_succ]; omega
  | .by_ _ t => by have := cnt_le t; simp only [cnt, hgt]; rw [Nat.pow_succ]; omega
  | .n1 _ t => by have := cnt_le t; simp only [cnt, hgt]; rw [Nat.pow_succ]; omega
  | .n2 _ t u => by
    have a := cnt_le t
    have b := cnt_le u
    have c : 2 ^ (hgt t + 1) ≤ 2 ^ (max (hgt t) (hgt u) + 1) := Nat.pow_le_pow_right (by decide) (by omega)
    have d : 2 ^ (hgt u + 1) ≤ 2 ^ (max (hgt t) (hgt u) + 1) := Nat.pow_le_pow_right (by decide) (by omega)
    simp only [cnt, hgt]
    rw [Nat.pow_succ]
    omega
  | .num _ => by simp [cnt, hgt]
  | .key => by simp [cnt, hgt]
  | .col _ => by simp [cnt, hgt]
  | .tru => by simp [cnt, hgt]
theorem cols_cnt : ∀ t, (cols t).length ≤ cnt t
  | .via _ t => by simp [cols, cnt]
  | .by_ _ t => by have := cols_cnt t; simp only [cols, cnt]; omega
  | .n1 _ t => by have := cols_cnt t; simp only [cols, cnt]; omega
  | .n2 _ t u => by have := cols_cnt t; have := cols_cnt u; simp only [cols, cnt, List.length_append]; omega
  | .num _ => by simp [cnt, cols]
  | .key => by simp [cnt, cols]
  | .col _ => by simp [cnt, cols]
  | .tru => by simp [cnt, cols]
theorem cnt_line {t : Th} (h : hgt t ≤ 20) : cnt t ≤ 2 ^ 21 := Nat.le_trans (Nat.le_of_lt (cnt_le t)) (Nat.pow_le_pow_right (by decide) (by omega))
theorem cols_line {t : Th} (h : hgt t ≤ 20) : (cols t).length ≤ line := by
  have a := cols_cnt t
  have b := cnt_line h
  show _ ≤ 16777216
  omega
theorem r2 {k : Nat} {t : Th} (hk : hgt t + 3 ≤ k) (hh : hgt t ≤ 20) (hg : gT t = true) : run F k 2 [en t] = ret (.tup (stL (srt (cols t)))) := by
  obtain ⟨k, rfl⟩ : ∃ k', k = k' + 1 := ⟨k - 1, by omega⟩
  refine run_eq (p := p2) rfl rfl ?_
  show exs (run F k) [some (en t), none] b2 = _
  have hl : (onceS [] (cols t)).length < 64 := Nat.lt_of_le_of_lt (once_len (m := nms) (gcols t hg)) (by decide)
  refine y_ret (y_bi (x := .lst (stL (srt (cols t)))) (y_bi (x := .dct (dmerge [] ((cols t).map fun z => (D.str z, D.bl true)))) ?_ (sorted_keysV hl)) rfl)
  have h1 := r1 (hgt t + 1) k t (by omega) (by omega) (cols_line hh)
  simp only [ev, evi, evs, evc, List.getD_cons_zero, List.getD_cons_succ, lift_s, bnd_r, bnd_b, h1, itemsOf_l]
  rw [fold_keys (v := .bl true) (fun kvs z hz => by
    simp only [wipeR, List.set, bindT, List.length_cons, List.length_nil, if_true, lift_s, bnd_r, show (1 < 0 + 1 + 1) = True by simp, List.getD_cons_zero, List.getD_cons_succ]
    rw [if_pos ⟨rfl, hz⟩]) (cols t) [] (by simpa using cols_line hh)]
  rfl
theorem r3 : ∀ (n k : Nat) (t : Th), hgt t < n → n + 1 ≤ k → run F k 3 [en t] = ret (.int (cnt t : Nat))
  | 0, _, _, h, _ => absurd h (Nat.not_lt_zero _)
  | n + 1, k, t, h, hk => by
    obtain ⟨k, rfl⟩ : ∃ k', k = k' + 2 := ⟨k - 2, by omega⟩
    refine run_eq (p := p3) rfl rfl ?_
    show exs (run F (k + 1)) [some (en t), none] b3 = _
    refine y_ret ?_
    have hl : ev (run F (k + 1)) [some (en t), none] (.lc (.call 3 (.cons (.var 1) .nil)) [1] (.nm 1) (.ex (.call 0 (.cons (.var 0) .nil))) .no) = ret (.lst ((parts t).map fun x => .int (cnt x : Nat))) :=
      y_lc (f := en) (y_itex (y_call (xs := [en t]) (by simp [evs, ev]) (r0 k t))) (by simp [wipeR]) fun x hx => y_call (xs := [en x]) (by simp [evs, ev, wipeR]) (r3 n (k + 1) x (by have := parts_hgt hx; omega) (by omega))
    have hs : biM .sum (.lst ((parts t).map fun x => .int (cnt x : Nat))) = some (.int ((cnt t : Nat) - 1 : Int)) := by
      cases t <;> simp [parts, biM, biD, sumI, cnt] <;> omega
    have := y_bi hl hs
    rw [ev, this]
    simp only [ev, bnd_r, binD, lift_s]
    congr 2
    omega
def allS : Th → List Th
  | .via s t => .via s t :: allS t
  | .by_ w t => .by_ w t :: allS t
  | .n1 o t => .n1 o t :: allS t
  | .n2 o t u => .n2 o t u :: (allS t ++ allS u)
  | t => [t]
theorem allS_parts (t : Th) : allS t = t :: (parts t).flatMap allS := by cases t <;> simp [allS, parts]
theorem allS_len : ∀ t, (allS t).length = cnt t
  | .via _ t => by have := allS_len t; simp [allS, cnt, this]
  | .by_ _ t => by have := allS_len t; simp [allS, cnt, this]
  | .n1 _ t => by have := allS_len t; simp [allS, cnt, this]
  | .n2 _ t u => by have := allS_len t; have := allS_len u; simp [allS, cnt, *]
  | .num _ => rfl
  | .key => rfl
  | .col _ => rfl
  | .tru => rfl
theorem flat_len {α β : Type} (f : α → List β) {d x : List α} (h : ∃ s, x = d ++ s) : (d.flatMap f).length ≤ (x.flatMap f).length := by
  obtain ⟨s, rfl⟩ := h
  rw [List.flatMap_append, List.length_append]; omega
theorem r19 : ∀ (n k : Nat) (t : Th), hgt t < n → n + 1 ≤ k → hgt t ≤ 20 → run F k 19 [en t] = ret (.lst ((allS t).map en))
  | 0, _, _, h, _, _ => absurd h (Nat.not_lt_zero _)
  | n + 1, k, t, h, hk, hh => by
    obtain ⟨k, rfl⟩ : ∃ k', k = k' + 2 := ⟨k - 2, by omega⟩
    refine run_eq (p := p19) rfl rfl ?_
    show exs (run F (k + 1)) [some (en t), none, none] b19 = _
    refine y_asg (d := .lst [en t]) (by simp [ev, evs]) (by simp) ?_
    refine y_for (zs := parts t) (e := en) (y_itex (y_call (xs := [en t]) (by simp [evs, ev]) (r18 k t))) (fun d ρ => ∃ v, ρ = [some (en t), some (.lst (en t :: (d.flatMap allS).map en)), v]) ⟨none, rfl⟩ ?_ ?_
    · rintro d x s ρ hz ⟨v, rfl⟩
      have hx : x ∈ parts t := by rw [hz]; simp
      have ih := r19 n (k + 1) x (by have := parts_hgt hx; omega) (by omega) (by have := parts_hgt hx; omega)
      refine ⟨_, [some (en t), some (.lst (en t :: ((d ++ [x]).flatMap allS).map en)), some (en x)], by simp [bindT]; rfl, ?_, ⟨_, rfl⟩⟩
      have hl : (en t :: (d.flatMap allS).map en).length + ((allS x).map en).length ≤ line := by
        have a := allS_len t
        rw [allS_parts] at a
        have b := flat_len allS (d := d ++ [x]) (x := parts t) ⟨s, by rw [hz]; simp⟩
        have c := cnt_line hh
        simp only [List.flatMap_append, List.length_append, List.flatMap_cons, List.flatMap_nil, List.append_nil, List.length_cons, List.length_map] at a b ⊢
        show _ ≤ 16777216
        omega
      simp only [exs, ex, ev, evs, List.set, List.getD_cons_zero, List.getD_cons_succ, lift_s, bnd_r, bnd_b, ih, upAt, mutD, if_pos hl]
      simp
    · rintro ρ' ⟨v, rfl⟩
      refine y_low (y_ret ?_)
      rw [allS_parts t]
      simp [ev]
end K06

set_option Elab.async false
set_option linter.all false
set_option maxRecDepth 100000
namespace K06
open PySem Dn L2
/-- the columns of a thing's own words -/
def pre : Th → List Str
  | .col s => [s]
  | .via s _ => [s]
  | _ => []
def kids : Th → List Th
  | .via _ _ => []
  | t => parts t
theorem kids_parts {t x : Th} (h : x ∈ kids t) : x ∈ parts t := by
  cases t with
  | via s t => cases h
  | _ => exact h
theorem kids_cols (t : Th) (z : Str) : z ∈ pre t ++ (kids t).flatMap (fun x => srt (cols x)) ↔ z ∈ cols t := by
  cases t <;> simp [pre, kids, parts, cols, mem_srt]
theorem kids_len (t : Th) : (kids t).length ≤ 2 := by cases t <;> simp [kids, parts]
theorem r20 : ∀ (n k : Nat) (t : Th), hgt t < n → n + 1 ≤ k → gT t = true → run F k 20 [en t] = ret (.tup (stL (srt (cols t))))
  | 0, _, _, h, _, _ => absurd h (Nat.not_lt_zero _)
  | n + 1, k, t, h, hk, hg => by
    obtain ⟨k, rfl⟩ : ∃ k', k = k' + 2 := ⟨k - 2, by omega⟩
    refine run_eq (p := p20) rfl rfl ?_
    show exs (run F (k + 1)) [some (en t), none, none] b20 = _
    have c1 : ev (run F (k + 1)) [some (en t), none, none] (.ite (.cmp .isin (.idx (.var 0) (.ki 0)) (.tup (.cons (.ks "col") (.cons (.ks "via") .nil)))) (.lst (.cons (.idx (.var 0) (.ki 1)) .nil)) (.lst .nil)) = ret (.lst (stL (pre t))) := by
      cases t with
      | n1 o t => cases o <;> kernel_rfl
      | n2 o t u => cases o <;> kernel_rfl
      | _ => kernel_rfl
    refine y_asg c1 (by simp) ?_
    have c2 : evi (run F (k + 1)) [some (en t), some (.lst (stL (pre t))), none] (.ex (.ite (.cmp .ne (.idx (.var 0) (.ki 0)) (.ks "via")) (.call 18 (.cons (.var 0) .nil)) (.lst .nil))) = ret ((kids t).map en) := by
      have key : ∀ ρ : Rho, ρ.getD 0 none = some (en t) → ev (run F (k + 1)) ρ (.call 18 (.cons (.var 0) .nil)) = ret (.lst ((parts t).map en)) := fun ρ hρ => y_call (xs := [en t]) (by simp only [evs, ev, hρ, lift_s, bnd_r]) (r18 k t)
      cases t with
      | via s t => exact y_itex (y_iteF (by kernel_rfl) (by kernel_rfl))
      | n1 o t => exact y_itex (y_iteT (by cases o <;> kernel_rfl) (key _ rfl))
      | n2 o t u => exact y_itex (y_iteT (by cases o <;> kernel_rfl) (key _ rfl))
      | _ => exact y_itex (y_iteT (by kernel_rfl) (key _ rfl))
    have hl1 : ∀ d : List Th, (∀ x ∈ d, gT x = true) → (d.flatMap fun x => srt (cols x)).length ≤ d.length * 12 := by
      intro d
      induction d with
      | nil => intro _; simp
      | cons x d ih =>
        intro hd
        have a := ih fun y hy => hd y (List.mem_cons_of_mem _ hy)
        have b : (srt (cols x)).length ≤ nms.length := srt_len (gcols x (hd x List.mem_cons_self))
        have c : nms.length = 12 := rfl
        rw [List.flatMap_cons, List.length_append, List.length_cons]
        omega
    have hpre : (pre t).length ≤ 1 := by cases t <;> simp [pre]
    have hkid : ∀ x ∈ kids t, gT x = true := fun x hx => gparts hg (kids_parts hx)
    refine y_for (zs := kids t) (e := en) c2 (fun d ρ => ∃ v, ρ = [some (en t), some (.lst (stL (pre t ++ d.flatMap fun x => srt (cols x)))), v]) ⟨none, by simp⟩ ?_ ?_
    · rintro d x s ρ hz ⟨v, rfl⟩
      have hx : x ∈ kids t := by rw [hz]; simp
      have ih := r20 n (k + 1) x (by have := parts_hgt (kids_parts hx); omega) (by omega) (hkid x hx)
      refine ⟨_, [some (en t), some (.lst (stL (pre t ++ (d ++ [x]).flatMap fun x => srt (cols x)))), some (en x)], by simp [bindT]; rfl, ?_, ⟨_, rfl⟩⟩
      have hl : (stL (pre t ++ d.flatMap fun x => srt (cols x))).length + (stL (srt (cols x))).length ≤ line := by
        have a := hl1 d fun y hy => hkid y (by rw [hz]; simp [hy])
        have b : (srt (cols x)).length ≤ nms.length := srt_len (gcols x (hkid x hx))
        have c : nms.length = 12 := rfl
        have e := kids_len t
        have e2 := congrArg List.length hz
        simp only [List.length_append, List.length_cons] at e2
        rw [len_strs, len_strs, List.length_append]
        show _ ≤ 16777216
        omega
      simp only [exs, ex, ev, evs, List.set, List.getD_cons_zero, List.getD_cons_succ, lift_s, bnd_r, bnd_b, ih, upAt, mutD, if_pos hl]
      have e : stL (pre t ++ d.flatMap fun x => srt (cols x)) ++ stL (srt (cols x)) = stL (pre t ++ (d ++ [x]).flatMap fun x => srt (cols x)) := by
        unfold stL
        rw [← List.map_append]
        simp
      rw [e]
    · rintro ρ' ⟨v, rfl⟩
      refine y_ret (y_bi (x := .lst (stL (srt (cols t)))) ?_ rfl)
      have hl : (pre t ++ (kids t).flatMap fun x => srt (cols x)).length < 64 := by
        have a := hl1 (kids t) hkid
        have b := kids_len t
        rw [List.length_append]
        omega
      simp only [ev, List.getD_cons_zero, List.getD_cons_succ, lift_s, bnd_r, sst_srt hl]
      rw [srt_ext (kids_cols t)]
/-! without vias -/
def wv : Th → Th
  | .via _ t => wv t
  | .by_ w t => .by_ w (wv t)
  | .n1 o t => .n1 o (wv t)
  | .n2 o t u => .n2 o (wv t) (wv u)
  | t => t
def noV : Th → Bool
  | .via _ _ => false
  | .by_ _ t => noV t
  | .n1 _ t => noV t
  | .n2 _ t u => noV t && noV u
  | _ => true
theorem wv_noV : ∀ t, noV (wv t) = true
  | .via _ t => wv_noV t
  | .by_ _ t => wv_noV t
  | .n1 _ t => wv_noV t
  | .n2 _ t u => by simp [wv, noV, wv_noV t, wv_noV u]
  | .num _ => rfl
  | .key => rfl
  | .col _ => rfl
  | .tru => rfl
theorem wv_hgt : ∀ t, hgt (wv t) ≤ hgt t
  | .via _ t => by have := wv_hgt t; simp only [wv, hgt]; omega
  | .by_ _ t => by have := wv_hgt t; simp only [wv, hgt]; omega
  | .n1 _ t => by have := wv_hgt t; simp only [wv, hgt]; omega
  | .n2 _ t u => by have := wv_hgt t; have := wv_hgt u; simp only [wv, hgt]; omega
  | .num _ => by simp [wv]
  | .key => by simp [wv]
  | .col _ => by simp [wv]
  | .tru => by simp [wv]
theorem wv_gT : ∀ t, gT t = true → gT (wv t) = true
  | .via _ t, h => by simp only [gT, Bool.and_eq_true] at h; exact wv_gT t h.2
  | .by_ _ t, h => by simp only [gT, Bool.and_eq_true] at h; simp [wv, gT, h.1, wv_gT t h.2]
  | .n1 _ t, h => wv_gT t h
  | .n2 _ t u, h => by simp only [gT, Bool.and_eq_true] at h; simp [wv, gT, wv_gT t h.1, wv_gT u h.2]
  | .num _, h => h
  | .key, h => h
  | .col _, h => h
  | .tru, h => h
theorem r25 : ∀ (n k : Nat) (t : Th), hgt t < n → n + 1 ≤ k → run F k 25 [en t] = ret (en (wv t))
  | 0, _, _, h, _ => absurd h (Nat.not_lt_zero _)
  | n + 1, k, t, h, hk => by
    obtain ⟨k, rfl⟩ : ∃ k', k = k' + 2 := ⟨k - 2, by omega⟩
    refine run_eq (p := p25) rfl rfl ?_
    show exs (run F (k + 1)) [some (en t), none, none] b25 = _
    have hl : ev (run F (k + 1)) [some (en t), none, none] (.bi .tuple (.lc (.call 25 (.cons (.var 2) .nil)) [2] (.nm 2) (.ex (.call 18 (.cons (.var 0) .nil))) .no)) = ret (.tup ((parts t).map fun x => en (wv x))) :=
      y_bi (y_lc (f := en) (y_itex (y_call (xs := [en t]) (by simp [evs, ev]) (r18 k t))) (by simp [wipeR]) fun x hx => y_call (xs := [en x]) (by simp [evs, ev, wipeR]) (r25 n (k + 1) x (by have := parts_hgt hx; omega) (by omega))) rfl
    cases t with
    | via s t => exact y_then (by kernel_rfl) (y_ret (y_call (xs := [en t]) (by kernel_rfl) (r25 n (k + 1) t (by simp only [hgt] at h; omega) (by omega))))
    | by_ w t => exact y_skip (by kernel_rfl) (y_skip (by kernel_rfl) (y_asg hl (by simp) (y_low (y_ret (by kernel_rfl)))))
    | n1 o t => cases o <;> exact y_skip (by kernel_rfl) (y_skip (by kernel_rfl) (y_asg hl (by simp) (y_low (y_ret (by kernel_rfl)))))
    | n2 o t u => cases o <;> exact y_skip (by kernel_rfl) (y_skip (by kernel_rfl) (y_asg hl (by simp) (y_low (y_ret (by kernel_rfl)))))
    | _ => exact y_skip (by kernel_rfl) (y_then (by kernel_rfl) (by kernel_rfl))
/-! put in -/
abbrev Sub := List (Str × Th)
def look (cs : Sub) (s : Str) : Option Th := (cs.find? fun p => p.1 == s).map (·.2)
def subD (cs : Sub) : List (D × D) := ents (cs.map fun p => (p.1, en p.2))
theorem look_D (s : Str) : ∀ cs : Sub, dget (subD cs) (.str s) = (look cs s).map en
  | [] => rfl
  | p :: cs => by
    have ih := look_D s cs
    unfold subD look at ih ⊢
    rw [dget_ents] at ih ⊢
    rw [List.map_cons, List.find?_cons, List.find?_cons]
    dsimp only
    cases p.1 == s with
    | true => rfl
    | false => exact ih
def put (cs : Sub) (kt : Th) : Th → Th
  | .key => kt
  | .col s => (look cs s).getD (.col s)
  | .by_ w t => .by_ w (put cs kt t)
  | .n1 o t => .n1 o (put cs kt t)
  | .n2 o t u => .n2 o (put cs kt t) (put cs kt u)
  | t => t
theorem nparts {t x : Th} (h : noV t = true) (hx : x ∈ parts t) : noV x = true := by
  cases t with
  | n2 o t u =>
    simp only [parts, List.mem_cons, List.not_mem_nil, or_false] at hx
    simp only [noV, Bool.and_eq_true] at h
    rcases hx with rfl | rfl
    · exact h.1
    · exact h.2
  | n1 o t =>
    simp only [parts, List.mem_cons, List.not_mem_nil, or_false] at hx
    subst hx; exact h
  | via s t => cases h
  | by_ s t =>
    simp only [parts, List.mem_cons, List.not_mem_nil, or_false] at hx
    subst hx; exact h
  | _ => simp [parts] at hx
theorem get_col {Φ : Nat → List D → M D} {cs : Sub} {kt : D} {s : Str} {ρ : Rho} : ev Φ (some (en (.col s)) :: some (.dct (subD cs)) :: some kt :: ρ) (.get2 (.var 1) (.idx (.var 0) (.ki 1)) (.var 0)) = ret (en ((look cs s).getD (.col s))) := by
  simp only [ev, List.getD_cons_zero, List.getD_cons_succ, lift_s, bnd_r, bnd_b, dctOf_d, en, idxD, at1]
  rw [if_pos (isK s), look_D]
  cases look cs s <;> rfl
theorem r26 (cs : Sub) (kt : Th) : ∀ (n k : Nat) (t : Th), hgt t < n → n + 1 ≤ k → noV t = true → run F k 26 [en t, .dct (subD cs), en kt] = ret (en (put cs kt t))
  | 0, _, _, h, _, _ => absurd h (Nat.not_lt_zero _)
  | n + 1, k, t, h, hk, hv => by
    obtain ⟨k, rfl⟩ : ∃ k', k = k' + 2 := ⟨k - 2, by omega⟩
    refine run_eq (p := p26) rfl rfl ?_
    show exs (run F (k + 1)) [some (en t), some (.dct (subD cs)), some (en kt), none, none] b26 = _
    have hl : ev (run F (k + 1)) [some (en t), some (.dct (subD cs)), some (en kt), none, none] (.bi .tuple (.lc (.call 26 (.cons (.var 4) (.cons (.var 1) (.cons (.var 2) .nil)))) [4] (.nm 4) (.ex (.call 18 (.cons (.var 0) .nil))) .no)) = ret (.tup ((parts t).map fun x => en (put cs kt x))) :=
      y_bi (y_lc (f := en) (y_itex (y_call (xs := [en t]) (by simp [evs, ev]) (r18 k t))) (by simp [wipeR]) fun x hx => y_call (xs := [en x, .dct (subD cs), en kt]) (by simp [evs, ev, wipeR]) (r26 cs kt n (k + 1) x (by have := parts_hgt hx; omega) (by omega) (nparts hv hx))) rfl
    cases t with
    | via s t => cases hv
    | col s => exact y_then (by kernel_rfl) (y_ret get_col)
    | key => exact y_skip (by kernel_rfl) (y_then (by kernel_rfl) (y_ret (by kernel_rfl)))
    | by_ w t => exact y_skip (by kernel_rfl) (y_skip (by kernel_rfl) (y_skip (by kernel_rfl) (y_asg hl (by simp) (y_low (y_ret (by kernel_rfl))))))
    | n1 o t => cases o <;> exact y_skip (by kernel_rfl) (y_skip (by kernel_rfl) (y_skip (by kernel_rfl) (y_asg hl (by simp) (y_low (y_ret (by kernel_rfl))))))
    | n2 o t u => cases o <;> exact y_skip (by kernel_rfl) (y_skip (by kernel_rfl) (y_skip (by kernel_rfl) (y_asg hl (by simp) (y_low (y_ret (by kernel_rfl))))))
    | _ => exact y_skip (by kernel_rfl) (y_skip (by kernel_rfl) (y_then (by kernel_rfl) (by kernel_rfl)))
theorem r4 (cs : Sub) (kt : Th) : ∀ (n k : Nat) (t : Th), hgt t < n → n + 1 ≤ k → noV t = true → run F k 4 [en t, .dct (subD cs), en kt] = ret (en (put cs kt t))
  | 0, _, _, h, _, _ => absurd h (Nat.not_lt_zero _)
  | n + 1, k, t, h, hk, hv => by
    obtain ⟨k, rfl⟩ : ∃ k', k = k' + 2 := ⟨k - 2, by omega⟩
    refine run_eq (p := p4) rfl rfl ?_
    show exs (run F (k + 1)) [some (en t), some (.dct (subD cs)), some (en kt), none] b4 = _
    have ih : ∀ x ∈ parts t, run F (k + 1) 4 [en x, .dct (subD cs), en kt] = ret (en (put cs kt x)) := fun x hx => r4 cs kt n (k + 1) x (by have := parts_hgt hx; omega) (by omega) (nparts hv hx)
    have hs : ∀ {zs : List Th}, (∀ x ∈ zs, x ∈ parts t) → slcD (en t) (some 1) none = some (.tup (zs.map en)) → ev (run F (k + 1)) [some (en t), some (.dct (subD cs)), some (en kt), none] (.lc (.call 4 (.cons (.var 3) (.cons (.var 1) (.cons (.var 2) .nil)))) [3] (.nm 3) (.ex (.slc (.var 0) (.yes (.ki 1)) .no)) .no) = ret (.lst (zs.map fun x => en (put cs kt x))) := fun {zs} hz hs =>
      y_lc (f := en) (by simp [evi, ev, evo, hs]) (by simp [wipeR]) fun x hx => y_call (xs := [en x, .dct (subD cs), en kt]) (by simp [evs, ev, wipeR]) (ih x (hz x hx))
    cases t with
    | via s t => cases hv
    | key => exact y_then (by kernel_rfl) (y_ret (by kernel_rfl))
    | col s => exact y_skip (by kernel_rfl) (y_then (by kernel_rfl) (y_ret get_col))
    | by_ w t =>
      refine y_skip (by kernel_rfl) (y_skip (by kernel_rfl) (y_then (by kernel_rfl) (y_ret ?_)))
      have := ih t (by simp [parts])
      simp only [ev, evs, List.getD_cons_zero, List.getD_cons_succ, lift_s, bnd_r, bnd_b, en, idxD, at1, at2, this]
      rfl
    | n1 o t =>
      have h2 := hs (zs := [t]) (by simp [parts]) (by cases o <;> kernel_rfl)
      cases o <;> exact y_skip (by kernel_rfl) (y_skip (by kernel_rfl) (y_skip (by kernel_rfl) (y_skip (by kernel_rfl) (y_ret (by rw [ev, h2]; kernel_rfl)))))
    | n2 o t u =>
      have h2 := hs (zs := [t, u]) (by simp [parts]) (by cases o <;> kernel_rfl)
      cases o <;> exact y_skip (by kernel_rfl) (y_skip (by kernel_rfl) (y_skip (by kernel_rfl) (y_skip (by kernel_rfl) (y_ret (by rw [ev, h2]; kernel_rfl)))))
    | _ => exact y_skip (by kernel_rfl) (y_skip (by kernel_rfl) (y_skip (by kernel_rfl) (y_then (by kernel_rfl) (by kernel_rfl))))
end K06

set_option Elab.async false
set_option linter.all false
set_option maxRecDepth 100000
namespace K06
open PySem Dn L2
theorem flat_ints : ∀ ns : List Int, flats (ns.map D.int) = true
  | [] => rfl
  | n :: ns => by simp [flats, flat, flat_ints ns]
theorem flat_W (w : Wy) : flat (enW w) = true := by cases w <;> simp [enW, flat, flats, flat_ints]
theorem flat_en : ∀ t : Th, flat (en t) = true
  | .via _ t => by simp [en, flat, flats, flat_en t]
  | .by_ w t => by simp [en, flat, flats, flat_en t, flat_W]
  | .n1 _ t => by simp [en, flat, flats, flat_en t]
  | .n2 _ t u => by simp [en, flat, flats, flat_en t, flat_en u]
  | .num _ => rfl
  | .key => rfl
  | .col _ => rfl
  | .tru => rfl
def isTru : Th → Bool
  | .tru => true
  | _ => false
theorem eq_tru (t : Th) : cmpD .eq (en t) (.tup [.str "true"]) = some (isTru t) := by
  show (if eqOk (en t) (.tup [.str "true"]) = true then some (eqD (en t) (.tup [.str "true"])) else none) = _
  have e : eqOk (en t) (.tup [.str "true"]) = true := by
    unfold eqOk roomy
    rw [flat_en, decide_eq_true (Nat.le_trans (Nat.min_le_right _ _) (by decide))]
    rfl
  rw [if_pos e]
  cases t with
  | n1 o t => cases o <;> kernel_rfl
  | n2 o t u => cases o <;> kernel_rfl
  | _ => kernel_rfl
def bothT (a b : Th) : Th := if isTru a = true then b else if isTru b = true then a else .n2 .and a b
theorem r5 (k : Nat) (a b : Th) : run F (k + 1) 5 [en a, en b] = ret (en (bothT a b)) := by
  refine run_eq (p := p5) rfl rfl ?_
  show exs (run F k) [some (en a), some (en b)] b5 = _
  have c1 : ev (run F k) [some (en a), some (en b)] (.cmp .eq (.var 0) (.glo "TRUE" d_TRUE)) = ret (.bl (isTru a)) := by
    simp only [ev, List.getD_cons_zero, List.getD_cons_succ, lift_s, bnd_r, d_TRUE, eq_tru]
  have c2 : ev (run F k) [some (en a), some (en b)] (.cmp .eq (.var 1) (.glo "TRUE" d_TRUE)) = ret (.bl (isTru b)) := by
    simp only [ev, List.getD_cons_zero, List.getD_cons_succ, lift_s, bnd_r, d_TRUE, eq_tru]
  unfold bothT
  cases h : isTru a with
  | true =>
    rw [h] at c1
    exact y_then c1 (y_ret rfl)
  | false =>
    rw [h] at c1
    refine y_skip c1 (y_ret ?_)
    cases h2 : isTru b with
    | true =>
      rw [h2] at c2
      exact y_iteT c2 rfl
    | false =>
      rw [h2] at c2
      exact y_iteF c2 (by kernel_rfl)
/-! own reading of expressions -/
theorem r13 (k : Nat) : ∀ s ∈ nms, run F (k + 2) 13 [.str s] = ret (.bl true) := by
  intro s hs
  unfold nms at hs
  simp only [List.mem_cons, List.not_mem_nil, or_false] at hs
  rcases hs with rfl | rfl | rfl | rfl | rfl | rfl | rfl | rfl | rfl | rfl | rfl | rfl <;> kernel_rfl
theorem r7 (k : Nat) (n : Int) : run F (k + 1) 7 [.int n] = ret (.bl true) := by kernel_rfl
theorem r15 (k : Nat) {n : Int} (h1 : 1 ≤ n) (h2 : n ≤ 1000) : run F (k + 2) 15 [.int n] = ret (.bl true) := by
  refine run_eq (p := p15) rfl rfl ?_
  show exs (run F (k + 1)) [some (.int n)] b15 = _
  refine y_ret (y_and (x := true) (y := true) (y_call (xs := [.int n]) (by kernel_rfl) (r7 k n)) (fun _ => ?_) (fun z => by cases z))
  simp [ev, cmpD, h1, h2]
theorem r16 (k : Nat) (w : Wy) (h : gW w = true) : run F (k + 3) 16 [enW w] = ret (.bl true) := by
  cases w with
  | plus n => kernel_rfl
  | turned => kernel_rfl
  | list ns =>
    simp only [gW, Bool.and_eq_true, decide_eq_true_eq] at h
    refine run_eq (p := p16) rfl rfl ?_
    show exs (run F (k + 2)) [some (enW (.list ns)), none] b16 = _
    refine y_skip (by kernel_rfl) (y_skip (by kernel_rfl) (y_then (by kernel_rfl) (y_skip ?_ (y_ret ?_))))
    · have h1 : (1 : Int) ≤ (ns.map D.int).length := by rw [List.length_map]; omega
      have h2 : ((ns.map D.int).length : Int) ≤ 1000 := by rw [List.length_map]; omega
      have e1 : ev (run F (k + 2)) [some (enW (.list ns)), none] (.not_ (.isi (.idx (.var 0) (.ki 1)) .tuple)) = ret (.bl false) := by kernel_rfl
      rw [ev, e1]
      simp only [bnd_r, boolOf_b, Bool.false_eq_true, if_false]
      simp only [ev, List.getD_cons_zero, lift_s, bnd_r, enW, idxD, at1, biM, biD, cmpD, decide_eq_true h1, decide_eq_true h2, if_true, boolOf_b, Bool.not_true]
    · have e : ev (run F (k + 2)) [some (enW (.list ns)), none] (.lc (.var 1) [1] (.nm 1) (.ex (.idx (.var 0) (.ki 1))) (.yes (.not_ (.call 7 (.cons (.var 1) .nil))))) = ret (.lst []) := by
        simp only [ev, evi, evc, evs, List.getD_cons_zero, List.getD_cons_succ, lift_s, bnd_r, bnd_b, enW, idxD, at1, itemsOf_t]
        rw [loop_flat (g := fun _ => []) ns fun n _ => by simp [wipeR, bindT, show run F (k + 2) 7 [.int n] = _ from r7 (k + 1) n]]
        have e0 : ns.flatMap (fun _ => ([] : List D)) = [] := by induction ns <;> simp
        rw [e0]; rfl
      rw [ev, e]
      kernel_rfl
  | times n =>
    simp only [gW, Bool.and_eq_true, decide_eq_true_eq] at h
    refine run_eq (p := p16) rfl rfl ?_
    show exs (run F (k + 2)) [some (enW (.times n)), none] b16 = _
    refine y_skip (by kernel_rfl) (y_skip (by kernel_rfl) (y_skip (by kernel_rfl) (y_skip (by kernel_rfl) (y_ret (y_and (x := true) (by kernel_rfl) (fun _ => y_call (xs := [.int n]) (by kernel_rfl) (r15 k h.1 h.2)) (fun z => by cases z))))))
  | over n =>
    simp only [gW, Bool.and_eq_true, decide_eq_true_eq] at h
    refine run_eq (p := p16) rfl rfl ?_
    show exs (run F (k + 2)) [some (enW (.over n)), none] b16 = _
    refine y_skip (by kernel_rfl) (y_skip (by kernel_rfl) (y_skip (by kernel_rfl) (y_skip (by kernel_rfl) (y_ret (y_and (x := true) (by kernel_rfl) (fun _ => y_call (xs := [.int n]) (by kernel_rfl) (r15 k h.1 h.2)) (fun z => by cases z))))))
  | rest n =>
    simp only [gW, Bool.and_eq_true, decide_eq_true_eq] at h
    refine run_eq (p := p16) rfl rfl ?_
    show exs (run F (k + 2)) [some (enW (.rest n)), none] b16 = _
    refine y_skip (by kernel_rfl) (y_skip (by kernel_rfl) (y_skip (by kernel_rfl) (y_skip (by kernel_rfl) (y_ret (y_and (x := true) (by kernel_rfl) (fun _ => y_call (xs := [.int n]) (by kernel_rfl) (r15 k h.1 h.2)) (fun z => by cases z))))))
/-- is it an expression -/
def O2.ar : O2 → Bool | .add => true | .sub => true | .mul => true | _ => false
def isX : Th → Bool
  | .num _ => true
  | .key => true
  | .col _ => true
  | .tru => false
  | .via _ t => isX t
  | .by_ _ t => isX t
  | .n1 _ _ => false
  | .n2 o t u => o.ar && (isX t && isX u)
theorem r17 : ∀ (n k : Nat) (t : Th), hgt t < n → n + 3 ≤ k → gT t = true → run F k 17 [en t] = ret (.bl (isX t))
  | 0, _, _, h, _, _ => absurd h (Nat.not_lt_zero _)
  | n + 1, k, t, h, hk, hg => by
    obtain ⟨k, rfl⟩ : ∃ k', k = k' + 4 := ⟨k - 4, by omega⟩
    refine run_eq (p := p17) rfl rfl ?_
    show exs (run F (k + 3)) [some (en t)] b17 = _
    have ih : ∀ x ∈ parts t, run F (k + 3) 17 [en x] = ret (.bl (isX x)) := fun x hx => r17 n (k + 3) x (by have := parts_hgt hx; omega) (by omega) (gparts hg hx)
    cases t with
    | key => exact y_then (by kernel_rfl) (by kernel_rfl)
    | num n => exact y_skip (by kernel_rfl) (y_then (by kernel_rfl) (by kernel_rfl))
    | col s => exact y_skip (by kernel_rfl) (y_skip (by kernel_rfl) (y_then (by kernel_rfl) (y_ret (y_call (xs := [.str s]) (by kernel_rfl) (r13 (k + 1) s (List.contains_iff_mem.mp hg))))))
    | via s t =>
      have hg2 : nms.contains s = true ∧ gT t = true := by simpa only [gT, Bool.and_eq_true] using hg
      exact y_skip (by kernel_rfl) (y_skip (by kernel_rfl) (y_skip (by kernel_rfl) (y_then (by kernel_rfl) (y_ret (y_and (x := true) (y_call (xs := [.str s]) (by kernel_rfl) (r13 (k + 1) s (List.contains_iff_mem.mp hg2.1))) (fun _ => y_call (xs := [en t]) (by kernel_rfl) (ih t (by simp [parts]))) (fun z => by cases z))))))
    | by_ w t =>
      have hg2 : gW w = true ∧ gT t = true := by simpa only [gT, Bool.and_eq_true] using hg
      exact y_skip (by kernel_rfl) (y_skip (by kernel_rfl) (y_skip (by kernel_rfl) (y_skip (by kernel_rfl) (y_then (by kernel_rfl) (y_ret (y_and (x := true) (y_call (xs := [enW w]) (by kernel_rfl) (r16 k w hg2.1)) (fun _ => y_call (xs := [en t]) (by kernel_rfl) (ih t (by simp [parts]))) (fun z => by cases z)))))))
    | tru => exact y_skip (by kernel_rfl) (y_skip (by kernel_rfl) (y_skip (by kernel_rfl) (y_skip (by kernel_rfl) (y_skip (by kernel_rfl) (y_then (by kernel_rfl) (by kernel_rfl))))))
    | n1 o t => cases o <;> exact y_skip (by kernel_rfl) (y_skip (by kernel_rfl) (y_skip (by kernel_rfl) (y_skip (by kernel_rfl) (y_skip (by kernel_rfl) (y_then (by kernel_rfl) (by kernel_rfl))))))
    | n2 o t u =>
      have h1 := ih t (by simp [parts])
      have h2 := ih u (by simp [parts])
      cases o with
      | add => exact y_skip (by kernel_rfl) (y_skip (by kernel_rfl) (y_skip (by kernel_rfl) (y_skip (by kernel_rfl) (y_skip (by kernel_rfl) (y_skip (by kernel_rfl) (y_skip (by kernel_rfl) (y_ret (y_and (x := isX t) (y_call (xs := [en t]) (by kernel_rfl) h1) (fun z => by
            rw [y_call (xs := [en u]) (by kernel_rfl) h2]
            show _ = ret (D.bl (true && (isX t && isX u)))
            rw [z]; rfl) (fun z => by
            show (true && (isX t && isX u)) = false
            rw [z]; rfl)))))))))
      | sub => exact y_skip (by kernel_rfl) (y_skip (by kernel_rfl) (y_skip (by kernel_rfl) (y_skip (by kernel_rfl) (y_skip (by kernel_rfl) (y_skip (by kernel_rfl) (y_skip (by kernel_rfl) (y_ret (y_and (x := isX t) (y_call (xs := [en t]) (by kernel_rfl) h1) (fun z => by
            rw [y_call (xs := [en u]) (by kernel_rfl) h2]
            show _ = ret (D.bl (true && (isX t && isX u)))
            rw [z]; rfl) (fun z => by
            show (true && (isX t && isX u)) = false
            rw [z]; rfl)))))))))
      | mul => exact y_skip (by kernel_rfl) (y_skip (by kernel_rfl) (y_skip (by kernel_rfl) (y_skip (by kernel_rfl) (y_skip (by kernel_rfl) (y_skip (by kernel_rfl) (y_skip (by kernel_rfl) (y_ret (y_and (x := isX t) (y_call (xs := [en t]) (by kernel_rfl) h1) (fun z => by
            rw [y_call (xs := [en u]) (by kernel_rfl) h2]
            show _ = ret (D.bl (true && (isX t && isX u)))
            rw [z]; rfl) (fun z => by
            show (true && (isX t && isX u)) = false
            rw [z]; rfl)))))))))
      | lt => exact y_skip (by kernel_rfl) (y_skip (by kernel_rfl) (y_skip (by kernel_rfl) (y_skip (by kernel_rfl) (y_skip (by kernel_rfl) (y_skip (by kernel_rfl) (y_then (by kernel_rfl) (by kernel_rfl)))))))
      | eq => exact y_skip (by kernel_rfl) (y_skip (by kernel_rfl) (y_skip (by kernel_rfl) (y_skip (by kernel_rfl) (y_skip (by kernel_rfl) (y_skip (by kernel_rfl) (y_then (by kernel_rfl) (by kernel_rfl)))))))
      | and => exact y_skip (by kernel_rfl) (y_skip (by kernel_rfl) (y_skip (by kernel_rfl) (y_skip (by kernel_rfl) (y_skip (by kernel_rfl) (y_skip (by kernel_rfl) (y_then (by kernel_rfl) (by kernel_rfl)))))))
      | or => exact y_skip (by kernel_rfl) (y_skip (by kernel_rfl) (y_skip (by kernel_rfl) (y_skip (by kernel_rfl) (y_skip (by kernel_rfl) (y_skip (by kernel_rfl) (y_then (by kernel_rfl) (by kernel_rfl)))))))
end K06

set_option Elab.async false
set_option linter.all false
set_option maxRecDepth 100000
namespace K06
open PySem Dn L2
/-! worths -/
def vo : Option Int → D
  | none => .non
  | some i => .int i
def ledW : Wy → Int → Option Int
  | .plus n, x => some (x + n)
  | .turned, x => some (-x)
  | .times n, x => some (x * n)
  | .over n, x => some (x.fdiv n)
  | .rest n, x => some (x - n * x.fdiv n)
  | .list ns, x => if 0 ≤ x ∧ x < ns.length then some (ns.getD x.toNat 0) else none
theorem small_th {n : Int} (h1 : 1 ≤ n) (h2 : n ≤ 1000) : smallI n = true := by
  unfold smallI
  rw [decide_eq_true (by omega), decide_eq_true (by omega)]; rfl
theorem r6 (k : Nat) (w : Wy) (x : Int) (h : gW w = true) : run F (k + 1) 6 [enW w, .int x] = ret (vo (ledW w x)) := by
  refine run_eq (p := p6) rfl rfl ?_
  show exs (run F k) [some (enW w), some (.int x), none] b6 = _
  cases w with
  | plus n => exact y_asg (d := .str "plus") (by kernel_rfl) (by simp) (y_skip (by kernel_rfl) (y_skip (by kernel_rfl) (y_then (by kernel_rfl) (by kernel_rfl))))
  | turned => exact y_asg (d := .str "turned") (by kernel_rfl) (by simp) (y_skip (by kernel_rfl) (y_then (by kernel_rfl) (by kernel_rfl)))
  | times n =>
    simp only [gW, Bool.and_eq_true, decide_eq_true_eq] at h
    refine y_asg (d := .str "times") (by kernel_rfl) (by simp) (y_skip (by kernel_rfl) (y_skip (by kernel_rfl) (y_then (by kernel_rfl) (y_ret (y_iteF (by kernel_rfl) ?_)))))
    simp only [ev, List.set, List.getD_cons_zero, List.getD_cons_succ, lift_s, bnd_r, enW, idxD, at1, binD, small_th h.1 h.2, Bool.or_true, Bool.true_or, if_true]
    rfl
  | over n =>
    simp only [gW, Bool.and_eq_true, decide_eq_true_eq] at h
    have c : n ≠ 0 ∧ n.natAbs < 1073741824 := by omega
    refine y_asg (d := .str "over") (by kernel_rfl) (by simp) (y_skip (by kernel_rfl) (y_skip (by kernel_rfl) (y_skip (by kernel_rfl) (y_ret (y_iteT (by kernel_rfl) ?_)))))
    simp only [ev, List.set, List.getD_cons_zero, List.getD_cons_succ, lift_s, bnd_r, enW, idxD, at1, binD, if_pos c]
    rfl
  | rest n =>
    simp only [gW, Bool.and_eq_true, decide_eq_true_eq] at h
    have c : n ≠ 0 ∧ n.natAbs < 1073741824 := by omega
    refine y_asg (d := .str "rest") (by kernel_rfl) (by simp) (y_skip (by kernel_rfl) (y_skip (by kernel_rfl) (y_skip (by kernel_rfl) (y_ret (y_iteF (by kernel_rfl) ?_)))))
    simp only [ev, List.set, List.getD_cons_zero, List.getD_cons_succ, lift_s, bnd_r, enW, idxD, at1, binD, if_pos c, small_th h.1 h.2, Bool.or_true, Bool.true_or, if_true]
    rfl
  | list ns =>
    refine y_asg (d := .str "list") (by kernel_rfl) (by simp) (y_then (by kernel_rfl) (y_ret ?_))
    have e : ev (run F k) [some (enW (.list ns)), some (.int x), some (.str "list")] (.chn .le .lt (.ki 0) (.var 1) (.bi .len (.idx (.var 0) (.ki 1)))) = ret (.bl (decide (0 ≤ x ∧ x < ns.length))) := by
      simp only [ev, List.getD_cons_zero, List.getD_cons_succ, lift_s, bnd_r, enW, idxD, at1, cmpD, biM, biD, List.length_map]
      by_cases h1 : 0 ≤ x
      · rw [decide_eq_true h1]; simp [h1]
      · rw [decide_eq_false h1]; simp [h1]
    by_cases c : 0 ≤ x ∧ x < ns.length
    · rw [decide_eq_true c] at e
      refine y_iteT e ?_
      have hx : x.toNat < ns.length := by omega
      obtain ⟨y, a1, a2, a3⟩ := atI_pos (xs := ns.map D.int) (r := x) c.1 (by rw [List.length_map]; exact c.2)
      have a4 : y = .int (ns.getD x.toNat 0) := by
        rw [List.getElem?_map, List.getElem?_eq_getElem hx] at a3
        simp at a3
        rw [← a3, List.getD_eq_getElem?_getD, List.getElem?_eq_getElem hx]; rfl
      have f : ledW (.list ns) x = some (ns.getD x.toNat 0) := if_pos c
      simp only [ev, List.set, List.getD_cons_zero, List.getD_cons_succ, lift_s, bnd_r, enW, idxD, at1, a1, a4, f, vo]
    · rw [decide_eq_false c] at e
      have f : ledW (.list ns) x = none := if_neg c
      exact y_iteF e (by rw [f]; kernel_rfl)
def O2.op : O2 → Int → Int → Int
  | .add, x, y => x + y
  | .sub, x, y => x - y
  | .mul, x, y => x * y
  | _, _, _ => 0
def worth (f : Str → Option Int) (ky : Option Int) : Th → Option Int
  | .num n => some n
  | .key => ky
  | .col s => f s
  | .by_ w t => (worth f ky t).bind (ledW w)
  | .n2 o t u => (worth f ky t).bind fun x => (worth f ky u).bind fun y => some (o.op x y)
  | _ => none
/-- a bound for what comes out -/
structure Sm (r : Nat) (f : Str → Option Int) (ky : Option Int) : Prop where
  lo : 30 ≤ r
  row : ∀ s i, f s = some i → i.natAbs < 2 ^ r
  key : ∀ i, ky = some i → i.natAbs < 2 ^ r
theorem div_abs {x n : Int} (h : 1 ≤ n) : (x.fdiv n).natAbs ≤ x.natAbs ∧ 0 ≤ x - n * x.fdiv n ∧ x - n * x.fdiv n < n := by
  rw [Int.fdiv_eq_ediv_of_nonneg x (by omega)]
  have h1 := Int.ediv_mul_le x (b := n) (by omega)
  have h2 := Int.lt_ediv_add_one_mul_self x (show (0 : Int) < n by omega)
  generalize x / n = q at h1 h2
  rw [Int.add_mul, Int.one_mul] at h2
  rw [Int.mul_comm n q]
  refine ⟨?_, by omega, by omega⟩
  by_cases hq : 0 ≤ q
  · have : q ≤ q * n := by
      have := Int.mul_le_mul_of_nonneg_left h hq
      omega
    omega
  · have : q * n + n ≤ q + 1 := by
      have e := Int.mul_le_mul_of_nonpos_left (show q + 1 ≤ 0 by omega) h
      rw [Int.add_mul, Int.one_mul] at e
      omega
    omega
theorem led_abs {w : Wy} {x y : Int} (h : gW w = true) (e : ledW w x = some y) : y.natAbs ≤ 1000 * x.natAbs + 1000 := by
  cases w with
  | plus n =>
    simp only [gW, decide_eq_true_eq] at h
    cases e; omega
  | turned => cases e; omega
  | times n =>
    simp only [gW, Bool.and_eq_true, decide_eq_true_eq] at h
    cases e
    rw [Int.natAbs_mul]
    have : x.natAbs * n.natAbs ≤ x.natAbs * 1000 := Nat.mul_le_mul_left _ (by omega)
    omega
  | over n =>
    simp only [gW, Bool.and_eq_true, decide_eq_true_eq] at h
    cases e
    have := (div_abs (x := x) h.1).1
    omega
  | rest n =>
    simp only [gW, Bool.and_eq_true, decide_eq_true_eq] at h
    cases e
    have := (div_abs (x := x) h.1).2
    omega
  | list ns =>
    simp only [gW, Bool.and_eq_true, decide_eq_true_eq] at h
    by_cases c : 0 ≤ x ∧ x < ns.length
    · rw [show ledW (.list ns) x = some (ns.getD x.toNat 0) from if_pos c] at e
      cases e
      have hx : x.toNat < ns.length := by omega
      rw [List.getD_eq_getElem?_getD, List.getElem?_eq_getElem hx]
      have := List.all_eq_true.mp h.2 _ (List.getElem_mem hx)
      have : (ns[x.toNat]).natAbs ≤ 10 := by simpa using this
      show (ns[x.toNat]).natAbs ≤ _
      omega
    · rw [show ledW (.list ns) x = none from if_neg c] at e
      cases e
theorem worth_abs {r : Nat} {f : Str → Option Int} {ky : Option Int} (S : Sm r f ky) : ∀ (t : Th), gT t = true → ∀ i, worth f ky t = some i → i.natAbs < 2 ^ (r * 2 ^ hgt t)
  | .num n, h, i, e => by
    cases e
    have h : n.natAbs ≤ 123456789 := by simpa [gT] using h
    have a : (2 : Nat) ^ 30 ≤ 2 ^ r := Nat.pow_le_pow_right (by decide) S.lo
    simp only [hgt, Nat.pow_zero, Nat.mul_one]
    omega
  | .key, h, i, e => by
    simp only [hgt, Nat.pow_zero, Nat.mul_one]
    exact S.key i e
  | .col s, h, i, e => by
    simp only [hgt, Nat.pow_zero, Nat.mul_one]
    exact S.row s i e
  | .by_ w t, h, i, e => by
    have hg : gW w = true ∧ gT t = true := by simpa only [gT, Bool.and_eq_true] using h
    obtain ⟨x, e1, e2⟩ := Option.bind_eq_some_iff.mp (show (worth f ky t).bind (ledW w) = some i from e)
    have a := worth_abs S t hg.2 x e1
    have b := led_abs hg.1 e2
    have lo := S.lo
    have c : 30 ≤ r * 2 ^ hgt t := Nat.le_trans lo (Nat.le_mul_of_pos_right r (Nat.pow_pos (by decide)))
    simp only [hgt]
    rw [Nat.pow_succ, ← Nat.mul_assoc]
    generalize r * 2 ^ hgt t = m at a c
    have d : 2 ^ (m * 2) = 2 ^ m * 2 ^ m := by rw [Nat.mul_comm, Nat.two_mul, Nat.pow_add]
    have e3 : (2 : Nat) ^ 30 ≤ 2 ^ m := Nat.pow_le_pow_right (by decide) c
    rw [d]
    have e4 : 2 ^ m * 1073741824 ≤ 2 ^ m * 2 ^ m := Nat.mul_le_mul_left _ e3
    omega
  | .n2 o t u, h, i, e => by
    have hg : gT t = true ∧ gT u = true := by simpa only [gT, Bool.and_eq_true] using h
    obtain ⟨x, e1, e2⟩ := Option.bind_eq_some_iff.mp (show (worth f ky t).bind (fun x => (worth f ky u).bind fun y => some (o.op x y)) = some i from e)
    obtain ⟨y, e3, e4⟩ := Option.bind_eq_some_iff.mp e2
    have e4 := Option.some.inj e4
    have a := worth_abs S t hg.1 x e1
    have b := worth_abs S u hg.2 y e3
    simp only [hgt]
    have m1 : r * 2 ^ hgt t ≤ r * 2 ^ max (hgt t) (hgt u) := Nat.mul_le_mul_left _ (Nat.pow_le_pow_right (by decide) (by omega))
    have m2 : r * 2 ^ hgt u ≤ r * 2 ^ max (hgt t) (hgt u) := Nat.mul_le_mul_left _ (Nat.pow_le_pow_right (by decide) (by omega))
    have a' : x.natAbs < 2 ^ (r * 2 ^ max (hgt t) (hgt u)) := Nat.lt_of_lt_of_le a (Nat.pow_le_pow_right (by decide) m1)
    have b' : y.natAbs < 2 ^ (r * 2 ^ max (hgt t) (hgt u)) := Nat.lt_of_lt_of_le b (Nat.pow_le_pow_right (by decide) m2)
    have c : 30 ≤ r * 2 ^ max (hgt t) (hgt u) := Nat.le_trans S.lo (Nat.le_mul_of_pos_right r (Nat.pow_pos (by decide)))
    rw [Nat.pow_succ, ← Nat.mul_assoc]
    generalize r * 2 ^ max (hgt t) (hgt u) = m at a' b' c
    have d : 2 ^ (m * 2) = 2 ^ m * 2 ^ m := by rw [Nat.mul_comm, Nat.two_mul, Nat.pow_add]
    have e5 : (2 : Nat) ^ 30 ≤ 2 ^ m := Nat.pow_le_pow_right (by decide) c
    rw [d]
    have e6 : 2 ^ m * 1073741824 ≤ 2 ^ m * 2 ^ m := Nat.mul_le_mul_left _ e5
    rw [← e4]
    cases o with
    | add => show (x + y).natAbs < _; omega
    | sub => show (x - y).natAbs < _; omega
    | mul => show (x * y).natAbs < _; rw [Int.natAbs_mul]; exact Nat.mul_lt_mul'' a' b'
    | _ => show (0 : Int).natAbs < _; simp only [Int.natAbs_zero]; omega
/-- a row -/
structure RowOk (kvs : List (D × D)) (f : Str → Option Int) : Prop where
  get : ∀ s ∈ nms, dget kvs (.str s) = some (vo (f s))
theorem non_in (vs : List (Option Int)) : cmpD .isin .non (.lst (vs.map vo)) = some (vs.any fun v => v.isNone) := by
  show (if inOk .non (vs.map vo) = true then some ((vs.map vo).any fun y => eqD y .non) else none) = _
  have e : inOk .non (vs.map vo) = true := by
    unfold inOk
    rw [List.all_map]
    show (true && _) = true
    rw [Bool.true_and, List.all_eq_true]
    intro v _
    cases v <;> rfl
  rw [if_pos e, List.any_map]
  congr 1
  congr 1
  funext v
  cases v <;> rfl
theorem non_notin (vs : List (Option Int)) : cmpD .notin .non (.lst (vs.map vo)) = some (!vs.any fun v => v.isNone) := by
  have e := non_in vs
  have h : cmpD .notin .non (.lst (vs.map vo)) = (cmpD .isin .non (.lst (vs.map vo))).map (!·) := by
    show (if inOk .non (vs.map vo) = true then some (!(vs.map vo).any fun y => eqD y .non) else none) = (if inOk .non (vs.map vo) = true then some ((vs.map vo).any fun y => eqD y .non) else none).map (!·)
    by_cases c : inOk .non (vs.map vo) = true
    · rw [if_pos c, if_pos c]; rfl
    · rw [if_neg c, if_neg c]; rfl
  rw [h, e]; rfl
end K06

set_option Elab.async false
set_option linter.all false
set_option maxRecDepth 100000
namespace K06
open PySem Dn L2
theorem len_two {α : Type} (a b : α) : [a, b].length = 2 := rfl
theorem r27 {r : Nat} {f : Str → Option Int} {ky : Option Int} {kvs : List (D × D)} (S : Sm r f ky) (hr : r ≤ 100) (R : RowOk kvs f) : ∀ (n k : Nat) (t : Th), hgt t < n → n + 1 ≤ k → gT t = true → noV t = true → isX t = true → hgt t ≤ 8 → run F k 27 [en t, .dct kvs, vo ky] = ret (vo (worth f ky t))
  | 0, _, _, h, _, _, _, _, _ => absurd h (Nat.not_lt_zero _)
  | n + 1, k, t, h, hk, hg, hv, hx, hh => by
    obtain ⟨k, rfl⟩ : ∃ k', k = k' + 2 := ⟨k - 2, by omega⟩
    refine run_eq (p := p27) rfl rfl ?_
    show exs (run F (k + 1)) [some (en t), some (.dct kvs), some (vo ky), none, none] b27 = _
    have hl : (∀ x ∈ parts t, isX x = true) → ev (run F (k + 1)) [some (en t), some (.dct kvs), some (vo ky), none, none] (.lc (.call 27 (.cons (.var 4) (.cons (.var 1) (.cons (.var 2) .nil)))) [4] (.nm 4) (.ex (.call 18 (.cons (.var 0) .nil))) .no) = ret (.lst ((parts t).map fun x => vo (worth f ky x))) := fun hp =>
      y_lc (f := en) (y_itex (y_call (xs := [en t]) (by simp [evs, ev]) (r18 k t))) (by simp [wipeR]) fun x hx => y_call (xs := [en x, .dct kvs, vo ky]) (by simp [evs, ev, wipeR]) (r27 S hr R n (k + 1) x (by have := parts_hgt hx; omega) (by omega) (gparts hg hx) (nparts hv hx) (hp x hx) (by have := parts_hgt hx; omega))
    cases t with
    | via s t => cases hv
    | tru => cases hx
    | n1 o t => cases hx
    | num n => exact y_then (by kernel_rfl) (by kernel_rfl)
    | key => exact y_skip (by kernel_rfl) (y_then (by kernel_rfl) (by kernel_rfl))
    | col s =>
      refine y_skip (by kernel_rfl) (y_then (by kernel_rfl) (y_ret (y_iteF (by kernel_rfl) ?_)))
      have e := R.get s (List.contains_iff_mem.mp hg)
      simp only [ev, List.getD_cons_zero, List.getD_cons_succ, lift_s, bnd_r, en, idxD, at1, isK, if_true, e, worth]
    | by_ w t =>
      have hg2 : gW w = true ∧ gT t = true := by simpa only [gT, Bool.and_eq_true] using hg
      have hl := hl (by simpa [parts, isX] using hx)
      simp only [parts, List.map_cons, List.map_nil] at hl
      cases hw : worth f ky t with
      | none =>
        rw [hw] at hl
        refine y_skip (by kernel_rfl) (y_skip (by kernel_rfl) (y_asg hl (by simp) (y_low (y_then (by kernel_rfl) (y_ret ?_)))))
        rw [show worth f ky (.by_ w t) = none by simp [worth, hw]]
        rfl
      | some x =>
        rw [hw] at hl
        refine y_skip (by kernel_rfl) (y_skip (by kernel_rfl) (y_asg hl (by simp) (y_low (y_skip (by kernel_rfl) (y_then (by kernel_rfl) (y_ret (y_call (xs := [enW w, .int x]) (by kernel_rfl) ?_)))))))
        rw [show worth f ky (.by_ w t) = ledW w x by simp [worth, hw]]
        exact r6 k w x hg2.1
    | n2 o t u =>
      have hg2 : gT t = true ∧ gT u = true := by simpa only [gT, Bool.and_eq_true] using hg
      have hx2 : o.ar = true ∧ isX t = true ∧ isX u = true := by simpa only [isX, Bool.and_eq_true] using hx
      have hl := hl (by simpa [parts] using hx2.2)
      simp only [parts, List.map_cons, List.map_nil] at hl
      have hskip : exs (run F (k + 1)) [some (en (.n2 o t u)), some (.dct kvs), some (vo ky), none, none] b27 = exs (run F (k + 1)) [some (en (.n2 o t u)), some (.dct kvs), some (vo ky), some (.lst [vo (worth f ky t), vo (worth f ky u)]), none] (match b27 with | .cons _ (.cons _ (.cons _ (.cons _ r))) => r | r => r) := by
        cases o <;> exact y_skip (by kernel_rfl) (y_skip (by kernel_rfl) (y_asg hl (by simp) (y_low rfl)))
      rw [hskip]
      have c : ev (run F (k + 1)) [some (en (.n2 o t u)), some (.dct kvs), some (vo ky), some (.lst [vo (worth f ky t), vo (worth f ky u)]), none] (.cmp .isin .kn (.var 3)) = ret (.bl ((worth f ky t).isNone || (worth f ky u).isNone)) := by
        have := non_in [worth f ky t, worth f ky u]
        simp only [List.map_cons, List.map_nil, List.any_cons, List.any_nil, Bool.or_false] at this
        simp only [ev, List.getD_cons_zero, List.getD_cons_succ, lift_s, bnd_r, this]
      have wa := worth_abs S t hg2.1
      have wb := worth_abs S u hg2.2
      have hm : worth f ky (.n2 o t u) = (worth f ky t).bind fun x => (worth f ky u).bind fun y => some (o.op x y) := rfl
      rw [hm]
      have hh2 : hgt t ≤ 8 ∧ hgt u ≤ 8 := by simp only [hgt] at hh; omega
      have lim : ∀ a : Nat, a ≤ 8 → r * 2 ^ a ≤ 40000 := fun a ha => by
        have h1 : 2 ^ a ≤ 2 ^ 8 := Nat.pow_le_pow_right (by decide) ha
        have h2 : r * 2 ^ a ≤ 100 * 2 ^ 8 := Nat.mul_le_mul hr h1
        have h3 : 100 * 2 ^ 8 = 25600 := by decide
        omega
      cases hw : worth f ky t with
      | none =>
        rw [hw] at c
        exact y_then c (y_ret rfl)
      | some x =>
        cases hw2 : worth f ky u with
        | none =>
          rw [hw, hw2] at c
          exact y_then c (y_ret rfl)
        | some y =>
          rw [hw, hw2] at c
          rw [hw] at wa
          rw [hw2] at wb
          have mm := mul_med (wa x rfl) (wb y rfl) (lim _ hh2.1) (lim _ hh2.2)
          refine y_skip c ?_
          cases o with
          | add => exact y_skip (by kernel_rfl) (y_ret (by kernel_rfl))
          | sub => exact y_skip (by kernel_rfl) (y_ret (by kernel_rfl))
          | mul =>
            refine y_skip (by kernel_rfl) (y_ret (y_iteF (by kernel_rfl) (y_iteF (by kernel_rfl) ?_)))
            simp only [ev, List.getD_cons_zero, List.getD_cons_succ, lift_s, bnd_r, idxD, at0, at1, vo, mm]
            rfl
          | _ => cases hx2.1
/-! what holds -/
def isC : Th → Bool
  | .tru => true
  | .n1 .none t => isX t
  | .n1 .not t => isC t
  | .n2 .lt t u => isX t && isX u
  | .n2 .eq t u => isX t && isX u
  | .n2 .and t u => isC t && isC u
  | .n2 .or t u => isC t && isC u
  | _ => false
def ltO : Option Int → Option Int → Bool
  | some x, some y => decide (x < y)
  | _, _ => false
def holds (f : Str → Option Int) (ky : Option Int) : Th → Bool
  | .tru => true
  | .n1 .none t => (worth f ky t).isNone
  | .n1 .not t => !holds f ky t
  | .n2 .lt t u => ltO (worth f ky t) (worth f ky u)
  | .n2 .eq t u => decide (worth f ky t = worth f ky u)
  | .n2 .and t u => holds f ky t && holds f ky u
  | .n2 .or t u => holds f ky t || holds f ky u
  | _ => false
theorem eq_vo (a b : Option Int) : cmpD .eq (vo a) (vo b) = some (decide (a = b)) := by
  cases a <;> cases b
  · rfl
  · rename_i y; rfl
  · rfl
  · rename_i x y
    show cmpD .eq (.int x) (.int y) = _
    rw [eq_int]
    congr 1
    rw [Bool.eq_iff_iff]
    simp
theorem r28 {r : Nat} {f : Str → Option Int} {ky : Option Int} {kvs : List (D × D)} (S : Sm r f ky) (hr : r ≤ 100) (R : RowOk kvs f) : ∀ (n k : Nat) (t : Th), hgt t < n → n + 1 ≤ k → gT t = true → noV t = true → isC t = true → hgt t ≤ 8 → run F k 28 [en t, .dct kvs, vo ky] = ret (.bl (holds f ky t))
  | 0, _, _, h, _, _, _, _, _ => absurd h (Nat.not_lt_zero _)
  | n + 1, k, t, h, hk, hg, hv, hx, hh => by
    obtain ⟨k, rfl⟩ : ∃ k', k = k' + 2 := ⟨k - 2, by omega⟩
    refine run_eq (p := p28) rfl rfl ?_
    show exs (run F (k + 1)) [some (en t), some (.dct kvs), some (vo ky), none, none, none] b28 = _
    have hw : (∀ x ∈ parts t, isX x = true) → ev (run F (k + 1)) [some (en t), some (.dct kvs), some (vo ky), none, none, none] (.lc (.call 27 (.cons (.var 5) (.cons (.var 1) (.cons (.var 2) .nil)))) [5] (.nm 5) (.ex (.call 18 (.cons (.var 0) .nil))) .no) = ret (.lst ((parts t).map fun x => vo (worth f ky x))) := fun hp =>
      y_lc (f := en) (y_itex (y_call (xs := [en t]) (by simp [evs, ev]) (r18 k t))) (by simp [wipeR]) fun x hx => y_call (xs := [en x, .dct kvs, vo ky]) (by simp [evs, ev, wipeR]) (r27 S hr R n (k + 1) x (by have := parts_hgt hx; omega) (by omega) (gparts hg hx) (nparts hv hx) (hp x hx) (by have := parts_hgt hx; omega))
    have hc : (∀ x ∈ parts t, isC x = true) → ev (run F (k + 1)) [some (en t), some (.dct kvs), some (vo ky), none, none, none] (.lc (.call 28 (.cons (.var 5) (.cons (.var 1) (.cons (.var 2) .nil)))) [5] (.nm 5) (.ex (.call 18 (.cons (.var 0) .nil))) .no) = ret (.lst ((parts t).map fun x => .bl (holds f ky x))) := fun hp =>
      y_lc (f := en) (y_itex (y_call (xs := [en t]) (by simp [evs, ev]) (r18 k t))) (by simp [wipeR]) fun x hx => y_call (xs := [en x, .dct kvs, vo ky]) (by simp [evs, ev, wipeR]) (r28 S hr R n (k + 1) x (by have := parts_hgt hx; omega) (by omega) (gparts hg hx) (nparts hv hx) (hp x hx) (by have := parts_hgt hx; omega))
    cases t with
    | via s t => cases hv
    | num n => cases hx
    | key => cases hx
    | col s => cases hx
    | by_ w t => cases hx
    | tru => exact y_then (by kernel_rfl) (by kernel_rfl)
    | n1 o t =>
      cases o with
      | none =>
        have hw := hw (by simpa [parts, isC] using hx)
        simp only [parts, List.map_cons, List.map_nil] at hw
        refine y_skip (by kernel_rfl) (y_then (by kernel_rfl) (y_asg hw (by simp) (y_low (y_then (by kernel_rfl) (y_ret ?_)))))
        simp only [holds]
        cases h1 : worth f ky t with
        | none => kernel_rfl
        | some x => kernel_rfl
      | not =>
        have hc := hc (by simpa [parts, isC] using hx)
        simp only [parts, List.map_cons, List.map_nil] at hc
        refine y_skip (by kernel_rfl) (y_skip (by kernel_rfl) (y_asg hc (by simp) (y_low (y_ret (by kernel_rfl)))))
    | n2 o t u =>
      cases o with
      | add => cases hx
      | sub => cases hx
      | mul => cases hx
      | lt =>
        have hw := hw (by simpa [parts, isC] using hx)
        simp only [parts, List.map_cons, List.map_nil] at hw
        refine y_skip (by kernel_rfl) (y_then (by kernel_rfl) (y_asg hw (by simp) (y_low (y_skip (by kernel_rfl) (y_ret (y_iteF (by kernel_rfl) ?_))))))
        have c := non_notin [worth f ky t, worth f ky u]
        simp only [List.map_cons, List.map_nil, List.any_cons, List.any_nil, Bool.or_false] at c
        have c2 : ev (run F (k + 1)) [some (en (.n2 .lt t u)), some (.dct kvs), some (vo ky), none, some (.lst [vo (worth f ky t), vo (worth f ky u)]), none] (.cmp .notin .kn (.var 4)) = ret (.bl (!((worth f ky t).isNone || (worth f ky u).isNone))) := by
          simp only [ev, List.getD_cons_zero, List.getD_cons_succ, lift_s, bnd_r, c]
        refine y_and (y := holds f ky (.n2 .lt t u)) c2 (fun z => ?_) (fun z => ?_)
        · simp only [holds]
          cases h1 : worth f ky t with
          | none => rw [h1] at z; simp at z
          | some x =>
            cases h2 : worth f ky u with
            | none => rw [h2] at z; simp at z
            | some y =>
              simp only [ev, List.set, List.getD_cons_zero, List.getD_cons_succ, lift_s, bnd_r, idxD, at0, at1, vo, cmpD, h1, h2, ltO]
        · simp only [holds]
          cases h1 : worth f ky t with
          | none => rfl
          | some x =>
            cases h2 : worth f ky u with
            | none => rfl
            | some y => rw [h1, h2] at z; simp at z
      | eq =>
        have hw := hw (by simpa [parts, isC] using hx)
        simp only [parts, List.map_cons, List.map_nil] at hw
        refine y_skip (by kernel_rfl) (y_then (by kernel_rfl) (y_asg hw (by simp) (y_low (y_skip (by kernel_rfl) (y_ret (y_iteT (by kernel_rfl) ?_))))))
        simp only [ev, List.set, List.getD_cons_zero, List.getD_cons_succ, lift_s, bnd_r, idxD, at0, at1, eq_vo, holds]
      | and =>
        have hc := hc (by simpa [parts, isC] using hx)
        simp only [parts, List.map_cons, List.map_nil] at hc
        refine y_skip (by kernel_rfl) (y_skip (by kernel_rfl) (y_asg hc (by simp) (y_low (y_ret ?_))))
        simp only [holds]
        generalize holds f ky t = x1
        generalize holds f ky u = x2
        cases x1 <;> cases x2 <;> kernel_rfl
      | or =>
        have hc := hc (by simpa [parts, isC] using hx)
        simp only [parts, List.map_cons, List.map_nil] at hc
        refine y_skip (by kernel_rfl) (y_skip (by kernel_rfl) (y_asg hc (by simp) (y_low (y_ret ?_))))
        simp only [holds]
        generalize holds f ky t = x1
        generalize holds f ky u = x2
        cases x1 <;> cases x2 <;> kernel_rfl
theorem not_both : ∀ t, isC t = true → isX t = false
  | .n1 _ _, _ => rfl
  | .tru, _ => rfl
  | .n2 .lt _ _, _ => rfl
  | .n2 .eq _ _, _ => rfl
  | .n2 .and _ _, _ => rfl
  | .n2 .or _ _, _ => rfl
  | .n2 .add _ _, h => by cases h
  | .n2 .sub _ _, h => by cases h
  | .n2 .mul _ _, h => by cases h
  | .num _, h => by cases h
  | .key, h => by cases h
  | .col _, h => by cases h
  | .via _ _, h => by cases h
  | .by_ _ _, h => by cases h
def byD (f : Str → Option Int) (ky : Option Int) (t : Th) : D := if isX t = true then vo (worth f ky t) else .bl (holds f ky t)
theorem r29 {r : Nat} {f : Str → Option Int} {ky : Option Int} {kvs : List (D × D)} (S : Sm r f ky) (hr : r ≤ 100) (R : RowOk kvs f) {k : Nat} {t : Th} (hk : hgt t + 6 ≤ k) (hg : gT t = true) (hv : noV t = true) (hx : isX t = true ∨ isC t = true) (hh : hgt t ≤ 8) : run F k 29 [en t, .dct kvs, vo ky] = ret (byD f ky t) := by
  obtain ⟨k, rfl⟩ : ∃ k', k = k' + 1 := ⟨k - 1, by omega⟩
  refine run_eq (p := p29) rfl rfl ?_
  show exs (run F k) [some (en t), some (.dct kvs), some (vo ky)] b29 = _
  have c : ev (run F k) [some (en t), some (.dct kvs), some (vo ky)] (.call 17 (.cons (.var 0) .nil)) = ret (.bl (isX t)) := y_call (xs := [en t]) (by simp [evs, ev]) (r17 (hgt t + 1) k t (by omega) (by omega) hg)
  unfold byD
  cases h : isX t with
  | true =>
    rw [h] at c
    exact y_ret (y_iteT c (y_call (xs := [en t, .dct kvs, vo ky]) (by simp [evs, ev]) (r27 S hr R (hgt t + 1) k t (by omega) (by omega) hg hv h hh)))
  | false =>
    rw [h] at c
    have hc : isC t = true := by
      rcases hx with q | q
      · rw [h] at q; cases q
      · exact q
    exact y_ret (y_iteF c (y_call (xs := [en t, .dct kvs, vo ky]) (by simp [evs, ev]) (r28 S hr R (hgt t + 1) k t (by omega) (by omega) hg hv hc hh)))
end K06

set_option Elab.async false
set_option linter.all false
set_option maxRecDepth 100000
namespace K06
open PySem Dn L2
theorem take8 {k : Nat} {n : Int} (h0 : 0 < n) (h1 : n < 1073741824) : Ok (run F (k + 1) 8 [.int n]) fun d => ∃ r, d = .int r ∧ 0 ≤ r ∧ r < n := take_ok fT h0 h1
theorem some9 {k : Nat} {xs : List D} (h0 : 0 < xs.length) (h1 : xs.length < 1073741824) : Ok (run F (k + 2) 9 [.lst xs]) fun d => d ∈ xs := some_ok fS fT h0 h1
theorem ok_callB {Φ : Nat → List D → M D} {ρ : Rho} {f : Nat} {es : Exs} {xs : List D} {Q : D → Prop} (h : evs Φ ρ es = ret xs) (k : Ok (Φ f xs) Q) : Ok (ev Φ ρ (.call f es)) Q := by
  rw [ev, h]; exact k
/-- a tuple of a word and what is drawn -/
theorem ok_tup2 {Φ : Nat → List D → M D} {ρ : Rho} {e : Ex} {a : Ex} {x : D} {P : D → Prop} {Q : D → Prop} (ha : ev Φ ρ a = ret x) (h : Ok (ev Φ ρ e) P) (q : ∀ d, P d → Q (.tup [x, d])) : Ok (ev Φ ρ (.tup (.cons a (.cons e .nil)))) Q := by
  simp only [ev, evs, ha, bnd_r, bnd_b]
  exact ok_bnd h fun d hd => ok_ret (q d hd)
section
variable {Φ : Nat → List D → M D} {ρ : Rho} {e : Ex} {es : Exs}
theorem ok_cons {P : D → Prop} {Q : List D → Prop} (h : Ok (ev Φ ρ e) P) (k : ∀ x, P x → Ok (evs Φ ρ es) fun xs => Q (x :: xs)) : Ok (evs Φ ρ (.cons e es)) Q := by
  rw [evs]
  exact ok_bnd h fun x hx => ok_bnd (k x hx) fun xs hq => ok_ret hq
theorem ok_nils {Q : List D → Prop} (h : Q []) : Ok (evs Φ ρ .nil) Q := by rw [evs]; exact ok_ret h
theorem ok_lst {Q : D → Prop} (h : Ok (evs Φ ρ es) fun xs => Q (.lst xs)) : Ok (ev Φ ρ (.lst es)) Q := by rw [ev]; exact ok_bnd h fun xs hq => ok_ret hq
theorem ok_tup {Q : D → Prop} (h : Ok (evs Φ ρ es) fun xs => Q (.tup xs)) : Ok (ev Φ ρ (.tup es)) Q := by rw [ev]; exact ok_bnd h fun xs hq => ok_ret hq
theorem ok_val {x : D} {Q : D → Prop} (h : ev Φ ρ e = ret x) (q : Q x) : Ok (ev Φ ρ e) Q := h ▸ ok_ret q
theorem ok_callO {f : Nat} {P : List D → Prop} {Q : D → Prop} (h : Ok (evs Φ ρ es) P) (k : ∀ xs, P xs → Ok (Φ f xs) Q) : Ok (ev Φ ρ (.call f es)) Q := by rw [ev]; exact ok_bnd h k
end
def Wd (d : D) : Prop := ∃ w, d = enW w ∧ gW w = true
theorem r21 (k : Nat) : Ok (run F (k + 3) 21 []) Wd := by
  refine ok_run (p := p21) rfl rfl ?_
  show Ok (exs (run F (k + 2)) [none, none, none] b21) _
  have d1 : ∀ {ρ : Rho}, Ok (ev (run F (k + 2)) ρ (.tup (.cons (.ks "plus") (.cons (.call 9 (.cons (.lst (.cons (.ki 0) (.cons (.ki 3) (.cons (.neg (.ki 7)) (.cons (.ki 100) .nil))))) .nil)) .nil)))) Wd := fun {ρ} =>
    ok_tup2 (x := .str "plus") rfl (ok_callB (xs := [.lst [.int 0, .int 3, .int (-7), .int 100]]) (by kernel_rfl) (some9 (by simp) (by simp))) fun d hd => by
      simp only [List.mem_cons, List.not_mem_nil, or_false] at hd
      rcases hd with rfl | rfl | rfl | rfl
      · exact ⟨.plus 0, rfl, by decide⟩
      · exact ⟨.plus 3, rfl, by decide⟩
      · exact ⟨.plus (-7), rfl, by decide⟩
      · exact ⟨.plus 100, rfl, by decide⟩
  have d2 : ∀ {ρ : Rho}, Ok (ev (run F (k + 2)) ρ (.tup (.cons (.ks "times") (.cons (.call 9 (.cons (.lst (.cons (.ki 1) (.cons (.ki 2) (.cons (.ki 1000) .nil)))) .nil)) .nil)))) Wd := fun {ρ} =>
    ok_tup2 (x := .str "times") rfl (ok_callB (xs := [.lst [.int 1, .int 2, .int 1000]]) (by kernel_rfl) (some9 (by simp) (by simp))) fun d hd => by
      simp only [List.mem_cons, List.not_mem_nil, or_false] at hd
      rcases hd with rfl | rfl | rfl
      · exact ⟨.times 1, rfl, by decide⟩
      · exact ⟨.times 2, rfl, by decide⟩
      · exact ⟨.times 1000, rfl, by decide⟩
  have d3 : ∀ {ρ : Rho}, Ok (ev (run F (k + 2)) ρ (.tup (.cons (.ks "over") (.cons (.call 9 (.cons (.lst (.cons (.ki 1) (.cons (.ki 3) (.cons (.ki 10) .nil)))) .nil)) .nil)))) Wd := fun {ρ} =>
    ok_tup2 (x := .str "over") rfl (ok_callB (xs := [.lst [.int 1, .int 3, .int 10]]) (by kernel_rfl) (some9 (by simp) (by simp))) fun d hd => by
      simp only [List.mem_cons, List.not_mem_nil, or_false] at hd
      rcases hd with rfl | rfl | rfl
      · exact ⟨.over 1, rfl, by decide⟩
      · exact ⟨.over 3, rfl, by decide⟩
      · exact ⟨.over 10, rfl, by decide⟩
  have d4 : ∀ {ρ : Rho}, Ok (ev (run F (k + 2)) ρ (.tup (.cons (.ks "rest") (.cons (.call 9 (.cons (.lst (.cons (.ki 1) (.cons (.ki 4) (.cons (.ki 1000) .nil)))) .nil)) .nil)))) Wd := fun {ρ} =>
    ok_tup2 (x := .str "rest") rfl (ok_callB (xs := [.lst [.int 1, .int 4, .int 1000]]) (by kernel_rfl) (some9 (by simp) (by simp))) fun d hd => by
      simp only [List.mem_cons, List.not_mem_nil, or_false] at hd
      rcases hd with rfl | rfl | rfl
      · exact ⟨.rest 1, rfl, by decide⟩
      · exact ⟨.rest 4, rfl, by decide⟩
      · exact ⟨.rest 1000, rfl, by decide⟩
  have d5 : ∀ {ρ : Rho}, ρ.length = 3 → Ok (ev (run F (k + 2)) ρ (.tup (.cons (.ks "list") (.cons (.bi .tuple (.lc (.bin .sub (.call 8 (.cons (.ki 9) .nil)) (.ki 3)) [2] (.nm 2) (.r1 (.bin .add (.ki 1) (.call 8 (.cons (.ki 4) .nil)))) .no)) .nil)))) Wd := fun {ρ} hρ => by
    refine ok_tup2 (x := .str "list") (P := fun d => ∃ ns : List Int, d = .tup (ns.map D.int) ∧ 1 ≤ ns.length ∧ ns.length ≤ 4 ∧ ∀ n ∈ ns, n.natAbs ≤ 10) rfl ?_ ?_
    · simp only [ev, evi, evs, bnd_b, bnd_r]
      refine ok_bnd (take8 (k := k + 1) (by decide) (by decide)) ?_
      rintro _ ⟨m, rfl, m0, m1⟩
      simp only [binD, lift_s, bnd_r, intOf_i]
      have hr : rangeD 0 (1 + m) = ret ((List.range (1 + m).toNat).map fun i => .int (0 + (i : Int))) := by
        unfold rangeD
        rw [if_pos (by refine ⟨by decide, by decide, by omega, by omega, ?_⟩; show _ ≤ 16777216; omega), Int.sub_zero]
      rw [hr, bnd_r]
      refine ok_bnd (ok_loop (R := fun _ y => ∃ n : Int, y = .int n ∧ n.natAbs ≤ 10) _ fun x hx => ?_) ?_
      · simp only [bindT, wipeR, List.length_set, hρ, show (2 < 3) = True by simp, if_true, lift_s, bnd_r, evc]
        refine ok_bnd (take8 (k := k + 1) (by decide) (by decide)) ?_
        rintro _ ⟨q, rfl, q0, q1⟩
        simp only [binD, lift_s, bnd_r]
        exact ok_ret ⟨_, rfl, _, rfl, by omega⟩
      · intro ys hys
        obtain ⟨ns, rfl, hn⟩ := all2_ex (f := D.int) (R := fun _ n => n.natAbs ≤ 10) hys
        simp only [bnd_r, biM, biD, lift_s]
        have hl := hn.length
        rw [List.length_map, List.length_range] at hl
        exact ok_ret ⟨ns, rfl, by omega, by omega, fun n hm => by
          obtain ⟨_, _, h⟩ := all2_right hn n hm
          exact h⟩
    · rintro _ ⟨ns, rfl, h1, h2, h3⟩
      refine ⟨.list ns, rfl, ?_⟩
      simp only [gW, Bool.and_eq_true, decide_eq_true_eq, List.all_eq_true]
      exact ⟨⟨h1, h2⟩, h3⟩
  refine st_asg (P := fun d => ∃ xs, d = .lst xs ∧ xs.length = 3 ∧ ∀ x ∈ xs, Wd x) ?_ (by simp) ?_
  · refine ok_lst (ok_cons d1 fun a ha => ok_cons (ok_val (x := enW .turned) (by kernel_rfl) ⟨_, rfl, rfl⟩ : Ok _ Wd) fun b hb => ok_cons d2 fun c hc => ok_nils ⟨_, rfl, rfl, ?_⟩)
    intro x hx
    simp only [List.mem_cons, List.not_mem_nil, or_false] at hx
    rcases hx with rfl | rfl | rfl
    · exact ha
    · exact hb
    · exact hc
  rintro _ ⟨xs, rfl, hl, hx⟩
  refine st_low (st_asg (P := fun d => ∃ xs, d = .lst xs ∧ xs.length = 5 ∧ ∀ x ∈ xs, Wd x) ?_ (by simp) ?_)
  · have h2 : Ok (ev (run F (k + 2)) [none, some (.lst xs), none] (.lst (.cons (.tup (.cons (.ks "over") (.cons (.call 9 (.cons (.lst (.cons (.ki 1) (.cons (.ki 3) (.cons (.ki 10) .nil)))) .nil)) .nil))) (.cons (.tup (.cons (.ks "rest") (.cons (.call 9 (.cons (.lst (.cons (.ki 1) (.cons (.ki 4) (.cons (.ki 1000) .nil)))) .nil)) .nil))) .nil)))) fun d => ∃ a b, d = .lst [a, b] ∧ Wd a ∧ Wd b :=
      ok_lst (ok_cons d3 fun a ha => ok_cons d4 fun c hc => ok_nils ⟨a, c, rfl, ha, hc⟩)
    rw [ev]
    simp only [show ev (run F (k + 2)) [none, some (.lst xs), none] (.var 1) = ret (.lst xs) from by simp only [ev, List.getD_cons_zero, List.getD_cons_succ, lift_s], List.set, bnd_r]
    refine ok_bnd h2 ?_
    rintro _ ⟨a, b, rfl, ha, hb⟩
    have e : binD .add (.lst xs) (.lst [a, b]) = some (.lst (xs ++ [a, b])) := if_pos (by rw [hl]; show 3 + 2 ≤ line; decide)
    rw [e, lift_s]
    refine ok_ret ⟨_, rfl, by rw [List.length_append, hl]; rfl, fun x hm => ?_⟩
    rcases List.mem_append.mp hm with hm | hm
    · exact hx x hm
    · simp only [List.mem_cons, List.not_mem_nil, or_false] at hm
      rcases hm with rfl | rfl
      · exact ha
      · exact hb
  rintro _ ⟨ys, rfl, hl2, hy⟩
  refine st_low (st_ret (P := Wd) ?_ fun d hd => ⟨d, rfl, hd⟩)
  refine ok_callO (P := fun zs => ∃ v, zs = [.lst (ys ++ [v])] ∧ Wd v) (ok_cons (P := fun d => ∃ v, d = .lst (ys ++ [v]) ∧ Wd v) ?_ ?_) ?_
  · rw [ev]
    simp only [List.set, show ev (run F (k + 2)) [none, some (.lst ys), none] (.var 1) = ret (.lst ys) from by simp only [ev, List.getD_cons_zero, List.getD_cons_succ, lift_s], bnd_r]
    refine ok_bnd (ok_lst (Q := fun d => ∃ v, d = .lst [v] ∧ Wd v) (ok_cons (d5 rfl) fun v hv => ok_nils ⟨v, rfl, hv⟩)) ?_
    rintro _ ⟨v, rfl, hv⟩
    have e : binD .add (.lst ys) (.lst [v]) = some (.lst (ys ++ [v])) := if_pos (by rw [hl2]; show 5 + 1 ≤ line; decide)
    rw [e, lift_s]
    exact ok_ret ⟨v, rfl, hv⟩
  · rintro _ ⟨v, rfl, hv⟩
    exact ok_nils ⟨v, rfl, hv⟩
  · rintro _ ⟨v, rfl, hv⟩
    refine (some9 (k := k) (by rw [List.length_append, hl2]; show 0 < 5 + 1; decide) (by rw [List.length_append, hl2]; show 5 + 1 < 1073741824; decide)).mono fun d hd => ?_
    rcases List.mem_append.mp hd with hd | hd
    · exact hy d hd
    · rw [List.mem_singleton.mp hd]; exact hv
theorem r22 (k : Nat) : Ok (run F (k + 3) 22 []) fun d => ∃ s ∈ nms, d = .str s := by
  refine ok_run (p := p22) rfl rfl ?_
  show Ok (exs (run F (k + 2)) [none] b22) _
  refine st_ret (P := fun d => ∃ s ∈ nms, d = .str s) ?_ fun d hd => ⟨d, rfl, hd⟩
  refine ok_callB (xs := [.lst (stL nms)]) (by kernel_rfl) ((some9 (by decide) (by decide)).mono fun d hd => ?_)
  exact mem_strs hd
/-- a drawn expression -/
def Xd (n : Nat) (d : D) : Prop := ∃ t, d = en t ∧ gT t = true ∧ isX t = true ∧ hgt t ≤ n
theorem r23 : ∀ (n k : Nat), n + 4 ≤ k → Ok (run F k 23 [.int (n : Nat)]) (Xd n)
  | n, k, hk => by
    obtain ⟨k, rfl⟩ : ∃ k', k = k' + 4 := ⟨k - 4, by omega⟩
    refine ok_run (p := p23) rfl rfl ?_
    show Ok (exs (run F (k + 3)) [none, some (.int (n : Nat)), none, none] b23) _
    refine st_asg (P := fun d => ∃ m, d = .int m ∧ 0 ≤ m ∧ (n = 0 → m < 3)) ?_ (by simp) ?_
    · rw [ev]
      simp only [ev, List.getD_cons_zero, List.getD_cons_succ, lift_s, bnd_r, cmpD, boolOf_b, evs]
      by_cases h : (0 : Int) < (n : Nat)
      · rw [if_pos (by simpa using h)]
        refine (take8 (k := k + 2) (by decide) (by decide)).mono ?_
        rintro _ ⟨m, rfl, m0, m1⟩
        exact ⟨m, rfl, m0, fun z => by omega⟩
      · rw [if_neg (by simpa using h)]
        refine (take8 (k := k + 2) (by decide) (by decide)).mono ?_
        rintro _ ⟨m, rfl, m0, m1⟩
        exact ⟨m, rfl, m0, fun _ => m1⟩
    rintro _ ⟨m, rfl, m0, mz⟩
    have nm : ∀ {ρ : Rho}, Ok (ev (run F (k + 3)) ρ (.call 22 .nil)) fun d => ∃ s ∈ nms, d = .str s := fun {ρ} => ok_callB (xs := []) rfl (r22 k)
    refine st_ifR (P := fun t => t = decide (m < 3)) ?_ (fun _ => ?_) (fun hm => ok_nil (.inr ⟨_, rfl, ?_⟩))
    · simp only [ev, List.set, List.getD_cons_zero, List.getD_cons_succ, lift_s, bnd_r, cmpD]
      exact ok_ret ⟨_, rfl, rfl⟩
    · refine st_ret (P := Xd n) ?_ fun d hd => .inl ⟨d, rfl, d, rfl, hd⟩
      refine ok_callO (P := fun zs => ∃ xs, zs = [.lst xs] ∧ xs.length = 3 ∧ ∀ x ∈ xs, Xd n x) (ok_cons (P := fun d => ∃ xs, d = .lst xs ∧ xs.length = 3 ∧ ∀ x ∈ xs, Xd n x) ?_ ?_) ?_
      · refine ok_lst (ok_cons (P := Xd n) ?_ fun a ha => ok_cons (P := Xd n) ?_ fun b hb => ok_cons (P := Xd n) ?_ fun c hc => ok_nils ⟨_, rfl, rfl, ?_⟩)
        · refine ok_tup2 (x := .str "num") rfl (ok_callB (xs := [.lst [.int 0, .int 1, .int (-5), .int 123456789]]) (by kernel_rfl) (some9 (k := k + 1) (by simp) (by simp))) fun d hd => ?_
          simp only [List.mem_cons, List.not_mem_nil, or_false] at hd
          rcases hd with rfl | rfl | rfl | rfl
          · exact ⟨.num 0, rfl, by decide, rfl, Nat.zero_le _⟩
          · exact ⟨.num 1, rfl, by decide, rfl, Nat.zero_le _⟩
          · exact ⟨.num (-5), rfl, by decide, rfl, Nat.zero_le _⟩
          · exact ⟨.num 123456789, rfl, by decide, rfl, Nat.zero_le _⟩
        · exact ok_val (x := en .key) (by kernel_rfl) ⟨.key, rfl, rfl, rfl, Nat.zero_le _⟩
        · refine ok_tup2 (x := .str "col") rfl nm ?_
          rintro _ ⟨s, hs, rfl⟩
          exact ⟨.col s, rfl, List.contains_iff_mem.mpr hs, rfl, Nat.zero_le _⟩
        · intro x hx
          simp only [List.mem_cons, List.not_mem_nil, or_false] at hx
          rcases hx with rfl | rfl | rfl
          · exact ha
          · exact hb
          · exact hc
      · rintro _ ⟨xs, rfl, h1, h2⟩
        exact ok_nils ⟨xs, rfl, h1, h2⟩
      · rintro _ ⟨xs, rfl, h1, h2⟩
        exact (some9 (k := k + 1) (by rw [h1]; decide) (by rw [h1]; decide)).mono fun d hd => h2 d hd
    have hn : 0 < n := by
      rcases Nat.eq_zero_or_pos n with z | z
      · have := mz z
        have h3 : ¬ m < 3 := by simpa using hm.symm
        omega
      · exact z
    obtain ⟨n, rfl⟩ : ∃ n', n = n' + 1 := ⟨n - 1, by omega⟩
    have ih : ∀ {ρ : Rho}, ρ.getD 1 none = some (.int ((n + 1 : Nat) : Int)) → Ok (ev (run F (k + 3)) ρ (.call 23 (.cons (.bin .sub (.var 1) (.ki 1)) .nil))) (Xd n) := fun {ρ} hρ =>
      ok_callB (xs := [.int (n : Nat)]) (by
        simp only [evs, ev, hρ, lift_s, bnd_r, binD]
        congr 3
        omega) (r23 n (k + 3) (by omega))
    refine st_asg (P := Xd n) (ih rfl) (by simp) ?_
    rintro _ ⟨t, rfl, t1, t2, t3⟩
    refine st_ifR (P := fun b => b = decide (m = 3)) ?_ (fun _ => ?_) (fun _ => ok_nil (.inr ⟨_, rfl, ?_⟩))
    · simp only [ev, List.set, List.getD_cons_zero, List.getD_cons_succ, lift_s, bnd_r, eq_int]
      exact ok_ret ⟨_, rfl, by rw [Bool.eq_iff_iff]; simp⟩
    · refine st_ret (P := Xd (n + 1)) ?_ fun d hd => .inl ⟨d, rfl, d, rfl, hd⟩
      refine ok_tup (ok_cons (P := fun d => d = .str "via") (ok_val rfl rfl) fun a ha => ok_cons nm fun c hc => ok_cons (P := fun d => d = en t) (ok_val rfl rfl) fun d hd => ok_nils ?_)
      obtain ⟨s, hs, rfl⟩ := hc
      subst ha hd
      exact ⟨.via s t, rfl, by simp only [gT, Bool.and_eq_true]; exact ⟨List.contains_iff_mem.mpr hs, t1⟩, t2, by simp only [hgt]; omega⟩
    refine st_ifR (P := fun b => b = decide (m < 6)) ?_ (fun _ => ?_) (fun _ => ok_nil (.inr ⟨_, rfl, ?_⟩))
    · simp only [ev, List.set, List.getD_cons_zero, List.getD_cons_succ, lift_s, bnd_r, cmpD]
      exact ok_ret ⟨_, rfl, rfl⟩
    · refine st_ret (P := Xd (n + 1)) ?_ fun d hd => .inl ⟨d, rfl, d, rfl, hd⟩
      refine ok_tup (ok_cons (P := fun d => d = .str "by") (ok_val rfl rfl) fun a ha => ok_cons (P := Wd) (ok_callB (xs := []) rfl (r21 k)) fun c hc => ok_cons (P := fun d => d = en t) (ok_val rfl rfl) fun d hd => ok_nils ?_)
      obtain ⟨w, rfl, hw⟩ := hc
      subst ha hd
      exact ⟨.by_ w t, rfl, by simp only [gT, Bool.and_eq_true]; exact ⟨hw, t1⟩, t2, by simp only [hgt]; omega⟩
    · refine st_ret (P := Xd (n + 1)) ?_ fun d hd => ⟨d, rfl, hd⟩
      refine ok_tup (ok_cons (P := fun d => ∃ o : O2, d = .str o.s ∧ o.ar = true) ?_ fun a ha => ok_cons (P := fun d => d = en t) (ok_val rfl rfl) fun d hd => ok_cons (ih rfl) fun c hc => ok_nils ?_)
      · refine ok_callB (xs := [.lst [.str "+", .str "-", .str "*"]]) (by kernel_rfl) ((some9 (k := k + 1) (by simp) (by simp)).mono fun d hd => ?_)
        simp only [List.mem_cons, List.not_mem_nil, or_false] at hd
        rcases hd with rfl | rfl | rfl
        · exact ⟨.add, rfl, rfl⟩
        · exact ⟨.sub, rfl, rfl⟩
        · exact ⟨.mul, rfl, rfl⟩
      · obtain ⟨o, rfl, ho⟩ := ha
        obtain ⟨u, rfl, u1, u2, u3⟩ := hc
        subst hd
        exact ⟨.n2 o t u, rfl, by simp only [gT, Bool.and_eq_true]; exact ⟨t1, u1⟩, by simp only [isX, Bool.and_eq_true]; exact ⟨ho, t2, u2⟩, by simp only [hgt]; omega⟩
/-- a drawn condition -/
def Cd (n : Nat) (d : D) : Prop := ∃ t, d = en t ∧ gT t = true ∧ isC t = true ∧ hgt t ≤ n + 1
theorem r24 : ∀ (n k : Nat), n + 5 ≤ k → Ok (run F k 24 [.int (n : Nat)]) (Cd n)
  | n, k, hk => by
    obtain ⟨k, rfl⟩ : ∃ k', k = k' + 5 := ⟨k - 5, by omega⟩
    refine ok_run (p := p24) rfl rfl ?_
    show Ok (exs (run F (k + 4)) [none, some (.int (n : Nat)), none] b24) _
    refine st_asg (P := fun d => ∃ m, d = .int m ∧ 0 ≤ m ∧ (n = 0 → m < 2)) ?_ (by simp) ?_
    · rw [ev]
      simp only [ev, List.getD_cons_zero, List.getD_cons_succ, lift_s, bnd_r, cmpD, boolOf_b, evs]
      by_cases h : (0 : Int) < (n : Nat)
      · rw [if_pos (by simpa using h)]
        refine (take8 (k := k + 3) (by decide) (by decide)).mono ?_
        rintro _ ⟨m, rfl, m0, m1⟩
        exact ⟨m, rfl, m0, fun z => by omega⟩
      · rw [if_neg (by simpa using h)]
        refine (take8 (k := k + 3) (by decide) (by decide)).mono ?_
        rintro _ ⟨m, rfl, m0, m1⟩
        exact ⟨m, rfl, m0, fun _ => m1⟩
    rintro _ ⟨m, rfl, m0, mz⟩
    have lt : ∀ {c : Int} {ρ : Rho}, ρ.getD 2 none = some (.int m) → Ok (ev (run F (k + 4)) ρ (.cmp .lt (.var 2) (.ki c))) fun d => ∃ t, d = .bl t ∧ t = decide (m < c) := fun {c ρ} hρ => by
      simp only [ev, hρ, lift_s, bnd_r, cmpD]
      exact ok_ret ⟨_, rfl, rfl⟩
    have x0 : ∀ {ρ : Rho}, ρ.getD 1 none = some (.int (n : Int)) → Ok (ev (run F (k + 4)) ρ (.call 23 (.cons (.var 1) .nil))) (Xd n) := fun {ρ} hρ =>
      ok_callB (xs := [.int (n : Nat)]) (by simp only [evs, ev, hρ, lift_s, bnd_r]) (r23 n (k + 4) (by omega))
    refine st_ifR (lt rfl) (fun _ => ?_) (fun h1 => ok_nil (.inr ⟨_, rfl, ?_⟩))
    · exact st_ret (P := Cd n) (ok_val (x := en .tru) (by kernel_rfl) ⟨.tru, rfl, rfl, rfl, Nat.zero_le _⟩) fun d hd => .inl ⟨d, rfl, d, rfl, hd⟩
    refine st_ifR (lt rfl) (fun _ => ?_) (fun h2 => ok_nil (.inr ⟨_, rfl, ?_⟩))
    · refine st_ret (P := Cd n) (ok_tup2 (x := .str "none") rfl (x0 rfl) ?_) fun d hd => .inl ⟨d, rfl, d, rfl, hd⟩
      rintro _ ⟨t, rfl, t1, t2, t3⟩
      exact ⟨.n1 .none t, rfl, t1, t2, by simp only [hgt]; omega⟩
    have hn : 0 < n := by
      rcases Nat.eq_zero_or_pos n with z | z
      · have := mz z
        have h3 : ¬ m < 3 := by simpa using h2.symm
        omega
      · exact z
    obtain ⟨n, rfl⟩ : ∃ n', n = n' + 1 := ⟨n - 1, by omega⟩
    have sub : ∀ {ρ : Rho}, ρ.getD 1 none = some (.int ((n + 1 : Nat) : Int)) → evs (run F (k + 4)) ρ (.cons (.bin .sub (.var 1) (.ki 1)) .nil) = ret [.int (n : Nat)] := fun {ρ} hρ => by
      simp only [evs, ev, hρ, lift_s, bnd_r, binD]
      congr 3
      omega
    have x1 : ∀ {ρ : Rho}, ρ.getD 1 none = some (.int ((n + 1 : Nat) : Int)) → Ok (ev (run F (k + 4)) ρ (.call 23 (.cons (.bin .sub (.var 1) (.ki 1)) .nil))) (Xd n) := fun {ρ} hρ => ok_callB (sub hρ) (r23 n (k + 4) (by omega))
    have ih : ∀ {ρ : Rho}, ρ.getD 1 none = some (.int ((n + 1 : Nat) : Int)) → Ok (ev (run F (k + 4)) ρ (.call 24 (.cons (.bin .sub (.var 1) (.ki 1)) .nil))) (Cd n) := fun {ρ} hρ => ok_callB (sub hρ) (r24 n (k + 4) (by omega))
    refine st_ifR (lt rfl) (fun _ => ?_) (fun _ => ok_nil (.inr ⟨_, rfl, ?_⟩))
    · refine st_ret (P := Cd (n + 1)) ?_ fun d hd => .inl ⟨d, rfl, d, rfl, hd⟩
      refine ok_tup (ok_cons (P := fun d => d = .str "<" ∨ d = .str "=") ?_ fun a ha => ok_cons (x0 rfl) fun c hc => ok_cons (x1 rfl) fun d hd => ok_nils ?_)
      · refine ok_callB (xs := [.lst [.str "<", .str "="]]) (by kernel_rfl) ((some9 (k := k + 2) (by simp) (by simp)).mono fun d hd => ?_)
        simpa only [List.mem_cons, List.not_mem_nil, or_false] using hd
      · obtain ⟨t, rfl, t1, t2, t3⟩ := hc
        obtain ⟨u, rfl, u1, u2, u3⟩ := hd
        rcases ha with rfl | rfl
        · exact ⟨.n2 .lt t u, rfl, by simp only [gT, Bool.and_eq_true]; exact ⟨t1, u1⟩, by simp only [isC, Bool.and_eq_true]; exact ⟨t2, u2⟩, by simp only [hgt]; omega⟩
        · exact ⟨.n2 .eq t u, rfl, by simp only [gT, Bool.and_eq_true]; exact ⟨t1, u1⟩, by simp only [isC, Bool.and_eq_true]; exact ⟨t2, u2⟩, by simp only [hgt]; omega⟩
    refine st_ifR (P := fun b => b = decide (m = 5)) ?_ (fun _ => ?_) (fun _ => ok_nil (.inr ⟨_, rfl, ?_⟩))
    · simp only [ev, List.set, List.getD_cons_zero, List.getD_cons_succ, lift_s, bnd_r, eq_int]
      exact ok_ret ⟨_, rfl, by rw [Bool.eq_iff_iff]; simp⟩
    · refine st_ret (P := Cd (n + 1)) (ok_tup2 (x := .str "not") rfl (ih rfl) ?_) fun d hd => .inl ⟨d, rfl, d, rfl, hd⟩
      rintro _ ⟨t, rfl, t1, t2, t3⟩
      exact ⟨.n1 .not t, rfl, t1, t2, by simp only [hgt]; omega⟩
    · refine st_ret (P := Cd (n + 1)) ?_ fun d hd => ⟨d, rfl, hd⟩
      refine ok_tup (ok_cons (P := fun d => d = .str "and" ∨ d = .str "or") ?_ fun a ha => ok_cons (ih rfl) fun c hc => ok_cons (ih rfl) fun d hd => ok_nils ?_)
      · refine ok_callB (xs := [.lst [.str "and", .str "or"]]) (by kernel_rfl) ((some9 (k := k + 2) (by simp) (by simp)).mono fun d hd => ?_)
        simpa only [List.mem_cons, List.not_mem_nil, or_false] using hd
      · obtain ⟨t, rfl, t1, t2, t3⟩ := hc
        obtain ⟨u, rfl, u1, u2, u3⟩ := hd
        rcases ha with rfl | rfl
        · exact ⟨.n2 .and t u, rfl, by simp only [gT, Bool.and_eq_true]; exact ⟨t1, u1⟩, by simp only [isC, Bool.and_eq_true]; exact ⟨t2, u2⟩, by simp only [hgt]; omega⟩
        · exact ⟨.n2 .or t u, rfl, by simp only [gT, Bool.and_eq_true]; exact ⟨t1, u1⟩, by simp only [isC, Bool.and_eq_true]; exact ⟨t2, u2⟩, by simp only [hgt]; omega⟩
end K06

set_option Elab.async false
set_option linter.all false
set_option maxRecDepth 100000
namespace K06
open PySem Dn L2
/-! sizes -/
theorem nm_okD : ∀ s ∈ nms, okD (.str s) = true ∧ s.cps.size ≤ 12 := by
  intro s hs
  unfold nms at hs
  simp only [List.mem_cons, List.not_mem_nil, or_false] at hs
  rcases hs with rfl | rfl | rfl | rfl | rfl | rfl | rfl | rfl | rfl | rfl | rfl | rfl <;> decide +kernel
theorem ok_int {i : Int} (h : i.natAbs ≤ 123456789) : okD (.int i) = true := by
  simp only [okD]
  exact decide_eq_true (by omega)
theorem ok_ints : ∀ ns : List Int, (∀ n ∈ ns, n.natAbs ≤ 10) → okDs (ns.map D.int) = true
  | [], _ => rfl
  | n :: ns, h => by
    rw [List.map_cons, okDs, ok_int (Nat.le_trans (h n List.mem_cons_self) (by decide)), ok_ints ns fun m hm => h m (List.mem_cons_of_mem _ hm)]
    rfl
theorem dep_ints : ∀ ns : List Int, deps (ns.map D.int) = 0
  | [] => rfl
  | n :: ns => by rw [List.map_cons, deps, dep_ints ns]; rfl
theorem w_ints : ∀ ns : List Int, wDs (ns.map D.int) = 41 * ns.length
  | [] => rfl
  | n :: ns => by rw [List.map_cons, wDs, w_ints ns, wD, List.length_cons]; omega
theorem okW {w : Wy} (h : gW w = true) : okD (enW w) = true ∧ dep (enW w) ≤ 2 ∧ wD (enW w) ≤ 175 := by
  cases w with
  | plus n =>
    simp only [gW, decide_eq_true_eq] at h
    refine ⟨?_, by show 1 ≤ 2; decide, by show 4 + 1 + (40 + 1 + 0) ≤ 175; decide⟩
    show (okD (.str "plus") && (okD (.int n) && true)) = true
    rw [ok_int (by omega)]
    decide +kernel
  | turned => exact ⟨by decide +kernel, by decide, by decide⟩
  | times n =>
    simp only [gW, Bool.and_eq_true, decide_eq_true_eq] at h
    refine ⟨?_, by show 1 ≤ 2; decide, by show 5 + 1 + (40 + 1 + 0) ≤ 175; decide⟩
    show (okD (.str "times") && (okD (.int n) && true)) = true
    rw [ok_int (by omega)]
    decide +kernel
  | over n =>
    simp only [gW, Bool.and_eq_true, decide_eq_true_eq] at h
    refine ⟨?_, by show 1 ≤ 2; decide, by show 4 + 1 + (40 + 1 + 0) ≤ 175; decide⟩
    show (okD (.str "over") && (okD (.int n) && true)) = true
    rw [ok_int (by omega)]
    decide +kernel
  | rest n =>
    simp only [gW, Bool.and_eq_true, decide_eq_true_eq] at h
    refine ⟨?_, by show 1 ≤ 2; decide, by show 4 + 1 + (40 + 1 + 0) ≤ 175; decide⟩
    show (okD (.str "rest") && (okD (.int n) && true)) = true
    rw [ok_int (by omega)]
    decide +kernel
  | list ns =>
    simp only [gW, Bool.and_eq_true, decide_eq_true_eq, List.all_eq_true] at h
    refine ⟨?_, ?_, ?_⟩
    · show (okD (.str "list") && (okDs (ns.map D.int) && true)) = true
      rw [ok_ints ns h.2]
      decide +kernel
    · show max 0 (max (deps (ns.map D.int) + 1) 0) + 1 ≤ 2
      rw [dep_ints]; decide
    · show 4 + 1 + (wDs (ns.map D.int) + 1 + 0) ≤ 175
      rw [w_ints]; omega
theorem okT : ∀ t : Th, gT t = true → okD (en t) = true
  | .num n, h => by
    have h : n.natAbs ≤ 123456789 := by simpa [gT] using h
    show (okD (.str "num") && (okD (.int n) && true)) = true
    rw [ok_int h]
    decide +kernel
  | .key, _ => by decide +kernel
  | .tru, _ => by decide +kernel
  | .col s, h => by
    show (okD (.str "col") && (okD (.str s) && true)) = true
    rw [(nm_okD s (List.contains_iff_mem.mp h)).1]
    decide +kernel
  | .via s t, h => by
    have h2 : nms.contains s = true ∧ gT t = true := by simpa only [gT, Bool.and_eq_true] using h
    show (okD (.str "via") && (okD (.str s) && (okD (en t) && true))) = true
    rw [(nm_okD s (List.contains_iff_mem.mp h2.1)).1, okT t h2.2]
    decide +kernel
  | .by_ w t, h => by
    have h2 : gW w = true ∧ gT t = true := by simpa only [gT, Bool.and_eq_true] using h
    show (okD (.str "by") && (okD (enW w) && (okD (en t) && true))) = true
    rw [(okW h2.1).1, okT t h2.2]
    decide +kernel
  | .n1 o t, h => by
    show (okD (.str o.s) && (okD (en t) && true)) = true
    rw [okT t h]
    cases o <;> decide +kernel
  | .n2 o t u, h => by
    have h2 : gT t = true ∧ gT u = true := by simpa only [gT, Bool.and_eq_true] using h
    show (okD (.str o.s) && (okD (en t) && (okD (en u) && true))) = true
    rw [okT t h2.1, okT u h2.2]
    cases o <;> decide +kernel
theorem depT : ∀ t : Th, gT t = true → dep (en t) ≤ hgt t + 3
  | .num _, _ => by show 1 ≤ _; omega
  | .key, _ => by show 1 ≤ _; omega
  | .tru, _ => by show 1 ≤ _; omega
  | .col _, _ => by show 1 ≤ _; omega
  | .via s t, h => by
    have h2 : nms.contains s = true ∧ gT t = true := by simpa only [gT, Bool.and_eq_true] using h
    have := depT t h2.2
    show max 0 (max 0 (max (dep (en t)) 0)) + 1 ≤ hgt t + 1 + 3
    omega
  | .by_ w t, h => by
    have h2 : gW w = true ∧ gT t = true := by simpa only [gT, Bool.and_eq_true] using h
    have := depT t h2.2
    have := (okW h2.1).2.1
    show max 0 (max (dep (enW w)) (max (dep (en t)) 0)) + 1 ≤ hgt t + 1 + 3
    omega
  | .n1 o t, h => by
    have := depT t h
    show max 0 (max (dep (en t)) 0) + 1 ≤ hgt t + 1 + 3
    omega
  | .n2 o t u, h => by
    have h2 : gT t = true ∧ gT u = true := by simpa only [gT, Bool.and_eq_true] using h
    have := depT t h2.1
    have := depT u h2.2
    show max 0 (max (dep (en t)) (max (dep (en u)) 0)) + 1 ≤ max (hgt t) (hgt u) + 1 + 3
    omega
theorem wT : ∀ t : Th, gT t = true → wD (en t) + 190 ≤ 270 * 2 ^ hgt t
  | .num n, _ => by show 3 + 1 + (40 + 1 + 0) + 190 ≤ 270 * 2 ^ 0; omega
  | .key, _ => by show 3 + 1 + 0 + 190 ≤ 270 * 2 ^ 0; omega
  | .tru, _ => by show 4 + 1 + 0 + 190 ≤ 270 * 2 ^ 0; omega
  | .col s, h => by
    have := (nm_okD s (List.contains_iff_mem.mp h)).2
    show 3 + 1 + (s.cps.size + 1 + 0) + 190 ≤ 270 * 2 ^ 0
    omega
  | .via s t, h => by
    have h2 : nms.contains s = true ∧ gT t = true := by simpa only [gT, Bool.and_eq_true] using h
    have := (nm_okD s (List.contains_iff_mem.mp h2.1)).2
    have := wT t h2.2
    show 3 + 1 + (s.cps.size + 1 + (wD (en t) + 1 + 0)) + 190 ≤ 270 * 2 ^ (hgt t + 1)
    rw [Nat.pow_succ]
    omega
  | .by_ w t, h => by
    have h2 : gW w = true ∧ gT t = true := by simpa only [gT, Bool.and_eq_true] using h
    have := (okW h2.1).2.2
    have := wT t h2.2
    show 2 + 1 + (wD (enW w) + 1 + (wD (en t) + 1 + 0)) + 190 ≤ 270 * 2 ^ (hgt t + 1)
    rw [Nat.pow_succ]
    omega
  | .n1 o t, h => by
    have := wT t h
    have e : o.s.cps.size ≤ 4 := by cases o <;> decide
    show o.s.cps.size + 1 + (wD (en t) + 1 + 0) + 190 ≤ 270 * 2 ^ (hgt t + 1)
    rw [Nat.pow_succ]
    omega
  | .n2 o t u, h => by
    have h2 : gT t = true ∧ gT u = true := by simpa only [gT, Bool.and_eq_true] using h
    have a := wT t h2.1
    have b := wT u h2.2
    have e : o.s.cps.size ≤ 3 := by cases o <;> decide
    have c : 2 ^ hgt t ≤ 2 ^ max (hgt t) (hgt u) := Nat.pow_le_pow_right (by decide) (by omega)
    have d : 2 ^ hgt u ≤ 2 ^ max (hgt t) (hgt u) := Nat.pow_le_pow_right (by decide) (by omega)
    show o.s.cps.size + 1 + (wD (en t) + 1 + (wD (en u) + 1 + 0)) + 190 ≤ 270 * 2 ^ (max (hgt t) (hgt u) + 1)
    rw [Nat.pow_succ]
    omega
theorem gdT {t : Th} (h : gT t = true) (hh : hgt t ≤ 6) : Gd 9 20000 (en t) := by
  refine ⟨okT t h, Nat.le_trans (depT t h) (by omega), ?_⟩
  have a := wT t h
  have b : 2 ^ hgt t ≤ 2 ^ 6 := Nat.pow_le_pow_right (by decide) hh
  have c : (2 : Nat) ^ 6 = 64 := by decide
  omega
/-! what is put in: worths -/
structure SubOk (cs : Sub) (kt : Th) : Prop where
  nd : (cs.map (·.1)).Nodup
  nm : ∀ p ∈ cs, p.1 ∈ nms
  g : ∀ p ∈ cs, gT p.2 = true
  x : ∀ p ∈ cs, isX p.2 = true
  v : ∀ p ∈ cs, noV p.2 = true
  h : ∀ p ∈ cs, hgt p.2 ≤ 1
  kg : gT kt = true
  kx : isX kt = true
  kv : noV kt = true
  kh : hgt kt ≤ 1
theorem look_mem {cs : Sub} {s : Str} {u : Th} (h : look cs s = some u) : ∃ p ∈ cs, p.1 = s ∧ p.2 = u := by
  unfold look at h
  obtain ⟨p, hp, rfl⟩ := Option.map_eq_some_iff.mp h
  exact ⟨p, List.mem_of_find?_eq_some hp, by simpa using List.find?_some hp, rfl⟩
section
variable {cs : Sub} {kt : Th} (O : SubOk cs kt)
include O
theorem put_g : ∀ t, gT t = true → gT (put cs kt t) = true
  | .num _, h => h
  | .key, _ => O.kg
  | .tru, h => h
  | .col s, h => by
    simp only [put]
    cases e : look cs s with
    | none => exact h
    | some u => obtain ⟨p, hp, _, rfl⟩ := look_mem e; exact O.g p hp
  | .via _ _, h => h
  | .by_ w t, h => by
    simp only [gT, Bool.and_eq_true] at h
    simp only [put, gT, h.1, put_g t h.2, Bool.and_self]
  | .n1 _ t, h => put_g t h
  | .n2 _ t u, h => by
    simp only [gT, Bool.and_eq_true] at h
    simp only [put, gT, put_g t h.1, put_g u h.2, Bool.and_self]
theorem put_v : ∀ t, noV t = true → noV (put cs kt t) = true
  | .num _, h => h
  | .key, _ => O.kv
  | .tru, h => h
  | .col s, h => by
    simp only [put]
    cases e : look cs s with
    | none => exact h
    | some u => obtain ⟨p, hp, _, rfl⟩ := look_mem e; exact O.v p hp
  | .via _ _, h => h
  | .by_ w t, h => put_v t h
  | .n1 _ t, h => put_v t h
  | .n2 _ t u, h => by
    simp only [noV, Bool.and_eq_true] at h
    simp only [put, noV, put_v t h.1, put_v u h.2, Bool.and_self]
theorem put_x : ∀ t, isX (put cs kt t) = isX t
  | .num _ => rfl
  | .key => O.kx
  | .tru => rfl
  | .col s => by
    simp only [put]
    cases e : look cs s with
    | none => rfl
    | some u => obtain ⟨p, hp, _, rfl⟩ := look_mem e; exact O.x p hp
  | .via _ _ => rfl
  | .by_ w t => put_x t
  | .n1 _ t => rfl
  | .n2 o t u => by simp only [put, isX, put_x t, put_x u]
theorem put_c : ∀ t, isC t = true → isC (put cs kt t) = true
  | .tru, h => h
  | .n1 .none t, h => by simp only [put, isC, put_x O t]; exact h
  | .n1 .not t, h => put_c t h
  | .n2 .lt t u, h => by simp only [put, isC, put_x O t, put_x O u]; exact h
  | .n2 .eq t u, h => by simp only [put, isC, put_x O t, put_x O u]; exact h
  | .n2 .and t u, h => by
    simp only [isC, Bool.and_eq_true] at h
    simp only [put, isC, put_c t h.1, put_c u h.2, Bool.and_self]
  | .n2 .or t u, h => by
    simp only [isC, Bool.and_eq_true] at h
    simp only [put, isC, put_c t h.1, put_c u h.2, Bool.and_self]
  | .n2 .add _ _, h => by cases h
  | .n2 .sub _ _, h => by cases h
  | .n2 .mul _ _, h => by cases h
  | .num _, h => by cases h
  | .key, h => by cases h
  | .col _, h => by cases h
  | .via _ _, h => by cases h
  | .by_ _ _, h => by cases h
theorem put_h : ∀ t, hgt (put cs kt t) ≤ hgt t + 1
  | .num _ => by simp [put, hgt]
  | .key => by have := O.kh; simp only [put, hgt]; omega
  | .tru => by simp [put, hgt]
  | .col s => by
    simp only [put]
    cases e : look cs s with
    | none => simp [hgt]
    | some u => obtain ⟨p, hp, _, rfl⟩ := look_mem e; have := O.h p hp; simp only [Option.getD_some, hgt]; omega
  | .via _ _ => by simp [put]
  | .by_ w t => by have := put_h t; simp only [put, hgt]; omega
  | .n1 _ t => by have := put_h t; simp only [put, hgt]; omega
  | .n2 o t u => by have := put_h t; have := put_h u; simp only [put, hgt]; omega
end
/-- the columns' worths where their places are put in -/
def late (f : Str → Option Int) (ky : Option Int) (cs : Sub) (s : Str) : Option Int := match look cs s with
  | some u => worth f ky u
  | none => f s
theorem worth_put (f : Str → Option Int) (ky : Option Int) (cs : Sub) (kt : Th) : ∀ t, noV t = true → worth f ky (put cs kt t) = worth (late f ky cs) (worth f ky kt) t
  | .num _, _ => rfl
  | .key, _ => rfl
  | .tru, _ => rfl
  | .col s, _ => by
    simp only [put, worth, late]
    cases look cs s <;> rfl
  | .via _ _, h => by cases h
  | .by_ w t, h => by simp only [put, worth, worth_put f ky cs kt t h]
  | .n1 _ t, h => rfl
  | .n2 o t u, h => by
    simp only [noV, Bool.and_eq_true] at h
    simp only [put, worth, worth_put f ky cs kt t h.1, worth_put f ky cs kt u h.2]
theorem holds_put (f : Str → Option Int) (ky : Option Int) (cs : Sub) (kt : Th) : ∀ t, noV t = true → isC t = true → holds f ky (put cs kt t) = holds (late f ky cs) (worth f ky kt) t
  | .tru, _, _ => rfl
  | .n1 .none t, h, _ => by simp only [put, holds, worth_put f ky cs kt t h]
  | .n1 .not t, h, c => by simp only [put, holds, holds_put f ky cs kt t h c]
  | .n2 .lt t u, h, _ => by
    simp only [noV, Bool.and_eq_true] at h
    simp only [put, holds, worth_put f ky cs kt t h.1, worth_put f ky cs kt u h.2]
  | .n2 .eq t u, h, _ => by
    simp only [noV, Bool.and_eq_true] at h
    simp only [put, holds, worth_put f ky cs kt t h.1, worth_put f ky cs kt u h.2]
  | .n2 .and t u, h, c => by
    simp only [noV, Bool.and_eq_true] at h
    simp only [isC, Bool.and_eq_true] at c
    simp only [put, holds, holds_put f ky cs kt t h.1 c.1, holds_put f ky cs kt u h.2 c.2]
  | .n2 .or t u, h, c => by
    simp only [noV, Bool.and_eq_true] at h
    simp only [isC, Bool.and_eq_true] at c
    simp only [put, holds, holds_put f ky cs kt t h.1 c.1, holds_put f ky cs kt u h.2 c.2]
  | .n2 .add _ _, _, h => by cases h
  | .n2 .sub _ _, _, h => by cases h
  | .n2 .mul _ _, _, h => by cases h
  | .num _, _, h => by cases h
  | .key, _, h => by cases h
  | .col _, _, h => by cases h
  | .via _ _, _, h => by cases h
  | .by_ _ _, _, h => by cases h
theorem by_put (f : Str → Option Int) (ky : Option Int) {cs : Sub} {kt : Th} (O : SubOk cs kt) {t : Th} (h : noV t = true) (c : isX t = true ∨ isC t = true) : byD f ky (put cs kt t) = byD (late f ky cs) (worth f ky kt) t := by
  unfold byD
  rw [put_x O, worth_put f ky cs kt t h]
  by_cases hx : isX t = true
  · rw [if_pos hx, if_pos hx]
  · rw [if_neg hx, if_neg hx, holds_put f ky cs kt t h (c.resolve_left hx)]
/-- what a thing is worth, or whether it holds, can be compared -/
theorem by_alike {r : Nat} {f : Str → Option Int} {ky : Option Int} (S : Sm r f ky) (hr : r ≤ 60) {k : Nat} {t : Th} (hg : gT t = true) (hh : hgt t ≤ 4) : run F (k + 1) 11 [byD f ky t, byD f ky t] = ret (.bl true) := by
  unfold byD
  by_cases hx : isX t = true
  · rw [if_pos hx]
    cases h : worth f ky t with
    | none => exact alike_ok fA (d := .non) rfl (by decide) (by decide)
    | some i =>
      refine alike_int fA ?_
      have a := worth_abs S t hg i h
      have b : r * 2 ^ hgt t ≤ 60 * 2 ^ 4 := Nat.mul_le_mul hr (Nat.pow_le_pow_right (by decide) hh)
      have c : i.natAbs < 2 ^ 960 := Nat.lt_of_lt_of_le a (Nat.pow_le_pow_right (by decide) (by omega))
      exact Nat.lt_trans (log2_lt c (by decide)) (by decide)
  · rw [if_neg hx]
    exact alike_ok fA rfl (Nat.zero_le _) (Nat.zero_le _)
end K06

set_option Elab.async false
set_option linter.all false
set_option maxRecDepth 100000
set_option maxHeartbeats 0
namespace K06
open PySem Dn L2
/-! it can be shown -/
theorem repr_sub {cs : Sub} {kt t : Th} (O : SubOk cs kt) (hl : cs.length ≤ 12) (hg : gT t = true) (hh : hgt t ≤ 6) : ∃ K, biM .repr (.lst [en t, .dct (subD cs), en kt]) = some (.str K) := by
  have g1 := gdT hg hh
  have g2 := gdT O.kg (Nat.le_trans O.kh (by decide))
  have gp : ∀ p ∈ cs, Gd 9 20000 (en p.2) ∧ okD (.str p.1) = true ∧ p.1.cps.size ≤ 12 := fun p hp => ⟨gdT (O.g p hp) (Nat.le_trans (O.h p hp) (by decide)), nm_okD _ (O.nm p hp)⟩
  have key : ∀ cs : Sub, (∀ p ∈ cs, Gd 9 20000 (en p.2) ∧ okD (.str p.1) = true ∧ p.1.cps.size ≤ 12) → noInsk (subD cs) = true ∧ PyData.showableKv (toPk (subD cs)) = true ∧ PyData.leavesShortKv 13 (toPk (subD cs)) = true ∧ PyData.weightKv (toPk (subD cs)) ≤ cs.length * 20014 ∧ depk (subD cs) ≤ 9 := by
    intro cs
    induction cs with
    | nil => intro _; exact ⟨rfl, rfl, rfl, Nat.zero_le _, Nat.zero_le _⟩
    | cons p cs ih =>
      intro h
      obtain ⟨a, b, c⟩ := h p List.mem_cons_self
      obtain ⟨i1, i2, i3, i4, i5⟩ := ih fun q hq => h q (List.mem_cons_of_mem _ hq)
      have e : subD (p :: cs) = (.str p.1, en p.2) :: subD cs := rfl
      have wt := weight_of_ok _ a.ok
      have aw := a.w
      have ad := a.dep
      rw [e]
      refine ⟨?_, ?_, ?_, ?_, ?_⟩
      · show (noIns (.str p.1) && noIns (en p.2) && noInsk (subD cs)) = true
        rw [a.noIns, i1]; rfl
      · show (PyData.showable (toP (.str p.1)) && PyData.showable (toP (en p.2)) && PyData.showableKv (toPk (subD cs))) = true
        rw [showable_of_ok _ b, showable_of_ok _ a.ok, i2]; rfl
      · show (PyData.leavesShort 13 (toP (.str p.1)) && PyData.leavesShort 13 (toP (en p.2)) && PyData.leavesShortKv 13 (toPk (subD cs))) = true
        rw [short_of_ok _ b, short_of_ok _ a.ok, i3]; rfl
      · show PyData.weight (toP (.str p.1)) + PyData.weight (toP (en p.2)) + 2 + PyData.weightKv (toPk (subD cs)) ≤ (cs.length + 1) * 20014
        have ws : PyData.weight (toP (.str p.1)) = p.1.cps.size := rfl
        rw [ws, Nat.add_mul]
        omega
      · show max (max 0 (dep (en p.2))) (depk (subD cs)) ≤ 9
        omega
  obtain ⟨i1, i2, i3, i4, i5⟩ := key cs gp
  have hlw : cs.length * 20014 ≤ 12 * 20014 := Nat.mul_le_mul_right _ hl
  have w1 := weight_of_ok _ g1.ok
  have w2 := weight_of_ok _ g2.ok
  have g1w := g1.w
  have g2w := g2.w
  have g1d := g1.dep
  have g2d := g2.dep
  refine ⟨(toP (.lst [en t, .dct (subD cs), en kt])).shown, ?_⟩
  show showD _ = _
  unfold showD
  rw [if_pos]
  unfold showOk
  have h1 : noIns (.lst [en t, .dct (subD cs), en kt]) = true := by
    show (noIns (en t) && (noInsk (subD cs) && (noIns (en kt) && true))) = true
    rw [g1.noIns, g2.noIns, i1]; rfl
  have h2 : (toP (.lst [en t, .dct (subD cs), en kt])).showable = true := by
    show (PyData.showable (toP (en t)) && (PyData.showableKv (toPk (subD cs)) && (PyData.showable (toP (en kt)) && true))) = true
    rw [showable_of_ok _ g1.ok, showable_of_ok _ g2.ok, i2]; rfl
  have h3 : (toP (.lst [en t, .dct (subD cs), en kt])).shown.length ≤ line := by
    rw [← sz_line]
    refine PyData.shown_fits (B := 13) (by decide) (by decide) ?_ ?_
    · show (PyData.leavesShort 13 (toP (en t)) && (PyData.leavesShortKv 13 (toPk (subD cs)) && (PyData.leavesShort 13 (toP (en kt)) && true))) = true
      rw [short_of_ok _ g1.ok, short_of_ok _ g2.ok, i3]; rfl
    · show PyData.weight (toP (en t)) + 1 + (PyData.weightKv (toPk (subD cs)) + 1 + (PyData.weight (toP (en kt)) + 1 + 0)) ≤ 2 ^ 20
      have : (2 : Nat) ^ 20 = 1048576 := by decide
      omega
  have h4 : dep (.lst [en t, .dct (subD cs), en kt]) ≤ 60 := by
    show max (dep (en t)) (max (depk (subD cs) + 1) (max (dep (en kt)) 0)) + 1 ≤ 60
    omega
  rw [h1, h2, decide_eq_true h3, decide_eq_true h4]
  rfl
/-! rows -/
def rowF (R : List (Str × Option Int)) (s : Str) : Option Int := ((R.find? fun p => p.1 == s).map (·.2)).getD none
def rowD (R : List (Str × Option Int)) : List (Str × D) := R.map fun p => (p.1, vo p.2)
theorem find_row (s : Str) : ∀ R : List (Str × Option Int), ((rowD R).find? fun p => p.1 == s).map (·.2) = (R.find? fun p => p.1 == s).map fun p => vo p.2
  | [] => rfl
  | p :: R => by
    have ih := find_row s R
    unfold rowD at ih ⊢
    rw [List.map_cons, List.find?_cons, List.find?_cons]
    dsimp only
    cases p.1 == s with
    | true => rfl
    | false => exact ih
theorem row_ok {R : List (Str × Option Int)} (h : R.map (·.1) = nms) : RowOk (ents (rowD R)) (rowF R) := by
  refine ⟨fun s hs => ?_⟩
  rw [dget_ents, find_row]
  unfold rowF
  rw [← h] at hs
  obtain ⟨p, hp, e⟩ := List.mem_map.mp hs
  cases q : R.find? (fun p => p.1 == s) with
  | none => exact absurd (List.find?_eq_none.mp q p hp) (by simp [e])
  | some u => rfl
theorem row_sm {R : List (Str × Option Int)} (h : ∀ p ∈ R, ∀ i, p.2 = some i → i.natAbs ≤ 12) {z : Int} (hz : z.natAbs ≤ 12) : Sm 30 (rowF R) (some z) := by
  have e : (2 : Nat) ^ 30 = 1073741824 := by decide
  refine ⟨Nat.le_refl _, fun s i hi => ?_, fun i hi => ?_⟩
  · unfold rowF at hi
    cases q : R.find? (fun p => p.1 == s) with
    | none => rw [q] at hi; cases hi
    | some u =>
      rw [q] at hi
      have := h u (List.mem_of_find?_eq_some q) i hi
      omega
  · cases hi; omega
theorem late_sm {f : Str → Option Int} {ky : Option Int} {cs : Sub} {kt : Th} (O : SubOk cs kt) (S : Sm 30 f ky) : Sm 60 (late f ky cs) (worth f ky kt) := by
  have up : ∀ {i : Int} {t : Th}, gT t = true → hgt t ≤ 1 → worth f ky t = some i → i.natAbs < 2 ^ 60 := fun {i t} hg hh e => by
    have a := worth_abs S t hg i e
    refine Nat.lt_of_lt_of_le a (Nat.pow_le_pow_right (by decide) ?_)
    have := Nat.pow_le_pow_right (show 0 < 2 by decide) hh
    omega
  refine ⟨by decide, fun s i hi => ?_, fun i hi => up O.kg O.kh hi⟩
  unfold late at hi
  cases e : look cs s with
  | none =>
    rw [e] at hi
    exact Nat.lt_of_lt_of_le (S.row s i hi) (Nat.pow_le_pow_right (by decide) (by decide))
  | some u =>
    rw [e] at hi
    obtain ⟨p, hp, _, rfl⟩ := look_mem e
    exact up (O.g p hp) (O.h p hp) hi
/-- the columns' worths -/
def wsD (f : Str → Option Int) (ky : Option Int) (cs : Sub) : List (Str × D) := cs.map fun p => (p.1, vo (worth f ky p.2))
theorem find_ws (f : Str → Option Int) (ky : Option Int) (s : Str) : ∀ cs : Sub, ((wsD f ky cs).find? fun p => p.1 == s).map (·.2) = (look cs s).map fun u => vo (worth f ky u)
  | [] => rfl
  | p :: cs => by
    have ih := find_ws f ky s cs
    unfold wsD look at ih ⊢
    rw [List.map_cons, List.find?_cons, List.find?_cons]
    dsimp only
    cases p.1 == s with
    | true => rfl
    | false => exact ih
theorem late_ok {f : Str → Option Int} {ky : Option Int} {cs : Sub} {kt : Th} (O : SubOk cs kt) {ps : List (Str × D)} (R : RowOk (ents ps) f) : RowOk (dmerge (ents ps) (ents (wsD f ky cs))) (late f ky cs) := by
  refine ⟨fun s hs => ?_⟩
  rw [dget_merge s (wsD f ky cs) (ents ps) (ents_strs ps) (by unfold wsD; rw [List.map_map]; exact O.nd), find_ws, R.get s hs]
  unfold late
  cases look cs s <;> rfl
/-- some of the names, each with what is drawn for it -/
theorem ok_pairs {α : Type} {Φ : Nat → List D → M D} {ρ : Rho} {own : List Nat} {i : Nat} {it : Dn.It} {e : Ex} {ss : List Str} {g : α → D} {P : α → Prop} (h : evi Φ ρ it = ret (stL ss)) (hi : i < (wipeR ρ own).length)
    (he : ∀ s ∈ ss, Ok (ev Φ ((wipeR ρ own).set i (some (.str s))) e) fun d => ∃ a, d = g a ∧ P a) : Ok (ev Φ ρ (.lc (.tup (.cons (.var i) (.cons e .nil))) own (.nm i) it .no)) fun d => ∃ ps : List (Str × α), d = .lst (rows (ps.map fun p => (p.1, g p.2))) ∧ ps.map (·.1) = ss ∧ ∀ p ∈ ps, P p.2 := by
  rw [ev, h]
  simp only [bnd_r]
  refine ok_bnd (P := fun ys => ∃ ps : List (Str × α), ys = rows (ps.map fun p => (p.1, g p.2)) ∧ ps.map (·.1) = ss ∧ ∀ p ∈ ps, P p.2) ?_ ?_
  · clear h
    induction ss with
    | nil => exact ok_ret ⟨[], rfl, rfl, by simp⟩
    | cons s ss ih =>
      refine ok_bnd (P := fun l => ∃ a, l = [prD (s, g a)] ∧ P a) ?_ fun l hl => ?_
      · simp only [bindT, if_pos hi, lift_s, bnd_r, evc, if_true]
        have hv : ((wipeR ρ own).set i (some (D.str s))).getD i none = some (.str s) := by
          rw [List.getD_eq_getElem?_getD, List.getElem?_set_self hi]; rfl
        simp only [ev, evs, hv, lift_s, bnd_r, bnd_b]
        refine ok_bnd (he s List.mem_cons_self) ?_
        rintro _ ⟨a, rfl, ha⟩
        exact ok_ret ⟨a, rfl, ha⟩
      · obtain ⟨a, rfl, ha⟩ := hl
        refine ok_bnd (ih fun z hz => he z (List.mem_cons_of_mem _ hz)) ?_
        rintro _ ⟨ps, rfl, e1, e2⟩
        refine ok_ret ⟨(s, a) :: ps, rfl, by rw [List.map_cons, e1], fun p hp => ?_⟩
        rcases List.mem_cons.mp hp with rfl | hp
        · exact ha
        · exact e2 p hp
  · rintro _ ⟨ps, rfl, e1, e2⟩
    exact ok_ret ⟨ps, rfl, e1, e2⟩
end K06

set_option Elab.async false
set_option linter.all false
set_option maxRecDepth 100000
set_option maxHeartbeats 0
namespace K06
open PySem Dn L2
theorem st_skipD {Φ : Nat → List D → M D} {ρ : Rho} {c : Ex} {a r : Sts} {Q : Out → Prop} (h : ev Φ ρ c = ret (.bl false)) (k : Ok (exs Φ ρ r) Q) : Ok (exs Φ ρ (.cons (.ifs c a .nil) r)) Q := st_skip h k
theorem not_of {Φ : Nat → List D → M D} {ρ : Rho} {c : Ex} (h : ev Φ ρ c = ret (.bl true)) : ev Φ ρ (.not_ c) = ret (.bl false) := y_not h
theorem nd_nms : nms.Nodup := by decide +kernel
/-- the three keys that are put in -/
theorem key_ok {d : D} (h : d ∈ [en .key, en (.n2 .sub .key (.num 5)), en (.col "a")]) : ∃ kt, d = en kt ∧ gT kt = true ∧ isX kt = true ∧ noV kt = true ∧ hgt kt ≤ 1 := by
  simp only [List.mem_cons, List.not_mem_nil, or_false] at h
  rcases h with rfl | rfl | rfl
  · exact ⟨.key, rfl, rfl, rfl, rfl, by decide⟩
  · exact ⟨_, rfl, by decide +kernel, rfl, rfl, by decide⟩
  · exact ⟨_, rfl, by decide +kernel, rfl, rfl, by decide⟩
theorem val_ok {d : D} (h : d ∈ [D.non, .int 0, .int 1, .int 5, .int (-3), .int 12]) : ∃ v : Option Int, d = vo v ∧ ∀ i, v = some i → i.natAbs ≤ 12 := by
  simp only [List.mem_cons, List.not_mem_nil, or_false] at h
  rcases h with rfl | rfl | rfl | rfl | rfl | rfl
  · exact ⟨none, rfl, by intro i h; cases h⟩
  · exact ⟨some 0, rfl, by intro i h; cases h; decide⟩
  · exact ⟨some 1, rfl, by intro i h; cases h; decide⟩
  · exact ⟨some 5, rfl, by intro i h; cases h; decide⟩
  · exact ⟨some (-3), rfl, by intro i h; cases h; decide⟩
  · exact ⟨some 12, rfl, by intro i h; cases h; decide⟩
theorem r30' {t : Th} (hg : gT t = true) (hv : noV t = true) (hx : isX t = true ∨ isC t = true) (hh : hgt t ≤ 4) : Ok (run F 22 30 [en t]) fun d => d = .bl true := by
  refine ok_run (p := p30) rfl rfl ?_
  show Ok (exs (run F 21) [none, some (en t), none, none, none, none, none, none, none, none, none, none, none, none] b30) _
  refine st_asgE (d := .lst (stL nms)) (by kernel_rfl) (by simp) (st_low ?_)
  refine st_asg (P := fun d => ∃ ss, d = .lst (stL ss) ∧ ss.Nodup ∧ ∀ s ∈ ss, s ∈ nms) ?_ (by simp) ?_
  · rw [ev]
    refine ok_bnd (ok_callB (xs := [.lst (stL nms)]) (by kernel_rfl) (names_ok (k := 19) fM fT (by decide))) ?_
    rintro _ ⟨ts, rfl, hp⟩
    simp only [evo, bnd_r, bnd_b]
    refine ok_bnd (ok_callB (xs := [.lst [.int 0, .int 2, .int 4, .int 9]]) (by kernel_rfl) (some9 (k := 19) (by simp) (by simp))) fun d hd => ?_
    have : ∃ m : Int, d = .int m ∧ 0 ≤ m := by
      simp only [List.mem_cons, List.not_mem_nil, or_false] at hd
      rcases hd with rfl | rfl | rfl | rfl
      · exact ⟨0, rfl, by decide⟩
      · exact ⟨2, rfl, by decide⟩
      · exact ⟨4, rfl, by decide⟩
      · exact ⟨9, rfl, by decide⟩
    obtain ⟨m, rfl, m0⟩ := this
    simp only [intOf_i, bnd_r, slc_strs ts m0, lift_s]
    exact ok_ret ⟨_, rfl, (List.take_sublist _ _).nodup (hp.nodup_iff.mpr nd_nms), fun s hs => hp.mem_iff.mp (List.mem_of_mem_take hs)⟩
  rintro _ ⟨ss, rfl, nd, hn⟩
  refine st_low (st_asg (P := fun d => ∃ cs : Sub, d = .dct (subD cs) ∧ cs.map (·.1) = ss ∧ ∀ p ∈ cs, gT p.2 = true ∧ isX p.2 = true ∧ noV p.2 = true ∧ hgt p.2 ≤ 1) ?_ (by simp) ?_)
  · rw [ev]
    refine ok_bnd (ok_pairs (g := en) (ss := ss) (P := fun u => gT u = true ∧ isX u = true ∧ noV u = true ∧ hgt u ≤ 1) (by simp [evi, ev, stL]) (by simp [wipeR]) fun s _ => ?_) ?_
    · refine ok_callO (P := fun zs => ∃ u, zs = [en u] ∧ gT u = true ∧ isX u = true ∧ hgt u ≤ 1) (ok_cons (P := Xd 1) (ok_callB (xs := [.int 1]) (by kernel_rfl) (r23 1 21 (by decide))) fun d hd => ok_nils ?_) ?_
      · obtain ⟨u, rfl, u1, u2, u3⟩ := hd
        exact ⟨u, rfl, u1, u2, u3⟩
      · rintro _ ⟨u, rfl, u1, u2, u3⟩
        refine ok_eq (r25 2 21 u (by omega) (by decide)) (ok_ret ⟨wv u, rfl, wv_gT u u1, ?_, wv_noV u, Nat.le_trans (wv_hgt u) u3⟩)
        have wx : ∀ u, isX (wv u) = isX u := fun u => by
          induction u with
          | via s t ih => simpa [wv, isX] using ih
          | by_ w t ih => simpa [wv, isX] using ih
          | n2 o t u ih1 ih2 => simp [wv, isX, ih1, ih2]
          | n1 o t ih => rfl
          | _ => rfl
        rw [wx]; exact u2
    · rintro _ ⟨ps, rfl, e1, e2⟩
      have nd2 : ((ps.map fun p => (p.1, en p.2)).map (·.1)).Nodup := by
        rw [List.map_map]
        have : (ps.map ((·.1) ∘ fun p : Str × Th => (p.1, en p.2))) = ps.map (·.1) := rfl
        rw [this, e1]; exact nd
      rw [dict_rowsL nd2, lift_s]
      exact ok_ret ⟨ps, rfl, e1, e2⟩
  rintro _ ⟨cs, rfl, e1, e2⟩
  refine st_low (st_asg (P := fun d => ∃ kt, d = en kt ∧ gT kt = true ∧ isX kt = true ∧ noV kt = true ∧ hgt kt ≤ 1) ?_ (by simp) ?_)
  · exact ok_callB (xs := [.lst [en .key, en (.n2 .sub .key (.num 5)), en (.col "a")]]) (by kernel_rfl) ((some9 (k := 19) (by simp) (by simp)).mono fun d hd => key_ok hd)
  rintro _ ⟨kt, rfl, k1, k2, k3, k4⟩
  have O : SubOk cs kt := ⟨by rw [e1]; exact nd, fun p hp => hn _ (by rw [← e1]; exact List.mem_map_of_mem hp), fun p hp => (e2 p hp).1, fun p hp => (e2 p hp).2.1, fun p hp => (e2 p hp).2.2.1, fun p hp => (e2 p hp).2.2.2, k1, k2, k3, k4⟩
  have hcl : cs.length ≤ 12 := by
    have a := nd_len (l := ss) (m := nms) nd hn
    rw [← e1, List.length_map] at a
    exact a
  obtain ⟨K, hK⟩ := repr_sub O hcl hg (Nat.le_trans hh (by decide))
  have p4' := r4 cs kt (hgt t + 1) 21 t (by omega) (by omega) hv
  have p26' := r26 cs kt (hgt t + 1) 21 t (by omega) (by omega) hv
  have pg := put_g O t hg
  have pv := put_v O t hv
  have ph := put_h O t
  refine st_eq (ρ' := [none, some (en t), some (.lst (stL nms)), some (.lst (stL ss)), some (.dct (subD cs)), some (en kt), none, some (en (put cs kt t)), some (.str K), none, none, none, none, none]) ?_ ?_
  · simp only [ex, ev, evs, List.set, List.getD_cons_zero, List.getD_cons_succ, lift_s, bnd_r, bnd_b, hK, p4', bindT, bindTs, List.length_cons, List.length_nil, Option.bind]
    rfl
  refine st_skip (not_of ?_) ?_
  · refine y_call (xs := [en (put cs kt t), en (put cs kt t)]) ?_ ((gdT pg (by omega)).alike (k := 20) fA (by decide) (by decide))
    simp only [ev, evs, List.getD_cons_zero, List.getD_cons_succ, lift_s, bnd_r, bnd_b, p26']
  refine ok_forM (zs := [0, 1, 2]) (e := D.int) (xs := [.int 0, .int 1, .int 2]) rfl (by kernel_rfl) (fun _ ρ => ∃ a6 a9 a10 a11 a12 a13, ρ = [none, some (en t), some (.lst (stL nms)), some (.lst (stL ss)), some (.dct (subD cs)), some (en kt), a6, some (en (put cs kt t)), some (.str K), a9, a10, a11, a12, a13]) ⟨_, _, _, _, _, _, rfl⟩ ?_ ?_
  · rintro dn j q ρ edn ⟨a6, a9, a10, a11, a12, a13, rfl⟩
    refine ⟨_, rfl, ?_⟩
    -- the row, the place
    refine ok_step (P := fun ρ' => ∃ (R : List (Str × Option Int)) (z : Int), ρ' = [none, some (en t), some (.lst (stL nms)), some (.lst (stL ss)), some (.dct (subD cs)), some (en kt), some (.int j), some (en (put cs kt t)), some (.str K), a9, a10, some (.dct (ents (rowD R))), some (.int z), a13] ∧ R.map (·.1) = nms ∧ (∀ p ∈ R, ∀ i, p.2 = some i → i.natAbs ≤ 12) ∧ z.natAbs ≤ 12) ?_ ?_
    · rw [ex]
      refine ok_bnd (P := fun d => ∃ (R : List (Str × Option Int)) (z : Int), d = .tup [.dct (ents (rowD R)), .int z] ∧ R.map (·.1) = nms ∧ (∀ p ∈ R, ∀ i, p.2 = some i → i.natAbs ≤ 12) ∧ z.natAbs ≤ 12) ?_ ?_
      · refine ok_tup (ok_cons (P := fun d => ∃ R : List (Str × Option Int), d = .dct (ents (rowD R)) ∧ R.map (·.1) = nms ∧ ∀ p ∈ R, ∀ i, p.2 = some i → i.natAbs ≤ 12) ?_ fun a ha => ok_cons (P := fun d => ∃ z : Int, d = .int z ∧ z.natAbs ≤ 12) ?_ fun b hb => ok_nils ?_)
        · rw [ev]
          refine ok_bnd (ok_pairs (g := vo) (ss := nms) (P := fun v => ∀ i, v = some i → i.natAbs ≤ 12) (by simp [evi, ev, stL, List.set]) (by simp [wipeR]) fun s _ => ?_) ?_
          · exact ok_callB (xs := [.lst [.non, .int 0, .int 1, .int 5, .int (-3), .int 12]]) (by kernel_rfl) ((some9 (k := 19) (by simp) (by simp)).mono fun d hd => val_ok hd)
          · rintro _ ⟨ps, rfl, f1, f2⟩
            have nd2 : ((ps.map fun p => (p.1, vo p.2)).map (·.1)).Nodup := by
              rw [List.map_map]
              have : (ps.map ((·.1) ∘ fun p : Str × Option Int => (p.1, vo p.2))) = ps.map (·.1) := rfl
              rw [this, f1]; exact nd_nms
            rw [dict_rowsL nd2, lift_s]
            exact ok_ret ⟨ps, rfl, f1, f2⟩
        · rw [ev]
          refine ok_bnd (ok_callB (xs := [.int 9]) (by kernel_rfl) (take8 (k := 20) (by decide) (by decide))) ?_
          rintro _ ⟨m, rfl, m0, m1⟩
          simp only [ev, bnd_r, binD, lift_s]
          exact ok_ret ⟨_, rfl, by omega⟩
        · obtain ⟨R, rfl, f1, f2⟩ := ha
          obtain ⟨z, rfl, hz⟩ := hb
          exact ⟨R, z, rfl, f1, f2, hz⟩
      · rintro _ ⟨R, z, rfl, f1, f2, hz⟩
        simp only [bindT, bindTs, List.set, List.length_cons, List.length_nil, Option.bind]
        exact ok_ret ⟨_, rfl, R, z, rfl, f1, f2, hz⟩
    rintro ρ' ⟨R, z, rfl, f1, f2, hz⟩
    have S := row_sm f2 hz
    have Rk := row_ok f1
    have S2 := late_sm O S
    have Rk2 := late_ok (ky := some z) O Rk
    have hget : ∀ p ∈ cs, dget (subD cs) (.str p.1) = some (en p.2) := fun p hp => by
      unfold subD
      exact get_ents (ps := cs.map fun p => (p.1, en p.2)) (by rw [List.map_map]; exact O.nd) (List.mem_map.mpr ⟨p, hp, rfl⟩)
    refine st_asgE (d := .dct (ents (rowD R))) (by kernel_rfl) (by simp) ?_
    refine st_eq (ρ' := [none, some (en t), some (.lst (stL nms)), some (.lst (stL ss)), some (.dct (subD cs)), some (en kt), some (.int j), some (en (put cs kt t)), some (.str K), some (.dct (dmerge (ents (rowD R)) (ents (wsD (rowF R) (some z) cs)))), a10, some (.dct (ents (rowD R))), some (.int z), a13]) ?_ ?_
    · have hk : evi (run F 21) [none, some (en t), some (.lst (stL nms)), some (.lst (stL ss)), some (.dct (subD cs)), some (en kt), some (.int j), some (en (put cs kt t)), some (.str K), some (.dct (ents (rowD R))), a10, some (.dct (ents (rowD R))), some (.int z), a13] (.keys 4) = ret (cs.map fun p => .str p.1) := by
        rw [evi]
        simp only [List.getD_cons_zero, List.getD_cons_succ, lift_s, bnd_r, dctOf_d]
        unfold subD ents
        rw [List.map_map, List.map_map]; rfl
      have hl := y_lc (elt := .tup (.cons (.var 13) (.cons (.call 27 (.cons (.idx (.var 4) (.var 13)) (.cons (.var 11) (.cons (.var 12) .nil)))) .nil))) (own := [13]) (i := 13) (zs := cs) (f := fun p => D.str p.1) (g := fun p => prD (p.1, vo (worth (rowF R) (some z) p.2))) hk (by simp [wipeR]) fun p hp => by
        have w := r27 S (by decide) Rk 2 21 p.2 (by have := O.h p hp; omega) (by decide) (O.g p hp) (O.v p hp) (O.x p hp) (by have := O.h p hp; omega)
        simp only [ev, evs, wipeR, List.set, List.getD_cons_zero, List.getD_cons_succ, lift_s, bnd_r, bnd_b, idxD, isK, if_true, hget p hp]
        rw [show (D.int z) = vo (some z) from rfl, w]
        rfl
      have nd2 : ((wsD (rowF R) (some z) cs).map (·.1)).Nodup := by unfold wsD; rw [List.map_map]; exact O.nd
      have hd := y_bi (f := .dict) hl (show biM .dict (.lst (cs.map fun p => prD (p.1, vo (worth (rowF R) (some z) p.2)))) = some (.dct (ents (wsD (rowF R) (some z) cs))) from by
        have h0 := dict_rowsL nd2
        have h1 : rows (wsD (rowF R) (some z) cs) = cs.map fun p => prD (p.1, vo (worth (rowF R) (some z) p.2)) := by
          unfold rows wsD
          rw [List.map_map]; rfl
        rw [h1] at h0
        exact h0)
      have hlen : (ents (rowD R)).length + (ents (wsD (rowF R) (some z) cs)).length ≤ line := by
        have a : R.length = 12 := by
          have := congrArg List.length f1
          rw [List.length_map] at this
          exact this
        unfold ents rowD wsD
        rw [List.length_map, List.length_map, List.length_map, List.length_map, a]
        show _ ≤ 16777216
        omega
      simp only [ex, evs, List.set, hd, List.getD_cons_zero, List.getD_cons_succ, lift_s, bnd_r, bnd_b, upAt, mutD, if_pos hlen]
    refine st_asgE (d := vo (worth (rowF R) (some z) kt)) ?_ (by simp) (st_low ?_)
    · refine y_call (xs := [en kt, .dct (ents (rowD R)), vo (some z)]) (by kernel_rfl) (r27 S (by decide) Rk 2 21 kt (by omega) (by decide) k1 k3 k2 (by omega))
    refine st_skip (not_of ?_) ?_
    · have q1 := r29 S (by decide) Rk (k := 21) (t := put cs kt t) (by omega) pg pv (by rw [put_x O]; exact hx.imp id (put_c O t)) (by omega)
      have q2 := r29 S2 (by decide) Rk2 (k := 21) (t := t) (by omega) hg hv hx (by omega)
      rw [by_put _ _ O hv hx] at q1
      refine y_call (xs := [byD (late (rowF R) (some z) cs) (worth (rowF R) (some z) kt) t, byD (late (rowF R) (some z) cs) (worth (rowF R) (some z) kt) t]) ?_ (by_alike S2 (by decide) hg hh)
      simp only [ev, evs, List.set, List.getD_cons_zero, List.getD_cons_succ, lift_s, bnd_r, bnd_b]
      rw [show (D.int z) = vo (some z) from rfl, q1, bnd_r, q2]
      rfl
    exact ok_nil ⟨_, .inl rfl, _, _, _, _, _, _, rfl⟩
  · rintro ρ' ⟨a6, a9, a10, a11, a12, a13, rfl⟩
    refine st_ret (P := fun d => d = .bl true) ?_ fun d hd => ⟨d, rfl, hd⟩
    simp only [ev, evs, List.getD_cons_zero, List.getD_cons_succ, lift_s, bnd_r, bnd_b, hK, eq_str]
    exact ok_ret (by simp)
/-! the law -/
theorem ok_Tp {d : D} {P : D → Prop} (h : P d) : Ok (ret d) P := ok_ret h
theorem wv_x : ∀ t, isX (wv t) = isX t
  | .via _ t => wv_x t
  | .by_ _ t => wv_x t
  | .n1 _ _ => rfl
  | .n2 o t u => by simp only [wv, isX, wv_x t, wv_x u]
  | .num _ => rfl
  | .key => rfl
  | .col _ => rfl
  | .tru => rfl
theorem wv_c : ∀ t, isC t = true → isC (wv t) = true
  | .tru, h => h
  | .n1 .none t, h => by simp only [wv, isC, wv_x t]; exact h
  | .n1 .not t, h => wv_c t h
  | .n2 .lt t u, h => by simp only [wv, isC, wv_x t, wv_x u]; exact h
  | .n2 .eq t u, h => by simp only [wv, isC, wv_x t, wv_x u]; exact h
  | .n2 .and t u, h => by
    simp only [isC, Bool.and_eq_true] at h
    simp only [wv, isC, wv_c t h.1, wv_c u h.2, Bool.and_self]
  | .n2 .or t u, h => by
    simp only [isC, Bool.and_eq_true] at h
    simp only [wv, isC, wv_c t h.1, wv_c u h.2, Bool.and_self]
  | .n2 .add _ _, h => by cases h
  | .n2 .sub _ _, h => by cases h
  | .n2 .mul _ _, h => by cases h
  | .num _, h => by cases h
  | .key, h => by cases h
  | .col _, h => by cases h
  | .via _ _, h => by cases h
  | .by_ _ _, h => by cases h
theorem gd_cols {t : Th} (h : gT t = true) : Gd 1 156 (.tup (stL (srt (cols t)))) := by
  have a := Gd.tup (n := 0) (w := 12) (k := 12) (xs := stL (srt (cols t))) (fun x hx => ?_) (by rw [len_strs]; exact srt_len (m := nms) (gcols t h))
  · exact a
  · obtain ⟨s, hs, rfl⟩ := mem_strs hx
    have := nm_okD s (gcols t h s (mem_srt.mp hs))
    exact ⟨this.1, Nat.zero_le _, this.2⟩
theorem both_g {a b : Th} (ha : gT a = true) (hb : gT b = true) (h1 : hgt a ≤ 4) (h2 : hgt b ≤ 4) : gT (bothT a b) = true ∧ hgt (bothT a b) ≤ 5 := by
  unfold bothT
  by_cases c : isTru a = true
  · rw [if_pos c]; exact ⟨hb, by omega⟩
  · rw [if_neg c]
    by_cases c2 : isTru b = true
    · rw [if_pos c2]; exact ⟨ha, by omega⟩
    · rw [if_neg c2]; exact ⟨by simp only [gT, ha, hb, Bool.and_self], by simp only [hgt]; omega⟩
theorem tru_of {a : Th} (h : isTru a = true) : a = .tru := by cases a <;> first | rfl | cases h
theorem cnt_small {n : Nat} (h : n ≤ 2 ^ 21) : ((n : Nat) : Int).natAbs < 10 ^ 12 := by
  have e : (2 : Nat) ^ 21 = 2097152 := by decide
  omega
/-- what the law holds for due of both -/
theorem due_both (a b : Th) : (if isTru b = true then en a else if isTru a = true then en b else en (.n2 .and a b)) = en (bothT a b) := by
  unfold bothT
  by_cases c : isTru a = true
  · by_cases c2 : isTru b = true
    · rw [if_pos c, if_pos c2, tru_of c, tru_of c2]; rfl
    · rw [if_pos c, if_pos c, if_neg c2]
  · rw [if_neg c, if_neg c]
    by_cases c2 : isTru b = true
    · rw [if_pos c2, if_pos c2]
    · rw [if_neg c2, if_neg c2]
/-- one thing looked into -/
theorem one_ok {t : Th} (hg : gT t = true) (hx : isX t = true ∨ isC t = true) (hh : hgt t ≤ 4) {a2 a4 a5 a6 a7 a8 a9 a10 : Option D} : Ok (exs (run F 22) [none, none, a2, some (en t), a4, a5, a6, a7, a8, a9, a10] (match lawB with | .cons (.for_ _ _ (.cons _ (.cons (.for_ _ _ b) _))) _ => b | _ => .nil)) fun o => ∃ a7 a8, o = .nx [none, none, a2, some (en t), a4, a5, a6, a7, a8, a9, a10] := by
  show Ok (exs (run F 22) _ (match lawB with | .cons (.for_ _ _ (.cons _ (.cons (.for_ _ _ b) _))) _ => b | _ => .nil)) _
  unfold lawB
  dsimp only
  have G := gdT hg (Nat.le_trans hh (by decide))
  have hR := G.repr (by decide) (by decide)
  generalize D.str (toP (en t)).shown = K at hR
  have e2 := r2 (k := 22) (t := t) (by omega) (by omega) hg
  have e3 := r3 (hgt t + 1) 22 t (by omega) (by omega)
  have e19 := r19 (hgt t + 1) 22 t (by omega) (by omega) (by omega)
  have e20 := r20 (hgt t + 1) 22 t (by omega) (by omega) hg
  have e25 := r25 (hgt t + 1) 22 t (by omega) (by omega)
  have hc : cnt t ≤ 2 ^ 21 := cnt_line (by omega)
  refine st_asgE (d := K) (by simp only [ev, List.getD_cons_zero, List.getD_cons_succ, lift_s, bnd_r, hR]) (by simp) (st_low ?_)
  refine st_asgE (d := .lst [.tup (stL (srt (cols t))), .int (cnt t : Nat)]) ?_ (by simp) (st_low ?_)
  · simp only [ev, evs, List.set, List.getD_cons_zero, List.getD_cons_succ, lift_s, bnd_r, bnd_b, e20, e19, biM, biD, List.length_map, allS_len]
  refine st_skip (not_of ?_) ?_
  · have g : Gd 2 198 (.lst [.tup (stL (srt (cols t))), .int (cnt t : Nat)]) := Gd.lst2 (n := 1) (gd_cols hg) (Gd.int (cnt_small hc))
    refine y_call (xs := [.lst [.tup (stL (srt (cols t))), .int (cnt t : Nat)], .lst [.tup (stL (srt (cols t))), .int (cnt t : Nat)]]) ?_ (g.alike (k := 21) fA (by decide) (by decide))
    simp only [ev, evs, List.set, List.getD_cons_zero, List.getD_cons_succ, lift_s, bnd_r, bnd_b, e2, e3]
  refine ok_step (P := fun ρ' => ρ' = [none, none, a2, some (en t), a4, a5, a6, some K, some (.lst [.tup (stL (srt (cols t))), .int (cnt t : Nat)]), a9, a10]) ?_ fun ρ' e => e ▸ ok_nil ⟨_, _, rfl⟩
  rw [ex]
  refine ok_bnd (P := fun d => d = .bl false) ?_ ?_
  · obtain ⟨s, rfl⟩ : ∃ s, K = .str s := by
      have h := G.repr (by decide) (by decide)
      rw [hR] at h
      exact ⟨_, Option.some.inj h⟩
    simp only [ev, evs, List.set, List.getD_cons_zero, List.getD_cons_succ, lift_s, bnd_r, bnd_b, hR, ne_str, e25, boolOf_b]
    rw [show (!(s == s)) = false by simp]
    simp only [Bool.false_eq_true, if_false]
    refine ok_bnd (Ok.mono (show Ok (run F 22 30 [en (wv t)]) fun d => d = .bl true from ?_) fun d hd => hd) ?_
    · exact r30' (wv_gT t hg) (wv_noV t) (hx.imp (fun z => by rw [wv_x]; exact z) (wv_c t)) (Nat.le_trans (wv_hgt t) hh)
    · rintro _ rfl
      exact ok_ret rfl
  · rintro _ rfl
    simp only [boolOf_b, bnd_r, Bool.false_eq_true, if_false, exs_nil]
    exact ok_ret ⟨_, rfl, rfl⟩
end K06

set_option Elab.async false
set_option linter.all false
set_option maxRecDepth 100000
set_option maxHeartbeats 0
namespace K06
open PySem Dn L2
theorem two_ok {c o : Th} (hc : gT c = true) (ho : gT o = true) (h1 : hgt c ≤ 4) (h2 : hgt o ≤ 4) {a2 a3 a4 a5 a6 a7 a8 : Option D} : Ok (exs (run F 22) [none, none, a2, a3, a4, a5, a6, a7, a8, some (en c), some (en o)] (match lawB with | .cons (.for_ _ _ (.cons _ (.cons _ (.cons (.for_ _ _ b) _)))) _ => b | _ => .nil)) fun x => ∃ a8, x = .nx [none, none, a2, a3, a4, a5, a6, a7, a8, some (en c), some (en o)] := by
  show Ok (exs (run F 22) _ (match lawB with | .cons (.for_ _ _ (.cons _ (.cons _ (.cons (.for_ _ _ b) _)))) _ => b | _ => .nil)) _
  unfold lawB
  dsimp only
  have t1 : ∀ {ρ : Rho}, ρ.getD 10 none = some (en o) → ev (run F 22) ρ (.cmp .eq (.var 10) (.tup (.cons (.ks "true") .nil))) = ret (.bl (isTru o)) := fun {ρ} h => by
    simp only [ev, evs, h, lift_s, bnd_r, bnd_b, eq_tru]
  have t2 : ∀ {ρ : Rho}, ρ.getD 9 none = some (en c) → ev (run F 22) ρ (.cmp .eq (.var 9) (.tup (.cons (.ks "true") .nil))) = ret (.bl (isTru c)) := fun {ρ} h => by
    simp only [ev, evs, h, lift_s, bnd_r, bnd_b, eq_tru]
  refine st_asgE (d := en (bothT c o)) ?_ (by simp) ?_
  · rw [← due_both]
    cases q : isTru o with
    | true => exact y_iteT ((t1 rfl).trans (by rw [q])) rfl
    | false =>
      refine y_iteF ((t1 rfl).trans (by rw [q])) ?_
      cases q2 : isTru c with
      | true => exact y_iteT ((t2 rfl).trans (by rw [q2])) rfl
      | false => exact y_iteF ((t2 rfl).trans (by rw [q2])) (by kernel_rfl)
  obtain ⟨g1, g2⟩ := both_g hc ho h1 h2
  refine st_skip (not_of ?_) (ok_nil ⟨_, rfl⟩)
  refine y_call (xs := [en (bothT c o), en (bothT c o)]) ?_ ((gdT g1 (by omega)).alike (k := 21) fA (by decide) (by decide))
  simp only [ev, evs, List.set, List.getD_cons_zero, List.getD_cons_succ, lift_s, bnd_r, bnd_b, show run F 22 5 [en c, en o] = _ from r5 21 c o]
def Env (ρ : Rho) : Prop := ∃ a2 a3 a4 a5 a6 a7 a8 a9 a10, ρ = [none, none, a2, a3, a4, a5, a6, a7, a8, a9, a10]
theorem turn {a3 a4 a5 a6 a7 a8 a9 a10 : Option D} {j : Int} : Ok (exs (run F 22) [none, none, some (.int j), a3, a4, a5, a6, a7, a8, a9, a10] (match lawB with | .cons (.for_ _ _ b) _ => b | _ => .nil)) fun o => ∃ ρ', (o = .nx ρ' ∨ o = .ct ρ') ∧ Env ρ' := by
  show Ok (exs (run F 22) _ (match lawB with | .cons (.for_ _ _ b) _ => b | _ => .nil)) _
  unfold lawB
  dsimp only
  refine ok_step (P := fun ρ' => ∃ e c o : Th, ρ' = [none, none, some (.int j), a3, some (en e), some (en c), some (en o), a7, a8, a9, a10] ∧ (gT e = true ∧ isX e = true ∧ hgt e ≤ 3) ∧ (gT c = true ∧ isC c = true ∧ hgt c ≤ 4) ∧ (gT o = true ∧ isC o = true ∧ hgt o ≤ 2)) ?_ ?_
  · rw [ex]
    refine ok_bnd (P := fun d => ∃ e c o : Th, d = .tup [en e, en c, en o] ∧ (gT e = true ∧ isX e = true ∧ hgt e ≤ 3) ∧ (gT c = true ∧ isC c = true ∧ hgt c ≤ 4) ∧ (gT o = true ∧ isC o = true ∧ hgt o ≤ 2)) ?_ ?_
    · refine ok_tup (ok_cons (P := Xd 3) (ok_callB (xs := [.int 3]) (by kernel_rfl) (r23 3 22 (by decide))) fun a ha => ok_cons (P := Cd 3) (ok_callB (xs := [.int 3]) (by kernel_rfl) (r24 3 22 (by decide))) fun b hb => ok_cons (P := Cd 1) (ok_callB (xs := [.int 1]) (by kernel_rfl) (r24 1 22 (by decide))) fun c hc => ok_nils ?_)
      obtain ⟨e, rfl, e1, e2, e3⟩ := ha
      obtain ⟨c, rfl, c1, c2, c3⟩ := hb
      obtain ⟨o, rfl, o1, o2, o3⟩ := hc
      exact ⟨e, c, o, rfl, ⟨e1, e2, e3⟩, ⟨c1, c2, c3⟩, o1, o2, o3⟩
    · rintro _ ⟨e, c, o, rfl, h1, h2, h3⟩
      simp only [bindT, bindTs, List.set, List.length_cons, List.length_nil, Option.bind]
      exact ok_ret ⟨_, rfl, e, c, o, rfl, h1, h2, h3⟩
  rintro ρ' ⟨e, c, o, rfl, ⟨e1, e2, e3⟩, ⟨c1, c2, c3⟩, o1, o2, o3⟩
  refine ok_forM (zs := [e, c]) (e := en) (xs := [en e, en c]) rfl (by kernel_rfl) (fun _ ρ => ∃ a3 a7 a8, ρ = [none, none, some (.int j), a3, some (en e), some (en c), some (en o), a7, a8, a9, a10]) ⟨_, _, _, rfl⟩ ?_ ?_
  · rintro dn x q ρ ez ⟨a3, a7, a8, rfl⟩
    refine ⟨_, rfl, ?_⟩
    have hx : x = e ∨ x = c := by
      have : x ∈ [e, c] := by rw [ez]; simp
      simpa using this
    have key : gT x = true ∧ (isX x = true ∨ isC x = true) ∧ hgt x ≤ 4 := by
      rcases hx with rfl | rfl
      · exact ⟨e1, .inl e2, by omega⟩
      · exact ⟨c1, .inr c2, c3⟩
    exact (one_ok key.1 key.2.1 key.2.2).mono fun o ⟨b7, b8, ho⟩ => ⟨_, .inl ho, _, _, _, rfl⟩
  · rintro ρ' ⟨a3, a7, a8, rfl⟩
    refine ok_forM (zs := [(c, o), (c, .tru), (.tru, c), (.tru, .tru)]) (e := fun p : Th × Th => D.tup [en p.1, en p.2]) (xs := [.tup [en c, en o], .tup [en c, en .tru], .tup [en .tru, en c], .tup [en .tru, en .tru]]) rfl (by kernel_rfl) (fun _ ρ => ∃ a8 a9 a10, ρ = [none, none, some (.int j), a3, some (en e), some (en c), some (en o), a7, a8, a9, a10]) ⟨_, _, _, rfl⟩ ?_ ?_
    · rintro dn ⟨x, y⟩ q ρ ez ⟨a8, a9, a10, rfl⟩
      refine ⟨_, rfl, ?_⟩
      have key : (gT x = true ∧ hgt x ≤ 4) ∧ gT y = true ∧ hgt y ≤ 4 := by
        have : (x, y) ∈ [(c, o), (c, Th.tru), (Th.tru, c), (Th.tru, Th.tru)] := by rw [ez]; simp
        simp only [List.mem_cons, List.not_mem_nil, or_false, Prod.mk.injEq] at this
        have z : hgt Th.tru ≤ 4 := by decide
        rcases this with ⟨rfl, rfl⟩ | ⟨rfl, rfl⟩ | ⟨rfl, rfl⟩ | ⟨rfl, rfl⟩
        · exact ⟨⟨c1, c3⟩, o1, by omega⟩
        · exact ⟨⟨c1, c3⟩, rfl, z⟩
        · exact ⟨⟨rfl, z⟩, c1, c3⟩
        · exact ⟨⟨rfl, z⟩, rfl, z⟩
      exact (two_ok key.1.1 key.2.1 key.1.2 key.2.2).mono fun o ⟨b8, ho⟩ => ⟨_, .inl ho, _, _, _, rfl⟩
    · rintro ρ' ⟨a8, a9, a10, rfl⟩
      exact ok_nil ⟨_, .inl rfl, _, _, _, _, _, _, _, _, _, rfl⟩
theorem all : Ok (exs (run F 22) [none, none, none, none, none, none, none, none, none, none, none] lawB) fun o => o = .rt (.bl true) := by
  refine ok_forM (zs := [0, 1, 2, 3, 4, 5]) (e := D.int) (xs := [.int 0, .int 1, .int 2, .int 3, .int 4, .int 5]) rfl (by kernel_rfl) (fun _ ρ => Env ρ) ⟨_, _, _, _, _, _, _, _, _, rfl⟩ ?_ ?_
  · rintro dn x q ρ ez ⟨a2, a3, a4, a5, a6, a7, a8, a9, a10, rfl⟩
    exact ⟨_, rfl, turn⟩
  · rintro ρ' ⟨a2, a3, a4, a5, a6, a7, a8, a9, a10, rfl⟩
    exact st_ret (P := fun d => d = .bl true) (ok_ret rfl) fun d hd => by rw [hd]
theorem plain (ns : List Int) (h : ns.length ≤ 63) : ∃ b, exs (run (Ft es) 22) (List.replicate lawN.length none) lawB (bag0 ns) = some (.rt (.bl true), b) := by
  obtain ⟨o, b, e, rfl⟩ := all (bag0 ns)
  exact ⟨b, e⟩
end K06

set_option Elab.async false
set_option linter.all false
set_option maxRecDepth 100000
set_option maxHeartbeats 0
namespace K06
open PySem PySem.Spec PyProof.Rows L2 Dn
def fn : List He.DefD := defsIn Rw.prog.main.body
def freeS : List String := ["len", "tuple", "list", "dict", "sorted", "abs", "int", "str", "repr", "all", "any", "sum", "isinstance", "range", "enumerate", "zip", "bool", "set"]
def fa : List He.Fa := (fn.map fun d => He.Fa.glo d.name) ++ freeS.map fun x => He.Fa.free (Str.ofString x)
abbrev R : PySem.W.OpenRow := PySem.W.OpenLaw.row Rw
abbrev hk : PySem.W.Hook := hookS 4 cs fa fn
def ob (s : PySem.W.SharedT) : AlS := obsSG 4 cs fa fn (HandSHeadRun.getT s)
theorem ob_eq (s : PySem.W.SharedT) : ob s = hk.obs s.abs := obsSG_eq (HandSHeadRun.getT_eq s)
def loose : List Str := cs.map (·.1) ++ (fn.map fun d => d.name).dropLast
theorem headRun (w : World) : HandSHeadRun.RunEq R (PySem.W.view R.prog [36]) hk ob 2000 loose w := by
  intro os
  kernel_rfl
theorem cks : (es.all fun e => ckDef es e) = true := by decide +kernel
theorem lawck : lawOk es lawD lawN "_law_bag" lawB = true := by decide +kernel
theorem bagck : bagB bagD "_law_script" "_law_cell" = true := by decide +kernel
theorem inFn : (es.all fun e => (fn.map fun d => d.name).contains e.d.name) = true := by decide +kernel
theorem bd0 : ∀ (kV doc pm : Value) (an : Option Addr) (cdv ct : Value) (us : List Value), us.length = (pars e0).length → bindArgs (PySem.W.fnOf e0.d.name e0.d.qual e0.d.params e0.d.body e0.d.scope .none kV doc pm an cdv ct) ⟨us, []⟩ = pure ((pars e0).zip us) := by
  intro kV doc pm an cdv ct us hl
  have hl : us.length = 1 := hl
  match us, hl with
  | [_], _ => kernel_rfl
theorem bd1 : ∀ (kV doc pm : Value) (an : Option Addr) (cdv ct : Value) (us : List Value), us.length = (pars e1).length → bindArgs (PySem.W.fnOf e1.d.name e1.d.qual e1.d.params e1.d.body e1.d.scope .none kV doc pm an cdv ct) ⟨us, []⟩ = pure ((pars e1).zip us) := by
  intro kV doc pm an cdv ct us hl
  have hl : us.length = 1 := hl
  match us, hl with
  | [_], _ => kernel_rfl
theorem bd2 : ∀ (kV doc pm : Value) (an : Option Addr) (cdv ct : Value) (us : List Value), us.length = (pars e2).length → bindArgs (PySem.W.fnOf e2.d.name e2.d.qual e2.d.params e2.d.body e2.d.scope .none kV doc pm an cdv ct) ⟨us, []⟩ = pure ((pars e2).zip us) := by
  intro kV doc pm an cdv ct us hl
  have hl : us.length = 1 := hl
  match us, hl with
  | [_], _ => kernel_rfl
theorem bd3 : ∀ (kV doc pm : Value) (an : Option Addr) (cdv ct : Value) (us : List Value), us.length = (pars e3).length → bindArgs (PySem.W.fnOf e3.d.name e3.d.qual e3.d.params e3.d.body e3.d.scope .none kV doc pm an cdv ct) ⟨us, []⟩ = pure ((pars e3).zip us) := by
  intro kV doc pm an cdv ct us hl
  have hl : us.length = 1 := hl
  match us, hl with
  | [_], _ => kernel_rfl
theorem bd4 : ∀ (kV doc pm : Value) (an : Option Addr) (cdv ct : Value) (us : List Value), us.length = (pars e4).length → bindArgs (PySem.W.fnOf e4.d.name e4.d.qual e4.d.params e4.d.body e4.d.scope .none kV doc pm an cdv ct) ⟨us, []⟩ = pure ((pars e4).zip us) := by
  intro kV doc pm an cdv ct us hl
  have hl : us.length = 3 := hl
  match us, hl with
  | [_, _, _], _ => kernel_rfl
theorem bd5 : ∀ (kV doc pm : Value) (an : Option Addr) (cdv ct : Value) (us : List Value), us.length = (pars e5).length → bindArgs (PySem.W.fnOf e5.d.name e5.d.qual e5.d.params e5.d.body e5.d.scope .none kV doc pm an cdv ct) ⟨us, []⟩ = pure ((pars e5).zip us) := by
  intro kV doc pm an cdv ct us hl
  have hl : us.length = 2 := hl
  match us, hl with
  | [_, _], _ => kernel_rfl
theorem bd6 : ∀ (kV doc pm : Value) (an : Option Addr) (cdv ct : Value) (us : List Value), us.length = (pars e6).length → bindArgs (PySem.W.fnOf e6.d.name e6.d.qual e6.d.params e6.d.body e6.d.scope .none kV doc pm an cdv ct) ⟨us, []⟩ = pure ((pars e6).zip us) := by
  intro kV doc pm an cdv ct us hl
  have hl : us.length = 2 := hl
  match us, hl with
  | [_, _], _ => kernel_rfl
theorem bd7 : ∀ (kV doc pm : Value) (an : Option Addr) (cdv ct : Value) (us : List Value), us.length = (pars e7).length → bindArgs (PySem.W.fnOf e7.d.name e7.d.qual e7.d.params e7.d.body e7.d.scope .none kV doc pm an cdv ct) ⟨us, []⟩ = pure ((pars e7).zip us) := by
  intro kV doc pm an cdv ct us hl
  have hl : us.length = 1 := hl
  match us, hl with
  | [_], _ => kernel_rfl
theorem bd8 : ∀ (kV doc pm : Value) (an : Option Addr) (cdv ct : Value) (us : List Value), us.length = (pars e8).length → bindArgs (PySem.W.fnOf e8.d.name e8.d.qual e8.d.params e8.d.body e8.d.scope .none kV doc pm an cdv ct) ⟨us, []⟩ = pure ((pars e8).zip us) := by
  intro kV doc pm an cdv ct us hl
  have hl : us.length = 2 := hl
  match us, hl with
  | [_, _], _ => kernel_rfl
theorem bd9 : ∀ (kV doc pm : Value) (an : Option Addr) (cdv ct : Value) (us : List Value), us.length = (pars e9).length → bindArgs (PySem.W.fnOf e9.d.name e9.d.qual e9.d.params e9.d.body e9.d.scope .none kV doc pm an cdv ct) ⟨us, []⟩ = pure ((pars e9).zip us) := by
  intro kV doc pm an cdv ct us hl
  have hl : us.length = 2 := hl
  match us, hl with
  | [_, _], _ => kernel_rfl
theorem bd10 : ∀ (kV doc pm : Value) (an : Option Addr) (cdv ct : Value) (us : List Value), us.length = (pars e10).length → bindArgs (PySem.W.fnOf e10.d.name e10.d.qual e10.d.params e10.d.body e10.d.scope .none kV doc pm an cdv ct) ⟨us, []⟩ = pure ((pars e10).zip us) := by
  intro kV doc pm an cdv ct us hl
  have hl : us.length = 2 := hl
  match us, hl with
  | [_, _], _ => kernel_rfl
theorem bd11 : ∀ (kV doc pm : Value) (an : Option Addr) (cdv ct : Value) (us : List Value), us.length = (pars e11).length → bindArgs (PySem.W.fnOf e11.d.name e11.d.qual e11.d.params e11.d.body e11.d.scope .none kV doc pm an cdv ct) ⟨us, []⟩ = pure ((pars e11).zip us) := by
  intro kV doc pm an cdv ct us hl
  have hl : us.length = 2 := hl
  match us, hl with
  | [_, _], _ => kernel_rfl
theorem bd12 : ∀ (kV doc pm : Value) (an : Option Addr) (cdv ct : Value) (us : List Value), us.length = (pars e12).length → bindArgs (PySem.W.fnOf e12.d.name e12.d.qual e12.d.params e12.d.body e12.d.scope .none kV doc pm an cdv ct) ⟨us, []⟩ = pure ((pars e12).zip us) := by
  intro kV doc pm an cdv ct us hl
  have hl : us.length = 0 := hl
  match us, hl with
  | [], _ => kernel_rfl
theorem bd13 : ∀ (kV doc pm : Value) (an : Option Addr) (cdv ct : Value) (us : List Value), us.length = (pars e13).length → bindArgs (PySem.W.fnOf e13.d.name e13.d.qual e13.d.params e13.d.body e13.d.scope .none kV doc pm an cdv ct) ⟨us, []⟩ = pure ((pars e13).zip us) := by
  intro kV doc pm an cdv ct us hl
  have hl : us.length = 1 := hl
  match us, hl with
  | [_], _ => kernel_rfl
theorem bd14 : ∀ (kV doc pm : Value) (an : Option Addr) (cdv ct : Value) (us : List Value), us.length = (pars e14).length → bindArgs (PySem.W.fnOf e14.d.name e14.d.qual e14.d.params e14.d.body e14.d.scope .none kV doc pm an cdv ct) ⟨us, []⟩ = pure ((pars e14).zip us) := by
  intro kV doc pm an cdv ct us hl
  have hl : us.length = 3 := hl
  match us, hl with
  | [_, _, _], _ => kernel_rfl
theorem bd15 : ∀ (kV doc pm : Value) (an : Option Addr) (cdv ct : Value) (us : List Value), us.length = (pars e15).length → bindArgs (PySem.W.fnOf e15.d.name e15.d.qual e15.d.params e15.d.body e15.d.scope .none kV doc pm an cdv ct) ⟨us, []⟩ = pure ((pars e15).zip us) := by
  intro kV doc pm an cdv ct us hl
  have hl : us.length = 1 := hl
  match us, hl with
  | [_], _ => kernel_rfl
theorem bd16 : ∀ (kV doc pm : Value) (an : Option Addr) (cdv ct : Value) (us : List Value), us.length = (pars e16).length → bindArgs (PySem.W.fnOf e16.d.name e16.d.qual e16.d.params e16.d.body e16.d.scope .none kV doc pm an cdv ct) ⟨us, []⟩ = pure ((pars e16).zip us) := by
  intro kV doc pm an cdv ct us hl
  have hl : us.length = 1 := hl
  match us, hl with
  | [_], _ => kernel_rfl
theorem bd17 : ∀ (kV doc pm : Value) (an : Option Addr) (cdv ct : Value) (us : List Value), us.length = (pars e17).length → bindArgs (PySem.W.fnOf e17.d.name e17.d.qual e17.d.params e17.d.body e17.d.scope .none kV doc pm an cdv ct) ⟨us, []⟩ = pure ((pars e17).zip us) := by
  intro kV doc pm an cdv ct us hl
  have hl : us.length = 1 := hl
  match us, hl with
  | [_], _ => kernel_rfl
theorem bd18 : ∀ (kV doc pm : Value) (an : Option Addr) (cdv ct : Value) (us : List Value), us.length = (pars e18).length → bindArgs (PySem.W.fnOf e18.d.name e18.d.qual e18.d.params e18.d.body e18.d.scope .none kV doc pm an cdv ct) ⟨us, []⟩ = pure ((pars e18).zip us) := by
  intro kV doc pm an cdv ct us hl
  have hl : us.length = 1 := hl
  match us, hl with
  | [_], _ => kernel_rfl
theorem bd19 : ∀ (kV doc pm : Value) (an : Option Addr) (cdv ct : Value) (us : List Value), us.length = (pars e19).length → bindArgs (PySem.W.fnOf e19.d.name e19.d.qual e19.d.params e19.d.body e19.d.scope .none kV doc pm an cdv ct) ⟨us, []⟩ = pure ((pars e19).zip us) := by
  intro kV doc pm an cdv ct us hl
  have hl : us.length = 1 := hl
  match us, hl with
  | [_], _ => kernel_rfl
theorem bd20 : ∀ (kV doc pm : Value) (an : Option Addr) (cdv ct : Value) (us : List Value), us.length = (pars e20).length → bindArgs (PySem.W.fnOf e20.d.name e20.d.qual e20.d.params e20.d.body e20.d.scope .none kV doc pm an cdv ct) ⟨us, []⟩ = pure ((pars e20).zip us) := by
  intro kV doc pm an cdv ct us hl
  have hl : us.length = 1 := hl
  match us, hl with
  | [_], _ => kernel_rfl
theorem bd21 : ∀ (kV doc pm : Value) (an : Option Addr) (cdv ct : Value) (us : List Value), us.length = (pars e21).length → bindArgs (PySem.W.fnOf e21.d.name e21.d.qual e21.d.params e21.d.body e21.d.scope .none kV doc pm an cdv ct) ⟨us, []⟩ = pure ((pars e21).zip us) := by
  intro kV doc pm an cdv ct us hl
  have hl : us.length = 1 := hl
  match us, hl with
  | [_], _ => kernel_rfl
theorem bd22 : ∀ (kV doc pm : Value) (an : Option Addr) (cdv ct : Value) (us : List Value), us.length = (pars e22).length → bindArgs (PySem.W.fnOf e22.d.name e22.d.qual e22.d.params e22.d.body e22.d.scope .none kV doc pm an cdv ct) ⟨us, []⟩ = pure ((pars e22).zip us) := by
  intro kV doc pm an cdv ct us hl
  have hl : us.length = 1 := hl
  match us, hl with
  | [_], _ => kernel_rfl
theorem bd23 : ∀ (kV doc pm : Value) (an : Option Addr) (cdv ct : Value) (us : List Value), us.length = (pars e23).length → bindArgs (PySem.W.fnOf e23.d.name e23.d.qual e23.d.params e23.d.body e23.d.scope .none kV doc pm an cdv ct) ⟨us, []⟩ = pure ((pars e23).zip us) := by
  intro kV doc pm an cdv ct us hl
  have hl : us.length = 2 := hl
  match us, hl with
  | [_, _], _ => kernel_rfl
theorem bd24 : ∀ (kV doc pm : Value) (an : Option Addr) (cdv ct : Value) (us : List Value), us.length = (pars e24).length → bindArgs (PySem.W.fnOf e24.d.name e24.d.qual e24.d.params e24.d.body e24.d.scope .none kV doc pm an cdv ct) ⟨us, []⟩ = pure ((pars e24).zip us) := by
  intro kV doc pm an cdv ct us hl
  have hl : us.length = 2 := hl
  match us, hl with
  | [_, _], _ => kernel_rfl
theorem bd25 : ∀ (kV doc pm : Value) (an : Option Addr) (cdv ct : Value) (us : List Value), us.length = (pars e25).length → bindArgs (PySem.W.fnOf e25.d.name e25.d.qual e25.d.params e25.d.body e25.d.scope .none kV doc pm an cdv ct) ⟨us, []⟩ = pure ((pars e25).zip us) := by
  intro kV doc pm an cdv ct us hl
  have hl : us.length = 1 := hl
  match us, hl with
  | [_], _ => kernel_rfl
theorem bd26 : ∀ (kV doc pm : Value) (an : Option Addr) (cdv ct : Value) (us : List Value), us.length = (pars e26).length → bindArgs (PySem.W.fnOf e26.d.name e26.d.qual e26.d.params e26.d.body e26.d.scope .none kV doc pm an cdv ct) ⟨us, []⟩ = pure ((pars e26).zip us) := by
  intro kV doc pm an cdv ct us hl
  have hl : us.length = 3 := hl
  match us, hl with
  | [_, _, _], _ => kernel_rfl
theorem bd27 : ∀ (kV doc pm : Value) (an : Option Addr) (cdv ct : Value) (us : List Value), us.length = (pars e27).length → bindArgs (PySem.W.fnOf e27.d.name e27.d.qual e27.d.params e27.d.body e27.d.scope .none kV doc pm an cdv ct) ⟨us, []⟩ = pure ((pars e27).zip us) := by
  intro kV doc pm an cdv ct us hl
  have hl : us.length = 3 := hl
  match us, hl with
  | [_, _, _], _ => kernel_rfl
theorem bd28 : ∀ (kV doc pm : Value) (an : Option Addr) (cdv ct : Value) (us : List Value), us.length = (pars e28).length → bindArgs (PySem.W.fnOf e28.d.name e28.d.qual e28.d.params e28.d.body e28.d.scope .none kV doc pm an cdv ct) ⟨us, []⟩ = pure ((pars e28).zip us) := by
  intro kV doc pm an cdv ct us hl
  have hl : us.length = 3 := hl
  match us, hl with
  | [_, _, _], _ => kernel_rfl
theorem bd29 : ∀ (kV doc pm : Value) (an : Option Addr) (cdv ct : Value) (us : List Value), us.length = (pars e29).length → bindArgs (PySem.W.fnOf e29.d.name e29.d.qual e29.d.params e29.d.body e29.d.scope .none kV doc pm an cdv ct) ⟨us, []⟩ = pure ((pars e29).zip us) := by
  intro kV doc pm an cdv ct us hl
  have hl : us.length = 3 := hl
  match us, hl with
  | [_, _, _], _ => kernel_rfl
theorem bd30 : ∀ (kV doc pm : Value) (an : Option Addr) (cdv ct : Value) (us : List Value), us.length = (pars e30).length → bindArgs (PySem.W.fnOf e30.d.name e30.d.qual e30.d.params e30.d.body e30.d.scope .none kV doc pm an cdv ct) ⟨us, []⟩ = pure ((pars e30).zip us) := by
  intro kV doc pm an cdv ct us hl
  have hl : us.length = 2 := hl
  match us, hl with
  | [_, _], _ => kernel_rfl
theorem bdBag : ∀ (kV doc pm : Value) (an : Option Addr) (cdv ct : Value) (us : List Value), us.length = ((["_law_script"] : List Str)).length → bindArgs (PySem.W.fnOf bagD.name bagD.qual bagD.params bagD.body bagD.scope .none kV doc pm an cdv ct) ⟨us, []⟩ = pure (((["_law_script"] : List Str)).zip us) := by
  intro kV doc pm an cdv ct us hl
  have hl : us.length = 1 := hl
  match us, hl with
  | [_], _ => kernel_rfl
theorem bdLaw : ∀ (kV doc pm : Value) (an : Option Addr) (cdv ct : Value) (us : List Value), us.length = (lawN.take 1).length → bindArgs (PySem.W.fnOf lawD.name lawD.qual lawD.params lawD.body lawD.scope .none kV doc pm an cdv ct) ⟨us, []⟩ = pure ((lawN.take 1).zip us) := by
  intro kV doc pm an cdv ct us hl
  have hl : us.length = 1 := hl
  match us, hl with
  | [_], _ => kernel_rfl
theorem faGlo : ∀ d ∈ fn, He.Fa.glo d.name ∈ fa := fun d hd => List.mem_append_left _ (List.mem_map.mpr ⟨d, hd, rfl⟩)
theorem faFree : ∀ x ∈ freeS, He.Fa.free (Str.ofString x) ∈ fa := fun x hx => List.mem_append_right _ (List.mem_map.mpr ⟨x, hx, rfl⟩)
theorem fnLen : fn.length = 33 := by decide +kernel
theorem dMem {i : Nat} (h : i < 33) : dAt i ∈ fn := getD_mem (by show i < fn.length; rw [fnLen]; exact h)
theorem modOk {K : PySem.W.Frag} {h : Heap} {mg : Str → Option Value} (KX : K.In h) (G : h.Ns mainGlobals mg) (c : SaysS cs fa fn K) : ModOk K mg es := by
  have D : ∀ {d : He.DefD}, d ∈ fn → ∃ fd, FunD K d.name d.qual d.params d.body d.scope [] [] (He.ga K d.name) fd ∧ mg d.name = some (.ref (He.ga K d.name)) := fun hd => says_def KX G c.d faGlo hd
  refine ⟨c.sys, fun x hx => He.free_ok KX G (says_all c.d _ (faFree x hx)), fun e he => ?_, fun e he p hp => c.con KX G p (by
    simp only [es, List.mem_cons, List.not_mem_nil, or_false] at he
    rcases he with rfl | rfl | rfl | rfl | rfl | rfl | rfl | rfl | rfl | rfl | rfl | rfl | rfl | rfl | rfl | rfl | rfl | rfl | rfl | rfl | rfl | rfl | rfl | rfl | rfl | rfl | rfl | rfl | rfl | rfl | rfl <;> exact hp)⟩
  have mk : ∀ (e : Ent), e.d ∈ fn → (∀ (kV doc pm : Value) (an : Option Addr) (cdv ct : Value) (us : List Value), us.length = (pars e).length → bindArgs (PySem.W.fnOf e.d.name e.d.qual e.d.params e.d.body e.d.scope .none kV doc pm an cdv ct) ⟨us, []⟩ = pure ((pars e).zip us)) → ∃ f fd, EntOk K mg e f fd := fun e hd b => by
    obtain ⟨fd, F, g⟩ := D hd
    exact ⟨_, fd, F, g, F.bindsN b⟩
  simp only [es, List.mem_cons, List.not_mem_nil, or_false] at he
  rcases he with rfl | rfl | rfl | rfl | rfl | rfl | rfl | rfl | rfl | rfl | rfl | rfl | rfl | rfl | rfl | rfl | rfl | rfl | rfl | rfl | rfl | rfl | rfl | rfl | rfl | rfl | rfl | rfl | rfl | rfl | rfl
  · exact mk e0 (dMem (i := 0) (by decide)) bd0
  · exact mk e1 (dMem (i := 1) (by decide)) bd1
  · exact mk e2 (dMem (i := 2) (by decide)) bd2
  · exact mk e3 (dMem (i := 3) (by decide)) bd3
  · exact mk e4 (dMem (i := 4) (by decide)) bd4
  · exact mk e5 (dMem (i := 5) (by decide)) bd5
  · exact mk e6 (dMem (i := 6) (by decide)) bd6
  · exact mk e7 (dMem (i := 7) (by decide)) bd7
  · exact mk e8 (dMem (i := 9) (by decide)) bd8
  · exact mk e9 (dMem (i := 10) (by decide)) bd9
  · exact mk e10 (dMem (i := 11) (by decide)) bd10
  · exact mk e11 (dMem (i := 12) (by decide)) bd11
  · exact mk e12 (dMem (i := 13) (by decide)) bd12
  · exact mk e13 (dMem (i := 14) (by decide)) bd13
  · exact mk e14 (dMem (i := 15) (by decide)) bd14
  · exact mk e15 (dMem (i := 16) (by decide)) bd15
  · exact mk e16 (dMem (i := 17) (by decide)) bd16
  · exact mk e17 (dMem (i := 18) (by decide)) bd17
  · exact mk e18 (dMem (i := 19) (by decide)) bd18
  · exact mk e19 (dMem (i := 20) (by decide)) bd19
  · exact mk e20 (dMem (i := 21) (by decide)) bd20
  · exact mk e21 (dMem (i := 22) (by decide)) bd21
  · exact mk e22 (dMem (i := 23) (by decide)) bd22
  · exact mk e23 (dMem (i := 24) (by decide)) bd23
  · exact mk e24 (dMem (i := 25) (by decide)) bd24
  · exact mk e25 (dMem (i := 26) (by decide)) bd25
  · exact mk e26 (dMem (i := 27) (by decide)) bd26
  · exact mk e27 (dMem (i := 28) (by decide)) bd27
  · exact mk e28 (dMem (i := 29) (by decide)) bd28
  · exact mk e29 (dMem (i := 30) (by decide)) bd29
  · exact mk e30 (dMem (i := 31) (by decide)) bd30
theorem noTake : ∀ e ∈ es, e.m ≠ .take := by
  intro e he
  simp only [es, List.mem_cons, List.not_mem_nil, or_false] at he
  rcases he with rfl | rfl | rfl | rfl | rfl | rfl | rfl | rfl | rfl | rfl | rfl | rfl | rfl | rfl | rfl | rfl | rfl | rfl | rfl | rfl | rfl | rfl | rfl | rfl | rfl | rfl | rfl | rfl | rfl | rfl | rfl <;> exact fun z => by cases z
theorem lawGn {P : Program} {w : World} {K : PySem.W.Frag} {h : Heap} {mg : Str → Option Value} {f : Addr} (KX : K.In h) (G : h.Ns mainGlobals mg) (hf : mg lawD.name = some (.ref f)) (c : SaysS cs fa fn K) :
    ∃ fd : FuncData, (∀ (s : Shared) (u : Value), BindsTo s fd ⟨[u], []⟩ [(("_law_script" : Str), u)]) ∧ ∀ base : Heap, K.In base → base.Ns mainGlobals mg → Gn P w K mg base 23 f fd [("_law_script" : Str)] (wantLaw K es 22 lawN lawB) := by
  have M := modOk KX G c
  have hL : lawD ∈ fn := dMem (i := 32) (by decide)
  have hB : bagD ∈ fn := dMem (i := 8) (by decide)
  obtain ⟨fd, F, g⟩ := says_def KX G c.d faGlo hL
  obtain ⟨fdb, Fb, gb⟩ := says_def KX G c.d faGlo hB
  rw [g] at hf
  cases hf
  refine ⟨fd, fun s u => FunD.bindsA F bdLaw s [u] rfl, fun base _ _ => ?_⟩
  exact gn_law (P := P) (w := w) (base := base) M (List.all_eq_true.mp cks) F lawck noTake (gn_bag M Fb bagck 21) gb Fb.kp (Fb.bindsN bdBag)
end K06
open PySem PySem.W PySem.Calls PyProof.Rows
theorem PySem.Challenge.cw_everyversion_k06_whole_what_is_put_in_holds : PySem.Challenge.rw_everyversion_k06_whole_what_is_put_in.Holds := by
  w_on; o_law
  refine HandSHeadRun.head_any (r := OpenLaw.row PySem.Challenge.rw_everyversion_k06_whole_what_is_put_in) (q := view (OpenLaw.row PySem.Challenge.rw_everyversion_k06_whole_what_is_put_in).prog [36]) (H := K06.hk) (ob := K06.ob) (M := 2000) (loose := K06.loose)
    (d := HandSHeadRun.topDef (OpenLaw.row PySem.Challenge.rw_everyversion_k06_whole_what_is_put_in).prog 36) (kwd := []) K06.ob_eq
    (by kernel_rfl) (fun s => by kernel_rfl) K06.headRun (by kernel_rfl) (by kernel_rfl) (by kernel_rfl) (by rfl) (by first | assumption | decide +kernel) (by decide +kernel) ⟨rfl, rfl, rfl, rfl, rfl, by decide +kernel⟩ ?hw ?hc
  case hw => w_witness2
  case hc =>
    refine Dn.walkG (l := PySem.Challenge.rw_everyversion_k06_whole_what_is_put_in) (n := 63) (k := 23) (x := "_law_script") rfl (by decide) (by kernel_rfl) ⟨rfl, by decide, by decide⟩ ?F
    intro w mg fa h Y G hmg0
    obtain ⟨K, KX, c⟩ := Y
    have hmg : mg K06.lawD.name = some (.ref fa) := by
      have e : (HandSHeadRun.topDef (OpenLaw.row PySem.Challenge.rw_everyversion_k06_whole_what_is_put_in).prog 36).name = K06.lawD.name := by kernel_rfl
      rw [← e]
      exact hmg0
    obtain ⟨fd, hb, hF⟩ := K06.lawGn (P := (PySem.Challenge.rw_everyversion_k06_whole_what_is_put_in).prog) (w := w) KX G hmg c
    exact ⟨K, fd, _, KX, hb, fun H a ns hl _ hS => ⟨a, ns, rfl, hS, K06.plain ns hl, fun _ => rfl⟩, hF⟩
