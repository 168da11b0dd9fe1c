import PyProof.Rows.All
import Wide.All
import OpenK.AllK
import Wide.FinOn
import HandS.Base
import HandS.Call
import HandS.List
import HandS.Comp
import HandS.Ends
import HandS.Dict
import HandS.Iter
import HandS.Text
import HandS.Words
import HandS.WordsList
import HandS.Flow
import HandS.IsInst
import HandS.Style
import HandS.Walk
import HandS.Conv
import HandS.Defaults
import HandS.DictComp
import HandS.Wide
import HandS.More
import HandS.RaiseMore
import KE.DataEq
import KE.SortData
import HandS.Zip
import PyProof.Draws
import HandS.TupAny
import HandS.NoneIn
import KE.KDictPairs
import HandS.Strs
import HandS.Small
import HandS.Head0
import HandS.Head1
import HandS.Head2
import HandS.HeadHook1
import HandS.HeadHook2
import HandS.HeadEnd
import KE.KStateDown
import Lean
import HandS.WordsExc
import PySem.Challenge.RW_everyversion_k05_schemas_looked_into
set_option Elab.async false
set_option linter.all false
set_option maxRecDepth 100000
/-! Dn, part A: pure data D, its operations, a small syntax, its evaluator. -/
namespace Dn
open PySem L2

/-! ### data -/
/-- Python's values as plain data -/
inductive D where
  | non | bl (b : Bool) | int (i : Int) | str (s : Str) | tup (xs : List D) | lst (xs : List D) | dct (kvs : List (D × D)) | ins (k : Nat)
  deriving Inhabited

mutual
/-- equal as Python says (True == 1) -/
def eqD : D → D → Bool
  | .non, .non => true
  | .bl a, .bl b => a == b
  | .bl a, .int i => (if a then 1 else 0) == i
  | .int i, .bl a => i == (if a then 1 else 0)
  | .int i, .int j => i == j
  | .str x, .str y => x == y
  | .tup xs, .tup ys => eqDs xs ys
  | .lst xs, .lst ys => eqDs xs ys
  | .dct a, .dct b => a.length == b.length && hitD a b
  | _, _ => false
def eqDs : List D → List D → Bool
  | [], [] => true
  | x :: xs, y :: ys => eqD x y && eqDs xs ys
  | _, _ => false
def hitD : List (D × D) → List (D × D) → Bool
  | [], _ => true
  | (k, v) :: r, b => (match b.find? (fun p => eqD k p.1) with
    | some p => eqD v p.2
    | none => false) && hitD r b
end

mutual
/-- as the library's data; an own instance has none -/
def toP : D → PyData
  | .non => .none
  | .bl b => .bool b
  | .int i => .int i
  | .str s => .str s
  | .tup xs => .tuple (toPs xs)
  | .lst xs => .list (toPs xs)
  | .dct kvs => .dict (toPk kvs)
  | .ins _ => .none
def toPs : List D → List PyData
  | [] => []
  | x :: xs => toP x :: toPs xs
def toPk : List (D × D) → List (PyData × PyData)
  | [] => []
  | (k, v) :: r => (toP k, toP v) :: toPk r
end

mutual
/-- how deep it is nested -/
def dep : D → Nat
  | .tup xs => deps xs + 1
  | .lst xs => deps xs + 1
  | .dct kvs => depk kvs + 1
  | _ => 0
def deps : List D → Nat
  | [] => 0
  | x :: xs => max (dep x) (deps xs)
def depk : List (D × D) → Nat
  | [] => 0
  | (k, v) :: r => max (max (dep k) (dep v)) (depk r)
end

mutual
/-- no dict, no instance within -/
def flat : D → Bool
  | .tup xs => flats xs
  | .lst xs => flats xs
  | .dct _ => false
  | .ins _ => false
  | _ => true
def flats : List D → Bool
  | [] => true
  | x :: xs => flat x && flats xs
end
mutual
/-- no instance within -/
def noIns : D → Bool
  | .tup xs => noInss xs
  | .lst xs => noInss xs
  | .dct kvs => noInsk kvs
  | .ins _ => false
  | _ => true
def noInss : List D → Bool
  | [] => true
  | x :: xs => noIns x && noInss xs
def noInsk : List (D × D) → Bool
  | [] => true
  | (k, v) :: r => noIns k && noIns v && noInsk r
end

/-! ### dicts: keys are ints and texts -/
def isKey : D → Bool
  | .int _ => true
  | .str _ => true
  | _ => false
/-- the same key, ints and texts -/
def keq : D → D → Bool
  | .int i, .int j => i == j
  | .str x, .str y => x == y
  | _, _ => false
def dget (kvs : List (D × D)) (k : D) : Option D := (kvs.find? fun p => keq p.1 k).map (·.2)
def dhas (kvs : List (D × D)) (k : D) : Bool := kvs.any fun p => keq p.1 k
def dput (kvs : List (D × D)) (k v : D) : List (D × D) :=
  if dhas kvs k then kvs.map fun p => if keq p.1 k then (p.1, v) else p else kvs ++ [(k, v)]
def ddrop (kvs : List (D × D)) (k : D) : List (D × D) := kvs.filter fun p => !keq p.1 k

/-! ### operations -/
abbrev line : Nat := 16777216
inductive Bo where | add | sub | mul | fdiv | mod | pow
  deriving DecidableEq
def smallI (i : Int) : Bool := decide (-(2 ^ 64) < i) && decide (i < 2 ^ 64)
def binD : Bo → D → D → Option D
  | .add, .int i, .int j => some (.int (i + j))
  | .add, .str x, .str y => if x.length + y.length ≤ line then some (.str (x ++ y)) else none
  | .add, .lst x, .lst y => if x.length + y.length ≤ line then some (.lst (x ++ y)) else none
  | .add, .tup x, .tup y => if x.length + y.length ≤ line then some (.tup (x ++ y)) else none
  | .sub, .int i, .int j => some (.int (i - j))
  | .mul, .int i, .int j => if smallI i || smallI j then some (.int (i * j)) else none
  | .fdiv, .int i, .int j => if j ≠ 0 ∧ j.natAbs < 1073741824 then some (.int (i.fdiv j)) else none
  | .mod, .int i, .int j => if j ≠ 0 then some (.int (i.fmod j)) else none
  | .pow, .int i, .int j => if 0 ≤ j ∧ j ≤ 1000000 ∧ i.natAbs < 2 ^ 64 then some (.int (i ^ j.toNat)) else none
  | _, _, _ => none
inductive Co where | eq | ne | lt | le | gt | ge | isin | notin
  deriving DecidableEq
/-- s within t -/
def subS (s t : Str) : Bool := !(Builtin.Str.occurrences t s 0 t.length 1).isEmpty
def strLt (x y : Str) : Bool := decide (x.cps.toList < y.cps.toList)
def roomy (a b : D) : Bool := decide (min (dep a) (dep b) ≤ 60)
/-- a == b as the layer can run it -/
def eqOk (a b : D) : Bool := flat a && flat b && roomy a b
def inOk (x : D) (ys : List D) : Bool := flat x && ys.all fun y => eqOk y x
def cmpD : Co → D → D → Option Bool
  | .eq, a, b => if eqOk a b then some (eqD a b) else none
  | .ne, a, b => if eqOk a b then some (!eqD a b) else none
  | .lt, .int i, .int j => some (decide (i < j))
  | .le, .int i, .int j => some (decide (i ≤ j))
  | .gt, .int i, .int j => some (decide (j < i))
  | .ge, .int i, .int j => some (decide (j ≤ i))
  | .lt, .str i, .str j => some (strLt i j)
  | .isin, x, .lst ys => if inOk x ys then some (ys.any fun y => eqD y x) else none
  | .isin, x, .tup ys => if inOk x ys then some (ys.any fun y => eqD y x) else none
  | .isin, .str x, .str y => some (subS x y)
  | .isin, k, .dct kvs => if isKey k then some (dhas kvs k) else none
  | .notin, x, .lst ys => if inOk x ys then some (!ys.any fun y => eqD y x) else none
  | .notin, x, .tup ys => if inOk x ys then some (!ys.any fun y => eqD y x) else none
  | .notin, .str x, .str y => some (!subS x y)
  | .notin, k, .dct kvs => if isKey k then some (!dhas kvs k) else none
  | _, _, _ => none
def cutG {α : Type} (xs : List α) (lo hi : Option Int) : List α := (xs.drop (HT.sIx xs.length 0 lo)).take (HT.sIx xs.length xs.length hi - HT.sIx xs.length 0 lo)
/-- o[i] -/
def idxD : D → D → Option D
  | .lst xs, .int i => atI xs i
  | .tup xs, .int i => atI xs i
  | .str s, .int i => (atI s.cps.toList i).map fun c => .str ⟨#[c]⟩
  | .dct kvs, k => if isKey k then dget kvs k else none
  | _, _ => none
def slcD : D → Option Int → Option Int → Option D
  | .lst xs, l, h => some (.lst (cutG xs l h))
  | .tup xs, l, h => some (.tup (cutG xs l h))
  | .str s, l, h => some (.str (cutS s l h))
  | _, _, _ => none
inductive Ty where | int | str | bool | tuple | list | dict
  deriving DecidableEq
def Ty.name : Ty → Str
  | .int => "int" | .str => "str" | .bool => "bool" | .tuple => "tuple" | .list => "list" | .dict => "dict"
def isiD : D → Ty → Bool
  | .bl _, .bool => true
  | .bl _, .int => true
  | .int _, .int => true
  | .str _, .str => true
  | .tup _, .tuple => true
  | .lst _, .list => true
  | .dct _, .dict => true
  | _, _ => false

def isNon : D → Bool
  | .non => true
  | _ => false
def allB : List D → Option Bool
  | [] => some true
  | .bl b :: r => (allB r).map fun c => b && c
  | _ :: _ => none
def anyB : List D → Option Bool
  | [] => some false
  | .bl b :: r => (anyB r).map fun c => b || c
  | _ :: _ => none
def sumI : List D → Option Int
  | [] => some 0
  | .int i :: r => (sumI r).map fun c => i + c
  | _ :: _ => none
/-- a text of it fits -/
def showOk (d : D) : Bool := noIns d && (toP d).showable && decide ((toP d).shown.length ≤ line) && decide (dep d ≤ 60)
def showD (d : D) : Option D := if showOk d then some (.str (toP d).shown) else none

/-- sorted: place by place alike, all of them tuples with an item or none a tuple or None -/
def tupNe : D → Bool
  | .tup (_ :: _) => true
  | _ => false
def notTup : D → Bool
  | .tup _ => false
  | .non => false
  | _ => true
def alikeB (ds : List D) : Bool := (ds.all fun a => flat a && decide (dep a ≤ 60) && ds.all fun b => PySem.W.alike (toP a) (toP b)) && (ds.all tupNe || ds.all notTup)
def leD (a b : D) : Bool := !PySem.W.dataLt (toP b) (toP a)
/-- sorted of tuples, each with a text in front, no two the same -/
def fstS : D → Option Str
  | .tup (.str s :: _) => some s
  | _ => none
def firstB (ds : List D) : Bool := ds.all (fun d => noIns d && (fstS d).isSome) && decide ((ds.map fstS).Nodup)
def fstLe (a b : D) : Bool := leD (.str ((fstS a).getD "")) (.str ((fstS b).getD ""))

/-- calls of what is built in -/
inductive Bi where | len | tuple | list | dict | sorted | abs | int | str | repr | all | any | sum
  deriving DecidableEq
def biD : Bi → D → Option D
  | .len, .lst xs => some (.int xs.length)
  | .len, .tup xs => some (.int xs.length)
  | .len, .str s => some (.int s.length)
  | .len, .dct kvs => some (.int kvs.length)
  | .tuple, .lst xs => some (.tup xs)
  | .tuple, .tup xs => some (.tup xs)
  | .list, .lst xs => some (.lst xs)
  | .list, .tup xs => some (.lst xs)
  | .list, .dct kvs => some (.lst (kvs.map (·.1)))
  | .dict, .dct kvs => some (.dct kvs)
  | .abs, .int i => some (.int (if i < 0 then -i else i))
  | .int, .int i => some (.int i)
  | .int, .bl b => some (.int (if b then 1 else 0))
  | .str, .int i => if i.natAbs.log2 < 1920 ∧ (Str.ofString (toString i)).length ≤ line then some (.str (toString i)) else none
  | .str, .str s => some (.str s)
  | .repr, d => showD d
  | .all, .lst xs => (allB xs).map .bl
  | .any, .lst xs => (anyB xs).map .bl
  | .sum, .lst xs => (sumI xs).map .int
  | _, _ => none
end Dn

set_option Elab.async false
set_option linter.all false
set_option maxRecDepth 100000
/-! Dn, part B: the syntax and the evaluator. -/
namespace Dn
open PySem L2

/-! ### the bag that is drawn from -/
structure Bg where
  st : Int
  ch : Int
  ix : Int
  cells : List Int
def M (α : Type) : Type := Bg → Option (α × Bg)
def ret {α : Type} (a : α) : M α := fun b => some (a, b)
def fail {α : Type} : M α := fun _ => none
def bnd {α β : Type} (m : M α) (f : α → M β) : M β := fun b => match m b with
  | some (a, b') => f a b'
  | none => none
def lift {α : Type} (o : Option α) : M α := fun b => o.map fun a => (a, b)
/-- the first part of a draw: a cell is taken in -/
def stir (b : Bg) : Bg :=
  if b.st = 0 then
    let c := (cutG b.cells (some b.ix) none ++ [0]).headD 0
    ⟨if c ≥ 10 ^ 18 then c else b.st, (b.ch * 48271 + c % 2147483647 + 7919 * (b.ix + 1)) % 2147483647, b.ix + 1, b.cells⟩
  else b
def drawn (c : Int) : Int := ((((c + 1) * 39373) % 1000000007 * (((c + 1) * 39373) % 1000000007)) % 998244353 * 30011) % 998244353
def takeB (b : Bg) (n : Int) : Int × Bg :=
  let a := stir b
  if 0 < a.st then (a.st % n, { a with st := a.st / n }) else ((drawn a.ch / 7) % n, a)
def takeM (n : Int) : M D := fun b => if 0 < n ∧ n < 1073741824 then (let r := takeB b n; some (.int r.1, r.2)) else none

/-! ### the syntax -/
inductive Tg where
  | nm (i : Nat)
  | tp (ts : List Tg)
mutual
inductive Ex where
  | var (i : Nat)
  | kn
  | kb (b : Bool)
  | ki (i : Int)
  | ks (s : Str)
  | glo (x : Str) (d : D)
  | tup (es : Exs)
  | lst (es : Exs)
  | tst (e : Ex) (f : Ex)
  | dsp (ps : Exs)
  | dmg (e : Ex) (k : Ex) (v : Ex)
  | bin (op : Bo) (a b : Ex)
  | neg (a : Ex)
  | cmp (op : Co) (a b : Ex)
  | chn (op op' : Co) (a b c : Ex)
  | isn (a : Ex)
  | ntn (a : Ex)
  | isb (b : Bool) (a : Ex)
  | and_ (a b : Ex)
  | or_ (a b : Ex)
  | not_ (a : Ex)
  | ite (t a b : Ex)
  | idx (a b : Ex)
  | slc (a : Ex) (lo hi : Oe)
  | call (f : Nat) (es : Exs)
  | bi (f : Bi) (e : Ex)
  | isi (e : Ex) (t : Ty)
  | get (o k : Ex)
  | get2 (o k d : Ex)
  | index (o e : Ex)
  | bgi (k : Nat)
  | bgc
  | lc (elt : Ex) (own : List Nat) (tg : Tg) (it : It) (c : Oe)
  | lc2 (elt : Ex) (own : List Nat) (tg : Tg) (it : It) (c : Oe) (tg2 : Tg) (it2 : It) (c2 : Oe)
  | dc (k v : Ex) (own : List Nat) (tg : Tg) (it : It) (c : Oe)
inductive Exs where
  | nil
  | cons (e : Ex) (es : Exs)
inductive Oe where
  | no
  | yes (e : Ex)
inductive It where
  | ex (e : Ex)
  | r1 (e : Ex)
  | r2 (e f : Ex)
  | enum (e : Ex)
  | zip (e f : Ex)
  | items (e : Ex)
  | values (e : Ex)
end
inductive Mu where | append | extend | insert | pop | clear | update | remove
  deriving DecidableEq
mutual
inductive St where
  | asg (tg : Tg) (e : Ex)
  | setp (x : Nat) (ps : Exs) (k : Ex) (v : Ex)
  | mut (m : Mu) (x : Nat) (ps : Exs) (es : Exs)
  | aug (i : Nat) (op : Bo) (e : Ex)
  | ifs (c : Ex) (a b : Sts)
  | for_ (tg : Tg) (it : It) (b : Sts)
  | whl (n : Nat) (c : Ex) (b : Sts)
  | ret (e : Ex)
  | expr (e : Ex)
  | cont
  | brk
  | pass
  | low (i n : Nat)
  | bgs (k : Nat) (e : Ex)
  | bgx
inductive Sts where
  | nil
  | cons (s : St) (r : Sts)
end

/-! ### the evaluator -/
abbrev Rho := List (Option D)
def wipeR (ρ : Rho) : List Nat → Rho
  | [] => ρ
  | v :: vs => (wipeR ρ vs).set v none
mutual
def bindT : Tg → D → Rho → Option Rho
  | .nm i, d, ρ => if i < ρ.length then some (ρ.set i (some d)) else none
  | .tp ts, d, ρ => match d with
    | .tup xs => bindTs ts xs ρ
    | .lst xs => bindTs ts xs ρ
    | _ => none
def bindTs : List Tg → List D → Rho → Option Rho
  | [], [], ρ => some ρ
  | t :: ts, x :: xs, ρ => (bindT t x ρ).bind fun ρ' => bindTs ts xs ρ'
  | _, _, _ => none
end
def loopM (f : D → M (List D)) : List D → M (List D)
  | [] => ret []
  | x :: xs => bnd (f x) fun a => bnd (loopM f xs) fun r => ret (a ++ r)
def foldM {β : Type} (f : β → D → M β) : β → List D → M β
  | b, [] => ret b
  | b, x :: xs => bnd (f b x) fun b' => foldM f b' xs
def boolOf : D → M Bool
  | .bl b => ret b
  | _ => fail
def intOf : D → M Int
  | .int i => ret i
  | _ => fail
def tupOf : D → M (List D)
  | .tup xs => ret xs
  | .lst xs => ret xs
  | _ => fail
def dctOf : D → M (List (D × D))
  | .dct kvs => ret kvs
  | _ => fail
/-- what a for walks -/
def itemsOf : D → M (List D)
  | .lst xs => ret xs
  | .tup xs => ret xs
  | .str s => ret (s.cps.toList.map fun c => .str ⟨#[c]⟩)
  | _ => fail
def rangeD (a b : Int) : M (List D) := if -(2 ^ 62) ≤ a ∧ a < 2 ^ 62 ∧ -(2 ^ 62) ≤ b ∧ b < 2 ^ 62 ∧ (b - a).toNat ≤ line then ret ((List.range (b - a).toNat).map fun i => .int (a + ((i : Nat) : Int))) else fail
def enumD (n : Nat) : List D → List D
  | [] => []
  | x :: xs => .tup [.int n, x] :: enumD (n + 1) xs
def zipD : List D → List D → List D
  | x :: xs, y :: ys => .tup [x, y] :: zipD xs ys
  | _, _ => []
def lstOf : D → M (List D)
  | .lst xs => ret xs
  | .tup xs => ret xs
  | _ => fail
def keysOk (kvs : List (D × D)) : Bool := kvs.all fun p => isKey p.1
/-- a display's entries, put in one by one -/
def pairUp : List D → Option (List (D × D))
  | [] => some []
  | k :: v :: r => if isKey k then (pairUp r).map fun t => (k, v) :: t else none
  | _ => none
def dmerge (kvs : List (D × D)) : List (D × D) → List (D × D)
  | [] => kvs
  | p :: r => dmerge (dput kvs p.1 p.2) r
/-- dict(xs), xs a list of pairs -/
def dpairs : List D → Option (List (D × D))
  | [] => some []
  | .tup [k, v] :: r => if isKey k then (dpairs r).map fun t => (k, v) :: t else none
  | _ :: _ => none
def strsOf : List D → Option (List Str)
  | [] => some []
  | .str s :: r => (strsOf r).map fun t => s :: t
  | _ :: _ => none
def idxOfS (z : Str) : List Str → Option Nat
  | [] => none
  | y :: ys => if y = z then some 0 else (idxOfS z ys).map (· + 1)
/-- t.index(z), a tuple of texts -/
def indexD : D → D → Option D
  | .tup xs, .str z => (strsOf xs).bind fun ss => (idxOfS z ss).map fun (n : Nat) => D.int (n : Int)
  | _, _ => none
def isStrKey : D × D → Bool
  | (.str _, _) => true
  | _ => false
def isIntKey : D × D → Bool
  | (.int _, _) => true
  | _ => false
def biM (f : Bi) (d : D) : Option D := match f, d with
  | .dict, .lst xs => (dpairs xs).map fun kvs => .dct (dmerge [] kvs)
  | .dict, .tup xs => (dpairs xs).map fun kvs => .dct (dmerge [] kvs)
  | .sorted, .lst xs => if firstB xs then some (.lst (xs.mergeSort fstLe)) else if alikeB xs then some (.lst (xs.mergeSort leD)) else none
  | .sorted, .dct kvs => if (kvs.all isStrKey || kvs.all isIntKey) && decide (kvs.length < 64) then some (.lst ((kvs.map (·.1)).mergeSort leD)) else none
  | f, d => biD f d
/-- the bag's fields -/
def bgGet (k : Nat) (b : Bg) : Option Int := match k with
  | 0 => some b.st
  | 1 => some b.ch
  | 2 => some b.ix
  | _ => none
def bgI (k : Nat) : M D := fun b => (bgGet k b).map fun i => (.int i, b)
def bgC : M D := fun b => some (.int ((cutG b.cells (some b.ix) none ++ [0]).headD 0), b)
def bgSet (k : Nat) (i : Int) (b : Bg) : Option Bg := match k with
  | 0 => if 0 ≤ i then some { b with st := i } else none
  | 1 => if 0 ≤ i ∧ i < 2147483647 then some { b with ch := i } else none
  | _ => none
mutual
def ev (Φ : Nat → List D → M D) (ρ : Rho) : Ex → M D
  | .var i => lift (ρ.getD i none)
  | .kn => ret .non
  | .kb b => ret (.bl b)
  | .ki i => ret (.int i)
  | .ks s => ret (.str s)
  | .glo _ d => ret d
  | .tup es => bnd (evs Φ ρ es) fun xs => ret (.tup xs)
  | .lst es => bnd (evs Φ ρ es) fun xs => ret (.lst xs)
  | .tst e f => bnd (ev Φ ρ e) fun x => bnd (ev Φ ρ f) fun y => bnd (lstOf y) fun ys => if ys.length + 1 ≤ line then ret (.tup (x :: ys)) else fail
  | .dsp ps => bnd (evs Φ ρ ps) fun xs => bnd (lift (pairUp xs)) fun kvs => ret (.dct (dmerge [] kvs))
  | .dmg e k v => bnd (ev Φ ρ e) fun d => bnd (dctOf d) fun kvs => bnd (ev Φ ρ k) fun x => bnd (ev Φ ρ v) fun y =>
      if isKey x ∧ kvs.length < line then ret (.dct (dput kvs x y)) else fail
  | .bin op a b => bnd (ev Φ ρ a) fun x => bnd (ev Φ ρ b) fun y => lift (binD op x y)
  | .neg a => bnd (ev Φ ρ a) fun x => bnd (intOf x) fun i => ret (.int (-i))
  | .cmp op a b => bnd (ev Φ ρ a) fun x => bnd (ev Φ ρ b) fun y => bnd (lift (cmpD op x y)) fun c => ret (.bl c)
  | .chn op op' a b c => bnd (ev Φ ρ a) fun x => bnd (ev Φ ρ b) fun y => bnd (lift (cmpD op x y)) fun t =>
      if t = true then bnd (ev Φ ρ c) fun z => bnd (lift (cmpD op' y z)) fun u => ret (.bl u) else ret (.bl false)
  | .isn a => bnd (ev Φ ρ a) fun x => ret (.bl (isNon x))
  | .ntn a => bnd (ev Φ ρ a) fun x => ret (.bl (!isNon x))
  | .isb b a => bnd (ev Φ ρ a) fun x => bnd (boolOf x) fun c => ret (.bl (c == b))
  | .and_ a b => bnd (ev Φ ρ a) fun x => bnd (boolOf x) fun c => if c = true then bnd (ev Φ ρ b) fun y => bnd (boolOf y) fun e => ret (.bl e) else ret (.bl false)
  | .or_ a b => bnd (ev Φ ρ a) fun x => bnd (boolOf x) fun c => if c = true then ret (.bl true) else bnd (ev Φ ρ b) fun y => bnd (boolOf y) fun e => ret (.bl e)
  | .not_ a => bnd (ev Φ ρ a) fun x => bnd (boolOf x) fun c => ret (.bl (!c))
  | .ite t a b => bnd (ev Φ ρ t) fun x => bnd (boolOf x) fun c => if c = true then ev Φ ρ a else ev Φ ρ b
  | .idx a b => bnd (ev Φ ρ a) fun x => bnd (ev Φ ρ b) fun y => lift (idxD x y)
  | .slc a lo hi => bnd (ev Φ ρ a) fun x => bnd (evo Φ ρ lo) fun l => bnd (evo Φ ρ hi) fun h => lift (slcD x l h)
  | .call f es => bnd (evs Φ ρ es) fun xs => Φ f xs
  | .bi f e => bnd (ev Φ ρ e) fun x => lift (biM f x)
  | .isi e t => bnd (ev Φ ρ e) fun x => ret (.bl (isiD x t))
  | .get o k => bnd (ev Φ ρ o) fun x => bnd (dctOf x) fun kvs => bnd (ev Φ ρ k) fun y => if isKey y then ret ((dget kvs y).getD .non) else fail
  | .get2 o k d => bnd (ev Φ ρ o) fun x => bnd (dctOf x) fun kvs => bnd (ev Φ ρ k) fun y => bnd (ev Φ ρ d) fun z => if isKey y then ret ((dget kvs y).getD z) else fail
  | .index o e => bnd (ev Φ ρ o) fun x => bnd (ev Φ ρ e) fun y => lift (indexD x y)
  | .bgi k => bgI k
  | .bgc => bgC
  | .lc elt own tg it c => bnd (evi Φ ρ it) fun xs => bnd (loopM (fun x => bnd (lift (bindT tg x (wipeR ρ own))) fun ρ2 => bnd (evc Φ ρ2 c) fun t =>
      if t = true then bnd (ev Φ ρ2 elt) fun y => ret [y] else ret []) xs) fun r => ret (.lst r)
  | .lc2 elt own tg it c tg2 it2 c2 => bnd (evi Φ ρ it) fun xs => bnd (loopM (fun x => bnd (lift (bindT tg x (wipeR ρ own))) fun ρ2 => bnd (evc Φ ρ2 c) fun t =>
      if t = true then bnd (evi Φ ρ2 it2) fun xs2 => loopM (fun x2 => bnd (lift (bindT tg2 x2 ρ2)) fun ρ3 => bnd (evc Φ ρ3 c2) fun t2 =>
        if t2 = true then bnd (ev Φ ρ3 elt) fun y => ret [y] else ret []) xs2 else ret []) xs) fun r => if r.length ≤ line then ret (.lst r) else fail
  | .dc k v own tg it c => bnd (evi Φ ρ it) fun xs => bnd (foldM (fun kvs x => bnd (lift (bindT tg x (wipeR ρ own))) fun ρ2 => bnd (evc Φ ρ2 c) fun t =>
      if t = true then bnd (ev Φ ρ2 k) fun y => bnd (ev Φ ρ2 v) fun z => if isKey y then ret (dput kvs y z) else fail else ret kvs) [] xs) fun r => ret (.dct r)
def evs (Φ : Nat → List D → M D) (ρ : Rho) : Exs → M (List D)
  | .nil => ret []
  | .cons e es => bnd (ev Φ ρ e) fun x => bnd (evs Φ ρ es) fun xs => ret (x :: xs)
def evo (Φ : Nat → List D → M D) (ρ : Rho) : Oe → M (Option Int)
  | .no => ret none
  | .yes e => bnd (ev Φ ρ e) fun x => bnd (intOf x) fun i => ret (some i)
def evc (Φ : Nat → List D → M D) (ρ : Rho) : Oe → M Bool
  | .no => ret true
  | .yes e => bnd (ev Φ ρ e) fun x => boolOf x
def evi (Φ : Nat → List D → M D) (ρ : Rho) : It → M (List D)
  | .ex e => bnd (ev Φ ρ e) fun x => itemsOf x
  | .r1 e => bnd (ev Φ ρ e) fun x => bnd (intOf x) fun i => rangeD 0 i
  | .r2 e f => bnd (ev Φ ρ e) fun x => bnd (intOf x) fun i => bnd (ev Φ ρ f) fun y => bnd (intOf y) fun j => rangeD i j
  | .enum e => bnd (ev Φ ρ e) fun x => bnd (lstOf x) fun xs => ret (enumD 0 xs)
  | .zip e f => bnd (ev Φ ρ e) fun x => bnd (lstOf x) fun xs => bnd (ev Φ ρ f) fun y => bnd (lstOf y) fun ys => ret (zipD xs ys)
  | .items e => bnd (ev Φ ρ e) fun x => bnd (dctOf x) fun kvs => ret (kvs.map fun p => .tup [p.1, p.2])
  | .values e => bnd (ev Φ ρ e) fun x => bnd (dctOf x) fun kvs => ret (kvs.map fun p => p.2)
end

inductive Out where
  | nx (ρ : Rho)
  | rt (d : D)
  | bk (ρ : Rho)
  | ct (ρ : Rho)
/-- the thing at a path changed -/
def upAt (f : D → Option D) : List D → D → Option D
  | [], d => f d
  | .int i :: ps, .lst xs => (ixN xs.length i).bind fun j => (xs[j]?).bind fun x => (upAt f ps x).map fun y => .lst (xs.set j y)
  | k :: ps, .dct kvs => if isKey k then (dget kvs k).bind fun x => (upAt f ps x).map fun y => .dct (dput kvs k y) else none
  | _, _ => none
def setD (k v : D) : D → Option D
  | .lst xs => (match k with
    | .int i => (ixN xs.length i).map fun j => .lst (xs.set j v)
    | _ => none)
  | .dct kvs => if isKey k ∧ kvs.length < line then some (.dct (dput kvs k v)) else none
  | _ => none
def mutD : Mu → List D → D → Option D
  | .append, [x], .lst xs => if xs.length < line then some (.lst (xs ++ [x])) else none
  | .extend, [.lst ys], .lst xs => if xs.length + ys.length ≤ line then some (.lst (xs ++ ys)) else none
  | .insert, [.int i, x], .lst xs => if xs.length < line ∧ 0 ≤ i ∧ i ≤ xs.length then some (.lst (xs.insertIdx i.toNat x)) else none
  | .pop, [k], .dct kvs => if isKey k ∧ dhas kvs k then some (.dct (ddrop kvs k)) else none
  | .pop, [k, _], .dct kvs => if isKey k then some (.dct (ddrop kvs k)) else none
  | .clear, [], .lst _ => some (.lst [])
  | .clear, [], .dct _ => some (.dct [])
  | _, _, _ => none
def iter (f : Rho → D → M Out) : Rho → List D → M Out
  | ρ, [] => ret (.nx ρ)
  | ρ, x :: xs => bnd (f ρ x) fun o => match o with
    | .nx ρ' => iter f ρ' xs
    | .ct ρ' => iter f ρ' xs
    | .bk ρ' => ret (.nx ρ')
    | .rt d => ret (.rt d)
def whileM (c : Rho → M Bool) (f : Rho → M Out) : Nat → Rho → M Out
  | 0, _ => fail
  | n + 1, ρ => bnd (c ρ) fun t => if t = true then bnd (f ρ) fun o => (match o with
      | .nx ρ' => whileM c f n ρ'
      | .ct ρ' => whileM c f n ρ'
      | .bk ρ' => ret (.nx ρ')
      | .rt d => ret (.rt d)) else ret (.nx ρ)
mutual
def ex (Φ : Nat → List D → M D) (ρ : Rho) : St → M Out
  | .asg tg e => bnd (ev Φ ρ e) fun x => bnd (lift (bindT tg x ρ)) fun ρ' => ret (.nx ρ')
  | .setp x ps k v => bnd (ev Φ ρ v) fun y => bnd (evs Φ ρ ps) fun ks => bnd (ev Φ ρ k) fun z => bnd (lift (ρ.getD x none)) fun d =>
      bnd (lift (upAt (setD z y) ks d)) fun d' => ret (.nx (ρ.set x (some d')))
  | .mut m x ps es => bnd (evs Φ ρ ps) fun ks => bnd (evs Φ ρ es) fun xs => bnd (lift (ρ.getD x none)) fun d =>
      bnd (lift (upAt (mutD m xs) ks d)) fun d' => ret (.nx (ρ.set x (some d')))
  | .aug i op e => bnd (lift (ρ.getD i none)) fun x => bnd (ev Φ ρ e) fun y => bnd (lift (binD op x y)) fun z => bnd (intOf z) fun _ => ret (.nx (ρ.set i (some z)))
  | .ifs c a b => bnd (ev Φ ρ c) fun x => bnd (boolOf x) fun t => if t = true then exs Φ ρ a else exs Φ ρ b
  | .for_ tg it b => bnd (evi Φ ρ it) fun xs => iter (fun ρ x => bnd (lift (bindT tg x ρ)) fun ρ' => exs Φ ρ' b) ρ xs
  | .whl n c b => whileM (fun ρ => bnd (ev Φ ρ c) fun x => boolOf x) (fun ρ => exs Φ ρ b) n ρ
  | .ret e => bnd (ev Φ ρ e) fun x => ret (.rt x)
  | .expr e => bnd (ev Φ ρ e) fun _ => ret (.nx ρ)
  | .cont => ret (.ct ρ)
  | .brk => ret (.bk ρ)
  | .pass => ret (.nx ρ)
  | .low _ _ => ret (.nx ρ)
  | .bgs k e => bnd (ev Φ ρ e) fun x => bnd (intOf x) fun i => fun b => (bgSet k i b).map fun b' => (.nx ρ, b')
  | .bgx => fun b => some (.nx ρ, { b with ix := b.ix + 1 })
def exs (Φ : Nat → List D → M D) (ρ : Rho) : Sts → M Out
  | .nil => ret (.nx ρ)
  | .cons s r => bnd (ex Φ ρ s) fun o => match o with
    | .nx ρ' => exs Φ ρ' r
    | o => ret o
end
/-- a def: does it draw (its first parameter the bag); how many other parameters, how many slots in all, how deep what it hands back is its caller's own -/
structure Py where
  nm : Str
  bag : Bool
  np : Nat
  ns : Nat
  own : Nat
  body : Sts
inductive Fn where
  | py (p : Py)
  | take
def outD : Out → M D
  | .nx _ => ret .non
  | .rt d => ret d
  | _ => fail
def entry (p : Py) (ds : List D) : Rho := (if p.bag then [none] else []) ++ ds.map some ++ List.replicate (p.ns - p.np - (if p.bag then 1 else 0)) none
def run (F : List Fn) : Nat → Nat → List D → M D
  | 0, _, _ => fail
  | k + 1, i, ds => match F[i]? with
    | some (.py p) => if ds.length = p.np then bnd (exs (run F k) (entry p ds) p.body) outD else fail
    | some .take => (match ds with
      | [.int n] => takeM n
      | _ => fail)
    | none => fail
end Dn

set_option Elab.async false
set_option linter.all false
set_option maxRecDepth 100000
/-! Dn, part En: enumerate(t), t a tuple. -/
namespace Dn
open PySem PySem.Spec PyProof.Rows L2
section
variable {prog : Program} {w : World} {A : Around} {E : Value → Shared → Prop} {s : Shared}
theorem tup_same {h h2 : Heap} {it l : Addr} {items : Array Value} (t : h.IsTuple l items) (sb : Heap.SameBut it h h2) (ne : l ≠ it) : h2.IsTuple l items := by
  obtain ⟨o, e, c, n, d⟩ := t
  exact ⟨o, (sb.2 l ne).trans e, c, n, d⟩
/-- a tuple's iterator draws its items -/
theorem drawsTup (hh : A.handled = none) {it l : Addr} (ne : l ≠ it) (items : Array Value) : Draws prog w A it [it, l] items.size (fun i v => items[i]? = some v) (fun i h => h.IsTupleIter it l i ∧ h.IsTuple l items) where
  live := fun i h st => by obtain ⟨⟨o, e, _⟩, _⟩ := st; exact ⟨o, e⟩
  frame := fun i h h2 st k => by
    obtain ⟨⟨o, e, c, d⟩, ⟨o2, e2, c2, n2, d2⟩⟩ := st
    exact ⟨⟨o, k it (by simp) o e, c, d⟩, ⟨o2, k l (by simp) o2 e2, c2, n2, d2⟩⟩
  item := fun i s Q E hi st hQ => by
    have hx : items[i]? = some items[i] := by simp [hi]
    exact RZ.nextOf_tuple_item st.1 st.2 hx fun h2 k sb => hQ _ h2 s.toks hx ⟨k, tup_same st.2 sb ne⟩ sb
  done := fun s Q E st hE => RZ.nextOf_tuple_end hh st.1 st.2 (by simp) hE
/-- .. and is at its end -/
theorem drawsEnd (hh : A.handled = none) {it l : Addr} {items : Array Value} {i : Nat} (hi : items[i]? = none) : Draws prog w A it [it, l] i (fun _ _ => True) (fun j h => j = i ∧ h.IsTupleIter it l i ∧ h.IsTuple l items) where
  live := fun j h st => by obtain ⟨_, ⟨o, e, _⟩, _⟩ := st; exact ⟨o, e⟩
  frame := fun j h h2 st k => by
    obtain ⟨ej, ⟨o, e, c, d⟩, ⟨o2, e2, c2, n2, d2⟩⟩ := st
    exact ⟨ej, ⟨o, k it (by simp) o e, c, d⟩, ⟨o2, k l (by simp) o2 e2, c2, n2, d2⟩⟩
  item := fun j s Q E hj st hQ => absurd st.1 (Nat.ne_of_lt hj)
  done := fun s Q E st hE => RZ.nextOf_tuple_end hh st.2.1 st.2.2 hi hE
theorem meets_enT (l : Addr) (items : Array Value) :
    Meets (Builtin.«enumerate.__new__» ⟨[.type "enumerate", .ref l], []⟩) (fun _ R s => s.heap.IsTuple l items ∧
      R (.ok (.ret (.ref (s.heap.push { cls := .type "tuple_iterator", data := .fields #[.ref l, .int 0 0] }).objs.size)))
        { s with heap := (s.heap.push { cls := .type "tuple_iterator", data := .fields #[.ref l, .int 0 0] }).push { cls := .type "enumerate", data := .fields #[.none, .bool false, .ref s.heap.objs.size, rawInt 0, .none, .none] } }) :=
  .of_wp fun prog w A R s h => by
    obtain ⟨hp, g, d, tk, os⟩ := s; obtain ⟨ht, h⟩ := h
    have hsub := sub_enumerate
    have hT : Heap.IsTuple (Shared.heap ⟨hp, g, d, tk, os⟩) l items := ht
    wp_walk
    refine wpAny_stack_any fun st => wpAny_pure ?_
    split
    · rename_i c _ _ _ _ _
      cases (c == Value.type "enumerate")
      · wp_walk using wpAny_pyIter_tuple hT
        exact ⟨_, rfl, h⟩
      · wp_walk using wpAny_pyIter_tuple hT
        exact ⟨_, rfl, h⟩
    · wp_walk using wpAny_pyIter_tuple hT
      exact ⟨_, rfl, h⟩
theorem call_enT {l : Addr} {items : Array Value} {Q : Value → Shared → Prop} (ht : s.heap.IsTuple l items)
    (h : ∀ h2, IsEnum h2 (s.heap.objs.size + 1) s.heap.objs.size 0 .none → h2.IsTupleIter s.heap.objs.size l 0 → h2.objs.size = s.heap.objs.size + 2 → (∀ b o, s.heap.get? b = some o → h2.get? b = some o) → Q (.ref (s.heap.objs.size + 1)) { s with heap := h2 }) :
    wpAny (model prog w) A (PySem.call (.type "enumerate") [.ref l]) Q E s := by
  refine callType_new F.called_enumerate (by decide) (F.typeCall_enumerate_1 _) (F.newCall_enumerate_1 _) (fun obj => F.args_object_init_2 obj _) F.entry_enumerate_new (meets_enT l items) ⟨ht, ?_⟩
  have sz : (s.heap.push { cls := .type "tuple_iterator", data := .fields #[.ref l, .int 0 0] }).objs.size = s.heap.objs.size + 1 := Heap.size_push ..
  show _ ∧ _
  rw [sz]
  have en : IsEnum ((s.heap.push { cls := .type "tuple_iterator", data := .fields #[.ref l, .int 0 0] }).push { cls := .type "enumerate", data := .fields #[.none, .bool false, .ref s.heap.objs.size, rawInt 0, .none, .none] }) (s.heap.objs.size + 1) s.heap.objs.size 0 .none := by
    have q := Heap.get?_push_size (s.heap.push { cls := .type "tuple_iterator", data := .fields #[.ref l, .int 0 0] }) (o := { cls := .type "enumerate", data := .fields #[.none, .bool false, .ref s.heap.objs.size, rawInt 0, .none, .none] }) rfl
    rw [sz] at q
    exact q
  exact ⟨⟨_, en, rfl⟩, h _ en ⟨_, Heap.get?_push_of_some _ (Heap.get?_push_size _ rfl), rfl, rfl⟩ (by rw [Heap.size_push, sz]) fun b o y => Heap.get?_push_of_some _ (Heap.get?_push_of_some _ y)⟩
end
/-- the tuple at a as it stands at each turn, each item in a new pair -/
def IteT (K : PySem.W.Frag) (a : Addr) : L2.It :=
  ⟨fun i H => ∃ (xs : List V) (x : V), SqT K H a xs ∧ xs[i]? = some x, fun i H v H2 => ∃ T x, v = .ref T ∧ H T = none ∧ H2 = upd H T (.tup [.int (i : Nat), x]) ∧ ∀ xs, SqT K H a xs → xs[i]? = some x, fun i H => ∃ xs : List V, SqT K H a xs ∧ xs.length ≤ i⟩
theorem turn_enT {P : Program} {w : World} {K : PySem.W.Frag} {elts : List Expr} {kk : Nat} {tpos : Pos} (a e it : Addr) :
    Turn P w K (.Tuple elts kk tpos) (IteT K a) [e, it] e (fun i h => (∃ o, IsEnum h e it ((i : Nat) : Int) o) ∧ h.IsTupleIter it a i ∧ e ≠ it) where
  mem := by simp
  obj := fun i h st b hb => by
    obtain ⟨⟨w0, h1⟩, ⟨ob, h2, _, h3⟩, _⟩ := st
    rcases (show b = e ∨ b = it by simpa using hb) with z | z
    · rw [z]; exact ⟨_, h1, fun v q => nomatch q⟩
    · rw [z]; exact ⟨ob, h2, fun v q => by rw [h3] at q; cases q⟩
  keep := fun i h h2 st k => by
    obtain ⟨⟨w0, h1⟩, hi, hne⟩ := st
    exact ⟨⟨w0, k e (by simp) _ h1⟩, hi.at fun o q => k it (by simp) o q, hne⟩
  item := by
    intro X hP hw hK hc i pins s σ H E I hf st hg
    subst hP hw hK
    obtain ⟨⟨w0, hen⟩, hti, ne⟩ := st
    obtain ⟨xs, x, hq, hx⟩ := hg
    obtain ⟨its, rv, pt, _⟩ := I.tuple hq
    obtain ⟨u, hu, ru⟩ := rv.get hx
    have el : e < s.heap.objs.size := Heap.lt_size hen
    have il : it < s.heap.objs.size := by obtain ⟨_, q, _⟩ := hti; exact Heap.lt_size q
    have ae : e ≠ a := fun z => by
      obtain ⟨o, e1, c1, _⟩ := pt
      have e2 : s.heap.get? e = some _ := hen
      rw [z, e1] at e2
      cases e2
      have c3 : Value.type "enumerate" = Value.type "tuple" := c1
      exact absurd c3 (by decide +kernel)
    have ai : a ≠ it := fun z => by
      obtain ⟨o, e1, c1, _⟩ := pt
      obtain ⟨o2, e2, c2, _⟩ := id hti
      rw [← z, e1] at e2
      cases e2
      rw [c1] at c2
      exact absurd c2 (by decide +kernel)
    have hlt : i < its.toArray.size := by rw [List.size_toArray]; exact (List.getElem?_eq_some_iff.mp hu).1
    have Dr := drawsTup (prog := X.prog) (w := X.w) (A := X.A.in1) (I.ok.hd hc) ai its.toArray
    refine wpAny_pyNext_enum_itemD Dr hen ⟨hti, pt⟩ hlt ne (by simp [ne, ae]) fun v h2 tk hv ho st2 hT hz hk => ?_
    have uv : v = u := by
      have hv' : its.toArray[i]? = some v := hv
      rw [List.getElem?_toArray, hu] at hv'
      exact (Option.some.inj hv').symm
    subst uv
    refine ⟨_, rfl, wpAny_letOwnedTupleGo_enum (s := { s with heap := h2, toks := tk + 1 }) ho fun h3 he3 sb => ?_⟩
    have hT3 : h3.get? s.heap.objs.size = some { cls := .type "tuple", data := .seq #[.int i tk, v] } := (sb.2 _ (Nat.ne_of_gt el)).trans hT
    have nw : ObjOk X.prog X.w (upd H s.heap.objs.size (.tup [.int (i : Nat), x])) h3 s.heap.objs.size (.tup [.int (i : Nat), x]) := ⟨by show 2 ≤ sizeLine; decide, [.int i tk, v], .cons ⟨_, rfl⟩ (.cons ru .nil), ⟨_, hT3, rfl, _, rfl⟩⟩
    have J : L2.Inv X pins σ (upd H s.heap.objs.size (.tup [.int (i : Nat), x])) { s with heap := h3, toks := tk + 1 } :=
      I.turnedNew (ch := [e, it]) (fun b ob hb q => (sb.2 b fun z => hb (by simp [z])).trans (hk b ob (fun z => hb (by simp [z])) (fun z => hb (by simp [z])) q)) hf (Nat.le_refl _) nw
    refine ⟨.ref s.heap.objs.size, _, J, rfl, ⟨_, x, rfl, I.hok.fresh (Nat.le_refl _), rfl, fun ys hy => by rw [I.tuple_inj hy hq]; exact hx⟩, ⟨⟨v, ?_⟩, st2.1.at fun o q => (sb.2 it (Ne.symm ne)).trans q, ne⟩, fun b hb => ?_⟩
    · rw [show ((i + 1 : Nat) : Int) = (i : Int) + 1 by omega]; exact he3
    · have bl : b < s.heap.objs.size := by
        rcases (show b = e ∨ b = it by simpa using hb) with z | z
        · rw [z]; exact el
        · rw [z]; exact il
      rw [upd_ne (Nat.ne_of_lt bl)]
      exact (hf b hb).1
  done := by
    intro X hP hw hK hc i pins s σ H E I hf st hg
    subst hP hw hK
    obtain ⟨⟨w0, hen⟩, hti, ne⟩ := st
    obtain ⟨xs, hq, hx⟩ := hg
    obtain ⟨its, rv, pt, _⟩ := I.tuple hq
    obtain ⟨f0, f1, f2, f3, f4, f5⟩ := hf it (by simp)
    have hend : its.toArray[i]? = none := by
      have := rv.length
      exact Array.getElem?_eq_none (by rw [List.size_toArray]; omega)
    exact wpAny_pyNext_enum_endD (drawsEnd (prog := X.prog) (w := X.w) (A := X.A.in1) (I.ok.hd hc) hend) hen ⟨rfl, hti, pt⟩ fun h2 eb => ⟨rfl, I.turned (t' := s.toks) (fun b o hb q => eb b o hb q) f0 f1 f3 f4 f5⟩
  self := fun A i s Q E st h => by
    obtain ⟨⟨_, q⟩, _⟩ := st
    exact wpAny_pyIter_enum q h
section
variable {X : Cx} {e : Expr} {ta : TA} {p pos tpos : Pos} {elts : List Expr} {kk : Nat}
theorem pi_enT (hg : Gl X "enumerate") (hm : X.mg "enumerate" = none) (ha : PA X [e] ta) (hs : starEach [e] X.env = [(false, eval e X.env)]) :
    PI X (.Tuple elts kk tpos) (.Call (.Name "enumerate" p) [e] [] pos) (fun σ H R => ta σ H fun vs H1 => ∃ a xs, vs = [.ref a] ∧ SqT X.K H1 a xs ∧ R (IteT X.K a) H1) := by
  refine ⟨fun pins s σ H R I h => Call_ (ld_blt I hg hm boot_enumerate (PyProof.Rows.callWith_type1 (thn (ha.run pos pins s σ H _ I h) fun us s1 ⟨vs, H1, I1, r1, q1⟩ => ?_) hs rfl))⟩
  obtain ⟨a, xs, rfl, hq, q⟩ := q1
  obtain ⟨u, rfl, ru⟩ := vals1 r1
  cases ru
  obtain ⟨its, rv, pt, hz⟩ := I1.tuple hq
  refine call_enT (show s1.heap.IsTuple a its.toArray from pt) fun h2 he hit sz hk => wpAny_pyIter_enum he ?_
  have I2 : L2.Inv X pins σ H1 { s1 with heap := h2 } := I1.kept (t' := s1.toks) hk
  refine ⟨s1.heap.objs.size + 1, [s1.heap.objs.size + 1, s1.heap.objs.size], _, _, H1, rfl, I2, turn_enT a (s1.heap.objs.size + 1) s1.heap.objs.size, ⟨⟨.none, he⟩, hit, Nat.succ_ne_self _⟩, fun b hb => ?_, q⟩
  have ge : s1.heap.objs.size ≤ b := by
    rcases (show b = s1.heap.objs.size + 1 ∨ b = s1.heap.objs.size by simpa using hb) with z | z
    · rw [z]; exact Nat.le_succ _
    · rw [z]; exact Nat.le_refl _
  exact I1.fpOk ge (I1.hok.fresh ge)
theorem walk_enT {K : PySem.W.Frag} {a : Addr} {xs : List V} : Walk (IteT K a) xs.length (fun H => SqT K H a xs) (YPair (fun i => some (.int (i : Nat))) (fun i => xs[i]?)) := by
  refine ⟨fun i _ hi q => ⟨xs, xs[i], q, by simp [hi]⟩, fun _ q => ⟨xs, q, Nat.le_refl _⟩, fun i H v H2 _ q y => ?_⟩
  obtain ⟨T, x, y1, y2, y3, y4⟩ := y
  exact ⟨T, .int (i : Nat), x, y1, y2, y3, rfl, y4 xs q⟩
end
end Dn

set_option Elab.async false
set_option linter.all false
set_option maxRecDepth 100000
/-! Dn, part Bz: new tuples whose objects are known to have no dict. -/
namespace Dn
open PySem PySem.Spec PyProof.Rows L2
/-- a new tuple: its object known, without a dict -/
def newT (H : Hp) (xs : List V) (Q : VK) : Prop := ∀ p o, H p = none → o.dict = none → Q (.ref p) (upd H p (.frz o (.tup xs)))
section
variable {X : Cx} {es : List Expr} {pos : Pos} {t : TA}
theorem newT_ok {pins : List (Addr × Obj)} {σ : L2.St} {H : Hp} {s : Shared} {Q : VK} {xs : List V} {us : List Value} (I : L2.Inv X pins σ H s) (rv : Vals xs us) (hz : xs.length ≤ sizeLine) (q : newT H xs Q) :
    EP X pins σ Q (.ref s.heap.objs.size) { s with heap := s.heap.push { cls := .type "tuple", data := .seq us.toArray } } := by
  have hf : H s.heap.objs.size = none := I.hok.fresh (Nat.le_refl _)
  refine ⟨.ref s.heap.objs.size, upd H s.heap.objs.size (.frz { cls := .type "tuple", data := .seq us.toArray } (.tup xs)), I.laid (t' := s.toks) (fun b u e => Heap.get?_push_of_some _ e) (Nat.le_refl _) ?_, rfl, q _ _ hf rfl⟩
  exact ⟨Heap.get?_push_size _ rfl, hz, us, rv, ⟨_, Heap.get?_push_size _ rfl, rfl, _, rfl⟩⟩
theorem n_tup {x1 : Nat} (h : PA X es t) : PE X (.Tuple es x1 pos) (fun σ H Q => t σ H fun xs H1 => xs.length ≤ sizeLine ∧ newT H1 xs Q) :=
  ⟨fun pins s σ H Q I hq => wpAny_Tuple_spliced (thn (h.run pos pins s σ H _ I hq) fun us s1 ⟨xs, H1, I1, r, z, q⟩ => ⟨by rw [← r.length]; exact z, newT_ok I1 r z q⟩)⟩
theorem n_tupleOf : CallR X (.type "tuple") (fun xs H Q => ∃ p ys, xs = [.ref p] ∧ ((SqL X.K H p ys ∧ newT H ys Q) ∨ (SqT X.K H p ys ∧ Q (.ref p) H))) := by
  intro pins s σ H xs us Q I rx h
  obtain ⟨p, ys, rfl, h⟩ := h
  obtain ⟨u, rfl, ru⟩ := vals1 rx
  cases ru
  rcases h with ⟨hq, q⟩ | ⟨hq, q⟩
  · obtain ⟨its, rv, pl, hz⟩ := I.list hq
    have hl := rv.length
    refine call_tuple_list pl.isList (fun h2 kp => ?_) (by rw [List.size_toArray]; omega)
    have I1 : L2.Inv X pins σ H { s with heap := h2 } := I.kept (t' := s.toks) kp
    exact newT_ok I1 rv hz q
  · obtain ⟨its, rv, pl, hz⟩ := I.tuple hq
    exact call_tuple_same pl ⟨.ref p, H, I, rfl, q⟩
theorem n_slT : SlR X (fun x lo hi H Q => ∃ a xs, x = .ref a ∧ SqT X.K H a xs ∧ (HT.sIx xs.length 0 lo = 0 ∧ HT.sIx xs.length xs.length hi = xs.length → Q (.ref a) H) ∧
    (¬ (HT.sIx xs.length 0 lo = 0 ∧ HT.sIx xs.length xs.length hi = xs.length) → newT H (cutV xs lo hi) Q)) := by
  intro pins s σ H x v vl vu lo hi sl Q I rx hs pl pu h
  obtain ⟨a, xs, rfl, hx, q1, q2⟩ := h
  cases rx
  obtain ⟨its, rv, ht, hz⟩ := I.tuple hx
  have hlen : its.toArray.size = xs.length := by rw [List.size_toArray]; exact rv.length.symm
  refine ⟨"tuple", _, PyProof.Rows.slot_tuple_getitem.lookup, ht.typeIs, ?_⟩
  by_cases hw : HT.sIx xs.length 0 lo = 0 ∧ HT.sIx xs.length xs.length hi = xs.length
  · exact getItem_tuple_whole ht hs pl pu (by rw [hlen]; exact hw) ⟨.ref a, H, I, rfl, q1 hw⟩
  · refine HT.getItem_tuple_cut ht hs pl pu (by rw [hlen]; exact hw) ?_ (by rw [hlen]; exact hz)
    rw [hlen]
    exact newT_ok I ((rv.drop _).take _) (Nat.le_trans (cutV_length xs lo hi) hz) (q2 hw)
theorem n_catT : OpR X (binaryOp .Add) (fun x y H Q => ∃ a b xs ys, x = .ref a ∧ y = .ref b ∧ SqT X.K H a xs ∧ SqT X.K H b ys ∧ xs.length + ys.length ≤ sizeLine ∧
    (xs = [] → Q (.ref b) H) ∧ (xs ≠ [] → ys = [] → Q (.ref a) H) ∧ (xs ≠ [] → ys ≠ [] → newT H (xs ++ ys) Q)) := by
  intro pins s σ H x y v u Q I rx ry h
  obtain ⟨a, b, xs, ys, rfl, rfl, ha, hb, hz, q0, q1, q2⟩ := h
  cases rx
  cases ry
  obtain ⟨its, r1, p1, _⟩ := I.tuple ha
  obtain ⟨its2, r2, p2, _⟩ := I.tuple hb
  by_cases hx : xs = []
  · subst hx
    cases r1
    exact cat_tup0 p1 p2 ⟨.ref b, H, I, rfl, q0 rfl⟩
  · refine HT.cat_tup p1 p2 (fun z => hx (r1.nil_iff.mp z)) (fun z => ⟨.ref a, H, I, rfl, q1 hx (r2.nil_iff.mp z)⟩) (fun z => ?_) (by rw [← r1.length, ← r2.length]; exact hz)
    exact newT_ok I (r1.append r2) (by rw [List.length_append]; exact hz) (q2 hx fun w => z (r2.nil_iff.mpr w))
end
end Dn

set_option Elab.async false
set_option linter.all false
set_option maxRecDepth 100000
/-! Dn, part C: how the heap holds data: frozen (Rp), owned (RO); the slots (EnvOk); what an evaluation leaves (Post). -/
namespace Dn
open PySem PySem.Spec PyProof.Rows L2

/-- a dict's key as data -/
def kD : Key → D
  | .inl i => .int i
  | .inr s => .str s
/-- a key's text is not too long -/
def kOk : Key → Prop
  | .inl _ => True
  | .inr s => s.length ≤ line
/-- a tuple of the written part -/
def KTup (K : PySem.W.Frag) (a : Addr) (vs : List V) : Prop :=
  (∃ (o : Obj) (its : Array Value) (n : Nat), K.lookup a = some o ∧ o.cls = .type "tuple" ∧ o.data = .seq its n ∧ its.size ≤ sizeLine ∧ Vals vs its.toList) ∧ ∃ o : Obj, K.lookup a = some o ∧ o.dict = none ∧ o.cls = .type "tuple"
section
variable (K : PySem.W.Frag) (G : Hp)
mutual
/-- v is d, frozen in G -/
inductive Rp : V → D → Prop
  | non : Rp .non .non
  | bl (b : Bool) : Rp (.bl b) (.bl b)
  | int (i : Int) : Rp (.int i) (.int i)
  | str (s : Str) : s.length ≤ line → Rp (.str s) (.str s)
  | tup {a : Addr} {o : Obj} {vs : List V} {ds : List D} : G a = some (.frz o (.tup vs)) → o.dict = none → Rps vs ds → Rp (.ref a) (.tup ds)
  | ktup {a : Addr} {vs : List V} {ds : List D} : KTup K a vs → Rps vs ds → Rp (.ref a) (.tup ds)
  | lst {a : Addr} {vs : List V} {ds : List D} : G a = some (.lst vs) → Rps vs ds → Rp (.ref a) (.lst ds)
  | dct {a : Addr} {kvs : List (Key × V)} {ds : List (D × D)} : G a = some (.dK kvs) → Rpk kvs ds → Rp (.ref a) (.dct ds)
inductive Rps : List V → List D → Prop
  | nil : Rps [] []
  | cons {v : V} {d : D} {vs : List V} {ds : List D} : Rp v d → Rps vs ds → Rps (v :: vs) (d :: ds)
inductive Rpk : List (Key × V) → List (D × D) → Prop
  | nil : Rpk [] []
  | cons {k : Key} {v : V} {d : D} {kvs : List (Key × V)} {ds : List (D × D)} : kOk k → Rp v d → Rpk kvs ds → Rpk ((k, v) :: kvs) ((kD k, d) :: ds)
end
end
section
variable {K : PySem.W.Frag} {G G' : Hp}
mutual
theorem Rp.mono (h : ∀ a o, G a = some o → G' a = some o) : ∀ {d : D} {v : V}, Rp K G v d → Rp K G' v d
  | _, _, .non => .non
  | _, _, .bl b => .bl b
  | _, _, .int i => .int i
  | _, _, .str s h => .str s h
  | _, _, .tup e hd r => .tup (h _ _ e) hd (Rps.mono h r)
  | _, _, .ktup e r => .ktup e (Rps.mono h r)
  | _, _, .lst e r => .lst (h _ _ e) (Rps.mono h r)
  | _, _, .dct e r => .dct (h _ _ e) (Rpk.mono h r)
theorem Rps.mono (h : ∀ a o, G a = some o → G' a = some o) : ∀ {ds : List D} {vs : List V}, Rps K G vs ds → Rps K G' vs ds
  | _, _, .nil => .nil
  | _, _, .cons r t => .cons (Rp.mono h r) (Rps.mono h t)
theorem Rpk.mono (h : ∀ a o, G a = some o → G' a = some o) : ∀ {ds : List (D × D)} {kvs : List (Key × V)}, Rpk K G kvs ds → Rpk K G' kvs ds
  | _, _, .nil => .nil
  | _, _, .cons q r t => .cons q (Rp.mono h r) (Rpk.mono h t)
end
theorem Rps.length {vs : List V} {ds : List D} (h : Rps K G vs ds) : vs.length = ds.length := by
  induction ds generalizing vs with
  | nil => cases h; rfl
  | cons d ds ih => cases h with | cons r t => simp [ih t]
theorem Rps.get {ds : List D} : ∀ {vs : List V} {i : Nat} {d : D}, Rps K G vs ds → ds[i]? = some d → ∃ v, vs[i]? = some v ∧ Rp K G v d := by
  induction ds with
  | nil => intro vs i d h e; simp at e
  | cons x xs ih =>
    intro vs i d h e
    cases h with
    | cons r t =>
      cases i with
      | zero => simp at e; subst e; exact ⟨_, rfl, r⟩
      | succ i =>
        obtain ⟨v, h1, h2⟩ := ih (i := i) t (by simpa using e)
        exact ⟨v, by simpa using h1, h2⟩
theorem Rps.append {ds es : List D} : ∀ {vs ws : List V}, Rps K G vs ds → Rps K G ws es → Rps K G (vs ++ ws) (ds ++ es) := by
  induction ds with
  | nil => intro vs ws h t; cases h; exact t
  | cons x xs ih => intro vs ws h t; cases h with | cons r s => exact .cons r (ih s t)
theorem Rps.drop {ds : List D} : ∀ {vs : List V} (n : Nat), Rps K G vs ds → Rps K G (vs.drop n) (ds.drop n) := by
  induction ds with
  | nil => intro vs n h; cases h; simp; exact .nil
  | cons x xs ih =>
    intro vs n h
    cases h with
    | cons r s =>
      cases n with
      | zero => exact .cons r s
      | succ n => exact ih n s
theorem Rps.take {ds : List D} : ∀ {vs : List V} (n : Nat), Rps K G vs ds → Rps K G (vs.take n) (ds.take n) := by
  induction ds with
  | nil => intro vs n h; cases h; simp; exact .nil
  | cons x xs ih =>
    intro vs n h
    cases h with
    | cons r s =>
      cases n with
      | zero => exact .nil
      | succ n => exact .cons r (ih n s)
theorem Rps.set {ds : List D} : ∀ {vs : List V} {v : V} {d : D} (j : Nat), Rps K G vs ds → Rp K G v d → Rps K G (vs.set j v) (ds.set j d) := by
  induction ds with
  | nil => intro vs v d j h r; cases h; exact .nil
  | cons x xs ih =>
    intro vs v d j h r
    cases h with
    | cons r1 s =>
      cases j with
      | zero => exact .cons r s
      | succ j => exact .cons r1 (ih j s r)
theorem Rpk.length {ds : List (D × D)} : ∀ {kvs : List (Key × V)}, Rpk K G kvs ds → kvs.length = ds.length := by
  induction ds with
  | nil => intro kvs h; cases h; rfl
  | cons d ds ih => intro kvs h; cases h with | cons q r t => simp [ih t]
end

/-! ### owned things: n levels from the top on are known to none else; fp: their addresses -/
section
variable (R : V → D → List Addr → Prop)
inductive ROs : List V → List D → List Addr → Prop
  | nil : ROs [] [] []
  | cons {v : V} {d : D} {f g : List Addr} {vs : List V} {ds : List D} : R v d f → ROs vs ds g → ROs (v :: vs) (d :: ds) (f ++ g)
inductive ROk : List (Key × V) → List (D × D) → List Addr → Prop
  | nil : ROk [] [] []
  | cons {k : Key} {v : V} {d : D} {f g : List Addr} {kvs : List (Key × V)} {ds : List (D × D)} : kOk k → R v d f → ROk kvs ds g → ROk ((k, v) :: kvs) ((kD k, d) :: ds) (f ++ g)
end
def isCon : D → Bool
  | .lst _ => true
  | .dct _ => true
  | _ => false
def RO (K : PySem.W.Frag) (G : Hp) (B : Addr) (H : Hp) : Nat → V → D → List Addr → Prop
  | 0, v, d, fp => fp = [] ∧ Rp K G v d
  | n + 1, v, d, fp => (isCon d = false ∧ fp = [] ∧ Rp K G v d) ∨
      (∃ a vs ds f, v = .ref a ∧ d = .lst ds ∧ fp = a :: f ∧ a ≠ B ∧ G a = none ∧ H a = some (.lst vs) ∧ ROs (RO K G B H n) vs ds f) ∨
      (∃ a kvs ds f, v = .ref a ∧ d = .dct ds ∧ fp = a :: f ∧ a ≠ B ∧ G a = none ∧ H a = some (.dK kvs) ∧ ROk (RO K G B H n) kvs ds f)
theorem ROs.imp {R R' : V → D → List Addr → Prop} : ∀ {vs : List V} {ds : List D} {f : List Addr}, ROs R vs ds f → (∀ v d g, (∀ a ∈ g, a ∈ f) → R v d g → R' v d g) → ROs R' vs ds f := by
  intro vs ds f h
  induction h with
  | nil => intro _; exact .nil
  | cons r t ih => intro q; exact .cons (q _ _ _ (fun a h => List.mem_append_left _ h) r) (ih fun v d g hg hr => q v d g (fun a h => List.mem_append_right _ (hg a h)) hr)
theorem ROk.imp {R R' : V → D → List Addr → Prop} : ∀ {vs : List (Key × V)} {ds : List (D × D)} {f : List Addr}, ROk R vs ds f → (∀ v d g, (∀ a ∈ g, a ∈ f) → R v d g → R' v d g) → ROk R' vs ds f := by
  intro vs ds f h
  induction h with
  | nil => intro _; exact .nil
  | cons c r t ih => intro q; exact .cons c (q _ _ _ (fun a h => List.mem_append_left _ h) r) (ih fun v d g hg hr => q v d g (fun a h => List.mem_append_right _ (hg a h)) hr)
section
variable {K : PySem.W.Frag} {G G' H H' : Hp} {B : Addr}
/-- the owned addresses: tracked, not frozen, not the bag -/
theorem RO.fp : ∀ {n : Nat} {v : V} {d : D} {fp : List Addr}, RO K G B H n v d fp → ∀ a ∈ fp, a ≠ B ∧ G a = none ∧ ∃ o, H a = some o ∧ ((∃ vs, o = .lst vs) ∨ ∃ kvs, o = .dK kvs)
  | 0, v, d, fp, h, a, ha => by
    obtain ⟨rfl, _⟩ := h
    simp at ha
  | n + 1, v, d, fp, h, a, ha => by
    have ih := @RO.fp n
    have hs : ∀ {vs : List V} {ds : List D} {f : List Addr}, ROs (RO K G B H n) vs ds f → ∀ a ∈ f, a ≠ B ∧ G a = none ∧ ∃ o, H a = some o ∧ ((∃ vs, o = .lst vs) ∨ ∃ kvs, o = .dK kvs) := by
      intro vs ds f h
      induction h with
      | nil => intro a ha; simp at ha
      | cons r t ih2 =>
        intro a ha
        rcases List.mem_append.mp ha with ha | ha
        · exact ih r a ha
        · exact ih2 a ha
    have hk : ∀ {vs : List (Key × V)} {ds : List (D × D)} {f : List Addr}, ROk (RO K G B H n) vs ds f → ∀ a ∈ f, a ≠ B ∧ G a = none ∧ ∃ o, H a = some o ∧ ((∃ vs, o = .lst vs) ∨ ∃ kvs, o = .dK kvs) := by
      intro vs ds f h
      induction h with
      | nil => intro a ha; simp at ha
      | cons c r t ih2 =>
        intro a ha
        rcases List.mem_append.mp ha with ha | ha
        · exact ih r a ha
        · exact ih2 a ha
    rcases h with ⟨_, rfl, _⟩ | ⟨b, vs, ds, f, rfl, rfl, rfl, nb, gb, hb, r⟩ | ⟨b, vs, ds, f, rfl, rfl, rfl, nb, gb, hb, r⟩
    · simp at ha
    · rcases List.mem_cons.mp ha with rfl | ha
      · exact ⟨nb, gb, _, hb, .inl ⟨_, rfl⟩⟩
      · exact hs r a ha
    · rcases List.mem_cons.mp ha with rfl | ha
      · exact ⟨nb, gb, _, hb, .inr ⟨_, rfl⟩⟩
      · exact hk r a ha
/-- it stays where its addresses do -/
theorem RO.keep (hg : ∀ a o, G a = some o → G' a = some o) : ∀ {n : Nat} {v : V} {d : D} {fp : List Addr}, RO K G B H n v d fp → (∀ a ∈ fp, G' a = none) → (∀ a ∈ fp, H' a = H a) → RO K G' B H' n v d fp
  | 0, v, d, fp, h, _, _ => ⟨h.1, h.2.mono hg⟩
  | n + 1, v, d, fp, h, h1, h2 => by
    rcases h with ⟨c, e, r⟩ | ⟨b, vs, ds, f, rfl, rfl, rfl, nb, gb, hb, r⟩ | ⟨b, vs, ds, f, rfl, rfl, rfl, nb, gb, hb, r⟩
    · exact .inl ⟨c, e, r.mono hg⟩
    · exact .inr (.inl ⟨b, vs, ds, f, rfl, rfl, rfl, nb, h1 b List.mem_cons_self, (h2 b List.mem_cons_self).trans hb, r.imp fun v d g hgf hr => RO.keep hg hr (fun a ha => h1 a (List.mem_cons_of_mem _ (hgf a ha))) fun a ha => h2 a (List.mem_cons_of_mem _ (hgf a ha))⟩)
    · exact .inr (.inr ⟨b, vs, ds, f, rfl, rfl, rfl, nb, h1 b List.mem_cons_self, (h2 b List.mem_cons_self).trans hb, r.imp fun v d g hgf hr => RO.keep hg hr (fun a ha => h1 a (List.mem_cons_of_mem _ (hgf a ha))) fun a ha => h2 a (List.mem_cons_of_mem _ (hgf a ha))⟩)
/-- the frozen heap with more addresses frozen as they stand -/
def frz (G H : Hp) (fp : List Addr) : Hp := fun a => if a ∈ fp then H a else G a
theorem frz_in {fp : List Addr} {a : Addr} (h : a ∈ fp) : frz G H fp a = H a := if_pos h
theorem frz_out {fp : List Addr} {a : Addr} (h : a ∉ fp) : frz G H fp a = G a := if_neg h
theorem frz_sub {fp : List Addr} (h : ∀ a ∈ fp, G a = none) : ∀ a o, G a = some o → frz G H fp a = some o := fun a o e => by
  by_cases q : a ∈ fp
  · rw [h a q] at e; cases e
  · rw [frz_out q]; exact e
/-- all of it frozen -/
theorem RO.rp (hg : ∀ a o, G a = some o → G' a = some o) : ∀ {n : Nat} {v : V} {d : D} {fp : List Addr}, RO K G B H n v d fp → (∀ a ∈ fp, G' a = H a) → Rp K G' v d
  | 0, v, d, fp, h, _ => h.2.mono hg
  | n + 1, v, d, fp, h, h1 => by
    have ih := @RO.rp hg n
    have hs : ∀ {vs : List V} {ds : List D} {f : List Addr}, ROs (RO K G B H n) vs ds f → (∀ a ∈ f, G' a = H a) → Rps K G' vs ds := by
      intro vs ds f h
      induction h with
      | nil => intro _; exact .nil
      | cons r t ih2 => intro q; exact .cons (ih r fun a ha => q a (List.mem_append_left _ ha)) (ih2 fun a ha => q a (List.mem_append_right _ ha))
    have hk : ∀ {vs : List (Key × V)} {ds : List (D × D)} {f : List Addr}, ROk (RO K G B H n) vs ds f → (∀ a ∈ f, G' a = H a) → Rpk K G' vs ds := by
      intro vs ds f h
      induction h with
      | nil => intro _; exact .nil
      | cons c r t ih2 => intro q; exact .cons c (ih r fun a ha => q a (List.mem_append_left _ ha)) (ih2 fun a ha => q a (List.mem_append_right _ ha))
    rcases h with ⟨c, e, r⟩ | ⟨b, vs, ds, f, rfl, rfl, rfl, nb, gb, hb, r⟩ | ⟨b, vs, ds, f, rfl, rfl, rfl, nb, gb, hb, r⟩
    · exact r.mono hg
    · exact .lst ((h1 b List.mem_cons_self).trans hb) (hs r fun a ha => h1 a (List.mem_cons_of_mem _ ha))
    · exact .dct ((h1 b List.mem_cons_self).trans hb) (hk r fun a ha => h1 a (List.mem_cons_of_mem _ ha))
end

/-! ### the bag in the heap; the state -/
structure Bg.ok (b : Bg) : Prop where
  st : 0 ≤ b.st
  ch : 0 ≤ b.ch
  ch2 : b.ch < 2147483647
  ix : 0 ≤ b.ix
  cs : ∀ c ∈ b.cells, 0 ≤ c
  sz : b.cells.length < 1000
def BagAt (B : Addr) (H : Hp) (b : Bg) : Prop := b.ok ∧ ∃ C, C ≠ B ∧ H B = some (.lst [.int b.st, .int b.ch, .int b.ix, .ref C]) ∧ H C = some (.lst (b.cells.map V.int))
/-- frozen things stand in the heap; a dict that is walked is locked meanwhile -/
def Sub (G H : Hp) : Prop := ∀ a o, G a = some o → H a = some o ∨ ∃ kvs ob, o = .dK kvs ∧ H a = some (.frz ob o)
structure StOk (B : Addr) (G H : Hp) (b : Bg) : Prop where
  sub : Sub G H
  gb : G B = none
  bag : BagAt B H b
structure Post (B : Addr) (G : Hp) (H : Hp) (G' : Hp) (b' : Bg) (H' : Hp) : Prop where
  gs : ∀ a o, G a = some o → G' a = some o
  gn : ∀ a, G' a ≠ none → G a ≠ none ∨ H a = none
  kp : ∀ a o, a ≠ B → H a = some o → H' a = some o
  st : StOk B G' H' b'
  cl : ∀ C x y z, H B = some (.lst [x, y, z, .ref C]) → ∃ x y z, H' B = some (.lst [x, y, z, .ref C])
section
variable {K : PySem.W.Frag} {G G' G2 H H' H2 : Hp} {B : Addr} {b b' b2 : Bg}
theorem Post.refl (s : StOk B G H b) : Post B G H G b H := ⟨fun _ _ e => e, fun _ h => .inl h, fun _ _ _ e => e, s, fun _ _ _ _ e => ⟨_, _, _, e⟩⟩
theorem Post.trans (p : Post B G H G' b' H') (q : Post B G' H' G2 b2 H2) : Post B G H G2 b2 H2 := by
  refine ⟨fun a o e => q.gs a o (p.gs a o e), fun a h => ?_, fun a o n e => q.kp a o n (p.kp a o n e), q.st, fun C x y z e => by
    obtain ⟨x1, y1, z1, e1⟩ := p.cl C x y z e
    exact q.cl C x1 y1 z1 e1⟩
  have hb : a ≠ B := fun e => by subst e; exact h q.st.gb
  rcases q.gn a h with h | h
  · exact p.gn a h
  · cases e : H a with
    | none => exact .inr rfl
    | some o => rw [p.kp a o hb e] at h; cases h
end
/-! ### steps of the state -/
section
variable {K : PySem.W.Frag} {G G' G2 H H' H2 : Hp} {B p : Addr} {b b' b2 : Bg} {o : HO} {v : V} {d : D} {fp : List Addr} {n : Nat}
theorem BagAt.upd (h : BagAt B H b) (hp : H p = none) : BagAt B (upd H p o) b := by
  obtain ⟨ok, C, n, h1, h2⟩ := h
  exact ⟨ok, C, n, by rw [upd_ne (ne_of_none h1 hp)]; exact h1, by rw [upd_ne (ne_of_none h2 hp)]; exact h2⟩
theorem Sub.upd (h : Sub G H) (hp : H p = none) : Sub G (upd H p o) := fun a u e => by
  have ne : a ≠ p := fun z => by
    subst z
    rcases h a u e with q | ⟨_, _, _, q⟩ <;> (rw [hp] at q; cases q)
  rw [upd_ne ne]
  exact h a u e
/-- a new thing -/
theorem StOk.laid (s : StOk B G H b) (hp : H p = none) : Post B G H G b (upd H p o) :=
  ⟨fun _ _ e => e, fun _ h => .inl h, fun a u _ e => by rw [upd_ne (ne_of_none e hp)]; exact e, ⟨s.sub.upd hp, s.gb, s.bag.upd hp⟩, fun C x y z e => ⟨x, y, z, by rw [upd_ne (ne_of_none e hp)]; exact e⟩⟩
theorem StOk.gnone (s : StOk B G H b) (hp : H p = none) : G p = none := by
  cases e : G p with
  | none => rfl
  | some u => rcases s.sub p u e with q | ⟨_, _, _, q⟩ <;> (rw [hp] at q; cases q)
theorem StOk.notB (s : StOk B G H b) (hp : H p = none) : p ≠ B := fun e => by
  obtain ⟨_, C, _, h1, _⟩ := s.bag
  subst e; rw [hp] at h1; cases h1
theorem StOk.gne (s : StOk B G H b) {a : Addr} (e : G a ≠ none) : H a ≠ none := fun z => e (s.gnone z)
/-- owned things frozen -/
theorem StOk.frz (s : StOk B G H b) (h : ∀ a ∈ fp, a ≠ B ∧ G a = none ∧ ∃ o, H a = some o ∧ ((∃ vs, o = .lst vs) ∨ ∃ kvs, o = .dK kvs)) : StOk B (frz G H fp) H b := by
  refine ⟨fun a u e => ?_, ?_, s.bag⟩
  · by_cases q : a ∈ fp
    · rw [frz_in q] at e; exact .inl e
    · rw [frz_out q] at e; exact s.sub a u e
  · by_cases q : B ∈ fp
    · exact absurd rfl (h B q).1
    · rw [frz_out q]; exact s.gb
/-- what is owned and new is frozen: an evaluation's end -/
theorem Post.freeze (q : Post B G H G' b' H') (r : RO K G' B H' n v d fp) (hf : ∀ a ∈ fp, H a = none) :
    Post B G H (frz G' H' fp) b' H' ∧ Rp K (frz G' H' fp) v d := by
  have hfp := r.fp
  have hs := frz_sub (G := G') (H := H') fun a ha => (hfp a ha).2.1
  refine ⟨⟨fun a o e => hs a o (q.gs a o e), fun a h => ?_, q.kp, q.st.frz hfp, q.cl⟩, r.rp hs fun a ha => frz_in ha⟩
  by_cases z : a ∈ fp
  · exact .inr (hf a z)
  · rw [frz_out z] at h; exact q.gn a h
/-- a thing that is kept elsewhere outlives an evaluation -/
theorem RO.post (r : RO K G B H n v d fp) (q : Post B G H G' b' H') : RO K G' B H' n v d fp := by
  have hfp := r.fp
  refine r.keep q.gs (fun a ha => ?_) fun a ha => ?_
  · obtain ⟨_, g, o, e, _⟩ := hfp a ha
    cases z : G' a with
    | none => rfl
    | some u =>
      rcases q.gn a (by rw [z]; simp) with y | y
      · exact absurd g y
      · rw [e] at y; cases y
  · obtain ⟨nb, g, o, e, _⟩ := hfp a ha
    rw [e]; exact q.kp a o nb e
end

/-! Dn.rm# a heap with one thing out of sight -/
def rm (H : Hp) (L : Addr) : Hp := fun a => if a = L then none else H a
theorem rm_same {H : Hp} {L : Addr} : rm H L L = none := if_pos rfl
theorem rm_ne {H : Hp} {L a : Addr} (h : a ≠ L) : rm H L a = H a := if_neg h
theorem rm_some {H : Hp} {L a : Addr} {o : HO} (h : rm H L a = some o) : a ≠ L ∧ H a = some o := by
  by_cases q : a = L
  · subst q; rw [rm_same] at h; cases h
  · rw [rm_ne q] at h; exact ⟨q, h⟩
theorem rm_upd {H : Hp} {L T : Addr} {o : HO} (h : T ≠ L) : rm (upd H T o) L = upd (rm H L) T o := by
  funext a
  by_cases q : a = L
  · subst q; rw [rm_same, upd_ne (Ne.symm h), rm_same]
  · rw [rm_ne q]
    by_cases q2 : a = T
    · subst q2; rw [upd_same, upd_same]
    · rw [upd_ne q2, upd_ne q2, rm_ne q]
theorem rm_updD {H : Hp} {L : Addr} {o : HO} : rm (upd H L o) L = rm H L := by
  funext a
  by_cases q : a = L
  · subst q; rw [rm_same, rm_same]
  · rw [rm_ne q, rm_ne q, upd_ne q]
theorem rm_none {H : Hp} {L : Addr} (h : H L = none) : rm H L = H := by
  funext a
  by_cases q : a = L
  · subst q; rw [rm_same, h]
  · rw [rm_ne q]
section
variable {K : PySem.W.Frag} {G G' G2 H H' H2 : Hp} {B L : Addr} {b b' b2 : Bg} {n : Nat} {v : V} {d : Dn.D} {fp : List Addr}
theorem Sub.unrm (s : Sub G (rm H L)) : Sub G H := fun a o e => by
  rcases s a o e with q | ⟨k, ob, e1, q⟩
  · exact .inl (rm_some q).2
  · exact .inr ⟨k, ob, e1, (rm_some q).2⟩
theorem StOk.unrm (s : StOk B G (rm H L) b) : StOk B G H b := by
  obtain ⟨ok, C, n, h1, h2⟩ := s.bag
  exact ⟨s.sub.unrm, s.gb, ok, C, n, (rm_some h1).2, (rm_some h2).2⟩
theorem StOk.rmB (s : StOk B G (rm H L) b) : B ≠ L := by
  obtain ⟨ok, C, n, h1, h2⟩ := s.bag
  exact (rm_some h1).1
theorem RO.unrm {n : Nat} {v : V} {d : Dn.D} (r : RO K G B (rm H L) n v d fp) : RO K G B H n v d fp := r.keep (fun _ _ e => e) (fun a ha => (r.fp a ha).2.1) fun a ha => by
  obtain ⟨_, _, o, e, _⟩ := r.fp a ha
  rw [e, (rm_some e).2]
theorem RO.notD {n : Nat} {v : V} {d : Dn.D} (r : RO K G B (rm H L) n v d fp) : L ∉ fp := fun h => by
  obtain ⟨_, _, o, e, _⟩ := r.fp L h
  exact (rm_some e).1 rfl
/-- a step that does not see L -/
theorem Post.rm {o : HO} (p : Post B G H G' b' H') (s : StOk B G (rm H L) b) (hD : H L = some o) : Post B G (rm H L) G' b' (rm H' L) := by
  have gD : G L = none := by
    cases e : G L with
    | none => rfl
    | some u => exact absurd rm_same (s.gne (a := L) (by rw [e]; simp))
  have gD' : G' L = none := by
    cases e : G' L with
    | none => rfl
    | some u =>
      rcases p.gn L (by rw [e]; simp) with q | q
      · exact absurd gD q
      · rw [hD] at q; cases q
  have nB := s.rmB
  refine ⟨p.gs, fun a h => ?_, fun a u nb e => ?_, ⟨fun a u e => ?_, p.st.gb, ?_⟩, fun C x y z e => ?_⟩
  · rcases p.gn a h with q | q
    · exact .inl q
    · refine .inr ?_
      by_cases z : a = L
      · subst z; exact rm_same
      · rw [rm_ne z]; exact q
  · obtain ⟨e1, e2⟩ := rm_some e
    rw [rm_ne e1]; exact p.kp a u nb e2
  · have z : a ≠ L := fun z => by subst z; rw [gD'] at e; cases e
    rw [rm_ne z]; exact p.st.sub a u e
  · obtain ⟨ok, C, n, h1, h2⟩ := p.st.bag
    obtain ⟨_, C0, n0, h3, h4⟩ := s.bag
    obtain ⟨x, y, z, e⟩ := p.cl _ _ _ _ (rm_some h3).2
    rw [h1] at e
    cases e
    exact ⟨ok, C, n, by rw [rm_ne nB]; exact h1, by rw [rm_ne (rm_some h4).1]; exact h2⟩
  · obtain ⟨x, y, z, e1⟩ := p.cl C x y z (rm_some e).2
    exact ⟨x, y, z, by rw [rm_ne nB]; exact e1⟩
theorem Post.unrm (p : Post B G H G' b' (Dn.rm H' L)) : Post B G H G' b' H' := ⟨p.gs, p.gn, fun a o n e => (rm_some (p.kp a o n e)).2, p.st.unrm, fun C x y z e => by
  obtain ⟨x, y, z, e1⟩ := p.cl C x y z e
  exact ⟨x, y, z, (rm_some e1).2⟩⟩
end

/-! ### the slots -/
abbrev Gam := List Nat
def lvl (Γ : Gam) (i : Nat) : Nat := Γ.getD i 0
structure EnvOk (K : PySem.W.Frag) (B : Addr) (G H : Hp) (bs : Option Nat) (Γ : Gam) (σ : L2.St) (ρ : Rho) : Prop where
  len : σ.length = ρ.length
  own : ∃ f : Nat → List Addr, (∀ i d, ρ[i]? = some (some d) → ∃ v, σ[i]? = some (some v) ∧ RO K G B H (lvl Γ i) v d (f i) ∧ (f i).Nodup) ∧ (∀ i j, i ≠ j → ∀ a ∈ f i, a ∉ f j)
  bag : ∀ i, bs = some i → σ[i]? = some (some (.ref B)) ∧ ρ[i]? = some none
section
variable {K : PySem.W.Frag} {G G' G2 H H' H2 : Hp} {B p : Addr} {b b' b2 : Bg} {bs : Option Nat} {Γ : Gam} {σ : L2.St} {ρ : Rho}
theorem EnvOk.post (e : EnvOk K B G H bs Γ σ ρ) (q : Post B G H G' b' H') : EnvOk K B G' H' bs Γ σ ρ := by
  obtain ⟨f, h1, h2⟩ := e.own
  refine ⟨e.len, ⟨f, fun i d hd => ?_, h2⟩, e.bag⟩
  obtain ⟨v, a1, a2, a3⟩ := h1 i d hd
  exact ⟨v, a1, a2.post q, a3⟩
theorem EnvOk.unrm {Dd : Addr} (e : EnvOk K B G (rm H Dd) bs Γ σ ρ) : EnvOk K B G H bs Γ σ ρ := by
  obtain ⟨f, h1, h2⟩ := e.own
  refine ⟨e.len, ⟨f, fun i d hd => ?_, h2⟩, e.bag⟩
  obtain ⟨v, a1, a2, a3⟩ := h1 i d hd
  exact ⟨v, a1, a2.unrm, a3⟩
/-- a slot read -/
theorem EnvOk.get (e : EnvOk K B G H bs Γ σ ρ) {i : Nat} {d : D} (h : ρ.getD i none = some d) : ∃ v fp, σ[i]? = some (some v) ∧ RO K G B H (lvl Γ i) v d fp ∧ fp.Nodup := by
  obtain ⟨f, h1, _⟩ := e.own
  have h' : ρ[i]? = some (some d) := by
    rw [List.getD_eq_getElem?_getD] at h
    cases q : ρ[i]? with
    | none => rw [q] at h; cases h
    | some o => rw [q] at h; simp at h; rw [h]
  obtain ⟨v, a1, a2, a3⟩ := h1 i d h'
  exact ⟨v, _, a1, a2, a3⟩
end
end Dn

set_option Elab.async false
set_option linter.all false
set_option maxRecDepth 100000
/-! Dn, part D: owned things made less owned; what is known of X; readings. -/
namespace Dn
open PySem PySem.Spec PyProof.Rows L2
section
variable {K : PySem.W.Frag} {G G' H H' : Hp} {B : Addr}
/-- what a split gives: top stays owned (m levels), low is to be frozen -/
def Spl (G H : Hp) (fp : List Addr) (top low : List Addr) (T : Hp → List Addr → Prop) : Prop :=
  (∀ a ∈ top, a ∈ fp) ∧ (∀ a ∈ low, a ∈ fp) ∧ (fp.Nodup → top.Nodup ∧ ∀ a ∈ low, a ∉ top) ∧
    ∀ G', (∀ a o, G a = some o → G' a = some o) → (∀ a ∈ low, G' a = H a) → (∀ a ∈ top, G' a = none) → T G' top
theorem split_app {f g t1 l1 t2 l2 : List Addr} (a1 : ∀ a ∈ t1, a ∈ f) (a2 : ∀ a ∈ l1, a ∈ f) (a3 : f.Nodup → t1.Nodup ∧ ∀ a ∈ l1, a ∉ t1) (b1 : ∀ a ∈ t2, a ∈ g) (b2 : ∀ a ∈ l2, a ∈ g) (b3 : g.Nodup → t2.Nodup ∧ ∀ a ∈ l2, a ∉ t2)
    (h : (f ++ g).Nodup) : (t1 ++ t2).Nodup ∧ ∀ a ∈ l1 ++ l2, a ∉ t1 ++ t2 := by
  obtain ⟨h1, h2, h3⟩ := List.nodup_append.mp h
  obtain ⟨x1, x2⟩ := a3 h1
  obtain ⟨y1, y2⟩ := b3 h2
  refine ⟨List.nodup_append.mpr ⟨x1, y1, fun a ha c hc => h3 a (a1 a ha) c (b1 c hc)⟩, fun a ha hc => ?_⟩
  rcases List.mem_append.mp ha with ha | ha <;> rcases List.mem_append.mp hc with hc | hc
  · exact x2 a ha hc
  · exact h3 a (a2 a ha) a (b1 a hc) rfl
  · exact h3 a (a1 a hc) a (b2 a ha) rfl
  · exact y2 a ha hc
theorem RO.split : ∀ {n m : Nat} {v : V} {d : D} {fp : List Addr}, m ≤ n → RO K G B H n v d fp → ∃ top low, Spl G H fp top low fun G' top => RO K G' B H m v d top
  | n, 0, v, d, fp, _, r => ⟨[], fp, by simp, fun a h => h, fun _ => ⟨List.nodup_nil, by simp⟩, fun G' hg hl _ => ⟨rfl, r.rp hg hl⟩⟩
  | 0, m + 1, v, d, fp, h, _ => absurd h (Nat.not_succ_le_zero _)
  | n + 1, m + 1, v, d, fp, h, r => by
    have ih := @RO.split n m
    have hs : ∀ {vs : List V} {ds : List D} {f : List Addr}, ROs (RO K G B H n) vs ds f → ∃ top low, Spl G H f top low fun G' top => ROs (RO K G' B H m) vs ds top := by
      intro vs ds f h
      induction h with
      | nil => exact ⟨[], [], by simp, by simp, fun _ => ⟨List.nodup_nil, by simp⟩, fun _ _ _ _ => .nil⟩
      | cons r t ih2 =>
        obtain ⟨t1, l1, a1, a2, a3, a4⟩ := ih (Nat.le_of_succ_le_succ (by assumption)) r
        obtain ⟨t2, l2, b1, b2, b3, b4⟩ := ih2
        refine ⟨t1 ++ t2, l1 ++ l2, fun a ha => ?_, fun a ha => ?_, split_app a1 a2 a3 b1 b2 b3, fun G' hg hl ht => .cons (a4 G' hg (fun a ha => hl a (List.mem_append_left _ ha)) fun a ha => ht a (List.mem_append_left _ ha)) (b4 G' hg (fun a ha => hl a (List.mem_append_right _ ha)) fun a ha => ht a (List.mem_append_right _ ha))⟩
        · rcases List.mem_append.mp ha with ha | ha
          · exact List.mem_append_left _ (a1 a ha)
          · exact List.mem_append_right _ (b1 a ha)
        · rcases List.mem_append.mp ha with ha | ha
          · exact List.mem_append_left _ (a2 a ha)
          · exact List.mem_append_right _ (b2 a ha)
    have hk : ∀ {vs : List (Key × V)} {ds : List (D × D)} {f : List Addr}, ROk (RO K G B H n) vs ds f → ∃ top low, Spl G H f top low fun G' top => ROk (RO K G' B H m) vs ds top := by
      intro vs ds f h
      induction h with
      | nil => exact ⟨[], [], by simp, by simp, fun _ => ⟨List.nodup_nil, by simp⟩, fun _ _ _ _ => .nil⟩
      | cons c r t ih2 =>
        obtain ⟨t1, l1, a1, a2, a3, a4⟩ := ih (Nat.le_of_succ_le_succ (by assumption)) r
        obtain ⟨t2, l2, b1, b2, b3, b4⟩ := ih2
        refine ⟨t1 ++ t2, l1 ++ l2, fun a ha => ?_, fun a ha => ?_, split_app a1 a2 a3 b1 b2 b3, fun G' hg hl ht => .cons c (a4 G' hg (fun a ha => hl a (List.mem_append_left _ ha)) fun a ha => ht a (List.mem_append_left _ ha)) (b4 G' hg (fun a ha => hl a (List.mem_append_right _ ha)) fun a ha => ht a (List.mem_append_right _ ha))⟩
        · rcases List.mem_append.mp ha with ha | ha
          · exact List.mem_append_left _ (a1 a ha)
          · exact List.mem_append_right _ (b1 a ha)
        · rcases List.mem_append.mp ha with ha | ha
          · exact List.mem_append_left _ (a2 a ha)
          · exact List.mem_append_right _ (b2 a ha)
    rcases r with ⟨c, rfl, r⟩ | ⟨b, vs, ds, f, rfl, rfl, rfl, nb, gb, hb, r⟩ | ⟨b, vs, ds, f, rfl, rfl, rfl, nb, gb, hb, r⟩
    · exact ⟨[], [], by simp, by simp, fun _ => ⟨List.nodup_nil, by simp⟩, fun G' hg _ _ => .inl ⟨c, rfl, r.mono hg⟩⟩
    · obtain ⟨t, l, b1, b2, b3, b4⟩ := hs r
      refine ⟨b :: t, l, fun a ha => ?_, fun a ha => List.mem_cons_of_mem _ (b2 a ha), fun hn => ?_, fun G' hg hl ht => .inr (.inl ⟨b, vs, ds, t, rfl, rfl, rfl, nb, ht b List.mem_cons_self, hb, b4 G' hg hl fun a ha => ht a (List.mem_cons_of_mem _ ha)⟩)⟩
      · rcases List.mem_cons.mp ha with rfl | ha
        · exact List.mem_cons_self
        · exact List.mem_cons_of_mem _ (b1 a ha)
      · obtain ⟨n1, n2⟩ := List.nodup_cons.mp hn
        obtain ⟨x1, x2⟩ := b3 n2
        refine ⟨List.nodup_cons.mpr ⟨fun z => n1 (b1 _ z), x1⟩, fun a ha hc => ?_⟩
        rcases List.mem_cons.mp hc with rfl | hc
        · exact n1 (b2 _ ha)
        · exact x2 a ha hc
    · obtain ⟨t, l, b1, b2, b3, b4⟩ := hk r
      refine ⟨b :: t, l, fun a ha => ?_, fun a ha => List.mem_cons_of_mem _ (b2 a ha), fun hn => ?_, fun G' hg hl ht => .inr (.inr ⟨b, vs, ds, t, rfl, rfl, rfl, nb, ht b List.mem_cons_self, hb, b4 G' hg hl fun a ha => ht a (List.mem_cons_of_mem _ ha)⟩)⟩
      · rcases List.mem_cons.mp ha with rfl | ha
        · exact List.mem_cons_self
        · exact List.mem_cons_of_mem _ (b1 a ha)
      · obtain ⟨n1, n2⟩ := List.nodup_cons.mp hn
        obtain ⟨x1, x2⟩ := b3 n2
        refine ⟨List.nodup_cons.mpr ⟨fun z => n1 (b1 _ z), x1⟩, fun a ha hc => ?_⟩
        rcases List.mem_cons.mp hc with rfl | hc
        · exact n1 (b2 _ ha)
        · exact x2 a ha hc
/-- a new owned thing made less owned -/
theorem Post.lower {b' : Bg} {n m : Nat} {v : V} {d : D} {fp : List Addr} (q : Post B G H G' b' H') (h : m ≤ n) (r : RO K G' B H' n v d fp) (nd : fp.Nodup) (hf : ∀ a ∈ fp, H a = none) :
    ∃ G2 fp2, Post B G H G2 b' H' ∧ RO K G2 B H' m v d fp2 ∧ fp2.Nodup ∧ (∀ a ∈ fp2, H a = none) ∧ (∀ a ∈ fp2, a ∈ fp) ∧ (∀ a o, G' a = some o → G2 a = some o) ∧ ∀ a, G2 a ≠ none → G' a ≠ none ∨ a ∈ fp := by
  obtain ⟨t, l, b1, b2, b3, b4⟩ := r.split h
  obtain ⟨c1, c2⟩ := b3 nd
  have hfp := r.fp
  have hl : ∀ a ∈ l, a ≠ B ∧ G' a = none ∧ ∃ o, H' a = some o ∧ ((∃ vs, o = .lst vs) ∨ ∃ kvs, o = .dK kvs) := fun a ha => hfp a (b2 a ha)
  have hs := frz_sub (G := G') (H := H') fun a ha => (hl a ha).2.1
  refine ⟨frz G' H' l, t, ⟨fun a o e => hs a o (q.gs a o e), fun a h => ?_, q.kp, q.st.frz hl, q.cl⟩, b4 _ hs (fun a ha => frz_in ha) (fun a ha => ?_), c1, fun a ha => hf a (b1 a ha), b1, hs, fun a z => ?_⟩
  · by_cases z : a ∈ l
    · exact .inr (hf a (b2 a z))
    · rw [frz_out z] at h; exact q.gn a h
  · have z : a ∉ l := fun y => c2 a y ha
    rw [frz_out z]; exact (hfp a (b1 a ha)).2.1
  · by_cases y : a ∈ l
    · exact .inr (b2 a y)
    · rw [frz_out y] at z; exact .inl z
end

/-! ### what is known of the context -/
structure XOk (X : Cx) (n : Nat) : Prop where
  calm : X.calm = true
  room : Room n X.A
  gd : X.A.guards = some []
  sys : ∃ o, X.K.lookup sysModules = some o
  free : ∀ x ∈ (["len", "tuple", "list", "dict", "sorted", "abs", "int", "str", "repr", "all", "any", "sum", "isinstance", "range", "enumerate", "zip", "bool"] : List String), X.mg (Str.ofString x) = none
theorem XOk.blk {X : Cx} {n : Nat} (h : XOk X n) {s : Shared} {H : Hp} {scope : Scope} {cenv : Env} {fp : List Addr} : XOk (X.blk s H scope cenv fp) n := ⟨h.calm, h.room, h.gd, h.sys, h.free⟩
theorem XOk.mono {X : Cx} {m n : Nat} (h : XOk X n) (hm : m ≤ n) : XOk X m := ⟨h.calm, h.room.mono hm, h.gd, h.sys, h.free⟩

/-! ### weaker readings -/
section
variable {X : Cx}
theorem wkE {e : Expr} {t t' : TE} (h : PE X e t) (w : ∀ σ H Q, t' σ H Q → t σ H Q) : PE X e t' := ⟨fun pins s σ H Q I q => h.run pins s σ H Q I (w σ H Q q)⟩
theorem wkT {e : Expr} {t t' : TT} (h : PT X e t) (w : ∀ σ H Q, t' σ H Q → t σ H Q) : PT X e t' := ⟨fun pins s σ H Q I q => h.run pins s σ H Q I (w σ H Q q)⟩
theorem wkA {es : List Expr} {t t' : TA} (h : PA X es t) (w : ∀ σ H Q, t' σ H Q → t σ H Q) : PA X es t' := ⟨fun pos pins s σ H Q I q => h.run pos pins s σ H Q I (w σ H Q q)⟩
theorem wkS {st : Stmt} {t t' : TS} (h : PS X st t) (w : ∀ D σ H, t' D σ H → t D σ H) : PS X st t' := ⟨fun pins s σ H D I q => h.run pins s σ H D I (w D σ H q)⟩
theorem wkSs {st : List Stmt} {t t' : TS} (h : PSs X st t) (w : ∀ D σ H, t' D σ H → t D σ H) : PSs X st t' := ⟨fun pins s σ H D I q => h.run pins s σ H D I (w D σ H q)⟩
theorem wkI {tg it : Expr} {t t' : TI} (h : PI X tg it t) (w : ∀ σ H R, t' σ H R → t σ H R) : PI X tg it t' := ⟨fun pins s σ H R I q => h.run pins s σ H R I (w σ H R q)⟩
theorem wkG {tg : Expr} {t t' : TG} (h : PG X tg t) (w : ∀ v σ H Q, t' v σ H Q → t v σ H Q) : PG X tg t' := ⟨fun pins s σ H v u Q I r q => h.run pins s σ H v u Q I r (w v σ H Q q)⟩
theorem wkOp {f : Value → Value → Sem Value} {r r' : R2} (h : OpR X f r) (w : ∀ x y H Q, r' x y H Q → r x y H Q) : OpR X f r' := fun pins s σ H x y v u Q I rx ry q => h pins s σ H x y v u Q I rx ry (w x y H Q q)
theorem orE {e : Expr} {t t' : TE} (h : PE X e t) (h' : PE X e t') : PE X e (fun σ H Q => t σ H Q ∨ t' σ H Q) := ⟨fun pins s σ H Q I q => q.elim (h.run pins s σ H Q I) (h'.run pins s σ H Q I)⟩
theorem orS {e : Stmt} {t t' : TS} (h : PS X e t) (h' : PS X e t') : PS X e (fun D σ H => t D σ H ∨ t' D σ H) := ⟨fun pins s σ H Q I q => q.elim (h.run pins s σ H Q I) (h'.run pins s σ H Q I)⟩
theorem orOp {f : Value → Value → Sem Value} {r r' : R2} (h : OpR X f r) (h' : OpR X f r') : OpR X f (fun x y H Q => r x y H Q ∨ r' x y H Q) := fun pins s σ H x y v u Q I rx ry q => q.elim (h pins s σ H x y v u Q I rx ry) (h' pins s σ H x y v u Q I rx ry)
end

/-! ### levels -/
/-- what a program's part is read with: the written part, the defs' meaning, where the bag's slot is, how owned a def's answer is -/
structure Cn where
  K : PySem.W.Frag
  Φ : Nat → List D → M D
  bs : Option Nat
  own : Nat → Nat
def chain : Ex → Bool
  | .var _ => true
  | .idx _ _ => true
  | _ => false
/-- slots of a block's own are not owned -/
def setz (Γ : Gam) (l : List Nat) : Gam := (List.range Γ.length).map fun i => if l.contains i then 0 else lvl Γ i
def lv (own : Nat → Nat) (Γ : Gam) : Ex → Nat
  | .var i => lvl Γ i
  | .idx a _ => lv own Γ a - 1
  | .glo _ d => if isCon d then 0 else 9
  | .lst .nil => 9
  | .lst _ => 1
  | .dsp .nil => 9
  | .dsp _ => 1
  | .dmg _ _ _ => 1
  | .bin _ _ _ => 1
  | .slc _ _ _ => 1
  | .ite _ a b => min (lv own Γ a) (lv own Γ b)
  | .call f _ => own f
  | .bi .list _ => 1
  | .bi .dict _ => 1
  | .bi .sorted _ => 1
  | .get _ _ => 0
  | .get2 _ _ _ => 0
  | .lc elt o _ _ _ => min 9 (lv own (setz Γ o) elt + 1)
  | .lc2 elt o _ _ _ _ _ _ => min 9 (lv own (setz Γ o) elt + 1)
  | .dc _ v o _ _ _ => min 9 (lv own (setz Γ o) v + 1)
  | _ => 9
/-- a value as owned as told; what a slot (or a place within it) holds may be less owned -/
def Res (C : Cn) (m : Nat) (Γ : Gam) (e : Ex) (G : Hp) (B : Addr) (H : Hp) (v : V) (d : D) (fp : List Addr) : Prop :=
  ∃ k, k ≤ min m (lv C.own Γ e) ∧ (chain e = false → k = min m (lv C.own Γ e)) ∧ RO C.K G B H k v d fp
/-- what an expression gives, as the layer reads it: d, at v, as owned as told; m: no more owned than that -/
def rd (C : Cn) (m : Nat) (Γ : Gam) (e : Ex) : TE := fun σ H Q => ∃ B G b ρ d b', StOk B G H b ∧ EnvOk C.K B G H C.bs Γ σ ρ ∧ ev C.Φ ρ e b = some (d, b') ∧
  ∀ v G' H' fp, Post B G H G' b' H' → Res C m Γ e G' B H' v d fp → (chain e = false → fp.Nodup ∧ ∀ a ∈ fp, H a = none) → Q v H'
theorem rd_out {C : Cn} {m : Nat} {Γ : Gam} {e : Ex} {σ : L2.St} {H : Hp} {Q : VK} (h : rd C m Γ e σ H Q) : ∃ B G b ρ d b', StOk B G H b ∧ EnvOk C.K B G H C.bs Γ σ ρ ∧ ev C.Φ ρ e b = some (d, b') ∧
    ∀ v G' H' fp, Post B G H G' b' H' → RO C.K G' B H' (min m (lv C.own Γ e)) v d fp → (chain e = false → fp.Nodup ∧ ∀ a ∈ fp, H a = none) → Q v H' := by
  obtain ⟨B, G, b, ρ, d, b', st, en, he, q⟩ := h
  exact ⟨B, G, b, ρ, d, b', st, en, he, fun v G' H' fp P R F => q v G' H' fp P ⟨_, Nat.le_refl _, fun _ => rfl, R⟩ F⟩
/-- made less owned: always what is new; a thing of a slot's only if it is so already -/
theorem rd_low {X : Cx} {C : Cn} {m n : Nat} {Γ : Gam} {e : Ex} {a : Expr} (h : PE X a (rd C n Γ e)) (hm : m ≤ n) (hc : chain e = false ∨ lv C.own Γ e ≤ m) : PE X a (rd C m Γ e) := by
  refine wkE h fun σ H Q ⟨B, G, b, ρ, d, b', st, en, he, q⟩ => ⟨B, G, b, ρ, d, b', st, en, he, fun v G' H' fp P ⟨k, k1, k2, R⟩ F => ?_⟩
  cases hce : chain e with
  | true =>
    have hl : lv C.own Γ e ≤ m := by
      rcases hc with z | z
      · rw [hce] at z; cases z
      · exact z
    exact q v G' H' fp P ⟨k, by omega, (fun z => by rw [hce] at z; cases z), R⟩ fun z => by rw [hce] at z; cases z
  | false =>
    obtain ⟨f1, f2⟩ := F hce
    have k3 := k2 hce
    obtain ⟨G2, fp2, P2, R2, n2, h2, _⟩ := P.lower (m := min m (lv C.own Γ e)) (by omega) R f1 f2
    exact q v G2 H' fp2 P2 ⟨_, Nat.le_refl _, fun _ => rfl, R2⟩ fun _ => ⟨n2, h2⟩
end Dn

set_option Elab.async false
set_option linter.all false
set_option maxRecDepth 100000
/-! Dn, part E: what a held thing looks like; ==, in, repr, sorted of held data. -/
namespace Dn
open PySem PySem.Spec PyProof.Rows L2

theorem bnd_some {α β : Type} {m : M α} {f : α → M β} {b : Bg} {r : β × Bg} (h : bnd m f b = some r) : ∃ a b1, m b = some (a, b1) ∧ f a b1 = some r := by
  unfold bnd at h
  cases e : m b with
  | none => rw [e] at h; cases h
  | some p => rw [e] at h; exact ⟨p.1, p.2, rfl, h⟩
theorem ret_some {α : Type} {a x : α} {b b' : Bg} (h : ret a b = some (x, b')) : x = a ∧ b' = b := by
  unfold ret at h
  cases h
  exact ⟨rfl, rfl⟩
theorem lift_some {α : Type} {o : Option α} {x : α} {b b' : Bg} (h : lift o b = some (x, b')) : o = some x ∧ b' = b := by
  unfold lift at h
  cases o with
  | none => cases h
  | some a => cases h; exact ⟨rfl, rfl⟩
theorem fail_some {α : Type} {x : α × Bg} {b : Bg} (h : (fail : M α) b = some x) : False := by cases h
theorem ite_some {α : Type} {c : Prop} [Decidable c] {m n : M α} {b : Bg} {r : α × Bg} (h : (if c then m else n) b = some r) : (c ∧ m b = some r) ∨ (¬ c ∧ n b = some r) := by
  by_cases q : c
  · rw [if_pos q] at h; exact .inl ⟨q, h⟩
  · rw [if_neg q] at h; exact .inr ⟨q, h⟩
theorem boolOf_some {d : D} {c : Bool} {b b' : Bg} (h : boolOf d b = some (c, b')) : d = .bl c ∧ b' = b := by
  cases d <;> first | (obtain ⟨rfl, rfl⟩ := ret_some h; exact ⟨rfl, rfl⟩) | exact nomatch (show (none : Option (_ × Bg)) = some _ from h)
theorem intOf_some {d : D} {c : Int} {b b' : Bg} (h : intOf d b = some (c, b')) : d = .int c ∧ b' = b := by
  cases d <;> first | (obtain ⟨rfl, rfl⟩ := ret_some h; exact ⟨rfl, rfl⟩) | exact nomatch (show (none : Option (_ × Bg)) = some _ from h)
theorem dctOf_some {d : D} {c : List (D × D)} {b b' : Bg} (h : dctOf d b = some (c, b')) : d = .dct c ∧ b' = b := by
  cases d <;> first | (obtain ⟨rfl, rfl⟩ := ret_some h; exact ⟨rfl, rfl⟩) | exact nomatch (show (none : Option (_ × Bg)) = some _ from h)
theorem lstOf_some {d : D} {c : List D} {b b' : Bg} (h : lstOf d b = some (c, b')) : (d = .lst c ∨ d = .tup c) ∧ b' = b := by
  cases d <;> first | (obtain ⟨rfl, rfl⟩ := ret_some h; first | exact ⟨.inl rfl, rfl⟩ | exact ⟨.inr rfl, rfl⟩) | exact nomatch (show (none : Option (_ × Bg)) = some _ from h)

section
variable {K : PySem.W.Frag} {G G' H H' : Hp} {B : Addr} {n : Nat} {v : V} {fp : List Addr} {d : D}
theorem RO.nc (hc : isCon d = false) (r : Rp K G v d) : RO K G B H n v d [] := by
  cases n with
  | zero => exact ⟨rfl, r⟩
  | succ n => exact .inl ⟨hc, rfl, r⟩
theorem RO.ncRp (hc : isCon d = false) (r : RO K G B H n v d fp) : fp = [] ∧ Rp K G v d := by
  cases n with
  | zero => exact r
  | succ n =>
    rcases r with ⟨_, e, r⟩ | ⟨b, vs, ds, f, rfl, rfl, _⟩ | ⟨b, vs, ds, f, rfl, rfl, _⟩
    · exact ⟨e, r⟩
    · cases hc
    · cases hc
theorem RO.zero (r : RO K G B H 0 v d fp) : Rp K G v d := r.2
theorem RO.int {i : Int} (r : RO K G B H n v (.int i) fp) : v = .int i := by
  have := (RO.ncRp rfl r).2
  cases this; rfl
theorem RO.bl {c : Bool} (r : RO K G B H n v (.bl c) fp) : v = .bl c := by
  have := (RO.ncRp rfl r).2
  cases this; rfl
theorem RO.str {c : Str} (r : RO K G B H n v (.str c) fp) : v = .str c ∧ c.length ≤ line := by
  have := (RO.ncRp rfl r).2
  cases this with | str _ h => exact ⟨rfl, h⟩
theorem RO.non (r : RO K G B H n v .non fp) : v = .non := by
  have := (RO.ncRp rfl r).2
  cases this; rfl
theorem Sub.lst (s : Sub G H) {a : Addr} {vs : List V} (e : G a = some (.lst vs)) : H a = some (.lst vs) := by
  rcases s a _ e with q | ⟨_, _, q, _⟩
  · exact q
  · cases q
theorem Sub.tup (s : Sub G H) {a : Addr} {o : Obj} {vs : List V} (e : G a = some (.frz o (.tup vs))) : H a = some (.frz o (.tup vs)) := by
  rcases s a _ e with q | ⟨_, _, q, _⟩
  · exact q
  · cases q
theorem Sub.dct (s : Sub G H) {a : Addr} {kvs : List (Key × V)} (e : G a = some (.dK kvs)) : Rd H a (.dK kvs) := by
  rcases s a _ e with q | ⟨kv, ob, q, r⟩
  · exact .inl q
  · cases q; exact .inr ⟨ob, r⟩
theorem Rp.tupAt (s : Sub G H) {ds : List D} (r : Rp K G v (.tup ds)) : ∃ a vs, v = .ref a ∧ SqT K H a vs ∧ Rps K G vs ds := by
  cases r with
  | tup e _ r => exact ⟨_, _, rfl, .inl (.inr ⟨_, s.tup e⟩), r⟩
  | ktup e r => exact ⟨_, _, rfl, .inr e.1, r⟩
theorem RO.tupAt (s : Sub G H) {ds : List D} (r : RO K G B H n v (.tup ds) fp) : ∃ a vs, v = .ref a ∧ SqT K H a vs ∧ Rps K G vs ds := (RO.ncRp rfl r).2.tupAt s
theorem Rps.ros {ds : List D} : ∀ {vs : List V}, Rps K G vs ds → ROs (RO K G B H 0) vs ds [] := by
  induction ds with
  | nil => intro vs h; cases h; exact .nil
  | cons x xs ih => intro vs h; cases h with | cons r t => exact .cons (f := []) (g := []) ⟨rfl, r⟩ (ih t)
theorem Rpk.rok {ds : List (D × D)} : ∀ {vs : List (Key × V)}, Rpk K G vs ds → ROk (RO K G B H 0) vs ds [] := by
  induction ds with
  | nil => intro vs h; cases h; exact .nil
  | cons x xs ih => intro vs h; cases h with | cons c r t => exact .cons c (f := []) (g := []) ⟨rfl, r⟩ (ih t)
theorem ROs.rps {ds : List D} {f : List Addr} : ∀ {vs : List V}, ROs (RO K G B H 0) vs ds f → Rps K G vs ds := by
  intro vs h
  induction h with
  | nil => exact .nil
  | cons r t ih => exact .cons r.2 ih
theorem ROk.rpk {ds : List (D × D)} {f : List Addr} : ∀ {vs : List (Key × V)}, ROk (RO K G B H 0) vs ds f → Rpk K G vs ds := by
  intro vs h
  induction h with
  | nil => exact .nil
  | cons c r t ih => exact .cons c r.2 ih
theorem ROs.get {R : V → D → List Addr → Prop} {vs : List V} {ds : List D} {f : List Addr} (h : ROs R vs ds f) : ∀ {i : Nat} {d : D}, ds[i]? = some d → ∃ v g, vs[i]? = some v ∧ R v d g ∧ ∀ a ∈ g, a ∈ f := by
  induction h with
  | nil => intro i d e; simp at e
  | cons r t ih =>
    intro i d e
    cases i with
    | zero => simp at e; subst e; exact ⟨_, _, rfl, r, fun a h => List.mem_append_left _ h⟩
    | succ i =>
      obtain ⟨v, g, h1, h2, h3⟩ := ih (i := i) (by simpa using e)
      exact ⟨v, g, by simpa using h1, h2, fun a h => List.mem_append_right _ (h3 a h)⟩
theorem ROs.length {R : V → D → List Addr → Prop} {vs : List V} {ds : List D} {f : List Addr} (h : ROs R vs ds f) : vs.length = ds.length := by
  induction h with
  | nil => rfl
  | cons _ _ ih => simp [ih]
theorem ROk.length {R : V → D → List Addr → Prop} {vs : List (Key × V)} {ds : List (D × D)} {f : List Addr} (h : ROk R vs ds f) : vs.length = ds.length := by
  induction h with
  | nil => rfl
  | cons _ _ _ ih => simp [ih]
/-- a list -/
theorem RO.lstAt (s : Sub G H) {ds : List D} (r : RO K G B H n v (.lst ds) fp) : ∃ a vs f, v = .ref a ∧ H a = some (.lst vs) ∧ ROs (RO K G B H (n - 1)) vs ds f := by
  cases n with
  | zero =>
    obtain ⟨rfl, r⟩ := r
    cases r with
    | lst e r => exact ⟨_, _, [], rfl, s.lst e, r.ros⟩
  | succ n =>
    rcases r with ⟨c, _⟩ | ⟨b, vs, es, f, rfl, e, rfl, nb, gb, hb, r⟩ | ⟨b, vs, es, f, rfl, e, _⟩
    · cases c
    · cases e; exact ⟨b, vs, f, rfl, hb, r⟩
    · cases e
theorem RO.lst1 (s : Sub G H) {ds : List D} (r : RO K G B H n v (.lst ds) fp) (hn : n ≤ 1) : ∃ a vs, v = .ref a ∧ H a = some (.lst vs) ∧ Rps K G vs ds := by
  obtain ⟨a, vs, f, h1, h2, h3⟩ := r.lstAt s
  rw [show n - 1 = 0 by omega] at h3
  exact ⟨a, vs, h1, h2, h3.rps⟩
/-- a dict -/
theorem RO.dctAt (s : Sub G H) {ds : List (D × D)} (r : RO K G B H n v (.dct ds) fp) : ∃ a vs f, v = .ref a ∧ Rd H a (.dK vs) ∧ ROk (RO K G B H (n - 1)) vs ds f := by
  cases n with
  | zero =>
    obtain ⟨rfl, r⟩ := r
    cases r with
    | dct e r => exact ⟨_, _, [], rfl, s.dct e, r.rok⟩
  | succ n =>
    rcases r with ⟨c, _⟩ | ⟨b, vs, es, f, rfl, e, _⟩ | ⟨b, vs, es, f, rfl, e, rfl, nb, gb, hb, r⟩
    · cases c
    · cases e
    · cases e; exact ⟨b, vs, f, rfl, .inl hb, r⟩
theorem RO.dct1 (s : Sub G H) {ds : List (D × D)} (r : RO K G B H n v (.dct ds) fp) (hn : n ≤ 1) : ∃ a vs, v = .ref a ∧ Rd H a (.dK vs) ∧ Rpk K G vs ds := by
  obtain ⟨a, vs, f, h1, h2, h3⟩ := r.dctAt s
  rw [show n - 1 = 0 by omega] at h3
  exact ⟨a, vs, h1, h2, h3.rpk⟩
end

/-! ### data of the library -/
section
variable {K : PySem.W.Frag} {G G' H H' : Hp} {B : Addr}
mutual
theorem Rp.dp (s : Sub G H) : ∀ (d : D) (v : V), flat d = true → Rp K G v d → Dp K H v (toP d)
  | .non, _, _, r => by cases r; exact .non
  | .bl b, _, _, r => by cases r; exact .bl b
  | .int i, _, _, r => by cases r; exact .int i
  | .str x, _, _, r => by cases r; exact .str x
  | .tup ds, v, f, r => by
    cases r with
    | tup e _ r => exact .tup (.inl (.inr ⟨_, s.tup e⟩)) (Rps.dp s ds _ (by simpa [flat] using f) r)
    | ktup e r => exact .tup (.inr e.1) (Rps.dp s ds _ (by simpa [flat] using f) r)
  | .lst ds, v, f, r => by
    cases r with
    | lst e r => exact .lst (.inl (.inl (s.lst e))) (Rps.dp s ds _ (by simpa [flat] using f) r)
  | .dct _, _, f, _ => by simp [flat] at f
  | .ins _, _, f, _ => by simp [flat] at f
theorem Rps.dp (s : Sub G H) : ∀ (ds : List D) (vs : List V), flats ds = true → Rps K G vs ds → DpAll K H vs (toPs ds)
  | [], _, _, r => by cases r; exact .nil
  | d :: ds, _, f, r => by
    have f' : flat d = true ∧ flats ds = true := by simpa [flats] using f
    cases r with
    | cons r t => exact .cons (Rp.dp s d _ f'.1 r) (Rps.dp s ds _ f'.2 t)
end
theorem RO.dp (s : Sub G H) : ∀ {n : Nat} {v : V} {d : D} {fp : List Addr}, RO K G B H n v d fp → flat d = true → Dp K H v (toP d)
  | 0, v, d, fp, r, f => Rp.dp s d v f r.2
  | n + 1, v, d, fp, r, f => by
    have ih := @RO.dp s n
    rcases r with ⟨c, _, r⟩ | ⟨b, vs, ds, g, rfl, rfl, rfl, nb, gb, hb, r⟩ | ⟨b, vs, ds, g, rfl, rfl, _⟩
    · exact Rp.dp s d v f r
    · have hs : ∀ {vs : List V} {ds : List D} {g : List Addr}, ROs (RO K G B H n) vs ds g → flats ds = true → DpAll K H vs (toPs ds) := by
        intro vs ds g h
        induction h with
        | nil => intro _; exact .nil
        | cons r t ih2 =>
          intro f
          have f' := Bool.and_eq_true_iff.mp (show (flat _ && flats _) = true from f)
          exact .cons (ih r f'.1) (ih2 f'.2)
      exact .lst (.inl (.inl hb)) (hs r (by simpa [flat] using f))
    · simp [flat] at f
mutual
theorem plain_toP : ∀ d : D, flat d = true → (toP d).plain = true
  | .non, _ => rfl
  | .bl _, _ => rfl
  | .int _, _ => rfl
  | .str _, _ => rfl
  | .tup ds, f => by simp only [toP, PyData.plain]; exact plain_toPs ds (by simpa [flat] using f)
  | .lst ds, f => by simp only [toP, PyData.plain]; exact plain_toPs ds (by simpa [flat] using f)
  | .dct _, f => by simp [flat] at f
  | .ins _, f => by simp [flat] at f
theorem plain_toPs : ∀ ds : List D, flats ds = true → PyData.plainAll (toPs ds) = true
  | [], _ => rfl
  | d :: ds, f => by
    have f' : flat d = true ∧ flats ds = true := by simpa [flats] using f
    simp only [toPs, PyData.plainAll, plain_toP d f'.1, plain_toPs ds f'.2, Bool.and_self]
end
mutual
theorem depth_toP : ∀ d : D, (toP d).depth = dep d
  | .non => by simp [toP, PyData.depth, dep]
  | .bl _ => by simp [toP, PyData.depth, dep]
  | .int _ => by simp [toP, PyData.depth, dep]
  | .str _ => by simp [toP, PyData.depth, dep]
  | .tup ds => by simp only [toP, PyData.depth, dep, depth_toPs ds]
  | .lst ds => by simp only [toP, PyData.depth, dep, depth_toPs ds]
  | .dct ds => by simp only [toP, PyData.depth, dep, depth_toPk ds]
  | .ins _ => by simp [toP, PyData.depth, dep]
theorem depth_toPs : ∀ ds : List D, PyData.depthAll (toPs ds) = deps ds
  | [] => by simp [toPs, PyData.depthAll, deps]
  | d :: ds => by simp only [toPs, PyData.depthAll, deps, depth_toP d, depth_toPs ds]
theorem depth_toPk : ∀ ds : List (D × D), PyData.depthKv (toPk ds) = depk ds
  | [] => by simp [toPk, PyData.depthKv, depk]
  | (k, v) :: ds => by simp only [toPk, PyData.depthKv, depk, depth_toP k, depth_toP v, depth_toPk ds]
end
mutual
theorem eqv_toP : ∀ d e : D, flat d = true → flat e = true → PyData.eqv (toP d) (toP e) = eqD d e
  | .non, e, _, f => by cases e <;> first | (simp [toP, PyData.eqv, eqD]; done) | (simp [flat] at f)
  | .bl _, e, _, f => by cases e <;> first | (simp [toP, PyData.eqv, eqD]; done) | (simp [flat] at f)
  | .int _, e, _, f => by cases e <;> first | (simp [toP, PyData.eqv, eqD]; done) | (simp [flat] at f)
  | .str _, e, _, f => by cases e <;> first | (simp [toP, PyData.eqv, eqD]; done) | (simp [flat] at f)
  | .tup xs, e, f1, f => by
    cases e with
    | tup ys => simp only [toP, PyData.eqv, eqD]; exact eqv_toPs xs ys (by simpa [flat] using f1) (by simpa [flat] using f)
    | _ => first | (simp [toP, PyData.eqv, eqD]; done) | (simp [flat] at f)
  | .lst xs, e, f1, f => by
    cases e with
    | lst ys => simp only [toP, PyData.eqv, eqD]; exact eqv_toPs xs ys (by simpa [flat] using f1) (by simpa [flat] using f)
    | _ => first | (simp [toP, PyData.eqv, eqD]; done) | (simp [flat] at f)
  | .dct _, _, f, _ => by simp [flat] at f
  | .ins _, _, f, _ => by simp [flat] at f
theorem eqv_toPs : ∀ xs ys : List D, flats xs = true → flats ys = true → PyData.eqvAll (toPs xs) (toPs ys) = eqDs xs ys
  | [], [], _, _ => by simp [toPs, PyData.eqvAll, eqDs]
  | [], _ :: _, _, _ => by simp [toPs, PyData.eqvAll, eqDs]
  | _ :: _, [], _, _ => by simp [toPs, PyData.eqvAll, eqDs]
  | x :: xs, y :: ys, f, g => by
    have f' : flat x = true ∧ flats xs = true := by simpa [flats] using f
    have g' : flat y = true ∧ flats ys = true := by simpa [flats] using g
    simp only [toPs, PyData.eqvAll, eqDs, eqv_toP x y f'.1 g'.1, eqv_toPs xs ys f'.2 g'.2]
end
theorem toPs_map (ds : List D) : toPs ds = ds.map toP := by
  induction ds with
  | nil => rfl
  | cons d ds ih => simp [toPs, ih]
theorem flats_all (ds : List D) : flats ds = ds.all flat := by
  induction ds with
  | nil => rfl
  | cons d ds ih => simp [flats, ih]
end

/-! ### ==, != -/
section
variable {X : Cx} {n : Nat}
def rEqF (K : PySem.W.Frag) (neg : Bool) : R2 := fun x y H Q => ∃ d e, Dp K H x (toP d) ∧ Dp K H y (toP e) ∧ eqOk d e = true ∧ Q (.bl (if neg then !eqD d e else eqD d e)) H
theorem eqOk_and {d e : D} (h : eqOk d e = true) : flat d = true ∧ flat e = true ∧ min (dep d) (dep e) ≤ 60 := by
  unfold eqOk at h
  obtain ⟨h1, h3⟩ := Bool.and_eq_true_iff.mp h
  obtain ⟨h1, h2⟩ := Bool.and_eq_true_iff.mp h1
  exact ⟨h1, h2, of_decide_eq_true h3⟩
theorem op_eqF (hx : XOk X n) : OpR X (compareOp .Eq) (rEqF X.K false) := by
  intro pins s σ H x y v u Q I rx ry ⟨d, e, hd, he, ok, q⟩
  obtain ⟨f1, f2, f3⟩ := eqOk_and ok
  obtain ⟨as, r1⟩ := Dp.reads I _ x v hd rx
  obtain ⟨bs, r2⟩ := Dp.reads I _ y u he ry
  have hu := hx.room.units
  refine SeqAt.eq_plain r1 r2 (plain_toP d f1) (plain_toP e f2) (by rw [depth_toP, depth_toP]; omega) ⟨.bl _, H, I, ?_, q⟩
  rw [eqv_toP d e f1 f2]
  rfl
theorem op_neF (hx : XOk X n) : OpR X (compareOp .NotEq) (rEqF X.K true) := by
  intro pins s σ H x y v u Q I rx ry ⟨d, e, hd, he, ok, q⟩
  obtain ⟨f1, f2, f3⟩ := eqOk_and ok
  obtain ⟨as, r1⟩ := Dp.reads I _ x v hd rx
  obtain ⟨bs, r2⟩ := Dp.reads I _ y u he ry
  have hu := hx.room.units
  refine SeqAt.ne_plain r1 r2 (plain_toP d f1) (plain_toP e f2) (by rw [depth_toP, depth_toP]; omega) ⟨.bl _, H, I, ?_, q⟩
  rw [eqv_toP d e f1 f2]
  rfl
/-- x in ys, x not in ys, ys a list or a tuple -/
def rInF (K : PySem.W.Frag) (neg : Bool) : R2 := fun x y H Q => ∃ d es, Dp K H x (toP d) ∧ (Dp K H y (toP (.lst es)) ∨ Dp K H y (toP (.tup es))) ∧ inOk d es = true ∧ Q (.bl (if neg then !es.any (fun e => eqD e d) else es.any fun e => eqD e d)) H
theorem inOk_all {d : D} {es : List D} (h : inOk d es = true) : flat d = true ∧ flats es = true ∧ min (deps es) (dep d) ≤ 60 := by
  unfold inOk at h
  obtain ⟨h0, h⟩ := Bool.and_eq_true_iff.mp h
  have h' := List.all_eq_true.mp h
  refine ⟨h0, ?_, ?_⟩
  · rw [flats_all]; exact List.all_eq_true.mpr fun e he => (eqOk_and (h' e he)).1
  · have : ∀ l : List D, (∀ e ∈ l, min (dep e) (dep d) ≤ 60) → min (deps l) (dep d) ≤ 60 := by
      intro l
      induction l with
      | nil => intro _; simp [deps]
      | cons e l ih =>
        intro q
        have a1 := q e List.mem_cons_self
        have a2 := ih fun e he => q e (List.mem_cons_of_mem _ he)
        simp only [deps]; omega
    exact this es fun e he => (eqOk_and (h' e he)).2.2
theorem any_toP {d : D} {es : List D} (f : flat d = true) (g : flats es = true) : ((toPs es).any fun y => PyData.eqv y (toP d)) = es.any fun e => eqD e d := by
  rw [toPs_map, List.any_map]
  rw [flats_all] at g
  have g' := List.all_eq_true.mp g
  clear g
  induction es with
  | nil => rfl
  | cons e es ih =>
    simp only [List.any_cons, Function.comp]
    rw [eqv_toP e d (g' e List.mem_cons_self) f, ← ih fun x hx => g' x (List.mem_cons_of_mem _ hx)]
theorem op_inF (hx : XOk X n) : OpR X (compareOp .In) (rInF X.K false) := by
  intro pins s σ H x y v u Q I rx ry ⟨d, es, hd, he, ok, q⟩
  obtain ⟨f1, f2, f3⟩ := inOk_all ok
  obtain ⟨as, r1⟩ := Dp.reads I _ x v hd rx
  have hu := hx.room.units
  have fin : EP X pins σ Q (.bool ((toPs es).any fun y => PyData.eqv y (toP d))) s := ⟨.bl _, H, I, by rw [any_toP f1 f2]; rfl, q⟩
  rcases he with he | he
  · obtain ⟨bs, r2⟩ := Dp.reads I _ y u he ry
    exact SeqAt.in_list_data (show Reads s.heap u (.list (toPs es)) bs from r2) r1 (plain_toPs es f2) (plain_toP d f1) (by rw [depth_toP, depth_toPs]; omega) fin
  · obtain ⟨bs, r2⟩ := Dp.reads I _ y u he ry
    exact SeqAt.in_tuple_data (show Reads s.heap u (.tuple (toPs es)) bs from r2) r1 (plain_toPs es f2) (plain_toP d f1) (by rw [depth_toP, depth_toPs]; omega) fin
theorem op_notInF (hx : XOk X n) : OpR X (compareOp .NotIn) (rInF X.K true) := by
  intro pins s σ H x y v u Q I rx ry ⟨d, es, hd, he, ok, q⟩
  obtain ⟨f1, f2, f3⟩ := inOk_all ok
  obtain ⟨as, r1⟩ := Dp.reads I _ x v hd rx
  have hu := hx.room.units
  have fin : EP X pins σ Q (.bool (!(toPs es).any fun y => PyData.eqv y (toP d))) s := ⟨.bl _, H, I, by rw [any_toP f1 f2]; rfl, q⟩
  rcases he with he | he
  · obtain ⟨bs, r2⟩ := Dp.reads I _ y u he ry
    exact SeqAt.notIn_list_data (show Reads s.heap u (.list (toPs es)) bs from r2) r1 (plain_toPs es f2) (plain_toP d f1) (by rw [depth_toP, depth_toPs]; omega) fin
  · obtain ⟨bs, r2⟩ := Dp.reads I _ y u he ry
    exact SeqAt.notIn_tuple_data (show Reads s.heap u (.tuple (toPs es)) bs from r2) r1 (plain_toPs es f2) (plain_toP d f1) (by rw [depth_toP, depth_toPs]; omega) fin
end
end Dn

set_option Elab.async false
set_option linter.all false
set_option maxRecDepth 100000
/-! Dn, part F: calls of built-in functions on held data. -/
namespace Dn
open PySem PySem.Spec PyProof.Rows L2

/-! ### reading for repr -/
theorem kD_keyIs {k : Key} {u : Value} {h : Heap} (e : keyIs k u = true) : ∃ as, Reads h u (toP (kD k)) as ∧ sysModules ∉ as := by
  rcases keyIs_shape e with ⟨i, t, rfl, rfl⟩ | ⟨x, t, rfl, rfl⟩
  · exact ⟨[], .int i t, by simp⟩
  · exact ⟨[], .str x t, by simp⟩
section
variable {X : Cx} {pins : List (Addr × Obj)} {σ : L2.St} {s : Shared} {G H : Hp} {B : Addr}
/-- a tracked thing is not sys.modules -/
theorem notSys (I : Inv X pins σ H s) (hs : ∃ o, X.K.lookup sysModules = some o) {a : Addr} {o : HO} (e : H a = some o) : a ≠ sysModules := fun z => by
  obtain ⟨ob, ho⟩ := hs
  subst z
  have h1 := (I.bs sysModules ob (I.ok.mod.kin _ _ ho)).2
  rw [e] at h1; cases h1
theorem rd_some {a : Addr} {o : HO} (h : Rd H a o) : ∃ u, H a = some u := by
  rcases h with h | ⟨ob, h⟩
  · exact ⟨_, h⟩
  · exact ⟨_, h⟩
/-- a dict's object: its entries -/
theorem dct_reads (I : Inv X pins σ H s) (hs : ∃ o, X.K.lookup sysModules = some o) {a : Addr} {kvs : List (Key × V)} {ds : List (D × D)} (h : Rd H a (.dK kvs))
    (hk : Paired (fun (p : Key × V) (q : D × D) => kD p.1 = q.1 ∧ ∀ u, RelV p.2 u → ∃ as, Reads s.heap u (toP q.2) as ∧ sysModules ∉ as) kvs ds) : ∃ as, Reads s.heap (.ref a) (toP (.dct ds)) as ∧ sysModules ∉ as := by
  obtain ⟨z, hd, vs, rel, o, es, ep, ho, hx, hdat, _, hp, _⟩ := dk_rd I.hok h
  have hall : ∀ (kvs : List (Key × V)) (ds : List (D × D)) (vs : List (Key × Value)) (es : List DictEntry), KV kvs vs → Pairs (mixKind X.prog X.w) es vs →
      Paired (fun (p : Key × V) (q : D × D) => kD p.1 = q.1 ∧ ∀ u, RelV p.2 u → ∃ as, Reads s.heap u (toP q.2) as ∧ sysModules ∉ as) kvs ds →
      ∃ as bs, ReadsAll s.heap (es.map (·.key)) ((toPk ds).map (·.1)) as ∧ ReadsAll s.heap (es.map (·.val)) ((toPk ds).map (·.2)) bs ∧ sysModules ∉ as ∧ sysModules ∉ bs := by
    intro kvs ds vs es r1
    induction r1 generalizing ds es with
    | nil =>
      intro hp hk
      cases hp; cases hk
      exact ⟨[], [], .nil, .nil, by simp, by simp⟩
    | @cons p q kr vr e t ih =>
      intro hp hk
      cases hp with
      | cons h1 h2 h3 =>
        cases hk with
        | @cons _ dq _ dr k1 k2 =>
          obtain ⟨as, bs, a1, a2, a3, a4⟩ := ih _ _ h3 k2
          obtain ⟨e1, e2⟩ := e
          obtain ⟨kd, f⟩ := k1
          obtain ⟨cs, c1, c2⟩ := f _ e2
          rw [← h2] at c1
          rw [← e1] at h1
          obtain ⟨fs, f1, f2⟩ := kD_keyIs (h := s.heap) h1
          rw [kd] at f1
          obtain ⟨dk, dv⟩ := dq
          refine ⟨fs ++ as, cs ++ bs, .cons f1 a1, .cons c1 a2, ?_, ?_⟩
          · simp [f2, a3]
          · simp [c2, a4]
  obtain ⟨as, bs, a1, a2, a3, a4⟩ := hall kvs ds vs es.toList rel hp hk
  refine ⟨a :: as ++ bs, .dict ho hx.1 hdat a1 a2, ?_⟩
  obtain ⟨u, hu⟩ := rd_some h
  have na := notSys I hs hu
  simp only [List.cons_append, List.mem_cons, List.mem_append, not_or]
  exact ⟨fun q => na q.symm, a3, a4⟩
mutual
theorem Rp.reads (I : Inv X pins σ H s) (hs : ∃ o, X.K.lookup sysModules = some o) (sub : Sub G H) : ∀ (d : D) (v : V) (u : Value), noIns d = true → Rp X.K G v d → RelV v u → ∃ as, Reads s.heap u (toP d) as ∧ sysModules ∉ as
  | .non, _, _, _, r, e => by cases r; cases e; exact ⟨_, .none, by simp⟩
  | .bl b, _, _, _, r, e => by cases r; cases e; exact ⟨_, .bool b, by simp⟩
  | .int i, _, _, _, r, e => by cases r; obtain ⟨t, rfl⟩ := e; exact ⟨_, .int i t, by simp⟩
  | .str x, _, _, _, r, e => by cases r; obtain ⟨t, rfl⟩ := e; exact ⟨_, .str x t, by simp⟩
  | .tup ds, v, u, f, r, e => by
    obtain ⟨a, vs, rfl, q, r⟩ := r.tupAt sub
    cases e
    obtain ⟨its, rv, ⟨o, ho, hc, n, hd⟩, _⟩ := I.tuple q
    obtain ⟨as, h1, h2⟩ := Rps.reads I hs sub ds vs its (by simpa [noIns] using f) r rv
    exact ⟨_, .tuple ho hc hd h1, h2⟩
  | .lst ds, v, u, f, r, e => by
    cases r with
    | lst g r =>
      cases e
      have g' := sub.lst g
      obtain ⟨its, rv, ⟨o, n, ho, hc, _, hd⟩, _⟩ := I.list (.inl (.inl g'))
      obtain ⟨as, h1, h2⟩ := Rps.reads I hs sub ds _ its (by simpa [noIns] using f) r rv
      refine ⟨_, .list ho hc hd h1, ?_⟩
      simp only [List.mem_cons, not_or]
      exact ⟨fun q => notSys I hs g' q.symm, h2⟩
  | .dct ds, v, u, f, r, e => by
    cases r with
    | dct g r =>
      cases e
      exact dct_reads I hs (sub.dct g) (Rpk.reads I hs sub ds _ (by simpa [noIns] using f) r)
  | .ins _, _, _, f, _, _ => by simp [noIns] at f
theorem Rps.reads (I : Inv X pins σ H s) (hs : ∃ o, X.K.lookup sysModules = some o) (sub : Sub G H) : ∀ (ds : List D) (vs : List V) (us : List Value), noInss ds = true → Rps X.K G vs ds → Vals vs us → ∃ as, ReadsAll s.heap us (toPs ds) as ∧ sysModules ∉ as
  | [], _, _, _, r, e => by cases r; cases e; exact ⟨_, .nil, by simp⟩
  | d :: ds, _, _, f, r, e => by
    have f' : noIns d = true ∧ noInss ds = true := by simpa [noInss] using f
    cases r with
    | cons r t =>
      cases e with
      | cons e1 e2 =>
        obtain ⟨as, h1, h2⟩ := Rp.reads I hs sub d _ _ f'.1 r e1
        obtain ⟨bs, h3, h4⟩ := Rps.reads I hs sub ds _ _ f'.2 t e2
        exact ⟨as ++ bs, .cons h1 h3, by simp [h2, h4]⟩
theorem Rpk.reads (I : Inv X pins σ H s) (hs : ∃ o, X.K.lookup sysModules = some o) (sub : Sub G H) : ∀ (ds : List (D × D)) (kvs : List (Key × V)), noInsk ds = true → Rpk X.K G kvs ds →
    Paired (fun (p : Key × V) (q : D × D) => kD p.1 = q.1 ∧ ∀ u, RelV p.2 u → ∃ as, Reads s.heap u (toP q.2) as ∧ sysModules ∉ as) kvs ds
  | [], _, _, r => by cases r; exact .nil
  | (k, d) :: ds, _, f, r => by
    have f' : (noIns k = true ∧ noIns d = true) ∧ noInsk ds = true := by simpa [noInsk, and_assoc] using f
    cases r with
    | cons c r t => exact .cons ⟨rfl, fun u e => Rp.reads I hs sub d _ u f'.1.2 r e⟩ (Rpk.reads I hs sub ds _ f'.2 t)
end
theorem RO.reads (I : Inv X pins σ H s) (hs : ∃ o, X.K.lookup sysModules = some o) (sub : Sub G H) : ∀ {n : Nat} {v : V} {d : D} {fp : List Addr} {u : Value}, RO X.K G B H n v d fp → noIns d = true → RelV v u → ∃ as, Reads s.heap u (toP d) as ∧ sysModules ∉ as
  | 0, v, d, fp, u, r, f, e => Rp.reads I hs sub d v u f r.2 e
  | n + 1, v, d, fp, u, r, f, e => by
    have ih := @RO.reads I hs sub n
    rcases r with ⟨c, _, r⟩ | ⟨b, vs, ds, g, rfl, rfl, rfl, nb, gb, hb, r⟩ | ⟨b, kvs, ds, g, rfl, rfl, rfl, nb, gb, hb, r⟩
    · exact Rp.reads I hs sub d v u f r e
    · cases e
      have hh : ∀ {vs : List V} {ds : List D} {g : List Addr}, ROs (RO X.K G B H n) vs ds g → noInss ds = true → ∀ us, Vals vs us → ∃ as, ReadsAll s.heap us (toPs ds) as ∧ sysModules ∉ as := by
        intro vs ds g h
        induction h with
        | nil => intro _ us e; cases e; exact ⟨_, .nil, by simp⟩
        | cons r t ih2 =>
          intro f us e
          have f' := Bool.and_eq_true_iff.mp (show (noIns _ && noInss _) = true from f)
          cases e with
          | cons e1 e2 =>
            obtain ⟨as, h1, h2⟩ := ih r f'.1 e1
            obtain ⟨bs, h3, h4⟩ := ih2 f'.2 _ e2
            exact ⟨as ++ bs, .cons h1 h3, by simp [h2, h4]⟩
      obtain ⟨its, rv, ⟨o, k, ho, hc, _, hd⟩, _⟩ := I.list (.inl (.inl hb))
      obtain ⟨as, h1, h2⟩ := hh r (by simpa [noIns] using f) _ rv
      refine ⟨_, .list ho hc hd h1, ?_⟩
      simp only [List.mem_cons, not_or]
      exact ⟨fun q => notSys I hs hb q.symm, h2⟩
    · cases e
      have hh : ∀ {kvs : List (Key × V)} {ds : List (D × D)} {g : List Addr}, ROk (RO X.K G B H n) kvs ds g → noInsk ds = true →
          Paired (fun (p : Key × V) (q : D × D) => kD p.1 = q.1 ∧ ∀ u, RelV p.2 u → ∃ as, Reads s.heap u (toP q.2) as ∧ sysModules ∉ as) kvs ds := by
        intro kvs ds g h
        induction h with
        | nil => intro _; exact .nil
        | cons c r t ih2 =>
          intro f
          have f' := Bool.and_eq_true_iff.mp (show (noIns _ && noIns _ && noInsk _) = true from f)
          exact .cons ⟨rfl, fun u e => ih r (Bool.and_eq_true_iff.mp f'.1).2 e⟩ (ih2 f'.2)
      exact dct_reads I hs (.inl hb) (hh r (by simpa [noIns] using f))
end

/-! ### what a built-in call asks and gives -/
def need1 : Bi → Bool
  | .tuple => true
  | .list => true
  | .dict => true
  | .sorted => true
  | _ => false
def lvB : Bi → Nat
  | .list => 1
  | .dict => 1
  | .sorted => 1
  | _ => 9
def rBi (K : PySem.W.Frag) (f : Bi) : List V → Hp → VK → Prop := fun xs H Q => ∃ B G b v m d r fp, xs = [v] ∧ StOk B G H b ∧ RO K G B H m v d fp ∧ (need1 f = true → m ≤ 1) ∧ biM f d = some r ∧
  ∀ w G' H' fp', Post B G H G' b H' → RO K G' B H' (lvB f) w r fp' → fp'.Nodup → (∀ a ∈ fp', H a = none) → Q w H'
section
variable {X : Cx} {n : Nat}
theorem wkC {f : Value} {r r' : List V → Hp → VK → Prop} (h : CallR X f r) (w : ∀ xs H Q, r' xs H Q → r xs H Q) : CallR X f r' := fun pins s σ H xs us Q I rx q => h pins s σ H xs us Q I rx (w xs H Q q)
/-- nothing made -/
theorem fin0 {B : Addr} {G : Hp} {b : Bg} {H : Hp} {K : PySem.W.Frag} {k : Nat} {Q : VK} {w : V} {r : D} (st : StOk B G H b) (hc : isCon r = false) (rp : Rp K G w r)
    (q : ∀ w G' H' fp', Post B G H G' b H' → RO K G' B H' k w r fp' → fp'.Nodup → (∀ a ∈ fp', H a = none) → Q w H') : Q w H :=
  q w G H [] (.refl st) (.nc hc rp) List.nodup_nil (by simp)
/-- a new list of frozen things -/
theorem finL {B : Addr} {G : Hp} {b : Bg} {H : Hp} {K : PySem.W.Frag} {k : Nat} {Q : VK} {p : Addr} {vs : List V} {ds : List D} (st : StOk B G H b) (hp : H p = none) (rp : Rps K G vs ds) (hk : k = 1 ∨ ds = [])
    (q : ∀ w G' H' fp', Post B G H G' b H' → RO K G' B H' k w (.lst ds) fp' → fp'.Nodup → (∀ a ∈ fp', H a = none) → Q w H') : Q (.ref p) (upd H p (.lst vs)) := by
  cases k with
  | zero =>
    rcases hk with hk | rfl
    · cases hk
    · cases rp
      have P := st.laid (o := .lst []) hp
      have hfp : ∀ a ∈ [p], a ≠ B ∧ G a = none ∧ ∃ o, (upd H p (.lst [])) a = some o ∧ ((∃ vs, o = .lst vs) ∨ ∃ kvs, o = .dK kvs) := by
        intro a ha
        have e : a = p := by simpa using ha
        subst e
        exact ⟨st.notB hp, st.gnone hp, _, upd_same, .inl ⟨_, rfl⟩⟩
      refine q _ (frz G (upd H p (.lst [])) [p]) _ [] ⟨fun a o e => frz_sub (fun a ha => (hfp a ha).2.1) a o e, fun a h => ?_, P.kp, P.st.frz hfp, P.cl⟩ ⟨rfl, .lst ((frz_in (by simp)).trans upd_same) .nil⟩ List.nodup_nil (by simp)
      by_cases z : a ∈ [p]
      · have e : a = p := by simpa using z
        subst e; exact .inr hp
      · rw [frz_out z] at h; exact .inl h
  | succ k =>
    refine q _ G _ [p] (st.laid hp) (.inr (.inl ⟨p, vs, ds, [], rfl, rfl, rfl, st.notB hp, st.gnone hp, upd_same, ?_⟩)) (by simp) (by simp [hp])
    rcases hk with hk | rfl
    · have e : k = 0 := by omega
      subst e; exact rp.ros
    · cases rp; exact .nil
/-- a new dict of frozen things -/
theorem finD {B : Addr} {G : Hp} {b : Bg} {H : Hp} {K : PySem.W.Frag} {Q : VK} {p : Addr} {kvs : List (Key × V)} {ds : List (D × D)} (st : StOk B G H b) (hp : H p = none) (rp : Rpk K G kvs ds)
    (q : ∀ w G' H' fp', Post B G H G' b H' → RO K G' B H' 1 w (.dct ds) fp' → fp'.Nodup → (∀ a ∈ fp', H a = none) → Q w H') : Q (.ref p) (upd H p (.dK kvs)) :=
  q _ G _ [p] (st.laid hp) (.inr (.inr ⟨p, kvs, ds, [], rfl, rfl, rfl, st.notB hp, st.gnone hp, upd_same, rp.rok⟩)) (by simp) (by simp [hp])
/-- a new tuple -/
theorem finT {B : Addr} {G : Hp} {b : Bg} {H : Hp} {K : PySem.W.Frag} {k : Nat} {Q : VK} {p : Addr} {vs : List V} {ds : List D} {o : Obj} (st : StOk B G H b) (hp : H p = none) (hd : o.dict = none) (rp : Rps K G vs ds)
    (q : ∀ w G' H' fp', Post B G H G' b H' → RO K G' B H' k w (.tup ds) fp' → fp'.Nodup → (∀ a ∈ fp', H a = none) → Q w H') : Q (.ref p) (upd H p (.frz o (.tup vs))) := by
  have P := st.laid (o := .frz o (.tup vs)) hp
  have hs : ∀ a u, G a = some u → (upd G p (.frz o (.tup vs))) a = some u := fun a u e => by
    by_cases z : a = p
    · subst z; rw [st.gnone hp] at e; cases e
    · rw [upd_ne z]; exact e
  refine q _ (upd G p (.frz o (.tup vs))) _ [] ⟨hs, fun a h => ?_, P.kp, ⟨fun a u e => ?_, ?_, P.st.bag⟩, P.cl⟩ (.nc rfl (.tup upd_same hd (rp.mono hs))) List.nodup_nil (by simp)
  · by_cases z : a = p
    · subst z; exact .inr hp
    · rw [upd_ne z] at h; exact .inl h
  · by_cases z : a = p
    · subst z; rw [upd_same] at e ⊢; exact .inl e
    · rw [upd_ne z] at e; exact P.st.sub a u e
  · rw [upd_ne (fun e => st.notB hp e.symm)]; exact st.gb
end
section
variable {X : Cx} {n : Nat}
theorem Rpk.keys {K : PySem.W.Frag} {G : Hp} {ds : List (D × D)} : ∀ {kvs : List (Key × V)}, Rpk K G kvs ds → Rps K G (kvs.map fun kv => kV kv.1) (ds.map (·.1)) := by
  induction ds with
  | nil => intro kvs h; cases h; exact .nil
  | cons d ds ih =>
    intro kvs h
    cases h with
    | @cons k _ _ _ _ c r t =>
      refine .cons ?_ (ih t)
      cases k with
      | inl i => exact .int i
      | inr x => exact .str x c
theorem ROk.keys {K : PySem.W.Frag} {G : Hp} {R : V → D → List Addr → Prop} {ds : List (D × D)} {f : List Addr} {kvs : List (Key × V)} (h : ROk R kvs ds f) : Rps K G (kvs.map fun kv => kV kv.1) (ds.map (·.1)) ∧ ds.map (·.1) = kvs.map fun kv => kD kv.1 := by
  induction h with
  | nil => exact ⟨.nil, rfl⟩
  | @cons k _ _ _ _ _ _ c r t ih =>
    refine ⟨.cons ?_ ih.1, by simp [ih.2]⟩
    cases k with
    | inl i => exact .int i
    | inr x => exact .str x c
theorem cb_len : CallR X (.builtin "len") (rBi X.K .len) := by
  intro pins s σ H xs us Q I r h
  obtain ⟨B, G, b, v, m, d, res, fp, rfl, st, ro, _, e, q⟩ := h
  cases d with
  | lst ds =>
    cases e
    obtain ⟨a, vs, f, rfl, hl, rs⟩ := ro.lstAt st.sub
    refine call_len_seq pins s σ H _ us Q I r ⟨a, vs, rfl, .inl (.inl (.inl hl)), ?_⟩
    rw [rs.length]
    exact fin0 (k := 9) st rfl (.int _) q
  | tup ds =>
    cases e
    obtain ⟨a, vs, rfl, hl, rs⟩ := ro.tupAt st.sub
    refine call_len_seq pins s σ H _ us Q I r ⟨a, vs, rfl, .inr hl, ?_⟩
    rw [rs.length]
    exact fin0 (k := 9) st rfl (.int _) q
  | str x =>
    cases e
    obtain ⟨rfl, hx⟩ := ro.str
    refine call_len_str pins s σ H _ us Q I r ⟨x, rfl, by rw [sizeLine_eq]; exact hx, ?_⟩
    exact fin0 (k := 9) st rfl (.int _) q
  | dct ds =>
    cases e
    obtain ⟨a, vs, f, rfl, hl, rs⟩ := ro.dctAt st.sub
    obtain ⟨u, rfl, rfl⟩ := vals1 r
    refine d_len I hl fun t s' I' => ⟨.int vs.length, H, I', ⟨t, rfl⟩, ?_⟩
    rw [rs.length]
    exact fin0 (k := 9) st rfl (.int _) q
  | _ => cases e

/-! ### dicts' entries put in -/
theorem keq_kD (a b : Key) : keq (kD a) (kD b) = decide (a = b) := by
  cases a with
  | inl i =>
    cases b with
    | inl j => rw [Bool.eq_iff_iff]; simp [keq, kD]
    | inr y => simp [keq, kD]
  | inr x =>
    cases b with
    | inl j => simp [keq, kD]
    | inr y => rw [Bool.eq_iff_iff]; simp [keq, kD]
theorem kD_of {d : D} (h : isKey d = true) : ∃ k, d = kD k := by
  cases d <;> first | exact ⟨.inl _, rfl⟩ | exact ⟨.inr _, rfl⟩ | cases h
theorem kV_of {K : PySem.W.Frag} {G : Hp} {v : V} {k : Key} (r : Rp K G v (kD k)) : v = kV k ∧ kOk k := by
  cases k with
  | inl i => cases r; exact ⟨rfl, trivial⟩
  | inr x => cases r with | str _ h => exact ⟨rfl, h⟩
section
variable {R : V → D → List Addr → Prop}
theorem ROk.any {kvs : List (Key × V)} {ds : List (D × D)} {f : List Addr} (h : ROk R kvs ds f) (k : Key) : dhas ds (kD k) = kvs.any fun kv => decide (kv.1 = k) := by
  induction h with
  | nil => rfl
  | cons c r t ih =>
    unfold dhas at ih ⊢
    rw [List.any_cons, List.any_cons, ih, keq_kD]
theorem ROk.find {kvs : List (Key × V)} {ds : List (D × D)} {f : List Addr} (h : ROk R kvs ds f) (k : Key) :
    (valV kvs k = none ∧ dget ds (kD k) = none) ∨ ∃ v d g, valV kvs k = some v ∧ dget ds (kD k) = some d ∧ R v d g ∧ ∀ a ∈ g, a ∈ f := by
  induction h with
  | nil => exact .inl ⟨rfl, rfl⟩
  | @cons k' v d f g kvs ds c r t ih =>
    by_cases e : k' = k
    · refine .inr ⟨v, d, f, valV_pos e, ?_, r, fun a ha => List.mem_append_left _ ha⟩
      unfold dget
      rw [List.find?_cons]
      simp only [keq_kD, decide_eq_true e]
      rfl
    · have e2 : dget ((kD k', d) :: ds) (kD k) = dget ds (kD k) := by
        unfold dget
        rw [List.find?_cons]
        simp only [keq_kD, decide_eq_false e]
      rcases ih with ⟨a1, a2⟩ | ⟨w, x, g', a1, a2, a3, a4⟩
      · exact .inl ⟨(valV_neg e).trans a1, e2.trans a2⟩
      · exact .inr ⟨w, x, g', (valV_neg e).trans a1, e2.trans a2, a3, fun a ha => List.mem_append_right _ (a4 a ha)⟩
end
section
variable {K : PySem.W.Frag} {G H : Hp} {B : Addr}
theorem Rpk.any {kvs : List (Key × V)} {ds : List (D × D)} (h : Rpk K G kvs ds) (k : Key) : dhas ds (kD k) = kvs.any fun kv => decide (kv.1 = k) := (h.rok (H := G) (B := 0)).any k
theorem Rpk.app {kvs kvs2 : List (Key × V)} {ds ds2 : List (D × D)} (h : Rpk K G kvs ds) (h2 : Rpk K G kvs2 ds2) : Rpk K G (kvs ++ kvs2) (ds ++ ds2) := by
  induction ds generalizing kvs with
  | nil => cases h; exact h2
  | cons d ds ih => cases h with | cons c r t => exact .cons c r (ih t)
theorem Rpk.repl {k : Key} {v : V} {d : D} (r : Rp K G v d) : ∀ {ds : List (D × D)} {kvs : List (Key × V)}, Rpk K G kvs ds →
    Rpk K G (kvs.map fun kv => if kv.1 = k then (kv.1, v) else kv) (ds.map fun p => if keq p.1 (kD k) then (p.1, d) else p)
  | [], _, h => by cases h; exact .nil
  | _ :: ds, _, h => by
    cases h with
    | @cons k' v' d' kvs _ c r' t =>
      have ih := Rpk.repl (k := k) r t
      simp only [List.map_cons, keq_kD]
      by_cases e : k' = k
      · rw [if_pos e, if_pos (decide_eq_true e)]; exact .cons c r ih
      · rw [if_neg e, if_neg (by simp [e])]; exact .cons c r' ih
theorem Rpk.put {kvs : List (Key × V)} {ds : List (D × D)} {k : Key} {v : V} {d : D} (h : Rpk K G kvs ds) (c : kOk k) (r : Rp K G v d) : Rpk K G (putK kvs k v) (dput ds (kD k) d) := by
  unfold putK dput
  rw [h.any k]
  by_cases e : (kvs.any fun kv => decide (kv.1 = k)) = true
  · rw [if_pos e, if_pos e]; exact h.repl r
  · rw [if_neg e, if_neg e]; exact h.app (.cons c r .nil)
theorem Rpk.merge : ∀ {ds2 : List (D × D)} {kvs kvs2 : List (Key × V)} {ds : List (D × D)}, Rpk K G kvs ds → Rpk K G kvs2 ds2 → Rpk K G (mergeK kvs kvs2) (dmerge ds ds2)
  | [], _, _, _, h, h2 => by cases h2; exact h
  | _ :: ds2, kvs, _, ds, h, h2 => by
    cases h2 with
    | cons c r t =>
      have e := Rpk.merge (Rpk.put h c r) t
      exact e
/-- a list of pairs -/
theorem Rps.pairs (s : Sub G H) : ∀ {ds : List D} {vs : List V} {out : List (D × D)}, Rps K G vs ds → dpairs ds = some out →
    ∃ ps kvs, vs = ps.map V.ref ∧ Paired (fun (p : Addr) (kv : Key × V) => SqT K H p [kV kv.1, kv.2]) ps kvs ∧ Rpk K G kvs out
  | [], _, out, h, e => by
    cases h; cases e
    exact ⟨[], [], rfl, .nil, .nil⟩
  | d :: ds, _, out, h, e => by
    cases h with
    | cons r t =>
      cases d with
      | tup ks =>
        match ks, e, r with
        | [k, v], e, r =>
          by_cases hk : isKey k = true
          · have e' : (dpairs ds).map (fun t => (k, v) :: t) = some out := by
              have := e
              unfold dpairs at this
              rw [if_pos hk] at this
              exact this
            obtain ⟨o2, h1, h2⟩ := Option.map_eq_some_iff.mp e'
            obtain ⟨ps, kvs, a1, a2, a3⟩ := Rps.pairs s t h1
            obtain ⟨a, ws, rfl, q, rr⟩ := r.tupAt s
            cases rr with
            | cons r1 rr =>
              cases rr with
              | cons r2 rr =>
                cases rr
                obtain ⟨kk, rfl⟩ := kD_of hk
                obtain ⟨rfl, ok⟩ := kV_of r1
                subst h2
                exact ⟨a :: ps, (kk, _) :: kvs, by rw [a1]; rfl, .cons q a2, .cons ok r2 a3⟩
          · unfold dpairs at e
            rw [if_neg hk] at e; cases e
        | [], e, _ => cases e
        | [_], e, _ => cases e
        | _ :: _ :: _ :: _, e, _ => cases e
      | _ => cases e
end
theorem cb_abs : CallR X (.builtin "abs") (rBi X.K .abs) := wkC call_abs fun xs H Q h => by
  obtain ⟨B, G, b, v, m, d, res, fp, rfl, st, ro, _, e, q⟩ := h
  cases d with
  | int i => cases e; cases ro.int; exact ⟨i, rfl, fin0 (k := 9) st rfl (.int _) q⟩
  | _ => cases e
theorem cb_int : CallR X (.type "int") (rBi X.K .int) := wkC call_int1 fun xs H Q h => by
  obtain ⟨B, G, b, v, m, d, res, fp, rfl, st, ro, _, e, q⟩ := h
  cases d with
  | int i => cases e; cases ro.int; exact .inl ⟨i, rfl, fin0 (k := 9) st rfl (.int _) q⟩
  | bl c => cases e; cases ro.bl; exact .inr ⟨c, rfl, fin0 (k := 9) st rfl (.int _) q⟩
  | _ => cases e
theorem cb_str : CallR X (.type "str") (rBi X.K .str) := wkC (CallR.or call_str_int SkE.call_str_str) fun xs H Q h => by
  obtain ⟨B, G, b, v, m, d, res, fp, rfl, st, ro, _, e, q⟩ := h
  cases d with
  | int i =>
    have e' : (if i.natAbs.log2 < 1920 ∧ (Str.ofString (toString i)).length ≤ line then some (D.str (toString i)) else none) = some res := e
    by_cases c : i.natAbs.log2 < 1920 ∧ (Str.ofString (toString i)).length ≤ line
    · rw [if_pos c] at e'; cases e'
      cases ro.int; exact .inl ⟨i, rfl, c.1, fin0 (k := 9) st rfl (.str _ c.2) q⟩
    · rw [if_neg c] at e'; cases e'
  | str x =>
    cases e
    obtain ⟨rfl, hx⟩ := ro.str
    exact .inr ⟨x, rfl, fin0 (k := 9) st rfl (.str _ hx) q⟩
  | _ => cases e
theorem cb_tuple : CallR X (.type "tuple") (rBi X.K .tuple) := wkC n_tupleOf fun xs H Q h => by
  obtain ⟨B, G, b, v, m, d, res, fp, rfl, st, ro, hm, e, q⟩ := h
  cases d with
  | lst ds =>
    cases e
    obtain ⟨a, vs, rfl, hl, rs⟩ := ro.lst1 st.sub (hm rfl)
    exact ⟨a, vs, rfl, .inl ⟨.inl (.inl hl), fun p o hp ho => finT st hp ho rs q⟩⟩
  | tup ds =>
    cases e
    obtain ⟨a, vs, rfl, hl, rs⟩ := ro.tupAt st.sub
    exact ⟨a, vs, rfl, .inr ⟨hl, fin0 (k := 9) st rfl (RO.ncRp rfl ro).2 q⟩⟩
  | _ => cases e
theorem cb_list (hx : XOk X n) : CallR X (.type "list") (rBi X.K .list) := wkC (CallR.or call_list_of (call_listD hx.calm)) fun xs H Q h => by
  obtain ⟨B, G, b, v, m, d, res, fp, rfl, st, ro, hm, e, q⟩ := h
  cases d with
  | lst ds =>
    cases e
    obtain ⟨a, vs, rfl, hl, rs⟩ := ro.lst1 st.sub (hm rfl)
    exact .inl ⟨a, vs, rfl, .inl (.inl (.inl hl)), fun p hp => finL st hp rs (.inl rfl) q⟩
  | tup ds =>
    cases e
    obtain ⟨a, vs, rfl, hl, rs⟩ := ro.tupAt st.sub
    exact .inl ⟨a, vs, rfl, .inr hl, fun p hp => finL st hp rs (.inl rfl) q⟩
  | dct ds =>
    cases e
    obtain ⟨a, vs, f, rfl, hl, rs⟩ := ro.dctAt st.sub
    exact .inr ⟨a, vs, rfl, hl, fun p hp => finL st hp rs.keys.1 (.inl rfl) q⟩
  | _ => cases e
theorem pairs_of2 {pins : List (Addr × Obj)} {σ : L2.St} {H : Hp} {s : Shared} (I : L2.Inv X pins σ H s) : ∀ {ps : List Addr} {kvs : List (Key × V)}, Paired (fun p kv => SqT X.K H p [kV kv.1, kv.2]) ps kvs →
    ∃ (pv : List (Value × Value)) (prs : List (Key × Value)), KV kvs prs ∧ prs.length = ps.length ∧ pv.length = ps.length ∧ ∀ (j : Nat) (u y : Value), pv[j]? = some (u, y) → ∃ (b : Addr) (k : Key), ps[j]? = some b ∧ IsTup s.heap b #[u, y] ∧ prs[j]? = some (k, y) ∧ keyIs k u = true
  | _, _, .nil => ⟨[], [], .nil, rfl, rfl, fun j u y e => by simp at e⟩
  | _, _, .cons (a := p) (b := kv) h t => by
    obtain ⟨pv, prs, r, hl, hl2, hp⟩ := pairs_of2 I t
    obtain ⟨its, rv, ht, _⟩ := I.tuple h
    obtain ⟨u, y, ei, ru, ry⟩ := vals2 rv
    subst ei
    refine ⟨(u, y) :: pv, (kv.1, y) :: prs, .cons ⟨rfl, ry⟩ r, by rw [List.length_cons, List.length_cons, hl], by rw [List.length_cons, List.length_cons, hl2], fun j u' y' e => ?_⟩
    cases j with
    | zero =>
      have e' : (u, y) = (u', y') := Option.some.inj e
      cases e'
      exact ⟨p, kv.1, rfl, ht, rfl, kV_is (P := X.prog) (w := X.w) ru⟩
    | succ j =>
      obtain ⟨b, k, e1, e2, e3, e4⟩ := hp j u' y' (by simpa using e)
      exact ⟨b, k, by simpa using e1, e2, by simpa using e3, e4⟩
/-- dict(xs) of a tuple of pairs -/
theorem call_dictPT (hcalm : X.calm = true) : CallR X (.type "dict") (fun xs H Q => ∃ (a : Addr) (ps : List Addr) (kvs : List (Key × V)), xs = [.ref a] ∧ SqT X.K H a (ps.map V.ref) ∧ ((∃ o vs, H a = some (.frz o (.tup vs)) ∧ o.dict = none) ∨ ∃ o, X.K.lookup a = some o ∧ o.dict = none) ∧
    Paired (fun p kv => SqT X.K H p [kV kv.1, kv.2]) ps kvs ∧ ∀ p, H p = none → Q (.ref p) (upd H p (.dK (mergeK [] kvs)))) := by
  intro pins s σ H xs us Q I r q
  obtain ⟨a, ps, kvs, ex, hq, nd, hp, q⟩ := q
  subst ex
  obtain ⟨u, eu, rx⟩ := vals1 r
  subst eu
  cases rx
  obtain ⟨its, rv, pl, hz⟩ := I.tuple hq
  have nod : ∃ ob, s.heap.get? a = some ob ∧ ob.dict = none := by
    rcases nd with ⟨ob, ws, e1, e2⟩ | ⟨ob, e1, e2⟩
    · exact ⟨ob, (I.hok a _ e1).1, e2⟩
    · exact ⟨ob, I.kIn a ob e1, e2⟩
  have ei := refs_at rv
  rw [List.length_map] at hz
  obtain ⟨pv, prs, rel, hl, hl2, hpr⟩ := pairs_of2 I hp
  obtain ⟨o, ho, hc, n, hdat⟩ := id pl
  obtain ⟨ob, ho2, hd⟩ := nod
  rw [ho] at ho2
  cases ho2
  have isz : its.toArray.size = ps.length := by simp [ei]
  refine PySem.call_dict_pairs (K := Key) (knd := mixKind X.prog X.w) (kvs := prs) (PairArg.tuple a its.toArray (fun j => ps.getD j 0) pv) (I.ok.hd hcalm) ⟨⟨o, n, ho, hc, hd, hdat⟩, ?_, fun j k v e => ?_⟩ ⟨by rw [hl, hl2], fun i k v e => ?_⟩ (by rw [hl2]; exact hz) fun h' tk hd' k => ?_
  · rw [isz, hl2]
  · obtain ⟨b, k2, e1, e2, e3, e4⟩ := hpr j k v e
    have eb : ps.getD j 0 = b := by rw [List.getD_eq_getElem?_getD, e1]; rfl
    refine ⟨?_, .inl ?_⟩
    · show its.toArray[j]? = some (.ref (ps.getD j 0))
      rw [eb, List.getElem?_toArray, ei, List.getElem?_map, e1]; rfl
    · show s.heap.IsTuple (ps.getD j 0) #[k, v]
      rw [eb]; exact e2
  · obtain ⟨b, k2, e1, e2, e3, e4⟩ := hpr i k v e
    exact ⟨k2, e3, e4⟩
  · have hm : (s.heap.objs.size == sysModules) = false := beq_eq_false_iff_ne.mpr (Nat.ne_of_gt I.big)
    have hlen : (mergeK [] kvs).length ≤ sizeLine := by
      refine Nat.le_trans (length_mergeK kvs []) ?_
      rw [List.length_nil, Nat.zero_add, rel.length, hl]
      exact hz
    exact ⟨.ref s.heap.objs.size, upd H s.heap.objs.size (.dK (mergeK [] kvs)), I.laid (t' := tk) (fun b o e => k b o (by simp) e) (Nat.le_refl _) (show ObjOk X.prog X.w _ _ _ (.dK (mergeK [] kvs)) from ⟨hlen, hm, merged [] prs, KV.merge rel .nil, hd'⟩), rfl, q _ (I.hok.fresh (Nat.le_refl _))⟩
theorem cb_dict (hx : XOk X n) : CallR X (.type "dict") (rBi X.K .dict) := wkC (CallR.or call_dictD (CallR.or (call_dictP hx.calm) (call_dictPT hx.calm))) fun xs H Q h => by
  obtain ⟨B, G, b, v, m, d, res, fp, rfl, st, ro, hm, e, q⟩ := h
  cases d with
  | dct ds =>
    cases e
    obtain ⟨a, vs, rfl, hl, rs⟩ := ro.dct1 st.sub (hm rfl)
    exact .inl ⟨a, vs, rfl, hl, fun p hp => finD st hp rs q⟩
  | lst ds =>
    obtain ⟨out, h1, h2⟩ := Option.map_eq_some_iff.mp (show (dpairs ds).map (fun kvs => D.dct (dmerge [] kvs)) = some res from e)
    subst h2
    obtain ⟨a, vs, rfl, hl, rs⟩ := ro.lst1 st.sub (hm rfl)
    obtain ⟨ps, kvs, rfl, pp, rk⟩ := rs.pairs st.sub h1
    exact .inr (.inl ⟨a, ps, kvs, rfl, .inl (.inl hl), pp, fun p hp => finD st hp (Rpk.merge .nil rk) q⟩)
  | tup ds =>
    obtain ⟨out, h1, h2⟩ := Option.map_eq_some_iff.mp (show (dpairs ds).map (fun kvs => D.dct (dmerge [] kvs)) = some res from e)
    subst h2
    have rp := (RO.ncRp rfl ro).2
    obtain ⟨a, vs, rfl, hv, rs⟩ := rp.tupAt st.sub
    obtain ⟨ps, kvs, rfl, pp, rk⟩ := rs.pairs st.sub h1
    refine .inr (.inr ⟨a, ps, kvs, rfl, hv, ?_, pp, fun p hp => finD st hp (Rpk.merge .nil rk) q⟩)
    cases rp with
    | tup e hd _ => exact .inl ⟨_, _, st.sub.tup e, hd⟩
    | ktup e _ =>
      obtain ⟨_, o, h1, h2, _⟩ := e
      exact .inr ⟨o, h1, h2⟩
  | _ => cases e
theorem allB_some : ∀ {ds : List D} {c : Bool}, allB ds = some c → ∃ bs : List Bool, ds = bs.map D.bl ∧ c = bs.all id
  | [], c, h => by cases h; exact ⟨[], rfl, rfl⟩
  | d :: ds, c, h => by
    cases d with
    | bl b =>
      obtain ⟨x, h1, h2⟩ := Option.map_eq_some_iff.mp (show (allB ds).map (fun c => b && c) = some c from h)
      obtain ⟨bs, h3, h4⟩ := allB_some h1
      exact ⟨b :: bs, by rw [h3]; rfl, by rw [← h2, h4]; rfl⟩
    | _ => cases h
theorem anyB_some : ∀ {ds : List D} {c : Bool}, anyB ds = some c → ∃ bs : List Bool, ds = bs.map D.bl ∧ c = bs.any id
  | [], c, h => by cases h; exact ⟨[], rfl, rfl⟩
  | d :: ds, c, h => by
    cases d with
    | bl b =>
      obtain ⟨x, h1, h2⟩ := Option.map_eq_some_iff.mp (show (anyB ds).map (fun c => b || c) = some c from h)
      obtain ⟨bs, h3, h4⟩ := anyB_some h1
      exact ⟨b :: bs, by rw [h3]; rfl, by rw [← h2, h4]; rfl⟩
    | _ => cases h
theorem sumI_some : ∀ {ds : List D} {c : Int}, sumI ds = some c → ∃ ns : List Int, ds = ns.map D.int ∧ c = ns.sum
  | [], c, h => by cases h; exact ⟨[], rfl, rfl⟩
  | d :: ds, c, h => by
    cases d with
    | int b =>
      obtain ⟨x, h1, h2⟩ := Option.map_eq_some_iff.mp (show (sumI ds).map (fun c => b + c) = some c from h)
      obtain ⟨bs, h3, h4⟩ := sumI_some h1
      exact ⟨b :: bs, by rw [h3]; rfl, by rw [← h2, h4, List.sum_cons]⟩
    | _ => cases h
theorem ROs.bls {K : PySem.W.Frag} {G H : Hp} {B : Addr} {m : Nat} {f : List Addr} : ∀ {bs : List Bool} {vs : List V}, ROs (RO K G B H m) vs (bs.map D.bl) f → vs = bs.map V.bl := by
  intro bs
  induction bs generalizing f with
  | nil => intro vs h; cases h; rfl
  | cons b bs ih => intro vs h; cases h with | cons r t => rw [r.bl, ih t]; rfl
theorem ROs.ints {K : PySem.W.Frag} {G H : Hp} {B : Addr} {m : Nat} {f : List Addr} : ∀ {bs : List Int} {vs : List V}, ROs (RO K G B H m) vs (bs.map D.int) f → vs = bs.map V.int := by
  intro bs
  induction bs generalizing f with
  | nil => intro vs h; cases h; rfl
  | cons b bs ih => intro vs h; cases h with | cons r t => rw [r.int, ih t]; rfl
theorem cb_all (hx : XOk X n) : CallR X (.builtin "all") (rBi X.K .all) := wkC (cr_all hx.calm) fun xs H Q h => by
  obtain ⟨B, G, b, v, m, d, res, fp, rfl, st, ro, hm, e, q⟩ := h
  cases d with
  | lst ds =>
    obtain ⟨c, h1, h2⟩ := Option.map_eq_some_iff.mp (show (allB ds).map D.bl = some res from e)
    subst h2
    obtain ⟨bs, rfl, rfl⟩ := allB_some h1
    obtain ⟨a, vs, f, rfl, hl, rs⟩ := ro.lstAt st.sub
    have e := rs.bls; subst e
    exact ⟨a, bs, rfl, .inl (.inl hl), fin0 (k := 9) st rfl (.bl _) q⟩
  | _ => cases e
theorem cb_any (hx : XOk X n) : CallR X (.builtin "any") (rBi X.K .any) := wkC (cr_any hx.calm) fun xs H Q h => by
  obtain ⟨B, G, b, v, m, d, res, fp, rfl, st, ro, hm, e, q⟩ := h
  cases d with
  | lst ds =>
    obtain ⟨c, h1, h2⟩ := Option.map_eq_some_iff.mp (show (anyB ds).map D.bl = some res from e)
    subst h2
    obtain ⟨bs, rfl, rfl⟩ := anyB_some h1
    obtain ⟨a, vs, f, rfl, hl, rs⟩ := ro.lstAt st.sub
    have e := rs.bls; subst e
    exact ⟨a, bs, rfl, .inl (.inl hl), fin0 (k := 9) st rfl (.bl _) q⟩
  | _ => cases e
theorem cb_sum (hx : XOk X n) : CallR X (.builtin "sum") (rBi X.K .sum) := wkC (cr_sum hx.calm) fun xs H Q h => by
  obtain ⟨B, G, b, v, m, d, res, fp, rfl, st, ro, hm, e, q⟩ := h
  cases d with
  | lst ds =>
    obtain ⟨c, h1, h2⟩ := Option.map_eq_some_iff.mp (show (sumI ds).map D.int = some res from e)
    subst h2
    obtain ⟨bs, rfl, rfl⟩ := sumI_some h1
    obtain ⟨a, vs, f, rfl, hl, rs⟩ := ro.lstAt st.sub
    have e := rs.ints; subst e
    exact ⟨a, bs, rfl, .inl (.inl hl), fin0 (k := 9) st rfl (.int _) q⟩
  | _ => cases e
theorem cb_repr (hx : XOk X n) : CallR X (.builtin "repr") (rBi X.K .repr) := by
  intro pins s σ H xs us Q I r h
  obtain ⟨B, G, b, v, m, d, res, fp, rfl, st, ro, _, e, q⟩ := h
  have e' : (if showOk d then some (D.str (toP d).shown) else none) = some res := e
  by_cases c : showOk d = true
  · rw [if_pos c] at e'
    cases e'
    unfold showOk at c
    obtain ⟨c, c4⟩ := Bool.and_eq_true_iff.mp c
    obtain ⟨c, c3⟩ := Bool.and_eq_true_iff.mp c
    obtain ⟨c1, c2⟩ := Bool.and_eq_true_iff.mp c
    have c3 := of_decide_eq_true c3
    have c4 := of_decide_eq_true c4
    have hsz : (toP d).shown.length ≤ sizeLine := by rw [sizeLine_eq]; exact c3
    obtain ⟨u, rfl, rv⟩ := vals1 r
    have qq : Q (.str (toP d).shown) H := fin0 (k := 9) st rfl (.str _ c3) q
    obtain ⟨as, rd, ns⟩ := ro.reads I hx.sys st.sub c1 rv
    have big : ∀ a : Addr, u = .ref a → wpAny (model X.prog X.w) X.A (call (.builtin "repr") [u]) (EP X pins σ Q) X.xe s := fun a ea => by
      subst ea
      have hu := hx.room.units
      exact repr_of_reads' rd c2 (fun _ => ns) hx.gd (by rw [depth_toP]; omega) (fun _ _ z => z) (fun h' u tk k => ⟨.str _, H, I.kept k, ⟨u, rfl⟩, qq⟩) hsz
    cases d with
    | non =>
      cases rd
      exact P.repr_of_none ⟨.str _, H, I.tok _, ⟨_, rfl⟩, qq⟩
    | bl y =>
      cases rd
      exact P.repr_of_bool ⟨.str _, H, I.tok _, ⟨_, rfl⟩, qq⟩
    | int i =>
      cases rd
      have hi : i.natAbs.log2 < 1920 := by simpa [toP, PyData.showable] using c2
      exact P.repr_of_int hi ⟨.str _, H, I.tok _, ⟨_, rfl⟩, qq⟩
    | str x =>
      cases rd
      exact P.repr_of_str ⟨.str _, H, I.tok _, ⟨_, rfl⟩, qq⟩ hsz
    | tup ds => cases rd; exact big _ rfl
    | lst ds => cases rd; exact big _ rfl
    | dct ds => cases rd; exact big _ rfl
    | ins k => simp [noIns] at c1
  · rw [if_neg c] at e'; cases e'
end

/-! ### k in d -/
section
variable {X : Cx} {n : Nat}
theorem op_inD (hx : XOk X n) : OpR X (compareOp .In) (fun x y H Q => ∃ a kvs k, y = .ref a ∧ x = kV k ∧ Rd H a (.dK kvs) ∧ Q (.bl (kvs.any fun kv => decide (kv.1 = k))) H) := by
  intro pins s σ H x y v u Q I rx ry h
  obtain ⟨a, kvs, k, rfl, rfl, hd, q⟩ := h
  cases ry
  have hu := hx.room.units
  have g : DGet H a (kV k) (valV kvs k) := .inl ⟨kvs, k, hd, rfl, rfl⟩
  refine d_in (by omega) I g rx fun s' I' => ⟨.bl _, H, I', ?_, q⟩
  rw [valV_any]
  rfl
theorem op_notInD (hx : XOk X n) : OpR X (compareOp .NotIn) (fun x y H Q => ∃ a kvs k, y = .ref a ∧ x = kV k ∧ Rd H a (.dK kvs) ∧ Q (.bl (!kvs.any fun kv => decide (kv.1 = k))) H) := by
  intro pins s σ H x y v u Q I rx ry h
  obtain ⟨a, kvs, k, rfl, rfl, hd, q⟩ := h
  cases ry
  have hu := hx.room.units
  have g : DGet H a (kV k) (valV kvs k) := .inl ⟨kvs, k, hd, rfl, rfl⟩
  refine d_notIn (by omega) I g rx fun s' I' => ⟨.bl _, H, I', ?_, q⟩
  rw [valV_any]
  rfl
end
end Dn

set_option Elab.async false
set_option linter.all false
set_option maxRecDepth 100000
/-! Dn, part F2: sorted. -/
namespace Dn
open PySem PySem.Spec PyProof.Rows L2
section
variable {X : Cx} {n : Nat}
theorem ite_optF {α : Type} {c : Prop} [Decidable c] {x r : α} (h : (if c then some x else none) = some r) : c ∧ x = r := by
  by_cases q : c
  · rw [if_pos q] at h; exact ⟨q, Option.some.inj h⟩
  · rw [if_neg q] at h; cases h
theorem alike_all {ds : List D} (h : alikeB ds = true) : (∀ d ∈ ds, flat d = true ∧ dep d ≤ 60 ∧ ∀ e ∈ ds, PySem.W.alike (toP d) (toP e) = true) ∧ ((∀ d ∈ ds, tupNe d = true) ∨ ∀ d ∈ ds, notTup d = true) := by
  unfold alikeB at h
  obtain ⟨h1, h2⟩ := Bool.and_eq_true_iff.mp h
  refine ⟨fun d hd => ?_, ?_⟩
  · have q := List.all_eq_true.mp h1 d hd
    obtain ⟨q, q3⟩ := Bool.and_eq_true_iff.mp q
    obtain ⟨q1, q2⟩ := Bool.and_eq_true_iff.mp q
    exact ⟨q1, of_decide_eq_true q2, fun e he => List.all_eq_true.mp q3 e he⟩
  · rcases Bool.or_eq_true_iff.mp h2 with h | h
    · exact .inl (List.all_eq_true.mp h)
    · exact .inr (List.all_eq_true.mp h)
theorem noIns_of : ∀ d : D, flat d = true → noIns d = true
  | .non, _ => rfl
  | .bl _, _ => rfl
  | .int _, _ => rfl
  | .str _, _ => rfl
  | .tup xs, h => by
    have hh : flats xs = true := by simpa [flat] using h
    have : noInss xs = true := noInss_of xs hh
    simpa [noIns] using this
  | .lst xs, h => by
    have hh : flats xs = true := by simpa [flat] using h
    have : noInss xs = true := noInss_of xs hh
    simpa [noIns] using this
  | .dct _, h => by simp [flat] at h
  | .ins _, h => by simp [flat] at h
where noInss_of : ∀ ds : List D, flats ds = true → noInss ds = true
  | [], _ => rfl
  | d :: ds, h => by
    have h' : (flat d && flats ds) = true := by simpa [flats] using h
    obtain ⟨h1, h2⟩ := Bool.and_eq_true_iff.mp h'
    simp [noInss, noIns_of d h1, noInss_of ds h2]
theorem each_rps {K : PySem.W.Frag} {G : Hp} : ∀ {ds : List D} {us : List Value}, PySem.W.EachIs (fun u d => ∃ x : V, RelV x u ∧ Rp K G x d) us ds → ∃ vs, Vals vs us ∧ Rps K G vs ds := by
  intro ds us h
  induction h with
  | nil => exact ⟨[], .nil, .nil⟩
  | cons r t ih =>
    obtain ⟨x, r1, r2⟩ := r
    obtain ⟨vs, h1, h2⟩ := ih
    exact ⟨x :: vs, .cons r1 h1, .cons r2 h2⟩
theorem ros_ex {α β : Type} {K : PySem.W.Frag} {G : Hp} {R : Value → D → Prop} : ∀ {ds : List D} {vs : List V} {us : List Value}, Vals vs us → Rps K G vs ds → (∀ x u d, d ∈ ds → RelV x u → Rp K G x d → R u d) → PySem.W.EachIs R us ds
  | [], _, _, rv, r, h => by cases r; cases rv; exact .nil
  | d :: ds, _, _, rv, r, h => by
    cases r with
    | cons r1 r2 =>
      cases rv with
      | cons v1 v2 => exact .cons (h _ _ _ List.mem_cons_self v1 r1) (ros_ex (α := α) (β := β) v2 r2 fun x u d hd => h x u d (List.mem_cons_of_mem _ hd))
/-- sorted of a list of alike things -/
theorem call_sortL (hx : XOk X n) : CallR X (.builtin "sorted") (fun xs H Q => ∃ B G b v m ds fp, xs = [v] ∧ StOk B G H b ∧ RO X.K G B H m v (.lst ds) fp ∧ m ≤ 1 ∧ alikeB ds = true ∧
    ∀ w G' H' fp', Post B G H G' b H' → RO X.K G' B H' 1 w (.lst (ds.mergeSort leD)) fp' → fp'.Nodup → (∀ a ∈ fp', H a = none) → Q w H') := by
  intro pins s σ H xs us Q I rx h
  obtain ⟨B, G, b, v, m, ds, fp, rfl, st, ro, hm, hal, q⟩ := h
  obtain ⟨a, vs, rfl, hl, rs⟩ := ro.lst1 st.sub hm
  obtain ⟨u, rfl, ru⟩ := vals1 rx
  obtain rfl : u = Value.ref a := ru
  obtain ⟨its, rv, pl, hz⟩ := I.list (.inl (.inl hl))
  obtain ⟨a1, a2⟩ := alike_all hal
  have hun := hx.room.units
  refine PySem.W.sorted_data (enc := toP) (bs := ds) (R := fun u d => ∃ x : V, RelV x u ∧ Rp X.K G x d) pl.isList (ros_ex (α := Unit) (β := Unit) rv rs fun x u d _ h1 h2 => ⟨x, h1, h2⟩)
    (ros_ex (α := Unit) (β := Unit) rv rs fun x u d hd h1 h2 => ?_) (fun d hd e he => ?_) ?_ (by rw [← rs.length]; exact hz) (fun d hd => ?_) fun out ho eo => ?_
  · obtain ⟨as, r, _⟩ := h2.reads I hx.sys st.sub d x u (noIns_of d (a1 d hd).1) h1
    exact ⟨as, r⟩
  · obtain ⟨d2, hd2, rfl⟩ := List.mem_map.mp hd
    obtain ⟨e2, he2, rfl⟩ := List.mem_map.mp he
    exact (a1 d2 hd2).2.2 e2 he2
  · rcases a2 with z | z
    · refine .inl fun d hd => ?_
      obtain ⟨d, hd2, rfl⟩ := List.mem_map.mp hd
      have q := z d hd2
      cases d with
      | tup xs =>
        cases xs with
        | nil => cases q
        | cons x xs => exact ⟨toP x, toPs xs, by simp [toP, toPs]⟩
      | _ => cases q
    · refine .inr fun d hd => ?_
      obtain ⟨d, hd2, rfl⟩ := List.mem_map.mp hd
      have q := z d hd2
      have f := (a1 d hd2).1
      cases d with
      | tup xs => cases q
      | non => cases q
      | ins k => simp [flat] at f
      | dct k => simp [flat] at f
      | _ => exact ⟨by simp [toP], fun xs => by simp [toP]⟩
  · rw [depth_toP]
    have := (a1 d hd).2.1
    omega
  · obtain ⟨vs2, v2, r2⟩ := each_rps eo
    have e : ds.mergeSort (PySem.W.dataLe false toP) = ds.mergeSort leD := by rw [PySem.W.dataLe_eq]; rfl
    rw [e] at r2
    obtain ⟨ep, hat⟩ := PyProof.Rows.sortedAll_at s.heap its out.toArray
    have hlen : vs2.length ≤ sizeLine := by rw [r2.length, List.length_mergeSort, ← rs.length]; exact hz
    exact ⟨.ref _, upd H (s.heap.objs.size + 1) (.lst vs2), I.laid (t' := s.toks) (fun _ _ => PyProof.Rows.sortedAll_old) (Nat.le_succ _) ⟨hlen, out, ep, v2, hat⟩, rfl, finL (k := 1) st (I.hok.fresh (Nat.le_succ _)) r2 (.inl rfl) q⟩
/-- a tuple with this text in front -/
def FirstStr (h : Heap) (v : Value) (s : Str) : Prop := ∃ a o xs n t, v = .ref a ∧ h.get? a = some o ∧ o.cls = .type "tuple" ∧ o.data = .seq xs n ∧ xs[0]? = some (.str s t)
theorem FirstStr.one {h : Heap} {v : Value} {s s' : Str} (r : FirstStr h v s) (r' : FirstStr h v s') : s = s' := by
  obtain ⟨a, o, xs, n, t, rfl, h1, h2, h3, h4⟩ := r
  obtain ⟨a', o', xs', n', t', e, k1, k2, k3, k4⟩ := r'
  injection e with e
  subst e
  rw [h1] at k1
  obtain rfl := Option.some.inj k1
  rw [h3] at k3
  injection k3 with e1 e2
  subst e1
  rw [h4] at k4
  injection Option.some.inj k4
theorem FirstStr.of {h : Heap} {v : Value} {s : Str} {r : List PyData} {as : List Addr} (q : PySem.Reads h v (.tuple (.str s :: r)) as) : FirstStr h v s := by
  cases q with
  | @tuple a o xs n _ _ h1 h2 h3 h4 =>
    cases e : xs.toList with
    | nil => rw [e] at h4; cases h4
    | cons f fr =>
      rw [e] at h4
      cases h4 with
      | cons r1 r2 =>
        cases r1 with
        | str _ t => exact ⟨a, o, xs, n, t, rfl, h1, h2, h3, by rw [← Array.getElem?_toList, e]; rfl⟩
noncomputable def fstKind (h : Heap) (vs : List Value) : PyProof.Rows.KeyKind where
  toKeyOrd := PyProof.Rows.listOrd PyProof.Rows.itemOrd
  keyOf v := open Classical in if q : ∃ s, v ∈ vs ∧ FirstStr h v s then some (PySem.W.keyToks (.str q.choose)) else none
  dflt := ([] : List (Int ⊕ List Nat))
theorem fstKind_some {h : Heap} {vs : List Value} {v : Value} {s : Str} (hv : v ∈ vs) (r : FirstStr h v s) : (fstKind h vs).keyOf v = some (PySem.W.keyToks (.str s)) := by
  have q : ∃ s, v ∈ vs ∧ FirstStr h v s := ⟨s, hv, r⟩
  have e : (fstKind h vs).keyOf v = some (PySem.W.keyToks (.str q.choose)) := by
    show (open Classical in if q : ∃ s, v ∈ vs ∧ FirstStr h v s then some (PySem.W.keyToks (.str q.choose)) else none) = _
    rw [dif_pos q]
  rw [e, q.choose_spec.2.one r]
theorem fstKind_inv {h : Heap} {vs : List Value} {v : Value} {k : List (Int ⊕ List Nat)} (e : (fstKind h vs).keyOf v = some k) : ∃ s, v ∈ vs ∧ FirstStr h v s ∧ k = PySem.W.keyToks (.str s) := by
  by_cases q : ∃ s, v ∈ vs ∧ FirstStr h v s
  · obtain ⟨s, h1, h2⟩ := q
    rw [fstKind_some h1 h2] at e
    exact ⟨s, h1, h2, (Option.some.inj e).symm⟩
  · have e' : (fstKind h vs).keyOf v = none := by
      show (open Classical in if q : ∃ s, v ∈ vs ∧ FirstStr h v s then some (PySem.W.keyToks (.str q.choose)) else none) = _
      rw [dif_neg q]
      rfl
    rw [e'] at e
    exact absurd e (by simp)
theorem kat_self {prog : Program} {w : World} {A : Around} {b fin : Bool} {Q : Bool → Shared → Prop} {s : Shared} (h : Q fin s) : ∀ (vs : List Value) (i : Nat), PySem.W.KatLex prog w A b fin Q (vs.zip vs) i s
  | [], i => PySem.W.kat_nil h
  | v :: vs, i => by
    rw [List.zip_cons_cons]
    refine PySem.W.kat_cons ?_
    unfold eqBool
    refine wpAny_holding ?_
    rw [if_pos (beq_self_eq_true v)]
    exact wpAny_bind (wpAny_rule (wpAny_pure (PySem.W.kat_yes (kat_self h vs (i + 1)))))
theorem fst_sorts {prog : Program} {w : World} {A : Around} {s : Shared} {vs : List Value} {ss : List Str} (hu : A.units < cLine) (e : PySem.W.EachIs (fun v t => FirstStr s.heap v t) vs ss) (hn : ss.Nodup) :
    PySem.W.SortsAt prog w A s (fstKind s.heap vs) vs := by
  have inj : ∀ v ∈ vs, ∀ v' ∈ vs, ∀ t, FirstStr s.heap v t → FirstStr s.heap v' t → v = v' := by
    clear hu
    induction e with
    | nil => intro v hv; cases hv
    | @cons v0 t0 vs' ss' r t ih =>
      obtain ⟨hn1, hn2⟩ := List.nodup_cons.mp hn
      have out : ∀ v ∈ vs', ∀ t, FirstStr s.heap v t → FirstStr s.heap v0 t → False := fun v hv t' q1 q2 => by
        obtain ⟨t2, h2, q3⟩ := PySem.W.EachIs.left t v hv
        rw [r.one q2, q1.one q3] at hn1
        exact hn1 h2
      intro v hv v' hv' t' q1 q2
      rcases List.mem_cons.mp hv with rfl | hv
      · rcases List.mem_cons.mp hv' with rfl | hv'
        · rfl
        · exact (out v' hv' t' q2 q1).elim
      · rcases List.mem_cons.mp hv' with e | hv'
        · exact (out v hv t' q1 (e ▸ q2)).elim
        · exact ih hn2 v hv v' hv' t' q1 q2
  refine ⟨fun v hv => ?_, tuples' true, ?_, fun h2 E Q hq => ?_⟩
  · obtain ⟨t, ht, r⟩ := e.left v hv
    exact ⟨_, fstKind_some hv r⟩
  · intro E x y a b Q ha hb hq
    obtain ⟨t, h1, h2, rfl⟩ := fstKind_inv ha
    obtain ⟨t', k1, k2, rfl⟩ := fstKind_inv hb
    have hq' : Q (PySem.W.dataLt (.str t) (.str t')) s := hq
    by_cases ht : t = t'
    · subst ht
      obtain rfl := inj x h1 y k1 t h2 k2
      obtain ⟨l, o, xs, n, tk, rfl, g1, g2, g3, g4⟩ := h2
      refine PySem.W.kat_lt g1 g3 g1 g3 (kat_self ?_ _ _)
      have : PySem.W.dataLt (.str t) (.str t) = false := by rw [PySem.W.dataLt_str]; exact decide_eq_false (List.lt_irrefl _)
      rw [this] at hq'
      rw [decide_eq_false (Nat.lt_irrefl _)]
      exact hq'
    · obtain ⟨l, o, xs, n, tk, rfl, g1, g2, g3, g4⟩ := h2
      obtain ⟨l', o', xs', n', tk', rfl, j1, j2, j3, j4⟩ := k2
      refine PySem.W.kat_lt g1 g3 j1 j3 ?_
      rw [← Array.getElem?_toList] at g4 j4
      cases e1 : xs.toList with
      | nil => rw [e1] at g4; cases g4
      | cons f fr =>
        cases e2 : xs'.toList with
        | nil => rw [e2] at j4; cases j4
        | cons f' fr' =>
          rw [e1] at g4
          rw [e2] at j4
          obtain rfl : f = .str t tk := by simpa using g4
          obtain rfl : f' = .str t' tk' := by simpa using j4
          rw [List.zip_cons_cons]
          refine PySem.W.kat_cons (PyProof.Rows.eqBool_str ?_)
          have hne : (t == t') = false := by simpa using ht
          rw [hne]
          exact PySem.W.kat_no (PySem.W.oneLt_alike (fun _ xs => by simp) (.str t tk) (.str t' tk') (by simp [PySem.W.alike]) (by simp) (by simpa [PyData.depth] using hu) hq')
  · obtain ⟨fs, t1, t2, t3⟩ : ∃ fs, PySem.W.KatTups s.heap vs fs ∧ fs.length = vs.length ∧ ∀ f ∈ fs, ∃ t tk, f = .str t tk := by
      clear h2 inj hn
      induction e with
      | nil => exact ⟨[], .nil, rfl, by simp⟩
      | cons r t ih =>
        obtain ⟨fs, t1, t2, t3⟩ := ih
        obtain ⟨l, o, xs, n, tk, rfl, g1, g2, g3, g4⟩ := r
        refine ⟨_ :: fs, .cons g1 g2 g3 g4 t1, by simp [t2], fun f hf => ?_⟩
        rcases List.mem_cons.mp hf with rfl | hf
        · exact ⟨_, _, rfl⟩
        · exact t3 f hf
    refine PySem.W.kat_kind (T := .type "str") t1 (by omega) (fun f hf => ?_) (beq_self_eq_true _) hq
    obtain ⟨t, tk, rfl⟩ := t3 f hf
    exact PySem.W.looks_reads (.str t tk)
theorem first_all {ds : List D} (h : firstB ds = true) : ∃ ss : List Str, ss.Nodup ∧ PySem.W.EachIs (fun d s => noIns d = true ∧ ∃ r, d = .tup (.str s :: r)) ds ss := by
  unfold firstB at h
  obtain ⟨h1, h2⟩ := Bool.and_eq_true_iff.mp h
  have h2 := of_decide_eq_true h2
  have key : ∀ ds : List D, (ds.all fun d => noIns d && (fstS d).isSome) = true → ∃ ss : List Str, ds.map fstS = ss.map some ∧ PySem.W.EachIs (fun d s => noIns d = true ∧ ∃ r, d = .tup (.str s :: r)) ds ss := by
    intro ds
    induction ds with
    | nil => intro _; exact ⟨[], rfl, .nil⟩
    | cons d ds ih =>
      intro h
      obtain ⟨q1, q2⟩ := Bool.and_eq_true_iff.mp (show ((noIns d && (fstS d).isSome) && ds.all fun d => noIns d && (fstS d).isSome) = true from h)
      obtain ⟨ss, e1, e2⟩ := ih q2
      obtain ⟨q3, q4⟩ := Bool.and_eq_true_iff.mp q1
      match d, q3, q4 with
      | .tup (.str s :: r), q3, _ => exact ⟨s :: ss, by simp [fstS, e1], .cons ⟨q3, r, rfl⟩ e2⟩
  obtain ⟨ss, e1, e2⟩ := key ds h1
  rw [e1] at h2
  exact ⟨ss, (List.Pairwise.of_map some (fun a b hab e => hab (congrArg some e)) h2), e2⟩
theorem each_trans {α β γ : Type} {R : α → β → Prop} {S : β → γ → Prop} : ∀ {as : List α} {bs : List β} {cs : List γ}, PySem.W.EachIs R as bs → PySem.W.EachIs S bs cs → PySem.W.EachIs (fun a c => ∃ b, R a b ∧ S b c) as cs
  | _, _, _, .nil, h => by cases h; exact .nil
  | _, _, _, .cons r t, h => by
    cases h with
    | cons s u => exact .cons ⟨_, r, s⟩ (each_trans t u)
theorem each_fst {h : Heap} {R : Value → D → Prop} : ∀ {us : List Value} {ds : List D} {ss : List Str}, PySem.W.EachIs (fun u d => ∃ as, PySem.Reads h u (toP d) as) us ds → PySem.W.EachIs (fun d s => noIns d = true ∧ ∃ r, d = .tup (.str s :: r)) ds ss → PySem.W.EachIs (fun u s => FirstStr h u s) us ss
  | _, _, _, .nil, q => by cases q; exact .nil
  | _, _, _, .cons r t, q => by
    cases q with
    | cons q1 q2 =>
      obtain ⟨as, r⟩ := r
      obtain ⟨_, l, rfl⟩ := q1
      exact .cons (FirstStr.of (r := toPs l) (as := as) (by simpa [toP, toPs, fstS] using r)) (each_fst (R := R) t q2)
theorem each_memL {α β : Type} {R : α → β → Prop} : ∀ {as : List α} {bs : List β}, PySem.W.EachIs R as bs → PySem.W.EachIs (fun a b => R a b ∧ a ∈ as) as bs
  | _, _, .nil => .nil
  | _, _, .cons h t => .cons ⟨h, List.mem_cons_self ..⟩ ((each_memL t).mono fun _ _ q => ⟨q.1, List.mem_cons_of_mem _ q.2⟩)
/-- sorted of a list of tuples with unlike texts in front -/
theorem call_sortF (hx : XOk X n) : CallR X (.builtin "sorted") (fun xs H Q => ∃ B G b v m ds fp, xs = [v] ∧ StOk B G H b ∧ RO X.K G B H m v (.lst ds) fp ∧ m ≤ 1 ∧ firstB ds = true ∧
    ∀ w G' H' fp', Post B G H G' b H' → RO X.K G' B H' 1 w (.lst (ds.mergeSort fstLe)) fp' → fp'.Nodup → (∀ a ∈ fp', H a = none) → Q w H') := by
  intro pins s σ H xs us Q I rx h
  obtain ⟨B, G, b, v, m, ds, fp, rfl, st, ro, hm, hal, q⟩ := h
  obtain ⟨a, vs, rfl, hl, rs⟩ := ro.lst1 st.sub hm
  obtain ⟨u, rfl, ru⟩ := vals1 rx
  obtain rfl : u = Value.ref a := ru
  obtain ⟨its, rv, pl, hz⟩ := I.list (.inl (.inl hl))
  obtain ⟨ss, hn, ef⟩ := first_all hal
  have hun := hx.room.units
  have er : PySem.W.EachIs (fun u d => ∃ as, PySem.Reads s.heap u (toP d) as) its ds := ros_ex (α := Unit) (β := Unit) rv rs fun x u d hd h1 h2 => by
    have hni : noIns d = true := by
      obtain ⟨t, _, h3, _⟩ := PySem.W.EachIs.left ef d hd
      exact h3
    obtain ⟨as, r, _⟩ := h2.reads I hx.sys st.sub d x u hni h1
    exact ⟨as, r⟩
  have er2 : PySem.W.EachIs (fun u d => ∃ as, PySem.Reads (PySem.W.sortingHeap (PySem.W.copyHeap s.heap its) (s.heap.objs.size + 1) its) u (toP d) as) its ds :=
    er.mono fun _ _ ⟨as, r⟩ => ⟨as, PyProof.Rows.Reads.keeps (fun _ _ => PySem.W.sorting_copy_old) r⟩
  have e2 := each_fst (R := fun _ _ => True) er2 ef
  have eR : PySem.W.EachIs (fun u d => ∃ x : V, RelV x u ∧ Rp X.K G x d) its ds := ros_ex (α := Unit) (β := Unit) rv rs fun x u d _ h1 h2 => ⟨x, h1, h2⟩
  refine PySem.W.sorted_vals (κ := fstKind (PySem.W.sortingHeap (PySem.W.copyHeap s.heap its) (s.heap.objs.size + 1) its) its) pl.isList (fst_sorts (s := { s with heap := _ }) ?_ e2 hn) (by rw [eR.length, ← rs.length]; exact hz) ?_
  · show _ + 1 + 1 < cLine
    omega
  · have hk : PySem.W.EachIs (fun v d => (fstKind (PySem.W.sortingHeap (PySem.W.copyHeap s.heap its) (s.heap.objs.size + 1) its) its).keyOf v = some (PySem.W.keyToks (toP (.str ((fstS d).getD ""))))) its ds :=
      (each_memL (PySem.W.each_mem er2)).mono fun v d hv => by
        obtain ⟨⟨⟨as, r⟩, h1⟩, h2⟩ := hv
        obtain ⟨t, _, _, l, rfl⟩ := PySem.W.EachIs.left ef d h1
        exact fstKind_some h2 (FirstStr.of (r := toPs l) (as := as) (by simpa [toP, toPs, fstS] using r))
    have eo := PySem.W.sortVals_each (rev := false) _ eR hk
    obtain ⟨vs2, v2, r2⟩ := each_rps eo
    have e : ds.mergeSort (PySem.W.sortLe (fstKind (PySem.W.sortingHeap (PySem.W.copyHeap s.heap its) (s.heap.objs.size + 1) its) its).toKeyOrd false (fun d => PySem.W.keyToks (toP (.str ((fstS d).getD ""))))) = ds.mergeSort fstLe := rfl
    rw [e] at r2
    obtain ⟨ep, hat⟩ := PyProof.Rows.sortedAll_at s.heap its (PySem.W.sortVals (fstKind (PySem.W.sortingHeap (PySem.W.copyHeap s.heap its) (s.heap.objs.size + 1) its) its) false its its).toArray
    have hlen : vs2.length ≤ sizeLine := by rw [r2.length, List.length_mergeSort, ← rs.length]; exact hz
    exact ⟨.ref _, upd H (s.heap.objs.size + 1) (.lst vs2), I.laid (t' := s.toks) (fun _ _ => PyProof.Rows.sortedAll_old) (Nat.le_succ _) ⟨hlen, _, ep, v2, hat⟩, rfl, finL (k := 1) st (I.hok.fresh (Nat.le_succ _)) r2 (.inl rfl) q⟩
def leS (a b : Str) : Bool := decide (a.cps.toList ≤ b.cps.toList)
theorem leD_str (a b : Str) : leD (.str a) (.str b) = leS a b := by
  show (!PySem.W.dataLt (.str b) (.str a)) = _
  rw [PySem.W.dataLt_str, PySem.W.not_lt_str]
  rfl
theorem leD_int (a b : Int) : leD (.int a) (.int b) = decide (a ≤ b) := by
  show (!PySem.W.dataLt (.int b) (.int a)) = _
  rw [PySem.W.dataLt_int, PySem.W.not_lt_int]
theorem leS_trans (a b c : Str) (h1 : leS a b = true) (h2 : leS b c = true) : leS a c = true := decide_eq_true (List.le_trans (of_decide_eq_true h1) (of_decide_eq_true h2))
theorem leS_total (a b : Str) : (leS a b || leS b a) = true := by
  rcases List.le_total a.cps.toList b.cps.toList with h | h
  · simp [leS, h]
  · simp [leS, h]
theorem leS_anti {a b : Str} (h1 : leS a b = true) (h2 : leS b a = true) : a = b := PySem.W.str_of_cps (List.le_antisymm (of_decide_eq_true h1) (of_decide_eq_true h2))
theorem sort_strs (ks : List Str) : (ks.map D.str).mergeSort leD = (ks.mergeSort leS).map D.str := (List.map_mergeSort fun a _ b _ => (leD_str a b).symm).symm
def leI (a b : Int) : Bool := decide (a ≤ b)
theorem sort_ints (ks : List Int) : (ks.map D.int).mergeSort leD = (ks.mergeSort leI).map D.int := (List.map_mergeSort fun a _ b _ => (leD_int a b).symm).symm
theorem ltCps_dec (x y : Str) : ltCps x.cps.toList y.cps.toList = decide (x.cps.toList < y.cps.toList) := ltCps_eq _ _
theorem rising_pw : ∀ {ys : List Str} {p : Str}, risingS p ys = true → (∀ y ∈ ys, leS p y = true) ∧ ys.Pairwise fun a b => leS a b = true
  | [], _, _ => ⟨by simp, .nil⟩
  | y :: ys, p, h => by
    have h' : (!ltCps y.cps.toList p.cps.toList && risingS y ys) = true := h
    obtain ⟨h1, h2⟩ := Bool.and_eq_true_iff.mp h'
    obtain ⟨i1, i2⟩ := rising_pw h2
    have py : leS p y = true := by
      rw [ltCps_dec, PySem.W.not_lt_str] at h1
      exact h1
    refine ⟨fun z hz => ?_, List.pairwise_cons.mpr ⟨i1, i2⟩⟩
    rcases List.mem_cons.mp hz with rfl | hz
    · exact py
    · exact leS_trans _ _ _ py (i1 z hz)
theorem sorted_eq {ys ks : List Str} (hp : ys.Perm ks) (hs : sortedS ys = true) : ys = ks.mergeSort leS := by
  have pw : ys.Pairwise fun a b => leS a b = true := by
    cases ys with
    | nil => exact .nil
    | cons y ys => obtain ⟨i1, i2⟩ := rising_pw (show risingS y ys = true from hs); exact List.pairwise_cons.mpr ⟨i1, i2⟩
  exact List.Perm.eq_of_pairwise (fun a b _ _ h1 h2 => leS_anti h1 h2) pw (List.pairwise_mergeSort leS_trans leS_total ks) (hp.trans (List.mergeSort_perm ks leS).symm)
theorem sorted_eqI {ys ks : List Int} (hp : ys.Perm ks) (hs : ys.Pairwise (· ≤ ·)) : ys = ks.mergeSort leI := by
  have pw : ys.Pairwise fun a b => leI a b = true := hs.imp fun h => decide_eq_true h
  exact List.Perm.eq_of_pairwise (fun a b _ _ h1 h2 => Int.le_antisymm (of_decide_eq_true h1) (of_decide_eq_true h2)) pw
    (List.pairwise_mergeSort (le := leI) (fun a b c h1 h2 => decide_eq_true (Int.le_trans (of_decide_eq_true h1) (of_decide_eq_true h2))) (fun a b => by rcases Int.le_total a b with h | h <;> simp [leI, h]) ks) (hp.trans (List.mergeSort_perm ks _).symm)
theorem keys_str {K : PySem.W.Frag} {G : Hp} : ∀ {ds : List (D × D)} {kvs : List (Key × V)}, Rpk K G kvs ds → ds.all isStrKey = true → ∃ ks : List Str, kvs.map (·.1) = ks.map Sum.inr ∧ ds.map (·.1) = ks.map D.str ∧ ∀ s ∈ ks, s.length ≤ line
  | [], _, h, _ => by cases h; exact ⟨[], rfl, rfl, by simp⟩
  | d :: ds, _, h, hk => by
    cases h with
    | @cons k v d' kvs _ c r t =>
      obtain ⟨h1, h2⟩ := Bool.and_eq_true_iff.mp (show (isStrKey (kD k, d') && ds.all isStrKey) = true from hk)
      obtain ⟨ks, e1, e2, e3⟩ := keys_str t h2
      cases k with
      | inl i => cases h1
      | inr s => exact ⟨s :: ks, by simp [e1], by simp [e2, kD], fun z hz => by
          rcases List.mem_cons.mp hz with rfl | hz
          · exact c
          · exact e3 z hz⟩
theorem keys_int {K : PySem.W.Frag} {G : Hp} : ∀ {ds : List (D × D)} {kvs : List (Key × V)}, Rpk K G kvs ds → ds.all isIntKey = true → ∃ ks : List Int, kvs.map (·.1) = ks.map Sum.inl ∧ ds.map (·.1) = ks.map D.int
  | [], _, h, _ => by cases h; exact ⟨[], rfl, rfl⟩
  | d :: ds, _, h, hk => by
    cases h with
    | @cons k v d' kvs _ c r t =>
      obtain ⟨h1, h2⟩ := Bool.and_eq_true_iff.mp (show (isIntKey (kD k, d') && ds.all isIntKey) = true from hk)
      obtain ⟨ks, e1, e2⟩ := keys_int t h2
      cases k with
      | inl i => exact ⟨i :: ks, by simp [e1], by simp [e2, kD]⟩
      | inr s => cases h1
theorem rps_strs {K : PySem.W.Frag} {G : Hp} : ∀ {ys : List Str}, (∀ s ∈ ys, s.length ≤ line) → Rps K G (ys.map V.str) (ys.map D.str)
  | [], _ => .nil
  | y :: ys, h => .cons (.str y (h y List.mem_cons_self)) (rps_strs fun s hs => h s (List.mem_cons_of_mem _ hs))
theorem rps_ints {K : PySem.W.Frag} {G : Hp} : ∀ {ys : List Int}, Rps K G (ys.map V.int) (ys.map D.int)
  | [] => .nil
  | y :: ys => .cons (.int y) rps_ints
theorem cb_sorted (hx : XOk X n) : CallR X (.builtin "sorted") (rBi X.K .sorted) :=
  wkC (CallR.or (CallR.or (call_sortL hx) (call_sortF hx)) (CallR.or (call_sortedD hx.calm) (call_sortedDI hx.calm))) fun xs H Q h => by
  obtain ⟨B, G, b, v, m, d, res, fp, rfl, st, ro, hm, e, q⟩ := h
  cases d with
  | lst ds =>
    have e' : (if firstB ds = true then some (D.lst (ds.mergeSort fstLe)) else if alikeB ds = true then some (D.lst (ds.mergeSort leD)) else none) = some res := e
    by_cases cf : firstB ds = true
    · rw [if_pos cf] at e'
      obtain rfl := Option.some.inj e'
      exact .inl (.inr ⟨B, G, b, v, m, ds, fp, rfl, st, ro, hm rfl, cf, q⟩)
    · rw [if_neg cf] at e'
      obtain ⟨c, rfl⟩ := ite_optF e'
      exact .inl (.inl ⟨B, G, b, v, m, ds, fp, rfl, st, ro, hm rfl, c, q⟩)
  | dct ds =>
    obtain ⟨c, rfl⟩ := ite_optF (show (if ((ds.all isStrKey || ds.all isIntKey) && decide (ds.length < 64)) = true then some (D.lst ((ds.map (·.1)).mergeSort leD)) else none) = some res from e)
    obtain ⟨c1, c2⟩ := Bool.and_eq_true_iff.mp c
    have c2 := of_decide_eq_true c2
    obtain ⟨a, vs, rfl, hl, rk⟩ := ro.dct1 st.sub (hm rfl)
    rcases Bool.or_eq_true_iff.mp c1 with c | c
    · obtain ⟨ks, e1, e2, e3⟩ := keys_str rk c
      refine .inr (.inl ⟨a, vs, ks, rfl, hl, e1, ?_, fun ys p hp hs hn => ?_⟩)
      · have := congrArg List.length e2
        simp at this
        omega
      · rw [e2, sort_strs, ← sorted_eq hp hs] at q
        exact finL (k := 1) st hn (rps_strs fun s hs => e3 s (hp.mem_iff.mp hs)) (.inl rfl) q
    · obtain ⟨ks, e1, e2⟩ := keys_int rk c
      refine .inr (.inr ⟨a, vs, ks, rfl, hl, e1, ?_, fun ys p hp hs hn => ?_⟩)
      · have := congrArg List.length e2
        simp at this
        omega
      · rw [e2, sort_ints, ← sorted_eqI hp hs] at q
        exact finL (k := 1) st hn rps_ints (.inl rfl) q
  | _ => cases e
end
end Dn

set_option Elab.async false
set_option linter.all false
set_option maxRecDepth 100000
/-! Dn, part G: expressions, one by one. -/
namespace Dn
open PySem PySem.Spec PyProof.Rows L2
section
variable {X : Cx} {C : Cn} {Γ : Gam} {m n : Nat} {a b c : Expr} {ea eb ec : Ex} {pos : Pos}

/-- an end where nothing is made -/
theorem q0 {K : PySem.W.Frag} {B : Addr} {G H : Hp} {bg : Bg} {k : Nat} {ch : Bool} {w : V} {r : D} {Q : V → Hp → Prop} (st : StOk B G H bg) (hc : isCon r = false) (rp : Rp K G w r)
    (q : ∀ v G' H' fp, Post B G H G' bg H' → RO K G' B H' k v r fp → (ch = false → fp.Nodup ∧ ∀ a ∈ fp, H a = none) → Q v H') : Q w H :=
  q w G H [] (.refl st) (.nc hc rp) fun _ => ⟨List.nodup_nil, by simp⟩
theorem s_int {i : Int} {j} : PE X (.Constant (.int i) j pos) (rd C m Γ (.ki i)) := wkE pe_int fun σ H Q hh => by
  obtain ⟨B, G, b, ρ, d, b', st, en, he, q⟩ := rd_out hh
  obtain ⟨rfl, rfl⟩ := ret_some he
  exact q0 st rfl (.int _) q
theorem s_bl {i : Bool} {j} : PE X (.Constant (.bool i) j pos) (rd C m Γ (.kb i)) := wkE pe_bl fun σ H Q hh => by
  obtain ⟨B, G, b, ρ, d, b', st, en, he, q⟩ := rd_out hh
  obtain ⟨rfl, rfl⟩ := ret_some he
  exact q0 st rfl (.bl _) q
theorem s_non {j} : PE X (.Constant .none j pos) (rd C m Γ .kn) := wkE pe_non fun σ H Q hh => by
  obtain ⟨B, G, b, ρ, d, b', st, en, he, q⟩ := rd_out hh
  obtain ⟨rfl, rfl⟩ := ret_some he
  exact q0 st rfl .non q
theorem s_str {x : Str} {j} (hx : x.length ≤ line) : PE X (.Constant (.str x) j pos) (rd C m Γ (.ks x)) := wkE pe_str fun σ H Q hh => by
  obtain ⟨B, G, b, ρ, d, b', st, en, he, q⟩ := rd_out hh
  obtain ⟨rfl, rfl⟩ := ret_some he
  exact q0 st rfl (.str _ hx) q
/-- a slot -/
theorem s_var {i : Nat} {x : Str} (hN : X.N[i]? = some x) (hv : Vis X.env.scope x) (hl : lvl Γ i ≤ m) (hd : (x == ("__debug__" : Str)) = false) (hcd : (x == ("__classdict__" : Str)) = false) : PE X (.Name x pos) (rd C m Γ (.var i)) :=
  wkE (pe_var hN hv hd hcd) fun σ H Q hh => by
  obtain ⟨B, G, b, ρ, d, b', st, en, he, q⟩ := rd_out hh
  obtain ⟨e, rfl⟩ := lift_some he
  obtain ⟨v, fp, h1, h2, h3⟩ := en.get e
  refine ⟨v, h1, q v G H fp (.refl st) ?_ fun z => by cases z⟩
  show RO C.K G B H (min m (lvl Γ i)) v d fp
  rw [Nat.min_eq_right hl]
  exact h2
/-- a constant of the module -/
structure GlobOk (K : PySem.W.Frag) (u : Value) (d : D) : Prop where
  con : isCon d = false
  rel : ∃ v, RelV v u ∧ ∀ G, Rp K G v d
theorem s_glob {x : Str} {d : D} {u : Value} (hK : C.K = X.K) (hg : Gl X x) (hm : X.mg x = some u) (g : GlobOk X.K u d) (hd : (x == ("__debug__" : Str)) = false) : PE X (.Name x pos) (rd C m Γ (.glo x d)) := by
  obtain ⟨hc, v, r, hr⟩ := g
  refine wkE (pe_glob hg hm r hd) fun σ H Q hh => ?_
  obtain ⟨B, G, b, ρ, d', b', st, en, he, q⟩ := rd_out hh
  obtain ⟨rfl, rfl⟩ := ret_some he
  exact q0 st hc (by rw [hK]; exact hr G) q

/-- two operands -/
theorem two {ma mb : Nat} {R : V → V → Hp → Prop} {σ : L2.St} {H : Hp} {B : Addr} {G : Hp} {bg b1 b2 : Bg} {ρ : Rho} {x y : D} (st : StOk B G H bg) (en : EnvOk C.K B G H C.bs Γ σ ρ) (h1 : ev C.Φ ρ ea bg = some (x, b1)) (h2 : ev C.Φ ρ eb b1 = some (y, b2))
    (q : ∀ v w G' H' f g k1 k2, k1 ≤ ma → k2 ≤ mb → Post B G H G' b2 H' → RO C.K G' B H' k1 v x f → RO C.K G' B H' k2 w y g → R v w H') :
    rd C ma Γ ea σ H fun v H1 => rd C mb Γ eb σ H1 fun w H2 => R v w H2 :=
  ⟨B, G, bg, ρ, x, b1, st, en, h1, fun v G1 H1 f P1 ⟨k1, a1, _, R1⟩ _ => ⟨B, G1, b1, ρ, y, b2, P1.st, en.post P1, h2, fun w G2 H2 g P2 ⟨k2, a2, _, R2⟩ _ => q v w G2 H2 f g k1 k2 (by omega) (by omega) (P1.trans P2) (R1.post P2) R2⟩⟩
theorem qP {K : PySem.W.Frag} {B : Addr} {G H G1 H1 : Hp} {b1 : Bg} {k : Nat} {ch : Bool} {r : D} {Q : V → Hp → Prop} (P : Post B G H G1 b1 H1)
    (q : ∀ v G' H' fp, Post B G H G' b1 H' → RO K G' B H' k v r fp → (ch = false → fp.Nodup ∧ ∀ a ∈ fp, H a = none) → Q v H') :
    ∀ v G' H' fp, Post B G1 H1 G' b1 H' → RO K G' B H' k v r fp → (fp.Nodup ∧ ∀ a ∈ fp, H1 a = none) → Q v H' := fun v G' H' fp P2 R F =>
  q v G' H' fp (P.trans P2) R fun _ => ⟨F.1, fun a ha => by
    have h1 := F.2 a ha
    cases e : H a with
    | none => rfl
    | some o =>
      have nb : a ≠ B := (R.fp a ha).1
      rw [P.kp a o nb e] at h1; cases h1⟩
/-- .. nothing made -/
theorem qP0 {K : PySem.W.Frag} {B : Addr} {G H G1 H1 : Hp} {b1 : Bg} {k : Nat} {ch : Bool} {w : V} {r : D} {Q : V → Hp → Prop} (P : Post B G H G1 b1 H1) (hc : isCon r = false) (rp : Rp K G1 w r)
    (q : ∀ v G' H' fp, Post B G H G' b1 H' → RO K G' B H' k v r fp → (ch = false → fp.Nodup ∧ ∀ a ∈ fp, H a = none) → Q v H') : Q w H1 :=
  q w G1 H1 [] P (.nc hc rp) fun _ => ⟨List.nodup_nil, by simp⟩

/-! ### comparisons -/
def opOf : Co → CmpOp
  | .eq => .Eq | .ne => .NotEq | .lt => .Lt | .le => .LtE | .gt => .Gt | .ge => .GtE | .isin => .In | .notin => .NotIn
/-- a comparison of held data -/
def rCmp (K : PySem.W.Frag) (op : Co) : R2 := fun x y H Q => ∃ B G b d e f g m n c, StOk B G H b ∧ RO K G B H m x d f ∧ RO K G B H n y e g ∧ cmpD op d e = some c ∧ Q (.bl c) H
theorem cmp_in {K : PySem.W.Frag} {B : Addr} {G H : Hp} {m n : Nat} {x y : V} {d : D} {es : List D} {f g : List Addr} (st : Sub G H) (rx : RO K G B H m x d f) (ok : inOk d es = true) :
    (RO K G B H n y (.lst es) g → Dp K H x (toP d) ∧ Dp K H y (toP (.lst es))) ∧ (RO K G B H n y (.tup es) g → Dp K H x (toP d) ∧ Dp K H y (toP (.tup es))) := by
  obtain ⟨f1, f2, _⟩ := inOk_all ok
  exact ⟨fun r => ⟨rx.dp st f1, r.dp st (by simpa [flat] using f2)⟩, fun r => ⟨rx.dp st f1, r.dp st (by simpa [flat] using f2)⟩⟩
theorem ite_opt {α : Type} {c : Prop} [Decidable c] {x r : α} (h : (if c then some x else none) = some r) : c ∧ x = r := by
  by_cases q : c
  · rw [if_pos q] at h; cases h; exact ⟨q, rfl⟩
  · rw [if_neg q] at h; cases h
theorem op_cmp (hx : XOk X n) : ∀ op, OpR X (compareOp (opOf op)) (rCmp X.K op)
  | .eq => wkOp (op_eqF hx) fun x y H Q ⟨B, G, b, d, e, f, g, m, n, c, st, r1, r2, h, q⟩ => by
    obtain ⟨ok, rfl⟩ := ite_opt (show (if eqOk d e = true then some (eqD d e) else none) = some c from h)
    obtain ⟨f1, f2, _⟩ := eqOk_and ok
    exact ⟨d, e, r1.dp st.sub f1, r2.dp st.sub f2, ok, q⟩
  | .ne => wkOp (op_neF hx) fun x y H Q ⟨B, G, b, d, e, f, g, m, n, c, st, r1, r2, h, q⟩ => by
    obtain ⟨ok, rfl⟩ := ite_opt (show (if eqOk d e = true then some (!eqD d e) else none) = some c from h)
    obtain ⟨f1, f2, _⟩ := eqOk_and ok
    exact ⟨d, e, r1.dp st.sub f1, r2.dp st.sub f2, ok, q⟩
  | .lt => wkOp (OpR.or op_lt op_lt_str) fun x y H Q ⟨B, G, b, d, e, f, g, m, n, c, st, r1, r2, h, q⟩ => by
    cases d <;> cases e <;> first
      | (cases h; cases r1.int; cases r2.int; exact .inl ⟨_, _, rfl, rfl, q⟩)
      | (cases h; obtain ⟨rfl, _⟩ := r1.str; obtain ⟨rfl, _⟩ := r2.str; exact .inr ⟨_, _, rfl, rfl, q⟩)
      | cases h
  | .le => wkOp op_le fun x y H Q ⟨B, G, b, d, e, f, g, m, n, c, st, r1, r2, h, q⟩ => by
    cases d <;> cases e <;> first
      | (cases h; cases r1.int; cases r2.int; exact ⟨_, _, rfl, rfl, q⟩)
      | cases h
  | .gt => wkOp op_gt fun x y H Q ⟨B, G, b, d, e, f, g, m, n, c, st, r1, r2, h, q⟩ => by
    cases d <;> cases e <;> first
      | (cases h; cases r1.int; cases r2.int; exact ⟨_, _, rfl, rfl, q⟩)
      | cases h
  | .ge => wkOp op_ge fun x y H Q ⟨B, G, b, d, e, f, g, m, n, c, st, r1, r2, h, q⟩ => by
    cases d <;> cases e <;> first
      | (cases h; cases r1.int; cases r2.int; exact ⟨_, _, rfl, rfl, q⟩)
      | cases h
  | .isin => wkOp (OpR.or (op_inF hx) (OpR.or op_in_str (op_inD hx))) fun x y H Q ⟨B, G, b, d, e, f, g, m, n, c, st, r1, r2, h, q⟩ => by
    cases e with
    | lst es =>
      obtain ⟨ok, rfl⟩ := ite_opt (show (if inOk d es = true then some (es.any fun y => eqD y d) else none) = some c by cases d <;> exact h)
      obtain ⟨a1, a2⟩ := (cmp_in (n := n) (g := g) st.sub r1 ok).1 r2
      exact .inl ⟨d, es, a1, .inl a2, ok, q⟩
    | tup es =>
      obtain ⟨ok, rfl⟩ := ite_opt (show (if inOk d es = true then some (es.any fun y => eqD y d) else none) = some c by cases d <;> exact h)
      obtain ⟨a1, a2⟩ := (cmp_in (n := n) (g := g) st.sub r1 ok).2 r2
      exact .inl ⟨d, es, a1, .inr a2, ok, q⟩
    | str t =>
      cases d with
      | str w =>
        cases h
        obtain ⟨rfl, _⟩ := r1.str
        obtain ⟨rfl, _⟩ := r2.str
        exact .inr (.inl ⟨w, t, rfl, rfl, q⟩)
      | _ => cases h
    | dct kvs =>
      obtain ⟨ok, rfl⟩ := ite_opt (show (if isKey d = true then some (dhas kvs d) else none) = some c by cases d <;> exact h)
      obtain ⟨k, rfl⟩ := kD_of ok
      obtain ⟨rfl, _⟩ := kV_of (RO.ncRp (by cases k <;> rfl) r1).2
      obtain ⟨a, vs, ff, rfl, hd, rk⟩ := r2.dctAt st.sub
      refine .inr (.inr ⟨a, vs, k, rfl, rfl, hd, ?_⟩)
      rw [rk.any k] at q
      exact q
    | _ => cases d <;> cases h
  | .notin => wkOp (OpR.or (op_notInF hx) (OpR.or op_notin_str (op_notInD hx))) fun x y H Q ⟨B, G, b, d, e, f, g, m, n, c, st, r1, r2, h, q⟩ => by
    cases e with
    | lst es =>
      obtain ⟨ok, rfl⟩ := ite_opt (show (if inOk d es = true then some (!es.any fun y => eqD y d) else none) = some c by cases d <;> exact h)
      obtain ⟨a1, a2⟩ := (cmp_in (n := n) (g := g) st.sub r1 ok).1 r2
      exact .inl ⟨d, es, a1, .inl a2, ok, q⟩
    | tup es =>
      obtain ⟨ok, rfl⟩ := ite_opt (show (if inOk d es = true then some (!es.any fun y => eqD y d) else none) = some c by cases d <;> exact h)
      obtain ⟨a1, a2⟩ := (cmp_in (n := n) (g := g) st.sub r1 ok).2 r2
      exact .inl ⟨d, es, a1, .inr a2, ok, q⟩
    | str t =>
      cases d with
      | str w =>
        cases h
        obtain ⟨rfl, _⟩ := r1.str
        obtain ⟨rfl, _⟩ := r2.str
        exact .inr (.inl ⟨w, t, rfl, rfl, q⟩)
      | _ => cases h
    | dct kvs =>
      obtain ⟨ok, rfl⟩ := ite_opt (show (if isKey d = true then some (!dhas kvs d) else none) = some c by cases d <;> exact h)
      obtain ⟨k, rfl⟩ := kD_of ok
      obtain ⟨rfl, _⟩ := kV_of (RO.ncRp (by cases k <;> rfl) r1).2
      obtain ⟨a, vs, ff, rfl, hd, rk⟩ := r2.dctAt st.sub
      refine .inr (.inr ⟨a, vs, k, rfl, rfl, hd, ?_⟩)
      rw [rk.any k] at q
      exact q
    | _ => cases d <;> cases h
end
end Dn

set_option Elab.async false
set_option linter.all false
set_option maxRecDepth 100000
/-! Dn, part H: expressions, one by one, further. -/
namespace Dn
open PySem PySem.Spec PyProof.Rows L2
section
variable {X : Cx} {C : Cn} {Γ : Gam} {m n ma mb mc : Nat} {a b c : Expr} {ea eb ec : Ex} {pos : Pos}

/-- a test -/
def rt (C : Cn) (Γ : Gam) (e : Ex) : TT := fun σ H Q => ∃ B G b ρ c b', StOk B G H b ∧ EnvOk C.K B G H C.bs Γ σ ρ ∧ bnd (ev C.Φ ρ e) boolOf b = some (c, b') ∧ ∀ G' H', Post B G H G' b' H' → Q c H'
theorem bool_some {C : Cn} {ρ : Rho} {e : Ex} {b b' : Bg} {c : Bool} (h : bnd (ev C.Φ ρ e) boolOf b = some (c, b')) : ev C.Φ ρ e b = some (.bl c, b') := by
  obtain ⟨d, b1, h1, h2⟩ := bnd_some h
  obtain ⟨rfl, rfl⟩ := boolOf_some h2
  exact h1
theorem t_rd {σ : L2.St} {H : Hp} {Q : Bool → Hp → Prop} (h : rt C Γ ea σ H Q) : rd C m Γ ea σ H fun v H' => ∃ c, v = .bl c ∧ Q c H' := by
  obtain ⟨B, G, b, ρ, c, b', st, en, he, q⟩ := h
  exact ⟨B, G, b, ρ, _, b', st, en, bool_some he, fun v G' H' fp P ⟨_, _, _, R⟩ _ => ⟨c, R.bl, q G' H' P⟩⟩
theorem t_val (h : PE X a (rd C m Γ ea)) (he : ∀ whole, isTrue a X.env whole = (do let v ← whole; standAt a.pos; holding [v] (truthy v))) : PT X a (rt C Γ ea) :=
  wkT (pt_val h he) fun σ H Q h => t_rd h
theorem s_cmp {op : Co} (hK : C.K = X.K) (hx : XOk X n) (ha : PE X a (rd C ma Γ ea)) (hb : PE X b (rd C mb Γ eb)) (hm : behindInMarks (opOf op) b = false) : PE X (.Compare a [opOf op] [b] pos) (rd C m Γ (.cmp op ea eb)) :=
  wkE (pe_cmpR (op_cmp hx op) ha hb hm) fun σ H Q hh => by
  obtain ⟨B, G, bg, ρ, d, b', st, en, he, q⟩ := rd_out hh
  obtain ⟨x, b1, h1, he1⟩ := bnd_some he
  obtain ⟨y, b2, h2, he2⟩ := bnd_some he1
  obtain ⟨t, b3, h3, he3⟩ := bnd_some he2
  obtain ⟨k3, rfl⟩ := lift_some h3
  obtain ⟨rfl, rfl⟩ := ret_some he3
  exact two st en h1 h2 fun v w G' H' f g _ _ _ _ P R1 R2 => ⟨B, G', _, x, y, f, g, _, _, t, P.st, by rw [← hK]; exact R1, by rw [← hK]; exact R2, k3, qP0 P rfl (.bl _) q⟩
theorem t_cmp {op : Co} (hK : C.K = X.K) (hx : XOk X n) (ha : PE X a (rd C ma Γ ea)) (hb : PE X b (rd C mb Γ eb)) (hm : behindInMarks (opOf op) b = false) : PT X (.Compare a [opOf op] [b] pos) (rt C Γ (.cmp op ea eb)) :=
  wkT (pt_cmpR (op_cmp hx op) ha hb hm) fun σ H Q ⟨B, G, bg, ρ, d, b', st, en, he, q⟩ => by
  obtain ⟨x, b1, h1, he1⟩ := bnd_some (bool_some he)
  obtain ⟨y, b2, h2, he2⟩ := bnd_some he1
  obtain ⟨t, b3, h3, he3⟩ := bnd_some he2
  obtain ⟨k3, rfl⟩ := lift_some h3
  obtain ⟨e1, rfl⟩ := ret_some he3
  cases e1
  exact two st en h1 h2 fun v w G' H' f g _ _ _ _ P R1 R2 => ⟨B, G', _, x, y, f, g, _, _, _, P.st, by rw [← hK]; exact R1, by rw [← hK]; exact R2, k3, _, rfl, q G' H' P⟩
theorem chn_rd {op op' : Co} {σ : L2.St} {H : Hp} {Q : V → Hp → Prop} (hK : C.K = X.K) (h : rd C m Γ (.chn op op' ea eb ec) σ H Q) : tChain (rCmp X.K op) (rCmp X.K op') (rd C ma Γ ea) (rd C mb Γ eb) (rd C mc Γ ec) σ H Q := by
  obtain ⟨B, G, bg, ρ, d, b', st, en, he, q⟩ := rd_out h
  obtain ⟨x, b1, h1, he1⟩ := bnd_some he
  obtain ⟨y, b2, h2, he2⟩ := bnd_some he1
  obtain ⟨t, b3, h3, he3⟩ := bnd_some he2
  obtain ⟨k3, rfl⟩ := lift_some h3
  refine two st en h1 h2 fun v w G' H' f g _ _ _ _ P R1 R2 => ⟨B, G', _, x, y, f, g, _, _, t, P.st, by rw [← hK]; exact R1, by rw [← hK]; exact R2, k3, t, rfl, ?_⟩
  rcases ite_some he3 with ⟨c, he4⟩ | ⟨c, he4⟩
  · rw [if_pos c]
    obtain ⟨z, b4, h4, he5⟩ := bnd_some he4
    obtain ⟨u, b5, h5, he6⟩ := bnd_some he5
    obtain ⟨k5, rfl⟩ := lift_some h5
    obtain ⟨rfl, rfl⟩ := ret_some he6
    exact ⟨B, G', _, ρ, z, _, P.st, en.post P, h4, fun w' G2 H2 g2 P2 ⟨_, _, _, R3⟩ _ => ⟨B, G2, _, y, z, g, g2, _, _, u, P2.st, by rw [← hK]; exact R2.post P2, by rw [← hK]; exact R3, k5, qP0 (P.trans P2) rfl (.bl _) q⟩⟩
  · rw [if_neg c]
    obtain ⟨rfl, rfl⟩ := ret_some he4
    exact qP0 P rfl (.bl _) q
theorem s_chn {op op' : Co} (hK : C.K = X.K) (hx : XOk X n) (ha : PE X a (rd C ma Γ ea)) (hb : PE X b (rd C mb Γ eb)) (hc : PE X c (rd C mc Γ ec)) (hm : lastMarks [opOf op, opOf op'] [b, c] = false) :
    PE X (.Compare a [opOf op, opOf op'] [b, c] pos) (rd C m Γ (.chn op op' ea eb ec)) := wkE (pe_chain (op_cmp hx op) (op_cmp hx op') ha hb hc hm) fun σ H Q h => chn_rd hK h
theorem t_chn {op op' : Co} (hK : C.K = X.K) (hx : XOk X n) (ha : PE X a (rd C ma Γ ea)) (hb : PE X b (rd C mb Γ eb)) (hc : PE X c (rd C mc Γ ec)) (hm : lastMarks [opOf op, opOf op'] [b, c] = false) :
    PT X (.Compare a [opOf op, opOf op'] [b, c] pos) (rt C Γ (.chn op op' ea eb ec)) := wkT (pt_chain (op_cmp hx op) (op_cmp hx op') ha hb hc hm) fun σ H Q h => chn_rd hK (t_rd (m := 9) h)

/-! ### is None, is True -/
theorem ev_isn {ρ : Rho} : ev C.Φ ρ (.isn ea) = bnd (ev C.Φ ρ ea) fun x => ret (.bl (isNon x)) := rfl
theorem ev_ntn {ρ : Rho} : ev C.Φ ρ (.ntn ea) = bnd (ev C.Φ ρ ea) fun x => ret (.bl (!isNon x)) := rfl
theorem RO.isNon {K : PySem.W.Frag} {G H : Hp} {B : Addr} {k : Nat} {v : V} {d : D} {fp : List Addr} (r : RO K G B H k v d fp) : decide (v = .non) = isNon d := by
  cases d with
  | non => rw [r.non]; rfl
  | bl c => rw [r.bl]; rfl
  | int c => rw [r.int]; rfl
  | str c => rw [r.str.1]; rfl
  | tup ds =>
    cases (RO.ncRp rfl r).2 with
    | tup _ _ => rfl
    | ktup _ _ => rfl
  | ins c => cases (RO.ncRp rfl r).2
  | lst ds =>
    cases k with
    | zero => cases r.2; rfl
    | succ k => rcases r with ⟨q, _⟩ | ⟨_, _, _, _, rfl, _⟩ | ⟨_, _, _, _, rfl, _⟩ <;> first | rfl | cases q
  | dct ds =>
    cases k with
    | zero => cases r.2; rfl
    | succ k => rcases r with ⟨q, _⟩ | ⟨_, _, _, _, rfl, _⟩ | ⟨_, _, _, _, rfl, _⟩ <;> first | rfl | cases q
theorem isn_rd {σ : L2.St} {H : Hp} {Q : V → Hp → Prop} (h : rd C m Γ (.isn ea) σ H Q) : tIsN (rd C ma Γ ea) σ H Q := by
  obtain ⟨B, G, bg, ρ, d, b', st, en, he, q⟩ := rd_out h
  rw [ev_isn] at he
  obtain ⟨x, b1, h1, he1⟩ := bnd_some he
  obtain ⟨rfl, rfl⟩ := ret_some he1
  refine ⟨B, G, bg, ρ, x, _, st, en, h1, fun v G' H' f P ⟨_, _, _, R⟩ _ => ?_⟩
  show Q (.bl (decide (v = .non))) H'
  rw [R.isNon]
  exact qP0 P rfl (.bl _) q
theorem ntn_rd {σ : L2.St} {H : Hp} {Q : V → Hp → Prop} (h : rd C m Γ (.ntn ea) σ H Q) : tNotN (rd C ma Γ ea) σ H Q := by
  obtain ⟨B, G, bg, ρ, d, b', st, en, he, q⟩ := rd_out h
  rw [ev_ntn] at he
  obtain ⟨x, b1, h1, he1⟩ := bnd_some he
  obtain ⟨rfl, rfl⟩ := ret_some he1
  refine ⟨B, G, bg, ρ, x, _, st, en, h1, fun v G' H' f P ⟨_, _, _, R⟩ _ => ?_⟩
  show Q (.bl (!decide (v = .non))) H'
  rw [R.isNon]
  exact qP0 P rfl (.bl _) q
theorem s_isn {j p2} (ha : PE X a (rd C ma Γ ea)) : PE X (.Compare a [.Is] [.Constant .none j p2] pos) (rd C m Γ (.isn ea)) := wkE (pe_cmp (pc_isN ha) rfl) fun σ H Q h => isn_rd h
theorem t_isn {j p2} (ha : PE X a (rd C ma Γ ea)) : PT X (.Compare a [.Is] [.Constant .none j p2] pos) (rt C Γ (.isn ea)) := wkT (pt_cmp (pc_isN ha) rfl) fun σ H Q h => isn_rd (t_rd (m := 9) h)
theorem s_ntn {j p2} (ha : PE X a (rd C ma Γ ea)) : PE X (.Compare a [.IsNot] [.Constant .none j p2] pos) (rd C m Γ (.ntn ea)) := wkE (pe_cmp (pc_notN ha) rfl) fun σ H Q h => ntn_rd h
theorem t_ntn {j p2} (ha : PE X a (rd C ma Γ ea)) : PT X (.Compare a [.IsNot] [.Constant .none j p2] pos) (rt C Γ (.ntn ea)) := wkT (pt_cmp (pc_notN ha) rfl) fun σ H Q h => ntn_rd (t_rd (m := 9) h)
theorem isb_rd {t : Bool} {σ : L2.St} {H : Hp} {Q : V → Hp → Prop} (h : rd C m Γ (.isb t ea) σ H Q) : tOp rIsB (rd C ma Γ ea) (tC (.bl t)) σ H Q := by
  obtain ⟨B, G, bg, ρ, d, b', st, en, he, q⟩ := rd_out h
  obtain ⟨x, b1, h1, he1⟩ := bnd_some he
  obtain ⟨c, b2, h2, he2⟩ := bnd_some he1
  obtain ⟨rfl, rfl⟩ := boolOf_some h2
  obtain ⟨rfl, rfl⟩ := ret_some he2
  exact ⟨B, G, bg, ρ, _, _, st, en, h1, fun v G' H' f P ⟨_, _, _, R⟩ _ => ⟨c, t, R.bl, rfl, by rw [show decide (c = t) = (c == t) by cases c <;> cases t <;> rfl]; exact qP0 P rfl (.bl _) q⟩⟩
theorem s_isb {t : Bool} {j p2} (ha : PE X a (rd C ma Γ ea)) : PE X (.Compare a [.Is] [.Constant (.bool t) j p2] pos) (rd C m Γ (.isb t ea)) := wkE (pe_cmpR op_isBl ha pe_bl (nomark _)) fun σ H Q h => isb_rd h
theorem t_isb {t : Bool} {j p2} (ha : PE X a (rd C ma Γ ea)) : PT X (.Compare a [.Is] [.Constant (.bool t) j p2] pos) (rt C Γ (.isb t ea)) := wkT (pt_cmpR op_isBl ha pe_bl (nomark _)) fun σ H Q h => isb_rd (t_rd (m := 9) h)

/-! ### and, or, not, if -/
variable {rest : List Expr}
theorem and_rd {σ : L2.St} {H : Hp} {Q : V → Hp → Prop} {tb : TE} (hb : ∀ σ H Q, rd C mb Γ eb σ H Q → tb σ H Q) (h : rd C m Γ (.and_ ea eb) σ H Q) : tAndV (rd C ma Γ ea) tb σ H Q := by
  obtain ⟨B, G, bg, ρ, d, b', st, en, he, q⟩ := rd_out h
  obtain ⟨x, b1, h1, he1⟩ := bnd_some he
  obtain ⟨c, b2, h2, he2⟩ := bnd_some he1
  obtain ⟨rfl, rfl⟩ := boolOf_some h2
  refine ⟨B, G, bg, ρ, _, _, st, en, h1, fun v G' H' f P ⟨_, _, _, R⟩ _ => ⟨c, R.bl, ?_⟩⟩
  rcases ite_some he2 with ⟨e, he3⟩ | ⟨e, he3⟩
  · rw [if_pos e]
    obtain ⟨y, b3, h3, he4⟩ := bnd_some he3
    obtain ⟨c2, b4, h4, he5⟩ := bnd_some he4
    obtain ⟨rfl, rfl⟩ := boolOf_some h4
    obtain ⟨rfl, rfl⟩ := ret_some he5
    exact hb _ _ _ ⟨B, G', _, ρ, _, _, P.st, en.post P, h3, fun v2 G2 H2 f2 P2 ⟨_, _, _, R2⟩ _ => by rw [R2.bl]; exact qP0 (P.trans P2) rfl (.bl _) q⟩
  · rw [if_neg e]
    obtain ⟨rfl, rfl⟩ := ret_some he3
    exact qP0 P rfl (.bl _) q
theorem or_rd {σ : L2.St} {H : Hp} {Q : V → Hp → Prop} {tb : TE} (hb : ∀ σ H Q, rd C mb Γ eb σ H Q → tb σ H Q) (h : rd C m Γ (.or_ ea eb) σ H Q) : tOrV (rd C ma Γ ea) tb σ H Q := by
  obtain ⟨B, G, bg, ρ, d, b', st, en, he, q⟩ := rd_out h
  obtain ⟨x, b1, h1, he1⟩ := bnd_some he
  obtain ⟨c, b2, h2, he2⟩ := bnd_some he1
  obtain ⟨rfl, rfl⟩ := boolOf_some h2
  refine ⟨B, G, bg, ρ, _, _, st, en, h1, fun v G' H' f P ⟨_, _, _, R⟩ _ => ⟨c, R.bl, ?_⟩⟩
  rcases ite_some he2 with ⟨e, he3⟩ | ⟨e, he3⟩
  · rw [if_pos e]
    obtain ⟨rfl, rfl⟩ := ret_some he3
    exact qP0 P rfl (.bl _) q
  · rw [if_neg e]
    obtain ⟨y, b3, h3, he4⟩ := bnd_some he3
    obtain ⟨c2, b4, h4, he5⟩ := bnd_some he4
    obtain ⟨rfl, rfl⟩ := boolOf_some h4
    obtain ⟨rfl, rfl⟩ := ret_some he5
    exact hb _ _ _ ⟨B, G', _, ρ, _, _, P.st, en.post P, h3, fun v2 G2 H2 f2 P2 ⟨_, _, _, R2⟩ _ => by rw [R2.bl]; exact qP0 (P.trans P2) rfl (.bl _) q⟩
theorem s_and (ha : PE X a (rd C ma Γ ea)) (hb : PE X (.BoolOp .And (b :: rest) pos) (rd C mb Γ eb)) : PE X (.BoolOp .And (a :: b :: rest) pos) (rd C m Γ (.and_ ea eb)) := wkE (pe_and ha hb) fun σ H Q h => and_rd (fun _ _ _ z => z) h
theorem s_or (ha : PE X a (rd C ma Γ ea)) (hb : PE X (.BoolOp .Or (b :: rest) pos) (rd C mb Γ eb)) : PE X (.BoolOp .Or (a :: b :: rest) pos) (rd C m Γ (.or_ ea eb)) := wkE (pe_or ha hb) fun σ H Q h => or_rd (fun _ _ _ z => z) h
theorem and_rt {σ : L2.St} {H : Hp} {Q : Bool → Hp → Prop} (h : rt C Γ (.and_ ea eb) σ H Q) : tAnd (rt C Γ ea) (rt C Γ eb) σ H Q := by
  obtain ⟨B, G, bg, ρ, d, b', st, en, he, q⟩ := h
  obtain ⟨x, b1, h1, he1⟩ := bnd_some (bool_some he)
  obtain ⟨c, b2, h2, he2⟩ := bnd_some he1
  refine ⟨B, G, bg, ρ, c, b2, st, en, by unfold bnd; rw [h1]; exact h2, fun G' H' P => ?_⟩
  rcases ite_some he2 with ⟨e, he3⟩ | ⟨e, he3⟩
  · rw [if_pos e]
    obtain ⟨y, b3, h3, he4⟩ := bnd_some he3
    obtain ⟨c2, b4, h4, he5⟩ := bnd_some he4
    obtain ⟨e1, rfl⟩ := ret_some he5
    cases e1
    exact ⟨B, G', _, ρ, _, _, P.st, en.post P, by unfold bnd; rw [h3]; exact h4, fun G2 H2 P2 => q G2 H2 (P.trans P2)⟩
  · rw [if_neg e]
    obtain ⟨e1, rfl⟩ := ret_some he3
    cases e1
    exact q G' H' P
theorem or_rt {σ : L2.St} {H : Hp} {Q : Bool → Hp → Prop} (h : rt C Γ (.or_ ea eb) σ H Q) : tOr (rt C Γ ea) (rt C Γ eb) σ H Q := by
  obtain ⟨B, G, bg, ρ, d, b', st, en, he, q⟩ := h
  obtain ⟨x, b1, h1, he1⟩ := bnd_some (bool_some he)
  obtain ⟨c, b2, h2, he2⟩ := bnd_some he1
  refine ⟨B, G, bg, ρ, c, b2, st, en, by unfold bnd; rw [h1]; exact h2, fun G' H' P => ?_⟩
  rcases ite_some he2 with ⟨e, he3⟩ | ⟨e, he3⟩
  · rw [if_pos e]
    obtain ⟨e1, rfl⟩ := ret_some he3
    cases e1
    exact q G' H' P
  · rw [if_neg e]
    obtain ⟨y, b3, h3, he4⟩ := bnd_some he3
    obtain ⟨c2, b4, h4, he5⟩ := bnd_some he4
    obtain ⟨e1, rfl⟩ := ret_some he5
    cases e1
    exact ⟨B, G', _, ρ, _, _, P.st, en.post P, by unfold bnd; rw [h3]; exact h4, fun G2 H2 P2 => q G2 H2 (P.trans P2)⟩
theorem wkW {e : Expr} {t t' : TT} (h : PW X e t) (w : ∀ σ H Q, t' σ H Q → t σ H Q) : PW X e t' := ⟨fun wh pins s σ H Q I q => h.run wh pins s σ H Q I (w σ H Q q)⟩
theorem w_and (ha : PT X a (rt C Γ ea)) (hb : PW X (.BoolOp .And (b :: rest) pos) (rt C Γ eb)) : PW X (.BoolOp .And (a :: b :: rest) pos) (rt C Γ (.and_ ea eb)) := wkW (pw_and ha hb) fun σ H Q h => and_rt h
theorem w_or (ha : PT X a (rt C Γ ea)) (hb : PW X (.BoolOp .Or (b :: rest) pos) (rt C Γ eb)) : PW X (.BoolOp .Or (a :: b :: rest) pos) (rt C Γ (.or_ ea eb)) := wkW (pw_or ha hb) fun σ H Q h => or_rt h
theorem s_not (ha : PE X a (rd C ma Γ ea)) : PE X (.UnaryOp .Not a pos) (rd C m Γ (.not_ ea)) := wkE (pe_not ha) fun σ H Q hh => by
  obtain ⟨B, G, bg, ρ, d, b', st, en, he, q⟩ := rd_out hh
  obtain ⟨x, b1, h1, he1⟩ := bnd_some he
  obtain ⟨c, b2, h2, he2⟩ := bnd_some he1
  obtain ⟨rfl, rfl⟩ := boolOf_some h2
  obtain ⟨rfl, rfl⟩ := ret_some he2
  exact ⟨B, G, bg, ρ, _, _, st, en, h1, fun v G' H' f P ⟨_, _, _, R⟩ _ => ⟨c, R.bl, qP0 P rfl (.bl _) q⟩⟩
theorem t_not (ha : PT X a (rt C Γ ea)) : PT X (.UnaryOp .Not a pos) (rt C Γ (.not_ ea)) := wkT (pt_not ha) fun σ H Q ⟨B, G, bg, ρ, d, b', st, en, he, q⟩ => by
  obtain ⟨x, b1, h1, he1⟩ := bnd_some (bool_some he)
  obtain ⟨c, b2, h2, he2⟩ := bnd_some he1
  obtain ⟨e1, rfl⟩ := ret_some he2
  cases e1
  exact ⟨B, G, bg, ρ, c, _, st, en, by unfold bnd; rw [h1]; exact h2, fun G' H' P => q G' H' P⟩
theorem RO.cast {K : PySem.W.Frag} {G H : Hp} {B : Addr} {j k : Nat} {v : V} {d : D} {fp : List Addr} (r : RO K G B H j v d fp) (e : j = k) : RO K G B H k v d fp := e ▸ r
/-- an end with one evaluation ahead -/
theorem qT {B : Addr} {K : PySem.W.Frag} {G H G1 H1 G2 H2 : Hp} {b1 b2 : Bg} {k : Nat} {ch : Bool} {v : V} {r : D} {fp : List Addr} {Q : V → Hp → Prop} (P : Post B G H G1 b1 H1) (P2 : Post B G1 H1 G2 b2 H2)
    (R : RO K G2 B H2 k v r fp) (F : fp.Nodup ∧ ∀ a ∈ fp, H1 a = none)
    (q : ∀ v G' H' fp, Post B G H G' b2 H' → RO K G' B H' k v r fp → (ch = false → fp.Nodup ∧ ∀ a ∈ fp, H a = none) → Q v H') : Q v H2 :=
  q v G2 H2 fp (P.trans P2) R fun _ => ⟨F.1, fun a ha => by
    have h1 := F.2 a ha
    cases e : H a with
    | none => rfl
    | some o => rw [P.kp a o (R.fp a ha).1 e] at h1; cases h1⟩
theorem ite_br {k : Nat} {e : Ex} {B : Addr} {G H G1 H1 : Hp} {b1 b2 : Bg} {ρ : Rho} {σ : L2.St} {r : D} {Q : V → Hp → Prop} (P : Post B G H G1 b1 H1) (en : EnvOk C.K B G1 H1 C.bs Γ σ ρ) (he : ev C.Φ ρ e b1 = some (r, b2)) (hm9 : m ≤ 9) (hk : k ≤ lv C.own Γ e) (hc : chain e = false ∨ lv C.own Γ e = 0)
    (q : ∀ v G' H' fp, Post B G H G' b2 H' → RO C.K G' B H' (min m k) v r fp → (false = false → fp.Nodup ∧ ∀ a ∈ fp, H a = none) → Q v H') : rd C 9 Γ e σ H1 Q :=
  ⟨B, G1, b1, ρ, r, b2, P.st, en, he, fun v G2 H2 fp P2 ⟨kk, k1, k2, R⟩ F => by
    cases hce : chain e with
    | true =>
      have h0 : lv C.own Γ e = 0 := by
        rcases hc with z | z
        · rw [hce] at z; cases z
        · exact z
      have R0 : RO C.K G2 B H2 0 v r fp := R.cast (by omega)
      have R1 : RO C.K G2 B H2 (min m k) v r fp := R.cast (by omega)
      exact q v G2 H2 fp (P.trans P2) R1 fun _ => ⟨by rw [R0.1]; exact List.nodup_nil, by rw [R0.1]; simp⟩
    | false =>
      obtain ⟨f1, f2⟩ := F hce
      have k3 := k2 hce
      obtain ⟨G3, fp3, P3, R3, n3, h3, _⟩ := P2.lower (m := min m k) (by omega) R f1 f2
      exact qT P P3 R3 ⟨n3, h3⟩ q⟩
theorem s_ite (hm : m ≤ 9) (hc : PT X c (rt C Γ ec)) (ha : PE X a (rd C 9 Γ ea)) (hb : PE X b (rd C 9 Γ eb)) (oa : chain ea = false ∨ lv C.own Γ ea = 0) (ob : chain eb = false ∨ lv C.own Γ eb = 0) : PE X (.IfExp c a b pos) (rd C m Γ (.ite ec ea eb)) :=
  wkE (pe_ifExp hc ha hb) fun σ H Q hh => by
  obtain ⟨B, G, bg, ρ, d, b', st, en, he, q⟩ := rd_out hh
  obtain ⟨x, b1, h1, he1⟩ := bnd_some he
  obtain ⟨t, b2, h2, he2⟩ := bnd_some he1
  refine ⟨B, G, bg, ρ, t, b2, st, en, by unfold bnd; rw [h1]; exact h2, fun G' H' P => ?_⟩
  rcases ite_some he2 with ⟨e, he3⟩ | ⟨e, he3⟩
  · rw [if_pos e]
    exact ite_br P (en.post P) he3 hm (Nat.min_le_left _ _) oa q
  · rw [if_neg e]
    exact ite_br P (en.post P) he3 hm (Nat.min_le_right _ _) ob q
end
end Dn

set_option Elab.async false
set_option linter.all false
set_option maxRecDepth 100000
/-! Dn, part I: operators, items, displays, calls. -/
namespace Dn
open PySem PySem.Spec PyProof.Rows L2
section
variable {X : Cx} {C : Cn} {Γ : Gam} {m n ma mb mc : Nat} {a b c : Expr} {ea eb ec : Ex} {pos : Pos}

/-! ### operators -/
def bopOf : Bo → Operator
  | .add => .Add | .sub => .Sub | .mul => .Mult | .fdiv => .FloorDiv | .mod => .Mod | .pow => .Pow
def rBin (K : PySem.W.Frag) (op : Bo) : R2 := fun x y H Q => ∃ B G b d e f g m n r, StOk B G H b ∧ RO K G B H m x d f ∧ RO K G B H n y e g ∧ m ≤ 1 ∧ n ≤ 1 ∧ binD op d e = some r ∧
  ∀ w G' H' fp, Post B G H G' b H' → RO K G' B H' 1 w r fp → fp.Nodup → (∀ a ∈ fp, H a = none) → Q w H'
theorem smallI_ok {i : Int} (h : smallI i = true) : -(2 ^ 64) < i ∧ i < 2 ^ 64 := by
  unfold smallI at h
  obtain ⟨h1, h2⟩ := Bool.and_eq_true_iff.mp h
  exact ⟨of_decide_eq_true h1, of_decide_eq_true h2⟩
theorem op_bin : ∀ op, OpR X (binaryOp (bopOf op)) (rBin X.K op)
  | .add => wkOp (OpR.or op_add (OpR.or op_add_str (OpR.or op_cat n_catT))) fun x y H Q ⟨B, G, b, d, e, f, g, m, n, r, st, r1, r2, hm, hn, h, q⟩ => by
    cases d with
    | int i =>
      cases e with
      | int j => cases h; cases r1.int; cases r2.int; exact .inl ⟨_, _, rfl, rfl, fin0 (k := 1) st rfl (.int _) q⟩
      | _ => cases h
    | str i =>
      cases e with
      | str j =>
        obtain ⟨c, rfl⟩ := ite_opt (show (if i.length + j.length ≤ line then some (D.str (i ++ j)) else none) = some r from h)
        obtain ⟨rfl, _⟩ := r1.str
        obtain ⟨rfl, _⟩ := r2.str
        have hl : (i ++ j).length ≤ line := by
          show (i.cps ++ j.cps).size ≤ line
          rw [Array.size_append]; exact c
        exact .inr (.inl ⟨i, j, rfl, rfl, by rw [sizeLine_eq]; exact c, fin0 (k := 1) st rfl (.str _ hl) q⟩)
      | _ => cases h
    | lst xs =>
      cases e with
      | lst ys =>
        obtain ⟨c, rfl⟩ := ite_opt (show (if xs.length + ys.length ≤ line then some (D.lst (xs ++ ys)) else none) = some r from h)
        obtain ⟨a1, vs, rfl, h1, s1⟩ := r1.lst1 st.sub hm
        obtain ⟨a2, ws, rfl, h2, s2⟩ := r2.lst1 st.sub hn
        exact .inr (.inr (.inl ⟨a1, a2, vs, ws, rfl, rfl, h1, h2, by rw [s1.length, s2.length, sizeLine_eq]; exact c, fun p hp => finL st hp (s1.append s2) (.inl rfl) q⟩))
      | _ => cases h
    | tup xs =>
      cases e with
      | tup ys =>
        obtain ⟨c, rfl⟩ := ite_opt (show (if xs.length + ys.length ≤ line then some (D.tup (xs ++ ys)) else none) = some r from h)
        obtain ⟨a1, vs, rfl, h1, s1⟩ := r1.tupAt st.sub
        obtain ⟨a2, ws, rfl, h2, s2⟩ := r2.tupAt st.sub
        have l1 := s1.length
        have l2 := s2.length
        have p1 := (RO.ncRp rfl r1).2
        have p2 := (RO.ncRp rfl r2).2
        refine .inr (.inr (.inr ⟨a1, a2, vs, ws, rfl, rfl, h1, h2, by rw [l1, l2, sizeLine_eq]; exact c, fun e0 => ?_, fun _ e0 => ?_, fun _ _ p o hp ho => finT st hp ho (s1.append s2) q⟩))
        · have e1 : xs = [] := List.eq_nil_of_length_eq_zero (by rw [← l1, e0]; rfl)
          subst e1
          exact fin0 (k := 1) st rfl p2 q
        · have e1 : ys = [] := List.eq_nil_of_length_eq_zero (by rw [← l2, e0]; rfl)
          subst e1
          rw [List.append_nil] at q
          exact fin0 (k := 1) st rfl p1 q
      | _ => cases h
    | _ => cases h
  | .sub => wkOp op_sub fun x y H Q ⟨B, G, b, d, e, f, g, m, n, r, st, r1, r2, hm, hn, h, q⟩ => by
    cases d <;> cases e <;> first
      | (cases h; cases r1.int; cases r2.int; exact ⟨_, _, rfl, rfl, fin0 (k := 1) st rfl (.int _) q⟩)
      | cases h
  | .mul => wkOp op_mul fun x y H Q ⟨B, G, b, d, e, f, g, m, n, r, st, r1, r2, hm, hn, h, q⟩ => by
    cases d with
    | int i =>
      cases e with
      | int j =>
        obtain ⟨c, rfl⟩ := ite_opt (show (if (smallI i || smallI j) = true then some (D.int (i * j)) else none) = some r from h)
        cases r1.int; cases r2.int
        refine ⟨_, _, rfl, rfl, ?_, fin0 (k := 1) st rfl (.int _) q⟩
        rcases Bool.or_eq_true_iff.mp c with c | c
        · exact .inl (smallI_ok c)
        · exact .inr (smallI_ok c)
      | _ => cases h
    | _ => cases h
  | .fdiv => wkOp op_fdivN fun x y H Q ⟨B, G, b, d, e, f, g, m, n, r, st, r1, r2, hm, hn, h, q⟩ => by
    cases d with
    | int i =>
      cases e with
      | int j =>
        obtain ⟨c, rfl⟩ := ite_opt (show (if j ≠ 0 ∧ j.natAbs < 1073741824 then some (D.int (i.fdiv j)) else none) = some r from h)
        cases r1.int; cases r2.int
        exact ⟨_, _, rfl, rfl, c, fin0 (k := 1) st rfl (.int _) q⟩
      | _ => cases h
    | _ => cases h
  | .mod => wkOp op_modN fun x y H Q ⟨B, G, b, d, e, f, g, m, n, r, st, r1, r2, hm, hn, h, q⟩ => by
    cases d with
    | int i =>
      cases e with
      | int j =>
        obtain ⟨c, rfl⟩ := ite_opt (show (if j ≠ 0 then some (D.int (i.fmod j)) else none) = some r from h)
        cases r1.int; cases r2.int
        exact ⟨_, _, rfl, rfl, c, fin0 (k := 1) st rfl (.int _) q⟩
      | _ => cases h
    | _ => cases h
  | .pow => wkOp op_pow fun x y H Q ⟨B, G, b, d, e, f, g, m, n, r, st, r1, r2, hm, hn, h, q⟩ => by
    cases d with
    | int i =>
      cases e with
      | int j =>
        obtain ⟨c, rfl⟩ := ite_opt (show (if 0 ≤ j ∧ j ≤ 1000000 ∧ i.natAbs < 2 ^ 64 then some (D.int (i ^ j.toNat)) else none) = some r from h)
        cases r1.int; cases r2.int
        exact ⟨_, _, rfl, rfl, c, fin0 (k := 1) st rfl (.int _) q⟩
      | _ => cases h
    | _ => cases h
/-- a new thing's end behind an evaluation, at a lower level -/
theorem qL {K : PySem.W.Frag} {B : Addr} {G H G1 H1 : Hp} {b1 : Bg} {j k : Nat} {ch : Bool} {r : D} {Q : V → Hp → Prop} (P : Post B G H G1 b1 H1) (hk : k ≤ j)
    (q : ∀ v G' H' fp, Post B G H G' b1 H' → RO K G' B H' k v r fp → (ch = false → fp.Nodup ∧ ∀ a ∈ fp, H a = none) → Q v H') :
    ∀ v G' H' fp, Post B G1 H1 G' b1 H' → RO K G' B H' j v r fp → fp.Nodup → (∀ a ∈ fp, H1 a = none) → Q v H' := fun v G' H' fp P2 R F1 F2 => by
  obtain ⟨G3, fp3, P3, R3, n3, h3, _⟩ := P2.lower (m := k) hk R F1 F2
  exact qT P P3 R3 ⟨n3, h3⟩ q
theorem s_bin {op : Bo} (hK : C.K = X.K) (ha : PE X a (rd C 1 Γ ea)) (hb : PE X b (rd C 1 Γ eb)) : PE X (.BinOp a (bopOf op) b pos) (rd C m Γ (.bin op ea eb)) :=
  wkE (pe_op (op_bin op) ha hb) fun σ H Q hh => by
  obtain ⟨B, G, bg, ρ, d, b', st, en, he, q⟩ := rd_out hh
  obtain ⟨x, b1, h1, he1⟩ := bnd_some he
  obtain ⟨y, b2, h2, he2⟩ := bnd_some he1
  obtain ⟨k3, rfl⟩ := lift_some he2
  refine two st en h1 h2 fun v w G' H' f g _ _ q1 q2 P R1 R2 => ⟨B, G', _, x, y, f, g, _, _, d, P.st, by rw [← hK]; exact R1, by rw [← hK]; exact R2, q1, q2, k3, ?_⟩
  rw [← hK]
  exact qL P (Nat.min_le_right _ _) q
theorem s_neg (ha : PE X a (rd C ma Γ ea)) : PE X (.UnaryOp .USub a pos) (rd C m Γ (.neg ea)) := wkE (pe_un un_neg ha) fun σ H Q hh => by
  obtain ⟨B, G, bg, ρ, d, b', st, en, he, q⟩ := rd_out hh
  obtain ⟨x, b1, h1, he1⟩ := bnd_some he
  obtain ⟨i, b2, h2, he2⟩ := bnd_some he1
  obtain ⟨rfl, rfl⟩ := intOf_some h2
  obtain ⟨rfl, rfl⟩ := ret_some he2
  exact ⟨B, G, bg, ρ, _, _, st, en, h1, fun v G' H' f P ⟨_, _, _, R⟩ _ => ⟨i, R.int, qP0 P rfl (.int _) q⟩⟩

/-! ### items -/
def isSl : Expr → Bool
  | .Slice _ _ _ _ => true
  | _ => false
theorem plainIx_of {b : Expr} (h : isSl b = false) : PlainIx b := fun o i => by
  cases b <;> first | rfl | cases h
/-- an item that is read: of a list, a tuple, a text -/
theorem atI_map {α β : Type} {xs : List α} {ys : List β} (hl : xs.length = ys.length) {i : Int} {y : β} (h : atI ys i = some y) : ∃ (j : Nat) (x : α), ys[j]? = some y ∧ xs[j]? = some x ∧ atI xs i = some x := by
  unfold atI at h ⊢
  rw [hl]
  obtain ⟨j, h1, h2⟩ := Option.bind_eq_some_iff.mp h
  have hj : j < ys.length := (List.getElem?_eq_some_iff.mp h2).1
  have hx : xs[j]? = some xs[j] := List.getElem?_eq_getElem (by omega)
  exact ⟨j, _, h2, hx, by rw [h1]; exact hx⟩
theorem str1 (c : Nat) : (⟨#[c]⟩ : Str).length ≤ line := by
  show 1 ≤ line
  decide
theorem s_idx (hK : C.K = X.K) (hx : XOk X n) (ha : PE X a (rd C (m + 1) Γ ea)) (hb : PE X b (rd C 9 Γ eb)) (hs : isSl b = false) : PE X (.Subscript a b pos) (rd C m Γ (.idx ea eb)) := by
  have hu := hx.room.units
  refine wkE (orE (pe_ix ix_seq ha hb (plainIx_of hs)) (pe_dget (by omega) ha hb (plainIx_of hs))) fun σ H Q hh => ?_
  obtain ⟨B, G, bg, ρ, d, b', st, en, he, q⟩ := hh
  obtain ⟨x, b1, h1, he1⟩ := bnd_some he
  obtain ⟨y, b2, h2, he2⟩ := bnd_some he1
  obtain ⟨e3, rfl⟩ := lift_some he2
  have fin : ∀ {v w : V} {G' H' : Hp} {k : Nat} {g : List Addr}, Post B G H G' b' H' → k ≤ min m (lv C.own Γ ea - 1) → RO C.K G' B H' k w d g → Q w H' := fun {v w G' H' k g} P hk R =>
    q w G' H' g P ⟨k, hk, (fun z => by cases z), R⟩ fun z => by cases z
  cases x with
  | lst xs =>
    cases y with
    | int i =>
      refine .inl ⟨B, G, bg, ρ, _, b1, st, en, h1, fun v G1 H1 f P1 ⟨k1, a1, _, R1⟩ _ => ⟨B, G1, b1, ρ, _, _, P1.st, en.post P1, h2, fun w G2 H2 g P2 ⟨_, _, _, R2⟩ _ => ?_⟩⟩
      obtain ⟨p, vs, ff, rfl, hl, rs⟩ := (R1.post P2).lstAt P2.st.sub
      obtain ⟨j, u, hj, hu2, hat⟩ := atI_map rs.length e3
      obtain ⟨u', g', hu3, R3, _⟩ := rs.get hj
      rw [hu2] at hu3; cases hu3
      exact .inl ⟨p, vs, i, u, rfl, R2.int, .inl (.inl hl), hat, fin (v := u) (P1.trans P2) (by omega) R3⟩
    | _ => cases e3
  | tup xs =>
    cases y with
    | int i =>
      refine .inl ⟨B, G, bg, ρ, _, b1, st, en, h1, fun v G1 H1 f P1 ⟨k1, a1, _, R1⟩ _ => ⟨B, G1, b1, ρ, _, _, P1.st, en.post P1, h2, fun w G2 H2 g P2 ⟨_, _, _, R2⟩ _ => ?_⟩⟩
      obtain ⟨p, vs, rfl, hl, rs⟩ := (R1.post P2).tupAt P2.st.sub
      obtain ⟨j, u, hj, hu2, hat⟩ := atI_map rs.length e3
      obtain ⟨u', hu3, R3⟩ := rs.get hj
      rw [hu2] at hu3; cases hu3
      exact .inr (.inl ⟨p, vs, i, u, rfl, R2.int, by rw [← hK]; exact hl, hat, fin (v := u) (g := []) (P1.trans P2) (Nat.zero_le _) ⟨rfl, R3⟩⟩)
    | _ => cases e3
  | str t =>
    cases y with
    | int i =>
      refine .inl ⟨B, G, bg, ρ, _, b1, st, en, h1, fun v G1 H1 f P1 ⟨k1, a1, _, R1⟩ _ => ⟨B, G1, b1, ρ, _, _, P1.st, en.post P1, h2, fun w G2 H2 g P2 ⟨_, _, _, R2⟩ _ => ?_⟩⟩
      obtain ⟨c, hc, rfl⟩ := Option.map_eq_some_iff.mp (show (atI t.cps.toList i).map (fun c => D.str ⟨#[c]⟩) = some d from e3)
      obtain ⟨rfl, ht⟩ := R1.str
      exact .inr (.inr ⟨t, i, c, rfl, R2.int, by rw [sizeLine_eq]; exact ht, hc, fin (v := .str ⟨#[c]⟩) (g := []) (P1.trans P2) (Nat.zero_le _) ⟨rfl, .str _ (str1 c)⟩⟩)
    | _ => cases e3
  | dct kvs =>
    have e4 : (if isKey y = true then dget kvs y else none) = some d := e3
    by_cases hk : isKey y = true
    · rw [if_pos hk] at e4
      refine .inr ⟨B, G, bg, ρ, _, b1, st, en, h1, fun v G1 H1 f P1 ⟨k1, a1, _, R1⟩ _ => ⟨B, G1, b1, ρ, _, _, P1.st, en.post P1, h2, fun w G2 H2 g P2 ⟨_, _, _, R2⟩ _ => ?_⟩⟩
      obtain ⟨kk, rfl⟩ := kD_of hk
      obtain ⟨rfl, _⟩ := kV_of (RO.ncRp (by cases kk <;> rfl) R2).2
      obtain ⟨p, vs, ff, rfl, hd, rk⟩ := (R1.post P2).dctAt P2.st.sub
      rcases rk.find kk with ⟨_, z⟩ | ⟨u, d', g', z1, z2, R3, _⟩
      · rw [z] at e4; cases e4
      · rw [z2] at e4
        cases e4
        exact ⟨p, u, rfl, .inl ⟨vs, kk, hd, rfl, z1.symm⟩, fin (v := u) (P1.trans P2) (by omega) R3⟩
    · rw [if_neg hk] at e4; cases e4
  | _ => cases e3

/-! ### lists of expressions -/
def Exs.len : Exs → Nat
  | .nil => 0
  | .cons _ es => es.len + 1
/-- frozen, from the left -/
def ra (C : Cn) (Γ : Gam) (es : Exs) : TA := fun σ H Q => ∃ B G b ρ ds b', StOk B G H b ∧ EnvOk C.K B G H C.bs Γ σ ρ ∧ evs C.Φ ρ es b = some (ds, b') ∧ ∀ vs G' H', Post B G H G' b' H' → Rps C.K G' vs ds → Q vs H'
def noStar : Expr → Bool
  | .Starred _ _ => false
  | _ => true
theorem star_of {e : Expr} (h : noStar e = true) (es : List Expr) (env : Env) : starEach (e :: es) env = (false, eval e env) :: starEach es env := by
  cases e <;> first | rfl | cases h
variable {es : List Expr} {ees : Exs}
theorem a_nil : PA X [] (ra C Γ .nil) := wkA pa_nil fun σ H Q ⟨B, G, b, ρ, ds, b', st, en, he, q⟩ => by
  obtain ⟨rfl, rfl⟩ := ret_some he
  exact q [] G H (.refl st) .nil
theorem a_cons (ha : PE X a (rd C 0 Γ ea)) (hr : PA X es (ra C Γ ees)) (hs : noStar a = true) : PA X (a :: es) (ra C Γ (.cons ea ees)) :=
  wkA (pa_cons ha hr (star_of hs _ _)) fun σ H Q ⟨B, G, b, ρ, ds, b', st, en, he, q⟩ => by
  obtain ⟨x, b1, h1, he1⟩ := bnd_some he
  obtain ⟨xs, b2, h2, he2⟩ := bnd_some he1
  obtain ⟨rfl, rfl⟩ := ret_some he2
  refine ⟨B, G, b, ρ, x, b1, st, en, h1, fun v G1 H1 f P1 ⟨k, hk, _, R⟩ _ => ⟨B, G1, b1, ρ, xs, _, P1.st, en.post P1, h2, fun vs G2 H2 P2 R2 => q (v :: vs) G2 H2 (P1.trans P2) (.cons ?_ R2)⟩⟩
  have R0 : RO C.K G1 B H1 0 v x f := R.cast (by omega)
  exact R0.zero.mono P2.gs
theorem evs_len {Φ : Nat → List D → M D} {ρ : Rho} : ∀ {es : Exs} {b b' : Bg} {ds : List D}, evs Φ ρ es b = some (ds, b') → ds.length = es.len
  | .nil, b, b', ds, h => by obtain ⟨rfl, rfl⟩ := ret_some h; rfl
  | .cons e es, b, b', ds, h => by
    obtain ⟨x, b1, h1, h2⟩ := bnd_some h
    obtain ⟨xs, b2, h3, h4⟩ := bnd_some h2
    obtain ⟨rfl, rfl⟩ := ret_some h4
    show xs.length + 1 = es.len + 1
    rw [evs_len h3]
/-- a new list, a new tuple at any level -/
theorem qPL {K : PySem.W.Frag} {B : Addr} {G H G1 H1 : Hp} {b1 : Bg} {j k : Nat} {ch : Bool} {r : D} {Q : V → Hp → Prop} (P : Post B G H G1 b1 H1) (hk : k ≤ j)
    (q : ∀ v G' H' fp, Post B G H G' b1 H' → RO K G' B H' k v r fp → (ch = false → fp.Nodup ∧ ∀ a ∈ fp, H a = none) → Q v H')
    (f : (∀ v G' H' fp, Post B G1 H1 G' b1 H' → RO K G' B H' j v r fp → fp.Nodup → (∀ a ∈ fp, H1 a = none) → Q v H') → Q v H1) : Q v H1 := f (qL P hk q)
theorem s_tup {x1} (h : PA X es (ra C Γ ees)) (hl : ees.len ≤ line) : PE X (.Tuple es x1 pos) (rd C m Γ (.tup ees)) := wkE (n_tup h) fun σ H Q hh => by
  obtain ⟨B, G, bg, ρ, d, b', st, en, he, q⟩ := rd_out hh
  obtain ⟨xs, b1, h1, he1⟩ := bnd_some he
  obtain ⟨rfl, rfl⟩ := ret_some he1
  refine ⟨B, G, bg, ρ, xs, _, st, en, h1, fun vs G1 H1 P R => ⟨by rw [R.length, evs_len h1, sizeLine_eq]; exact hl, fun p o hp ho => finT (k := 9) P.st hp ho R (qL P (by show min m 9 ≤ 9; omega) q)⟩⟩
theorem s_lst (h : PA X es (ra C Γ ees)) (hl : ees.len ≤ line) : PE X (.List es pos) (rd C m Γ (.lst ees)) := wkE (pe_lst h) fun σ H Q hh => by
  obtain ⟨B, G, bg, ρ, d, b', st, en, he, q⟩ := rd_out hh
  obtain ⟨xs, b1, h1, he1⟩ := bnd_some he
  obtain ⟨rfl, rfl⟩ := ret_some he1
  refine ⟨B, G, bg, ρ, xs, _, st, en, h1, fun vs G1 H1 P R => ⟨by rw [R.length, evs_len h1, sizeLine_eq]; exact hl, fun p hp => ?_⟩⟩
  cases ees with
  | nil =>
    have e0 : xs = [] := List.eq_nil_of_length_eq_zero (evs_len h1)
    subst e0
    exact finL (k := 9) P.st hp R (.inr rfl) (qL P (by show min m 9 ≤ 9; omega) q)
  | cons _ _ => exact finL (k := 1) P.st hp R (.inl rfl) (qL P (by show min m 1 ≤ 1; omega) q)
end
end Dn

set_option Elab.async false
set_option linter.all false
set_option maxRecDepth 100000
/-! Dn, part J: slices, built-in functions. -/
namespace Dn
open PySem PySem.Spec PyProof.Rows L2
section
variable {X : Cx} {C : Cn} {Γ : Gam} {m n ma mb mc : Nat} {a b c : Expr} {ea eb ec : Ex} {pos p2 : Pos}

/-! ### slices -/
def ro (C : Cn) (Γ : Gam) (e : Oe) : TO := fun σ H Q => ∃ B G b ρ i b', StOk B G H b ∧ EnvOk C.K B G H C.bs Γ σ ρ ∧ evo C.Φ ρ e b = some (i, b') ∧ ∀ G' H', Post B G H G' b' H' → Q i H'
theorem wkO {e : Option Expr} {t t' : TO} (h : PO X e t) (w : ∀ σ H Q, t' σ H Q → t σ H Q) : PO X e t' := ⟨fun pins s σ H Q I q => h.run pins s σ H Q I (w σ H Q q)⟩
theorem o_no : PO X none (ro C Γ .no) := wkO po_none fun σ H Q ⟨B, G, b, ρ, i, b', st, en, he, q⟩ => by
  obtain ⟨rfl, rfl⟩ := ret_some he
  exact q G H (.refl st)
theorem o_yes (ha : PE X a (rd C ma Γ ea)) : PO X (some a) (ro C Γ (.yes ea)) := wkO (po_some ha) fun σ H Q ⟨B, G, b, ρ, i, b', st, en, he, q⟩ => by
  obtain ⟨x, b1, h1, he1⟩ := bnd_some he
  obtain ⟨j, b2, h2, he2⟩ := bnd_some he1
  obtain ⟨rfl, rfl⟩ := intOf_some h2
  obtain ⟨rfl, rfl⟩ := ret_some he2
  exact ⟨B, G, b, ρ, _, _, st, en, h1, fun v G' H' fp P ⟨_, _, _, R⟩ _ => ⟨j, R.int, q G' H' P⟩⟩
theorem Rps.cut {K : PySem.W.Frag} {G : Hp} {vs : List V} {ds : List D} (h : Rps K G vs ds) (lo hi : Option Int) : Rps K G (cutV vs lo hi) (cutG ds lo hi) := by
  unfold cutV cutG
  rw [h.length]
  exact (h.drop _).take _
theorem cutG_all {α : Type} (xs : List α) (lo hi : Option Int) (h : HT.sIx xs.length 0 lo = 0 ∧ HT.sIx xs.length xs.length hi = xs.length) : cutG xs lo hi = xs := by
  unfold cutG
  rw [h.1, h.2]
  simp
theorem s_slc {lo hi : Option Expr} {elo ehi : Oe} (hK : C.K = X.K) (ha : PE X a (rd C 1 Γ ea)) (hl : PO X lo (ro C Γ elo)) (hh : PO X hi (ro C Γ ehi)) :
    PE X (.Subscript a (.Slice lo hi none p2) pos) (rd C m Γ (.slc ea elo ehi)) :=
  wkE (pe_slice (SlR.or sl_list (SlR.or n_slT sl_str)) ha hl hh) fun σ H Q hh => by
  obtain ⟨B, G, bg, ρ, d, b', st, en, he, q⟩ := rd_out hh
  obtain ⟨x, b1, h1, he1⟩ := bnd_some he
  obtain ⟨l, b2, h2, he2⟩ := bnd_some he1
  obtain ⟨u, b3, h3, he3⟩ := bnd_some he2
  obtain ⟨e3, rfl⟩ := lift_some he3
  refine ⟨B, G, bg, ρ, x, b1, st, en, h1, fun v G1 H1 f P1 ⟨k1, a1, _, R1⟩ _ => ⟨B, G1, b1, ρ, l, b2, P1.st, en.post P1, h2, fun G2 H2 P2 => ⟨B, G2, b2, ρ, u, _, P2.st, en.post (P1.trans P2), h3, fun G3 H3 P3 => ?_⟩⟩⟩
  have P := (P1.trans P2).trans P3
  have R := R1.post (P2.trans P3)
  have hm1 : min m 1 ≤ 1 := Nat.min_le_right _ _
  cases x with
  | lst xs =>
    cases e3
    obtain ⟨p, vs, rfl, hv, rs⟩ := R.lst1 P3.st.sub (by omega)
    refine .inl ⟨p, vs, rfl, by rw [← hK]; exact .inl (.inl hv), fun p hp => ?_⟩
    exact finL (k := 1) P3.st hp (rs.cut l u) (.inl rfl) (qL P hm1 q)
  | tup xs =>
    cases e3
    obtain ⟨p, vs, rfl, hv, rs⟩ := R.tupAt P3.st.sub
    have rr := (RO.ncRp rfl R).2
    refine .inr (.inl ⟨p, vs, rfl, by rw [← hK]; exact hv, fun e => ?_, fun _ p o hp ho => ?_⟩)
    · rw [rs.length] at e
      rw [cutG_all _ _ _ e] at q
      exact qP0 P rfl rr q
    · exact finT (k := 1) P3.st hp ho (rs.cut l u) (qL P hm1 q)
  | str t =>
    cases e3
    obtain ⟨rfl, ht⟩ := R.str
    exact .inr (.inr ⟨t, rfl, by rw [sizeLine_eq]; exact ht, qP0 P rfl (.str _ (Nat.le_trans (cutS_length _ _ _) ht)) q⟩)
  | _ => cases e3

/-! ### built-in functions -/
def biOf : Bi → String
  | .len => "len" | .tuple => "tuple" | .list => "list" | .dict => "dict" | .sorted => "sorted" | .abs => "abs" | .int => "int" | .str => "str" | .repr => "repr" | .all => "all" | .any => "any" | .sum => "sum"
def biTy : Bi → Bool
  | .tuple => true | .list => true | .dict => true | .int => true | .str => true
  | _ => false
def biV (f : Bi) : Value := if biTy f then .type (biOf f) else .builtin (biOf f)
theorem lv_bi {own : Nat → Nat} {f : Bi} : lv own Γ (.bi f ea) = lvB f := by cases f <;> rfl
theorem boot_bi (f : Bi) : bootBuiltins (Str.ofString (biOf f)) = some (biV f) := by cases f <;> decide +kernel
theorem bi_free (hx : XOk X n) (f : Bi) : X.mg (Str.ofString (biOf f)) = none := hx.free _ (by cases f <;> decide)
theorem s_bi {f : Bi} {y : Str} {p : Pos} (hy : y = Str.ofString (biOf f)) (hK : C.K = X.K) (hx : XOk X n) (hc : CallR X (biV f) (rBi X.K f)) (hg : Gl X y) (ha : PE X a (rd C ma Γ ea)) (hm : need1 f = true → ma ≤ 1) (ns : noStar a = true) :
    PE X (.Call (.Name y p) [a] [] pos) (rd C m Γ (.bi f ea)) := by
  subst hy
  have hs : starEach [a] X.env = (false, eval a X.env) :: starEach [] X.env := star_of ns _ _
  have key : PE X (.Call (.Name (Str.ofString (biOf f)) p) [a] [] pos) (tCB (rBi X.K f) (tCons (rd C ma Γ ea) tNil)) := by
    have hn : Str.ofString (biOf f) ≠ "__name__" := by cases f <;> decide
    have hd : (Str.ofString (biOf f) == ("__debug__" : Str)) = false := by cases f <;> decide
    by_cases ht : biTy f = true
    · have hv : biV f = .type (biOf f) := if_pos ht
      exact pe_callTy (hv ▸ hc) hg (bi_free hx f) (hv ▸ boot_bi f) (pa_cons ha pa_nil hs) hn hd hs rfl
    · have hv : biV f = .builtin (biOf f) := if_neg ht
      exact pe_callB (hv ▸ hc) hg (bi_free hx f) (hv ▸ boot_bi f) (pa_cons ha pa_nil hs) hn hd hs rfl
  refine wkE key fun σ H Q hh => ?_
  obtain ⟨B, G, bg, ρ, d, b', st, en, he, q⟩ := rd_out hh
  obtain ⟨x, b1, h1, he1⟩ := bnd_some he
  obtain ⟨k3, rfl⟩ := lift_some he1
  rw [lv_bi] at q
  exact ⟨B, G, bg, ρ, x, _, st, en, h1, fun v G' H' f' P ⟨k, hk, _, R⟩ _ => ⟨B, G', _, v, k, x, d, f', rfl, P.st, by rw [← hK]; exact R, fun z => Nat.le_trans hk (Nat.le_trans (Nat.min_le_left _ _) (hm z)), k3, by rw [← hK]; exact qL P (Nat.min_le_right _ _) q⟩⟩
end
end Dn

set_option Elab.async false
set_option linter.all false
set_option maxRecDepth 100000
/-! Dn, part J2: t.index(x). -/
namespace Dn
open PySem PySem.Spec PyProof.Rows L2
section
variable {X : Cx} {C : Cn} {Γ : Gam} {m n ma mb mc : Nat} {a b c : Expr} {ea eb ec : Ex} {pos p2 apos cpos : Pos}
/-- a tuple whose object has no dict -/
def tyT (K : PySem.W.Frag) (x : V) (H : Hp) : Prop := ∃ p, x = .ref p ∧ (∃ vs, SqT K H p vs) ∧ ((∃ o vs, H p = some (.frz o (.tup vs)) ∧ o.dict = none) ∨ ∃ o, K.lookup p = some o ∧ o.dict = none)
theorem e_tupMeth {o e : Expr} {name : Str} {id : String} {r : V → List V → Hp → VK → Prop} {to : TE} {t : TA} (slot : Slot "tuple" name id) (hty : typeOf (.builtin id) = pure (.type "method_descriptor")) (hm : MtR X id r) (ho : PE X o to) (ha : PA X [e] t) (ns : noStar e = true)
    (hbase : attributeBase o name X.env (eval o X.env) = eval o X.env) (hline : (apos.endLine == cpos.line) = true) :
    PE X (.Call (.Attribute o name apos) [e] [] cpos) (fun σ H Q => to σ H fun x H1 => tyT X.K x H1 ∧ t σ H1 fun xs H2 => r x xs H2 Q) := by
  have hs : starEach [e] X.env = (false, eval e X.env) :: starEach [] X.env := star_of ns _ _
  refine ⟨fun pins s σ H Q I h => wpAny_Call_method_late hbase (by rw [hs]; rfl) hline rfl (thn (ho.run pins s σ H _ I h) fun v s1 ⟨x, H1, I1, r1, ty, q1⟩ => ?_)⟩
  obtain ⟨p, rfl, ⟨vs, hq⟩, hd⟩ := ty
  cases r1
  obtain ⟨its, _, pl, _⟩ := I1.tuple hq
  have nod : ∃ ob, s1.heap.get? p = some ob ∧ ob.dict = none := by
    rcases hd with ⟨ob, ws, e1, e2⟩ | ⟨ob, e1, e2⟩
    · exact ⟨ob, (I1.hok p _ e1).1, e2⟩
    · exact ⟨ob, I1.kIn p ob e1, e2⟩
  refine ⟨"tuple", id, PySem.F.plainAttrs_tuple, slot, hty, pl.typeIs, fun a e => by cases e; exact nod, ?_⟩
  have hA := ha.run cpos pins s1 σ H1 _ I1 q1
  rw [hs] at hA ⊢
  refine Calls.callWith_builtin rfl (Calls.evalArgs_plain (thn hA fun us s2 ⟨vs, H2, I2, r2, q2⟩ => hm pins s2 σ H2 (.ref p) vs (.ref p) us Q I2 (show RelV (.ref p) (.ref p) from rfl) r2 q2))
theorem strsOf_ok {K : PySem.W.Frag} {G : Hp} : ∀ {ds : List D} {vs : List V} {ss : List Str}, Rps K G vs ds → strsOf ds = some ss → vs = ss.map V.str
  | [], _, ss, h, e => by cases h; cases e; rfl
  | d :: ds, _, ss, h, e => by
    cases h with
    | cons r t =>
      cases d with
      | str s =>
        obtain ⟨t2, h1, h2⟩ := Option.map_eq_some_iff.mp (show (strsOf ds).map (fun t => s :: t) = some ss from e)
        subst h2
        cases r
        rw [strsOf_ok t h1]
        rfl
      | _ => cases e
theorem idxOfS_ok : ∀ {z : Str} {ys : List Str} {j : Nat}, idxOfS z ys = some j → ys[j]? = some z ∧ ∀ m, m < j → ys[m]? ≠ some z
  | z, [], j, h => by cases h
  | z, y :: ys, j, h => by
    unfold idxOfS at h
    by_cases e : y = z
    · rw [if_pos e] at h; cases h; subst e; exact ⟨rfl, fun m hm => absurd hm (Nat.not_lt_zero _)⟩
    · rw [if_neg e] at h
      obtain ⟨i, h1, h2⟩ := Option.map_eq_some_iff.mp h
      subst h2
      obtain ⟨h3, h4⟩ := idxOfS_ok h1
      refine ⟨by simpa using h3, fun m hm => ?_⟩
      cases m with
      | zero => simpa using e
      | succ m => simpa using h4 m (by omega)
theorem s_index (hK : C.K = X.K) (ha : PE X a (rd C 9 Γ ea)) (hb : PE X b (rd C 9 Γ eb)) (ns : noStar b = true) (hbase : attributeBase a "index" X.env (eval a X.env) = eval a X.env) (hline : (apos.endLine == cpos.line) = true) :
    PE X (.Call (.Attribute a "index" apos) [b] [] cpos) (rd C m Γ (.index ea eb)) :=
  wkE (e_tupMeth PySem.F.slot_tuple_index PySem.F.type_tuple_index mt_tup_index ha (pa_cons hb pa_nil (star_of ns _ _)) ns hbase hline) fun σ H Q hh => by
  obtain ⟨B, G, bg, ρ, d, b', st, en, he, q⟩ := rd_out hh
  obtain ⟨x, b1, h1, he1⟩ := bnd_some he
  obtain ⟨y, b2, h2, he2⟩ := bnd_some he1
  obtain ⟨e3, rfl⟩ := lift_some he2
  cases x with
  | tup xs =>
    cases y with
    | str z =>
      obtain ⟨ss, e4, e5⟩ := Option.bind_eq_some_iff.mp (show ((strsOf xs).bind fun ss => (idxOfS z ss).map fun (n : Nat) => D.int (n : Int)) = some d from e3)
      obtain ⟨j, e6, rfl⟩ := Option.map_eq_some_iff.mp e5
      obtain ⟨j1, j2⟩ := idxOfS_ok e6
      refine ⟨B, G, bg, ρ, _, b1, st, en, h1, fun v G1 H1 f P1 ⟨k1, a1, _, R1⟩ _ => ?_⟩
      have rp := (RO.ncRp rfl R1).2
      obtain ⟨p, vs, rfl, hv, rs⟩ := rp.tupAt P1.st.sub
      refine ⟨⟨p, rfl, ⟨vs, by rw [← hK]; exact hv⟩, ?_⟩, B, G1, b1, ρ, _, _, P1.st, en.post P1, h2, fun w G2 H2 g P2 ⟨_, _, _, R2⟩ _ => ?_⟩
      · cases rp with
        | tup e hd _ => exact .inl ⟨_, _, P1.st.sub.tup e, hd⟩
        | ktup e _ => obtain ⟨o, e1, e2, _⟩ := e.2; exact .inr ⟨o, by rw [← hK]; exact e1, e2⟩
      · have rp2 := (RO.ncRp rfl (R1.post P2)).2
        obtain ⟨p', vs', e7, hv', rs'⟩ := rp2.tupAt P2.st.sub
        cases e7
        obtain ⟨rfl, _⟩ := R2.str
        have ev := strsOf_ok rs' e4
        subst ev
        exact ⟨p, ss, z, j, rfl, rfl, by rw [← hK]; exact hv', j1, j2, qP0 (P1.trans P2) rfl (.int _) q⟩
    | _ => cases e3
  | _ => cases e3
end
end Dn

set_option Elab.async false
set_option linter.all false
set_option maxRecDepth 100000
/-! Dn, part J3: the bag, read. -/
namespace Dn
open PySem PySem.Spec PyProof.Rows L2
section
variable {X : Cx} {C : Cn} {Γ : Gam} {m n i : Nat} {x : Str} {pos p1 p2 p3 p4 p5 p6 p7 p8 p9 p10 p11 p12 : Pos} {j1 j2 j3 j4 j5 : Nat}
structure SlotM (X : Cx) (i : Nat) (x : Str) : Prop where
  ix : X.N[i]? = some x
  vis : Vis X.env.scope x
  deb : (x == ("__debug__" : Str)) = false
  cd : (x == ("__classdict__" : Str)) = false
theorem atI_nat {α : Type} {xs : List α} {k : Nat} {v : α} (h : xs[k]? = some v) : atI xs (k : Int) = some v := by
  have hk : k < xs.length := (List.getElem?_eq_some_iff.mp h).1
  unfold atI ixN
  rw [if_pos (by omega), if_pos (by omega)]
  simpa using h
theorem s_bgi {k : Nat} (hs : SlotM X i x) (hb : C.bs = some i) : PE X (.Subscript (.Name x p1) (.Constant (.int (k : Int)) j1 p2) pos) (rd C m Γ (.bgi k)) :=
  wkE (pe_ix ix_seq (pe_var hs.ix hs.vis hs.deb hs.cd) pe_int (plainIx_of rfl)) fun σ H Q hh => by
  obtain ⟨B, G, b, ρ, d, b', st, en, he, q⟩ := rd_out hh
  obtain ⟨iv, e1, e2⟩ := Option.map_eq_some_iff.mp (show (bgGet k b).map (fun i => (D.int i, b)) = some (d, b') from he)
  cases e2
  obtain ⟨ok, Ca, nC, h1, h2⟩ := st.bag
  refine ⟨.ref B, (en.bag i hb).1, .inl ⟨B, _, (k : Int), .int iv, rfl, rfl, .inl (.inl h1), atI_nat ?_, q0 st rfl (.int _) q⟩⟩
  match k, e1 with
  | 0, e1 => cases e1; rfl
  | 1, e1 => cases e1; rfl
  | 2, e1 => cases e1; rfl
theorem cutV_map (xs : List Int) (lo hi : Option Int) : cutV (xs.map V.int) lo hi = (cutG xs lo hi).map V.int := by
  unfold cutV cutG
  rw [List.length_map, ← List.map_drop, ← List.map_take]
/-- (bag[3][bag[2]:] + [0])[0] -/
theorem s_bgc (hs : SlotM X i x) (hb : C.bs = some i) :
    PE X (.Subscript (.BinOp (.Subscript (.Subscript (.Name x p1) (.Constant (.int ((3 : Nat) : Int)) j1 p2) p3) (.Slice (some (.Subscript (.Name x p4) (.Constant (.int ((2 : Nat) : Int)) j2 p5) p6)) none none p7) p8) .Add (.List [.Constant (.int 0) j3 p9] p10) p11) (.Constant (.int ((0 : Nat) : Int)) j4 p12) pos) (rd C m Γ .bgc) :=
  wkE (pe_ix ix_seq (pe_op op_cat (pe_slice sl_list (pe_ix ix_seq (pe_var hs.ix hs.vis hs.deb hs.cd) pe_int (plainIx_of rfl)) (po_some (pe_ix ix_seq (pe_var hs.ix hs.vis hs.deb hs.cd) pe_int (plainIx_of rfl))) po_none) (pe_lst (pa_cons pe_int pa_nil))) pe_int (plainIx_of rfl)) fun σ H Q hh => by
  obtain ⟨B, G, b, ρ, d, b', st, en, he, q⟩ := rd_out hh
  have e2 : some (D.int ((cutG b.cells (some b.ix) none ++ [0]).headD 0), b) = some (d, b') := he
  cases e2
  obtain ⟨ok, Ca, nC, h1, h2⟩ := st.bag
  have hv := (en.bag i hb).1
  have cl : (cutV (b.cells.map V.int) (some b.ix) none).length + 1 ≤ sizeLine := by
    have h3 := cutV_length (b.cells.map V.int) (some b.ix) none
    rw [List.length_map] at h3
    have h4 := ok.sz
    rw [sizeLine_eq]
    omega
  -- the whole: read the list of cells, the place, cut; the one zero; both in one; its first
  refine ⟨.ref B, hv, .inl ⟨B, _, ((3 : Nat) : Int), .ref Ca, rfl, rfl, .inl (.inl h1), atI_nat rfl, .ref B, hv, .inl ⟨B, _, ((2 : Nat) : Int), .int b.ix, rfl, rfl, .inl (.inl h1), atI_nat rfl, b.ix, rfl, Ca, _, rfl, .inl (.inl h2), fun p1 hp1 => ?_⟩⟩⟩
  have P1 := st.laid (o := .lst (cutV (b.cells.map V.int) (some b.ix) none)) hp1
  refine ⟨by rw [sizeLine_eq]; decide, fun p2 hp2 => ?_⟩
  have P2 := P1.trans (P1.st.laid (o := .lst [.int 0]) hp2)
  have n12 : p1 ≠ p2 := fun z => by rw [← z, upd_same] at hp2; cases hp2
  refine ⟨p1, p2, _, _, rfl, rfl, by rw [upd_ne n12, upd_same], upd_same, cl, fun p3 hp3 => ?_⟩
  have P3 := P2.trans (P2.st.laid (o := .lst (cutV (b.cells.map V.int) (some b.ix) none ++ [.int 0])) hp3)
  have el : (cutV (b.cells.map V.int) (some b.ix) none ++ [V.int 0])[0]? = some (V.int ((cutG b.cells (some b.ix) none ++ [0]).headD 0)) := by
    rw [cutV_map]
    cases cutG b.cells (some b.ix) none with
    | nil => rfl
    | cons c r => rfl
  exact .inl ⟨p3, _, ((0 : Nat) : Int), _, rfl, rfl, .inl (.inl upd_same), atI_nat el, qP0 P3 rfl (.int _) q⟩
end
end Dn

set_option Elab.async false
set_option linter.all false
set_option maxRecDepth 100000
/-! Dn, part K: targets, what is walked, list comprehensions. -/
namespace Dn
open PySem PySem.Spec PyProof.Rows L2
section
variable {K : PySem.W.Frag} {G G' H H' : Hp} {B : Addr} {b b' : Bg} {bs : Option Nat} {Γ : Gam} {σ : L2.St} {ρ : Rho} {v : V} {d : D}
/-! ### slots written -/
open Classical in
/-- an owned thing put into a slot: it is new, or known to none -/
theorem EnvOk.setO (e : EnvOk K B G H bs Γ σ ρ) {Γ' : Gam} {i : Nat} {n : Nat} {fp : List Addr} (hi : i < ρ.length) (hl : lvl Γ' i = n) (hΓ : ∀ j, j ≠ i → lvl Γ' j = lvl Γ j) (hb : bs ≠ some i) (r : RO K G B H n v d fp) (nd : fp.Nodup)
    (hn : ∀ j w x g, j ≠ i → ρ[j]? = some (some x) → σ[j]? = some (some w) → RO K G B H (lvl Γ j) w x g → ∀ a ∈ g, a ∉ fp) : EnvOk K B G H bs Γ' (σ.set i (some v)) (ρ.set i (some d)) := by
  obtain ⟨f, h1, h2⟩ := e.own
  refine ⟨by rw [List.length_set, List.length_set, e.len], ⟨fun j => if j = i then fp else if (∃ x, ρ[j]? = some (some x)) then f j else [], fun j x hx => ?_, fun j k n a ha hc => ?_⟩, fun j hj => ?_⟩
  · by_cases q : j = i
    · subst q
      rw [List.getElem?_set_self hi] at hx
      cases hx
      refine ⟨v, by rw [List.getElem?_set_self (by rw [e.len]; exact hi)], ?_, ?_⟩
      · dsimp only; rw [if_pos rfl, hl]; exact r
      · dsimp only; rw [if_pos rfl]; exact nd
    · rw [List.getElem?_set_ne (Ne.symm q)] at hx
      obtain ⟨w, a1, a2, a3⟩ := h1 j x hx
      dsimp only
      rw [if_neg q, if_pos ⟨x, hx⟩, hΓ j q]
      exact ⟨w, by rw [List.getElem?_set_ne (Ne.symm q)]; exact a1, a2, a3⟩
  · have key : ∀ j, j ≠ i → ∀ a, a ∈ (if (∃ x, ρ[j]? = some (some x)) then f j else []) → a ∉ fp := fun j q a ha => by
      by_cases z : ∃ x, ρ[j]? = some (some x)
      · rw [if_pos z] at ha
        obtain ⟨x, hx⟩ := z
        obtain ⟨w, a1, a2, a3⟩ := h1 j x hx
        exact hn j w x (f j) q hx a1 a2 a ha
      · rw [if_neg z] at ha; simp at ha
    dsimp only at ha hc
    by_cases q : j = i
    · rw [if_pos q] at ha
      rw [if_neg (fun z => n (q.trans z.symm))] at hc
      exact key k (fun z => n (q.trans z.symm)) a hc ha
    · rw [if_neg q] at ha
      by_cases q2 : k = i
      · rw [if_pos q2] at hc; exact key j q a ha hc
      · rw [if_neg q2] at hc
        by_cases z : ∃ x, ρ[j]? = some (some x)
        · rw [if_pos z] at ha
          by_cases z2 : ∃ x, ρ[k]? = some (some x)
          · rw [if_pos z2] at hc; exact h2 j k n a ha hc
          · rw [if_neg z2] at hc; simp at hc
        · rw [if_neg z] at ha; simp at ha
  · have q : j ≠ i := fun z => hb (z ▸ hj)
    rw [List.getElem?_set_ne (Ne.symm q), List.getElem?_set_ne (Ne.symm q)]
    exact e.bag j hj
theorem EnvOk.set0 (e : EnvOk K B G H bs Γ σ ρ) {i : Nat} (hi : i < ρ.length) (hl : lvl Γ i = 0) (hb : bs ≠ some i) (r : Rp K G v d) : EnvOk K B G H bs Γ (σ.set i (some v)) (ρ.set i (some d)) :=
  e.setO (n := 0) (fp := []) hi hl (fun _ _ => rfl) hb ⟨rfl, r⟩ List.nodup_nil fun _ _ _ _ _ _ _ _ _ _ => by simp
/-- slots forgotten -/
theorem EnvOk.unset (e : EnvOk K B G H bs Γ σ ρ) {i : Nat} (hb : bs ≠ some i) : EnvOk K B G H bs Γ (σ.set i none) (ρ.set i none) := by
  obtain ⟨f, h1, h2⟩ := e.own
  refine ⟨by rw [List.length_set, List.length_set, e.len], ⟨f, fun j x hx => ?_, h2⟩, fun j hj => ?_⟩
  · by_cases q : j = i
    · subst q
      by_cases hi : j < ρ.length
      · rw [List.getElem?_set_self hi] at hx; cases hx
      · rw [List.getElem?_eq_none (by rw [List.length_set]; omega)] at hx; cases hx
    · rw [List.getElem?_set_ne (Ne.symm q)] at hx ⊢
      exact h1 j x hx
  · have q : j ≠ i := fun z => hb (z ▸ hj)
    rw [List.getElem?_set_ne (Ne.symm q), List.getElem?_set_ne (Ne.symm q)]
    exact e.bag j hj
theorem EnvOk.wipe (e : EnvOk K B G H bs Γ σ ρ) : ∀ {vs : List Nat}, (∀ i ∈ vs, bs ≠ some i) → EnvOk K B G H bs Γ (L2.wipe σ vs) (wipeR ρ vs)
  | [], _ => e
  | i :: vs, h => (EnvOk.wipe e fun j hj => h j (List.mem_cons_of_mem _ hj)).unset (h i List.mem_cons_self)
theorem wipeR_len (ρ : Rho) : ∀ vs : List Nat, (wipeR ρ vs).length = ρ.length
  | [] => rfl
  | v :: vs => by unfold wipeR; rw [List.length_set, wipeR_len ρ vs]
theorem wipeR_out {ρ : Rho} {i : Nat} {x : D} : ∀ {vs : List Nat}, (wipeR ρ vs)[i]? = some (some x) → i ∉ vs
  | [], _ => by simp
  | v :: vs, h => by
    unfold wipeR at h
    by_cases q : i = v
    · subst q
      by_cases hi : i < (wipeR ρ vs).length
      · rw [List.getElem?_set_self hi] at h; cases h
      · rw [List.getElem?_eq_none (by rw [List.length_set]; omega)] at h; cases h
    · rw [List.getElem?_set_ne (Ne.symm q)] at h
      intro z
      rcases List.mem_cons.mp z with z | z
      · exact q z
      · exact wipeR_out h z
/-- other levels where nothing is held, lower ones anywhere: levels by equality -/
theorem EnvOk.lvls (e : EnvOk K B G H bs Γ σ ρ) {Γ' : Gam} (h : ∀ i x, ρ[i]? = some (some x) → lvl Γ' i = lvl Γ i) : EnvOk K B G H bs Γ' σ ρ := by
  obtain ⟨f, h1, h2⟩ := e.own
  refine ⟨e.len, ⟨f, fun j x hx => ?_, h2⟩, e.bag⟩
  rw [h j x hx]
  exact h1 j x hx
theorem lvl_setz (Γ : Gam) (l : List Nat) (i : Nat) : lvl (setz Γ l) i = if l.contains i = true then 0 else lvl Γ i := by
  unfold setz
  show (List.map _ _).getD i 0 = _
  rw [List.getD_eq_getElem?_getD, List.getElem?_map]
  by_cases hi : i < Γ.length
  · rw [List.getElem?_range hi]; rfl
  · rw [List.getElem?_eq_none (by rw [List.length_range]; omega)]
    have z : lvl Γ i = 0 := by unfold lvl; rw [List.getD_eq_getElem?_getD, List.getElem?_eq_none (by omega)]; rfl
    rw [z]; simp
theorem EnvOk.blk (e : EnvOk K B G H bs Γ σ ρ) {vs : List Nat} (h : ∀ i ∈ vs, bs ≠ some i) : EnvOk K B G H bs (setz Γ vs) (L2.wipe σ vs) (wipeR ρ vs) :=
  (e.wipe h).lvls fun i x hx => by
    rw [lvl_setz, if_neg]
    have := wipeR_out hx
    simpa using this
end

/-! ### targets -/
mutual
def slots : Tg → List Nat
  | .nm i => [i]
  | .tp ts => slotss ts
def slotss : List Tg → List Nat
  | [] => []
  | t :: ts => slots t ++ slotss ts
end
section
variable {X : Cx} {C : Cn} {Γ : Gam} {m n ma mb mc : Nat} {a b c : Expr} {ea eb ec : Ex} {pos p2 : Pos}
/-- the slots' levels are none, none is the bag -/
def tgOk (C : Cn) (Γ : Gam) (l : List Nat) : Prop := ∀ i ∈ l, lvl Γ i = 0 ∧ C.bs ≠ some i
/-- a tuple or a list that can be unpacked now -/
def unp (K : PySem.W.Frag) (G H : Hp) (v : V) (d : D) : Prop := ∃ T vs ds, v = .ref T ∧ ((d = .tup ds ∧ SqT K H T vs) ∨ (d = .lst ds ∧ SqL K H T vs)) ∧ Rps K G vs ds
/-- what a target takes -/
def relG (K : PySem.W.Frag) (G H : Hp) : Tg → V → D → Prop
  | .nm _, v, d => Rp K G v d
  | .tp _, v, d => unp K G H v d
theorem Rp.relG {K : PySem.W.Frag} {G H : Hp} {v : V} {d : D} {ρ ρ' : Rho} (s : Sub G H) (r : Rp K G v d) : ∀ {t : Tg}, bindT t d ρ = some ρ' → Dn.relG K G H t v d
  | .nm _, _ => r
  | .tp ts, e => by
    cases d with
    | tup ds =>
      obtain ⟨a, vs, rfl, h, rs⟩ := r.tupAt s
      exact ⟨a, vs, ds, rfl, .inl ⟨rfl, h⟩, rs⟩
    | lst ds =>
      cases r with
      | lst g rs => exact ⟨_, _, ds, rfl, .inr ⟨rfl, .inl (.inl (s.lst g))⟩, rs⟩
    | _ => unfold bindT at e; cases e
/-- J: what is known of the slots, kept when one of them is given a frozen thing -/
def rg (K : PySem.W.Frag) (t : Tg) : TG := fun v σ H Q => ∃ (J : L2.St → Rho → Prop) (G : Hp) (ρ : Rho) (d : D) (ρ' : Rho), Sub G H ∧ relG K G H t v d ∧ J σ ρ ∧
  (∀ i ∈ slots t, ∀ σ ρ v d, i < ρ.length → J σ ρ → Rp K G v d → J (σ.set i (some v)) (ρ.set i (some d))) ∧ bindT t d ρ = some ρ' ∧ ∀ σ', J σ' ρ' → (∀ vs, (∀ i ∈ slots t, i ∈ vs) → wipe σ' vs = wipe σ vs) → Q σ' H
def rgs (K : PySem.W.Frag) (ts : List Tg) : TGs := fun vs σ H Q => ∃ (J : L2.St → Rho → Prop) (G : Hp) (ρ : Rho) (ds : List D) (ρ' : Rho), Sub G H ∧ Rps K G vs ds ∧ J σ ρ ∧
  (∀ i ∈ slotss ts, ∀ σ ρ v d, i < ρ.length → J σ ρ → Rp K G v d → J (σ.set i (some v)) (ρ.set i (some d))) ∧ bindTs ts ds ρ = some ρ' ∧ ∀ σ', J σ' ρ' → (∀ vs, (∀ i ∈ slotss ts, i ∈ vs) → wipe σ' vs = wipe σ vs) → Q σ' H
theorem wipe_set {σ : L2.St} {i : Nat} {x : Option V} : ∀ {vs : List Nat}, i ∈ vs → wipe (σ.set i x) vs = wipe σ vs
  | [], h => by simp at h
  | v :: vs, h => by
    unfold wipe
    by_cases q : i ∈ vs
    · rw [wipe_set q]
    · have e : v = i := by
        rcases List.mem_cons.mp h with z | z
        · exact z.symm
        · exact absurd z q
      subst e
      have key : ∀ {vs : List Nat}, v ∉ vs → wipe (σ.set v x) vs = (wipe σ vs).set v x := by
        intro vs
        induction vs with
        | nil => intro _; rfl
        | cons w ws ih =>
          intro hn
          have h1 : v ≠ w := fun z => hn (z ▸ List.mem_cons_self)
          unfold wipe
          rw [ih fun z => hn (List.mem_cons_of_mem _ z), List.set_comm _ _ h1]
      rw [key q, List.set_set]
theorem wkGs {ts : List Expr} {t t' : TGs} (h : PGs X ts t) (w : ∀ vs σ H Q, t' vs σ H Q → t vs σ H Q) : PGs X ts t' := ⟨fun pins s σ H vs us Q I r q => h.run pins s σ H vs us Q I r (w vs σ H Q q)⟩
theorem orG {tg : Expr} {t t' : TG} (h : PG X tg t) (h' : PG X tg t') : PG X tg (fun v σ H Q => t v σ H Q ∨ t' v σ H Q) := ⟨fun pins s σ H v u Q I r q => q.elim (h.run pins s σ H v u Q I r) (h'.run pins s σ H v u Q I r)⟩
theorem orI {tg it : Expr} {t t' : TI} (h : PI X tg it t) (h' : PI X tg it t') : PI X tg it (fun σ H R => t σ H R ∨ t' σ H R) := ⟨fun pins s σ H R I q => q.elim (h.run pins s σ H R I) (h'.run pins s σ H R I)⟩
theorem g_nm {i : Nat} {x : Str} (hN : X.N.Nodup) (hi : X.N[i]? = some x) (hx : Loc X.env.scope x) (hf : X.fn x = true ∨ X.env.scope.names.lookup x = some .local) : PG X (.Name x pos) (rg X.K (.nm i)) :=
  wkG (pg_name hN hi hx hf) fun v σ H Q ⟨J, G, ρ, d, ρ', sub, r, j, cl, e, q⟩ => by
  unfold bindT at e
  by_cases h : i < ρ.length
  · rw [if_pos h] at e
    cases e
    exact q _ (cl i List.mem_cons_self σ ρ v d h j r) fun vs hv => wipe_set (hv i List.mem_cons_self)
  · rw [if_neg h] at e; cases e
theorem bindTs_len : ∀ {ts : List Tg} {ds : List D} {ρ ρ' : Rho}, bindTs ts ds ρ = some ρ' → ds.length = ts.length
  | [], [], _, _, _ => rfl
  | [], _ :: _, _, _, h => by unfold bindTs at h; cases h
  | _ :: _, [], _, _, h => by unfold bindTs at h; cases h
  | t :: ts, x :: xs, ρ, ρ', h => by
    unfold bindTs at h
    obtain ⟨r, h1, h2⟩ := Option.bind_eq_some_iff.mp h
    simp [bindTs_len h2]
theorem gs_nil : PGs X [] (rgs X.K []) := wkGs pgs_nil fun vs σ H Q ⟨J, G, ρ, ds, ρ', sub, r, j, cl, e, q⟩ => by
  cases r with
  | nil => unfold bindTs at e; cases e; exact ⟨rfl, q σ j fun _ _ => rfl⟩
  | cons _ _ => unfold bindTs at e; cases e
theorem gs_cons {e : Expr} {es : List Expr} {t : Tg} {ts : List Tg} (h1 : PG X e (rg X.K t)) (h2 : PGs X es (rgs X.K ts)) (hs : (assignEach (e :: es) X.env).map (·.2) = assign e X.env :: (assignEach es X.env).map (·.2)) : PGs X (e :: es) (rgs X.K (t :: ts)) :=
  wkGs (pgs_cons h1 h2 hs) fun vs σ H Q ⟨J, G, ρ, ds, ρ', sub, r, j, cl, e, q⟩ => by
  cases r with
  | nil => unfold bindTs at e; cases e
  | @cons v d vs ds r rs =>
    unfold bindTs at e
    obtain ⟨ρ1, e1, e2⟩ := Option.bind_eq_some_iff.mp e
    exact ⟨v, vs, rfl, J, G, ρ, d, ρ1, sub, r.relG sub e1, j, fun i hi => cl i (List.mem_append_left _ hi), e1, fun σ1 j1 w1 => ⟨J, G, ρ1, ds, ρ', sub, rs, j1, fun i hi => cl i (List.mem_append_right _ hi), e2, fun σ2 j2 w2 => q σ2 j2 fun l hl => (w2 l fun i hi => hl i (List.mem_append_right _ hi)).trans (w1 l fun i hi => hl i (List.mem_append_left _ hi))⟩⟩
theorem g_tp {es : List Expr} {ts : List Tg} {k : Nat} (hc : X.calm = true) (h : PGs X es (rgs X.K ts)) (hn : (assignEach es X.env).length = ts.length) (hst : (assignEach es X.env).findIdx? (·.1) = none) : PG X (.Tuple es k pos) (rg X.K (.tp ts)) :=
  wkG (orG (pg_tup hc h hn hst) (pg_unl hc h hn hst)) fun v σ H Q ⟨J, G, ρ, d, ρ', sub, r, j, cl, e, q⟩ => by
  obtain ⟨T, vs, ds, rfl, ht, rs⟩ := r
  rcases ht with ⟨rfl, hv⟩ | ⟨rfl, hv⟩
  · unfold bindT at e
    exact .inl ⟨T, vs, rfl, hv, by rw [rs.length, bindTs_len e], J, G, ρ, ds, ρ', sub, rs, j, cl, e, fun σ1 en1 w1 => q σ1 en1 w1⟩
  · unfold bindT at e
    exact .inr ⟨T, vs, rfl, hv, by rw [rs.length, bindTs_len e], J, G, ρ, ds, ρ', sub, rs, j, cl, e, fun σ1 en1 w1 => q σ1 en1 w1⟩
end
end Dn

set_option Elab.async false
set_option linter.all false
set_option maxRecDepth 100000
/-! Dn, part L: what is walked; list comprehensions. -/
namespace Dn
open PySem PySem.Spec PyProof.Rows L2
/-- J walks xs while what is frozen in G stands -/
def WOk (K : PySem.W.Frag) (G : Hp) (xs : List D) (J : L2.It) (pr : Bool) : Prop := ∃ Gd Y, Walk J xs.length Gd Y ∧ (∀ H, Sub G H → Gd H) ∧ ∀ i Hi x Hx d, Y i Hi x Hx → xs[i]? = some d →
  (Hx = Hi ∧ Rp K G x d) ∨ (pr = true ∧ ∃ T a b da db, x = .ref T ∧ Hi T = none ∧ Hx = upd Hi T (.tup [a, b]) ∧ d = .tup [da, db] ∧ Rp K G a da ∧ Rp K G b db)
theorem WOk.mk {pr : Bool} {K : PySem.W.Frag} {G : Hp} {xs : List D} {J : L2.It} {n : Nat} {Gd : Hp → Prop} {Y : Nat → Hp → V → Hp → Prop} (w : Walk J n Gd Y) (hn : n = xs.length) (h1 : ∀ H, Sub G H → Gd H) (h2 : ∀ i Hi x Hx d, Y i Hi x Hx → xs[i]? = some d →
    (Hx = Hi ∧ Rp K G x d) ∨ (pr = true ∧ ∃ T a b da db, x = .ref T ∧ Hi T = none ∧ Hx = upd Hi T (.tup [a, b]) ∧ d = .tup [da, db] ∧ Rp K G a da ∧ Rp K G b db)) : WOk K G xs J pr := ⟨Gd, Y, hn ▸ w, h1, h2⟩
/-- does it yield pairs that are made for it -/
def itPair : Dn.It → Bool
  | .enum _ => true
  | .zip _ _ => true
  | .items _ => true
  | _ => false
section
variable {X : Cx} {C : Cn} {Γ : Gam} {m n ma mb mc : Nat} {a b c tg : Expr} {ea eb ec : Ex} {pos p2 p : Pos}
def ri (C : Cn) (Γ : Gam) (it : Dn.It) : TI := fun σ H R => ∃ B G b ρ xs b', StOk B G H b ∧ EnvOk C.K B G H C.bs Γ σ ρ ∧ evi C.Φ ρ it b = some (xs, b') ∧ ∀ (J : L2.It) G' H', Post B G H G' b' H' → WOk C.K G' xs J (itPair it) → xs.length ≤ line → R J H'
theorem Rps.get2 {K : PySem.W.Frag} {G : Hp} {ds : List D} {vs : List V} (h : Rps K G vs ds) {i : Nat} {x : V} {d : D} (hx : vs[i]? = some x) (hd : ds[i]? = some d) : Rp K G x d := by
  obtain ⟨v, h1, h2⟩ := h.get hd
  rw [hx] at h1
  cases h1
  exact h2
theorem WOk.list {K : PySem.W.Frag} {G : Hp} {p : Addr} {vs : List V} {ds : List D} (g : G p = some (.lst vs)) (rs : Rps K G vs ds) : WOk K G ds (Itl K p) false := by
  refine ⟨_, _, rs.length ▸ walk_list, fun H s => .inl (.inl (s.lst g)), fun i Hi x Hx d y hd => .inl ⟨y.1, rs.get2 y.2 hd⟩⟩
theorem WOk.tup {K : PySem.W.Frag} {G : Hp} {p : Addr} {vs : List V} {ds : List D} (g : ∀ H, Sub G H → SqT K H p vs) (rs : Rps K G vs ds) : WOk K G ds (Itt K p) false := by
  refine ⟨_, _, rs.length ▸ walk_tup, g, fun i Hi x Hx d y hd => .inl ⟨y.1, rs.get2 y.2 hd⟩⟩
theorem Rp.tupAll {K : PySem.W.Frag} {G : Hp} {v : V} {ds : List D} (r : Rp K G v (.tup ds)) : ∃ a vs, v = .ref a ∧ (∀ H, Sub G H → SqT K H a vs) ∧ Rps K G vs ds := by
  cases r with
  | tup e _ r => exact ⟨_, _, rfl, fun H s => .inl (.inr ⟨_, s.tup e⟩), r⟩
  | ktup e r => exact ⟨_, _, rfl, fun H s => .inr e.1, r⟩
theorem str_pts {t : Str} {i : Nat} {d : D} (h : (t.cps.toList.map fun c => D.str ⟨#[c]⟩)[i]? = some d) {c : Nat} (hc : t.cps[i]? = some c) : d = .str ⟨#[c]⟩ := by
  rw [List.getElem?_map, Array.getElem?_toList, hc] at h
  exact (Option.some.inj h).symm
theorem WOk.str {K : PySem.W.Frag} {G : Hp} {t : Str} : WOk K G (t.cps.toList.map fun c => D.str ⟨#[c]⟩) (Its t) false :=
  .mk walk_str (by rw [List.length_map, Array.length_toList]) (fun _ _ => True.intro) fun i Hi x Hx d y hd => .inl ⟨y.1, by
    obtain ⟨c, h1, h2⟩ := y.2
    rw [h2, str_pts hd h1]
    exact .str _ (str1 c)⟩
/-- lists and tuples are not too long -/
def HLen (K : PySem.W.Frag) (H : Hp) : Prop := ∀ a vs, SqL K H a vs ∨ SqT K H a vs → vs.length ≤ line
theorem hlen_of {pins : List (Addr × Obj)} {s : Shared} {σ : L2.St} {H : Hp} (I : Inv X pins σ H s) : HLen X.K H := fun a vs h => by
  show vs.length ≤ 16777216
  rw [← sizeLine_eq]
  rcases h with h | h
  · obtain ⟨its, r, p, hz⟩ := I.list h
    exact hz
  · obtain ⟨its, r, p, hz⟩ := I.tuple h
    exact hz
theorem wkJ {it : Expr} {t t' : TI} (h : PI X tg it t) (w : ∀ σ H R, t' σ H R → t σ H (fun J H' => HLen X.K H' → R J H')) : PI X tg it t' :=
  ⟨fun pins s σ H R I q => thn (h.run pins s σ H _ I (w σ H R q)) fun v s1 h1 => thn h1 fun itv s2 ⟨it, fp, tn, J, H2, e, I2, T, st2, f2, q⟩ => ⟨it, fp, tn, J, H2, e, I2, T, st2, f2, q (hlen_of I2)⟩⟩
theorem i_ex (hK : C.K = X.K) (ha : PE X a (rd C 0 Γ ea)) : PI X tg a (ri C Γ (.ex ea)) :=
  wkJ (orI (pi_list ha) (orI (pi_tup ha) (pi_str ha))) fun σ H R ⟨B, G, bg, ρ, xs, b', st, en, he, q⟩ => by
  obtain ⟨x, b1, h1, he1⟩ := bnd_some he
  have mk : ∀ (T : V → Hp → Prop), (∀ v G' H', Post B G H G' b1 H' → Rp C.K G' v x → T v H') → rd C 0 Γ ea σ H T := fun T hT =>
    ⟨B, G, bg, ρ, x, b1, st, en, h1, fun v G' H' f P ⟨k, hk, _, R⟩ _ => hT v G' H' P (R.cast (k := 0) (by omega)).2⟩
  cases x with
  | lst ds =>
    obtain ⟨rfl, rfl⟩ := ret_some (show ret ds b1 = some (xs, b') from he1)
    refine .inl (mk _ fun v G' H' P r => ?_)
    cases r with
    | lst g rs =>
      have hv : SqL X.K H' _ _ := .inl (.inl (P.st.sub.lst g))
      exact ⟨_, rfl, ⟨_, hv⟩, fun hl => q _ G' H' P (by rw [← hK]; exact WOk.list g rs) (rs.length ▸ hl _ _ (.inl hv))⟩
  | tup ds =>
    obtain ⟨rfl, rfl⟩ := ret_some (show ret ds b1 = some (xs, b') from he1)
    refine .inr (.inl (mk _ fun v G' H' P r => ?_))
    obtain ⟨p, vs, rfl, g, rs⟩ := r.tupAll
    have hv := g H' P.st.sub
    rw [hK] at hv
    exact ⟨p, rfl, ⟨vs, hv⟩, fun hl => q _ G' H' P (by rw [← hK]; exact WOk.tup g rs) (rs.length ▸ hl _ _ (.inr hv))⟩
  | str t =>
    obtain ⟨rfl, rfl⟩ := ret_some (show ret (t.cps.toList.map fun c => D.str ⟨#[c]⟩) b1 = some (xs, b') from he1)
    refine .inr (.inr (mk _ fun v G' H' P r => ?_))
    cases r with
    | str _ hl => exact ⟨t, rfl, fun _ => q _ G' H' P WOk.str (by rw [List.length_map, Array.length_toList]; exact hl)⟩
  | _ => exact (fail_some (b := b1) he1).elim
theorem WOk.rng {K : PySem.W.Frag} {G : Hp} {lo : Int} {n : Nat} : WOk K G ((List.range n).map fun i => .int (lo + ((i : Nat) : Int))) (Itr lo n) false :=
  .mk walk_range (by rw [List.length_map, List.length_range]) (fun _ _ => True.intro) fun i Hi x Hx d y hd => .inl ⟨y.1, by
    rw [y.2]
    rw [List.getElem?_map] at hd
    obtain ⟨j, hj, rfl⟩ := Option.map_eq_some_iff.mp hd
    obtain ⟨hi, rfl⟩ := List.getElem?_eq_some_iff.mp hj
    rw [List.getElem_range]
    exact .int _⟩
theorem range_some {i j : Int} {b b' : Bg} {xs : List D} (h : rangeD i j b = some (xs, b')) : (-(2 ^ 62) ≤ i ∧ i < 2 ^ 62 ∧ -(2 ^ 62) ≤ j ∧ j < 2 ^ 62 ∧ (j - i).toNat ≤ line) ∧ xs = (List.range (j - i).toNat).map (fun k => .int (i + ((k : Nat) : Int))) ∧ b' = b := by
  unfold rangeD at h
  rcases ite_some h with ⟨⟨c1, c2, c3, c4, c5⟩, h⟩ | ⟨_, h⟩
  · obtain ⟨rfl, rfl⟩ := ret_some h
    exact ⟨⟨c1, c2, c3, c4, c5⟩, rfl, rfl⟩
  · cases h
theorem i_r1 (hx : XOk X n) (hg : Gl X "range") (ha : PE X a (rd C ma Γ ea)) (ns : noStar a = true) : PI X tg (.Call (.Name "range" p) [a] [] pos) (ri C Γ (.r1 ea)) :=
  wkI (pi_range1 hg (hx.free "range" (by decide)) (pa_cons ha pa_nil (star_of ns _ _)) (star_of ns _ _)) fun σ H R ⟨B, G, bg, ρ, xs, b', st, en, he, q⟩ => by
  obtain ⟨x, b1, h1, he1⟩ := bnd_some he
  obtain ⟨j, b2, h2, he2⟩ := bnd_some he1
  obtain ⟨rfl, rfl⟩ := intOf_some h2
  obtain ⟨⟨c1, c2, c3, c4, c5⟩, rfl, rfl⟩ := range_some he2
  exact ⟨B, G, bg, ρ, _, _, st, en, h1, fun v G' H' f P ⟨_, _, _, r⟩ _ => ⟨j, by rw [r.int], c3, c4, q _ G' H' P (by rw [Int.sub_zero]; exact WOk.rng) (by rw [List.length_map, List.length_range]; exact c5)⟩⟩
theorem i_r2 (hx : XOk X n) (hg : Gl X "range") (ha : PE X a (rd C ma Γ ea)) (hb : PE X b (rd C mb Γ eb)) (ns : noStar a = true) (ns2 : noStar b = true) : PI X tg (.Call (.Name "range" p) [a, b] [] pos) (ri C Γ (.r2 ea eb)) :=
  wkI (pi_range2 hg (hx.free "range" (by decide)) (pa_cons ha (pa_cons hb pa_nil (star_of ns2 _ _)) (star_of ns _ _)) (by rw [star_of ns, star_of ns2]; rfl) (star_of ns2 _ _)) fun σ H R ⟨B, G, bg, ρ, xs, b', st, en, he, q⟩ => by
  obtain ⟨x, b1, h1, he1⟩ := bnd_some he
  obtain ⟨i, b2, h2, he2⟩ := bnd_some he1
  obtain ⟨rfl, rfl⟩ := intOf_some h2
  obtain ⟨y, b3, h3, he3⟩ := bnd_some he2
  obtain ⟨j, b4, h4, he4⟩ := bnd_some he3
  obtain ⟨rfl, rfl⟩ := intOf_some h4
  obtain ⟨⟨c1, c2, c3, c4, c5⟩, rfl, rfl⟩ := range_some he4
  exact ⟨B, G, bg, ρ, _, _, st, en, h1, fun v G' H' f P ⟨_, _, _, r⟩ _ => ⟨B, G', _, ρ, _, _, P.st, en.post P, h3, fun v2 G2 H2 f2 P2 ⟨_, _, _, r2⟩ _ => ⟨i, j, by rw [r.int, r2.int], ⟨c1, c2, c3, c4⟩, q _ G2 H2 (P.trans P2) WOk.rng (by rw [List.length_map, List.length_range]; exact c5)⟩⟩⟩
theorem zipD_get : ∀ {xs ys : List D} {i : Nat} {d : D}, (zipD xs ys)[i]? = some d → ∃ x y, xs[i]? = some x ∧ ys[i]? = some y ∧ d = .tup [x, y]
  | x :: xs, y :: ys, 0, d, h => ⟨x, y, rfl, rfl, by simpa [zipD] using h.symm⟩
  | x :: xs, y :: ys, i + 1, d, h => by
    obtain ⟨u, v, h1, h2, h3⟩ := zipD_get (xs := xs) (ys := ys) (i := i) (by simpa [zipD] using h)
    exact ⟨u, v, by simpa using h1, by simpa using h2, h3⟩
  | [], ys, i, d, h => by simp [zipD] at h
  | x :: xs, [], i, d, h => by simp [zipD] at h
theorem zipD_len : ∀ (xs ys : List D), (zipD xs ys).length = min xs.length ys.length
  | x :: xs, y :: ys => by simp [zipD, zipD_len xs ys]
  | [], ys => by simp [zipD]
  | x :: xs, [] => by simp [zipD]
theorem enumD_get : ∀ {xs : List D} {i k : Nat} {d : D}, (enumD k xs)[i]? = some d → ∃ x, xs[i]? = some x ∧ d = .tup [.int ((k + i : Nat) : Int), x]
  | x :: xs, 0, k, d, h => ⟨x, rfl, by simpa [enumD] using h.symm⟩
  | x :: xs, i + 1, k, d, h => by
    obtain ⟨u, h1, h3⟩ := enumD_get (xs := xs) (i := i) (k := k + 1) (by simpa [enumD] using h)
    exact ⟨u, by simpa using h1, by rw [h3]; congr 3; omega⟩
  | [], i, k, d, h => by simp [enumD] at h
theorem enumD_len : ∀ (k : Nat) (xs : List D), (enumD k xs).length = xs.length
  | k, x :: xs => by simp [enumD, enumD_len (k + 1) xs]
  | k, [] => rfl
theorem WOk.enum {K : PySem.W.Frag} {G : Hp} {p : Addr} {vs : List V} {ds : List D} (g : G p = some (.lst vs)) (rs : Rps K G vs ds) : WOk K G (enumD 0 ds) (Ite K p) true :=
  .mk walk_enum (by rw [enumD_len, ← rs.length]) (fun H s => .inl (.inl (s.lst g))) fun i Hi x Hx d y hd => .inr (by
    obtain ⟨T, u, w, h1, h2, h3, h4, h5⟩ := y
    obtain ⟨e, he, rfl⟩ := enumD_get hd
    cases h4
    exact ⟨rfl, T, _, w, _, e, h1, h2, h3, rfl, by rw [Nat.zero_add]; exact .int _, rs.get2 h5 he⟩)
theorem WOk.enT {K : PySem.W.Frag} {G : Hp} {p : Addr} {vs : List V} {ds : List D} (g : ∀ H, Sub G H → SqT K H p vs) (rs : Rps K G vs ds) : WOk K G (enumD 0 ds) (IteT K p) true :=
  .mk walk_enT (by rw [enumD_len, ← rs.length]) g fun i Hi x Hx d y hd => .inr (by
    obtain ⟨T, u, w, h1, h2, h3, h4, h5⟩ := y
    obtain ⟨e, he, rfl⟩ := enumD_get hd
    cases h4
    exact ⟨rfl, T, _, w, _, e, h1, h2, h3, rfl, by rw [Nat.zero_add]; exact .int _, rs.get2 h5 he⟩)
/-- for (i, ..) in enumerate(e), a list or a tuple -/
theorem i_enum {elts : List Expr} {kk : Nat} {tpos : Pos} (hK : C.K = X.K) (hx : XOk X n) (hg : Gl X "enumerate") (ha : PE X a (rd C 0 Γ ea)) (ns : noStar a = true) :
    PI X (.Tuple elts kk tpos) (.Call (.Name "enumerate" p) [a] [] pos) (ri C Γ (.enum ea)) :=
  wkJ (orI (pi_enum hg (hx.free "enumerate" (by decide)) (pa_cons ha pa_nil (star_of ns _ _)) (star_of ns _ _)) (pi_enT hg (hx.free "enumerate" (by decide)) (pa_cons ha pa_nil (star_of ns _ _)) (star_of ns _ _))) fun σ H R ⟨B, G, bg, ρ, xs, b', st, en, he, q⟩ => by
  obtain ⟨x, b1, h1, he1⟩ := bnd_some he
  obtain ⟨ys, b2, h2, he2⟩ := bnd_some he1
  obtain ⟨hx2, rfl⟩ := lstOf_some h2
  obtain ⟨rfl, rfl⟩ := ret_some he2
  have mk : ∀ (T : List V → Hp → Prop), (∀ v G' H', Post B G H G' b' H' → Rp C.K G' v x → T [v] H') → tCons (rd C 0 Γ ea) tNil σ H T := fun T hT =>
    ⟨B, G, bg, ρ, x, _, st, en, h1, fun v G' H' f P ⟨k, hk, _, R⟩ _ => hT v G' H' P (R.cast (k := 0) (by omega)).2⟩
  rcases hx2 with rfl | rfl
  · refine .inl (mk _ fun v G' H' P r => ?_)
    cases r with
    | lst g rs =>
      have hv : SqL X.K H' _ _ := .inl (.inl (P.st.sub.lst g))
      exact ⟨_, _, rfl, hv, fun hl => q _ G' H' P (by rw [← hK]; exact WOk.enum g rs) (by rw [enumD_len]; exact rs.length ▸ hl _ _ (.inl hv))⟩
  · refine .inr (mk _ fun v G' H' P r => ?_)
    obtain ⟨p, vs, rfl, g, rs⟩ := r.tupAll
    have hv := g H' P.st.sub
    rw [hK] at hv
    exact ⟨p, vs, rfl, hv, fun hl => q _ G' H' P (by rw [← hK]; exact WOk.enT g rs) (by rw [enumD_len]; exact rs.length ▸ hl _ _ (.inr hv))⟩
end
end Dn

set_option Elab.async false
set_option linter.all false
set_option maxRecDepth 100000
/-! Dn, part M: list comprehensions. -/
namespace Dn
open PySem PySem.Spec PyProof.Rows L2
section
variable {X : Cx} {C : Cn} {Γ : Gam} {m n ma mb mc : Nat} {a b c tg : Expr} {ea eb ec : Ex} {pos p2 p : Pos}
/-- a clause's condition -/
def rc (C : Cn) (Γ : Gam) (e : Oe) : TT := fun σ H Q => ∃ B G b ρ c b', StOk B G H b ∧ EnvOk C.K B G H C.bs Γ σ ρ ∧ evc C.Φ ρ e b = some (c, b') ∧ ∀ G' H', Post B G H G' b' H' → Q c H'
theorem wkTs {ifs : List Expr} {t t' : TT} (h : PTs X ifs t) (w : ∀ σ H Q, t' σ H Q → t σ H Q) : PTs X ifs t' := ⟨fun pins s σ H Q I q => h.run pins s σ H Q I (w σ H Q q)⟩
theorem c_no : PTs X [] (rc C Γ .no) := wkTs pts_nil fun σ H Q ⟨B, G, b, ρ, c, b', st, en, he, q⟩ => by
  obtain ⟨rfl, rfl⟩ := ret_some he
  exact q G H (.refl st)
theorem c_yes (h : PT X a (rt C Γ ea)) : PTs X [a] (rc C Γ (.yes ea)) := wkTs (pts_one h) fun σ H Q q => q
/-- what a walk yields: a frozen thing, or a new pair -/
def Item (K : PySem.W.Frag) (G Hi Hx : Hp) (pr : Bool) (x : V) (d : D) : Prop := (Hx = Hi ∧ Rp K G x d) ∨ (pr = true ∧ ∃ T a b da db, x = .ref T ∧ Hi T = none ∧ Hx = upd Hi T (.tup [a, b]) ∧ d = .tup [da, db] ∧ Rp K G a da ∧ Rp K G b db)
theorem Item.mono {K : PySem.W.Frag} {G G' Hi Hx : Hp} {pr : Bool} {x : V} {d : D} (h : Item K G Hi Hx pr x d) (g : ∀ a o, G a = some o → G' a = some o) : Item K G' Hi Hx pr x d :=
  h.imp (fun z => ⟨z.1, z.2.mono g⟩) fun ⟨hp, T, a, b, da, db, z1, z2, z3, z4, z5, z6⟩ => ⟨hp, T, a, b, da, db, z1, z2, z3, z4, z5.mono g, z6.mono g⟩
def isTp : Tg → Bool
  | .tp _ => true
  | _ => false
/-- an item that comes is what the target takes -/
theorem item_in {K : PySem.W.Frag} {B : Addr} {G Hi Hx : Hp} {bg : Bg} {x : V} {d : D} {pr : Bool} {t : Tg} {ρ ρ' : Rho} (st : StOk B G Hi bg) (y : Item K G Hi Hx pr x d) (hp : pr = true → isTp t = true) (hb : bindT t d ρ = some ρ') : Post B G Hi G bg Hx ∧ relG K G Hx t x d := by
  rcases y with ⟨rfl, r⟩ | ⟨hpr, T, a, b, da, db, rfl, hT, rfl, rfl, ra, rb⟩
  · exact ⟨.refl st, r.relG st.sub hb⟩
  · refine ⟨st.laid hT, ?_⟩
    cases t with
    | nm i => exact absurd (hp hpr) (by simp [isTp])
    | tp ts => exact ⟨T, [a, b], [da, db], rfl, .inl ⟨rfl, .inl (.inl upd_same)⟩, .cons ra (.cons rb .nil)⟩
theorem Sub.relG {K : PySem.W.Frag} {G Hi : Hp} {L : Addr} {t : Tg} {x : V} {d : D} (h : Dn.relG K G (rm Hi L) t x d) : Dn.relG K G Hi t x d := by
  cases t with
  | nm i => exact h
  | tp ts =>
    obtain ⟨T, vs, ds, rfl, ht, rs⟩ := h
    refine ⟨T, vs, ds, rfl, ?_, rs⟩
    rcases ht with ⟨e, h⟩ | ⟨e, h⟩
    · refine .inl ⟨e, ?_⟩
      rcases h with h | h
      · rcases h with h | ⟨ob, h⟩
        · exact .inl (.inl (rm_some h).2)
        · exact .inl (.inr ⟨ob, (rm_some h).2⟩)
      · exact .inr h
    · refine .inr ⟨e, ?_⟩
      rcases h with h | h
      · rcases h with h | ⟨ob, h⟩
        · exact .inl (.inl (rm_some h).2)
        · exact .inl (.inr ⟨ob, (rm_some h).2⟩)
      · exact .inr h
/-- .. with L out of sight -/
theorem item_rm {K : PySem.W.Frag} {B L : Addr} {G Hi Hx : Hp} {bg : Bg} {x : V} {d : D} {o : HO} {pr : Bool} {t : Tg} {ρ ρ' : Rho} (st : StOk B G (rm Hi L) bg) (hL : Hi L = some o) (y : Item K G Hi Hx pr x d) (hp : pr = true → isTp t = true) (hb : bindT t d ρ = some ρ') :
    Post B G (rm Hi L) G bg (rm Hx L) ∧ relG K G Hx t x d ∧ Hx L = some o := by
  have key : Post B G (rm Hi L) G bg (rm Hx L) ∧ relG K G (rm Hx L) t x d := by
    refine item_in st ?_ hp hb
    rcases y with ⟨rfl, r⟩ | ⟨hpr, T, a, b, da, db, rfl, hT, rfl, rfl, ra, rb⟩
    · exact .inl ⟨rfl, r⟩
    · have ne : T ≠ L := fun z => by subst z; rw [hL] at hT; cases hT
      exact .inr ⟨hpr, T, a, b, da, db, rfl, by rw [rm_ne ne]; exact hT, rm_upd ne, rfl, ra, rb⟩
  refine ⟨key.1, Sub.relG key.2, ?_⟩
  rcases y with ⟨rfl, _⟩ | ⟨_, T, a, b, da, db, _, hT, rfl, _⟩
  · exact hL
  · have ne : L ≠ T := fun z => by subst z; rw [hL] at hT; cases hT
    rw [upd_ne ne]; exact hL
/-- one turn of a comprehension -/
def lcF (Φ : Nat → List D → M D) (ρ0 : Rho) (tg : Tg) (c : Oe) (elt : Ex) (x : D) : M (List D) := bnd (lift (bindT tg x ρ0)) fun ρ2 => bnd (evc Φ ρ2 c) fun t =>
  if t = true then bnd (ev Φ ρ2 elt) fun y => ret [y] else ret []
/-- an element is as owned as it is told to be: what is a slot's own is not -/
def okE (C : Cn) (Γ : Gam) (e : Ex) : Prop := chain e = false ∨ lv C.own Γ e = 0
def lvE (C : Cn) (Γ : Gam) (e : Ex) : Nat := min 9 (lv C.own Γ e)
theorem rd_fresh {σ : L2.St} {H : Hp} {Q : VK} (ok : okE C Γ ea) {B : Addr} {G : Hp} {b b' : Bg} {ρ : Rho} {d : D} (st : StOk B G H b) (en : EnvOk C.K B G H C.bs Γ σ ρ) (he : ev C.Φ ρ ea b = some (d, b'))
    (q : ∀ v G' H' fp, Post B G H G' b' H' → RO C.K G' B H' (lvE C Γ ea) v d fp → fp.Nodup → (∀ a ∈ fp, H a = none) → Q v H') : rd C 9 Γ ea σ H Q :=
  ⟨B, G, b, ρ, d, b', st, en, he, fun v G' H' fp P ⟨k, k1, k2, R⟩ F => by
    cases hce : chain ea with
    | false =>
      obtain ⟨f1, f2⟩ := F hce
      have e := k2 hce
      exact q v G' H' fp P (R.cast (by rw [e]; rfl)) f1 f2
    | true =>
      have hl : lv C.own Γ ea = 0 := by
        rcases ok with z | z
        · rw [hce] at z; cases z
        · exact z
      have R0 : RO C.K G' B H' 0 v d fp := R.cast (by rw [hl] at k1; omega)
      obtain ⟨rfl, r⟩ := R0
      exact q v G' H' [] P (by unfold lvE; rw [hl]; exact ⟨rfl, r⟩) List.nodup_nil (by simp)⟩
theorem ROs.app {R : V → D → List Addr → Prop} {v : V} {d : D} {g : List Addr} : ∀ {vs : List V} {ds : List D} {f : List Addr}, ROs R vs ds f → R v d g → ROs R (vs ++ [v]) (ds ++ [d]) (f ++ g) := by
  intro vs ds f h r
  induction h with
  | nil => simpa using ROs.cons (f := g) (g := []) r .nil
  | cons r1 t ih => rw [List.append_assoc]; exact .cons r1 ih
/-- the state amid a comprehension -/
def LcP (C : Cn) (F : D → M (List D)) (k0 : Nat) (B : Addr) (G0 H0 : Hp) (L : Addr) (xs : List D) (res : List D) (bE : Bg) (i : Nat) (H : Hp) : Prop :=
  ∃ G b acc r1 r2 f, H L = some (.lst acc) ∧ Post B G0 H0 G b (rm H L) ∧ ROs (RO C.K G B (rm H L) k0) acc r1 f ∧ f.Nodup ∧ (∀ a ∈ f, H0 a = none) ∧ loopM F (xs.drop i) b = some (r2, bE) ∧ res = r1 ++ r2 ∧ acc.length ≤ i
theorem lc_ends {K : PySem.W.Frag} {F : D → M (List D)} {k0 : Nat} {B L : Addr} {G0 H0 H : Hp} {xs res : List D} {bE : Bg} (hL : H0 L = none) (h : LcP C F k0 B G0 H0 L xs res bE xs.length H) :
    ∃ G f, Post B G0 H0 G bE H ∧ RO C.K G B H (k0 + 1) (.ref L) (.lst res) f ∧ f.Nodup ∧ ∀ a ∈ f, H0 a = none := by
  obtain ⟨G, b, acc, r1, r2, f, hl, P, rs, nd, fr, he, rfl, _⟩ := h
  rw [List.drop_length] at he
  obtain ⟨rfl, rfl⟩ := ret_some he
  rw [List.append_nil]
  have gL : G L = none := P.st.gnone rm_same
  refine ⟨G, L :: f, P.unrm, .inr (.inl ⟨L, acc, r1, f, rfl, rfl, rfl, Ne.symm P.st.rmB, gL, hl, rs.imp fun v d g _ r => r.unrm⟩), ?_, ?_⟩
  · refine List.nodup_cons.mpr ⟨fun z => ?_, nd⟩
    have key : ∀ {vs : List V} {ds : List D} {f : List Addr}, ROs (RO C.K G B (rm H L) k0) vs ds f → L ∉ f := by
      intro vs ds f h
      induction h with
      | nil => simp
      | cons r t ih =>
        intro z
        rcases List.mem_append.mp z with z | z
        · exact r.notD z
        · exact ih z
    exact key rs z
  · intro a ha
    rcases List.mem_cons.mp ha with rfl | ha
    · exact hL
    · exact fr a ha
variable {elt tgt iter : Expr} {scope : Scope} {ifs : List Expr} {own : List (Str × Nat)} {eelt : Ex} {etg : Tg} {eit : Dn.It} {eif : Oe}
theorem lc_rd (hK : C.K = X.K) (hb : ∀ i ∈ own.map (·.2), C.bs ≠ some i) (ho : ∀ i ∈ slots etg, i ∈ own.map (·.2)) (oe : okE C (setz Γ (own.map (·.2))) eelt) (hpt : itPair eit = true → isTp etg = true) {σ : L2.St} {H : Hp} {Q : VK} (hh : rd C m Γ (.lc eelt (own.map (·.2)) etg eit eif) σ H Q) :
    tLc (ri C Γ eit) (rg X.K etg) (rc C (setz Γ (own.map (·.2))) eif) (rd C 9 (setz Γ (own.map (·.2))) eelt) (own.map (·.2)) σ H Q := by
  obtain ⟨B, G, bg, ρ, d, b', st, en, hev, q⟩ := rd_out hh
  obtain ⟨xs, b1, h1, he1⟩ := bnd_some hev
  obtain ⟨res, b2, h2, he2⟩ := bnd_some he1
  obtain ⟨rfl, rfl⟩ := ret_some he2
  have h2 : loopM (lcF C.Φ (wipeR ρ (own.map (·.2))) etg eif eelt) xs b1 = some (res, b') := h2
  refine ⟨B, G, bg, ρ, xs, b1, st, en, h1, fun J G1 H1 P1 ⟨Gd, Y, w, w1, w2⟩ hlen L hL => ?_⟩
  have en1 := en.post P1
  generalize hF : lcF C.Φ (wipeR ρ (own.map (·.2))) etg eif eelt = F at h2
  refine lc_it w (LcP C F (lvE C (setz Γ (own.map (·.2))) eelt) B G1 H1 L xs res b') ?_ ?_ ?_ ?_
  · refine ⟨G1, b1, [], [], res, [], upd_same, ?_, .nil, List.nodup_nil, by simp, by simpa using h2, rfl, Nat.le_refl _⟩
    rw [rm_updD, rm_none hL]
    exact .refl P1.st
  · rintro i H2 _ ⟨G2, b2, acc, r1, r2, f, hl, P2, _⟩
    exact w1 H2 fun a o e => P2.unrm.st.sub a o (P2.gs a o e)
  · rintro i x H2 H3 hi' ⟨G2, b2, acc, r1, r2, f, hl, P2, rs, nd, fr, he3, rfl, hacc⟩ y
    have hxi : xs[i]? = some xs[i] := List.getElem?_eq_getElem hi'
    rw [List.drop_eq_getElem_cons hi'] at he3
    obtain ⟨ys, b3, h3, he4⟩ := bnd_some he3
    obtain ⟨r3, b4, h4, he5⟩ := bnd_some he4
    obtain ⟨rfl, rfl⟩ := ret_some he5
    subst hF
    obtain ⟨ρ2, b5, h5, he6⟩ := bnd_some h3
    obtain ⟨hb5, rfl⟩ := lift_some h5
    obtain ⟨t, b6, h6, he7⟩ := bnd_some he6
    -- the item
    have yy : Item C.K G2 H2 H3 (itPair eit) x xs[i] := Item.mono (w2 i H2 x H3 xs[i] y hxi) P2.gs
    obtain ⟨P3, rx, hl3⟩ := item_rm P2.st hl yy hpt hb5
    have P23 := P2.trans P3
    have enB : EnvOk C.K B G2 H3 C.bs (setz Γ (own.map (·.2))) (wipe σ (own.map (·.2))) (wipeR ρ (own.map (·.2))) := ((en1.post P23).unrm).blk hb
    refine ⟨EnvOk C.K B G2 H3 C.bs (setz Γ (own.map (·.2))), G2, _, _, ρ2, P3.st.unrm.sub, by rw [← hK]; exact rx, enB, fun i hi σ ρ v d hl e r => e.set0 hl (by rw [lvl_setz, if_pos (by simpa using ho i hi)]) (hb i (ho i hi)) (by rw [hK]; exact r), hb5, fun σ2 en2 wp => ⟨?_, ?_⟩⟩
    · rw [wp _ ho]
      have : ∀ vs : List Nat, wipe (wipe σ vs) vs = wipe σ vs := fun vs => by
        have key : ∀ us, (∀ i ∈ us, i ∈ vs) → wipe (wipe σ us) vs = wipe σ vs := by
          intro us
          induction us with
          | nil => intro _; rfl
          | cons u us ih =>
            intro hu
            show wipe ((wipe σ us).set u none) vs = _
            rw [wipe_set (hu u List.mem_cons_self)]
            exact ih fun i hi => hu i (List.mem_cons_of_mem _ hi)
        exact key vs fun _ h => h
      exact this _
    · refine ⟨B, G2, _, ρ2, t, b6, P3.st.unrm, en2, h6, fun G4 H4 P4 => ?_⟩
      have P4r := P4.rm P3.st hl3
      have hl4 := P4.kp L _ (Ne.symm P3.st.rmB) hl3
      have rs4 : ROs (RO C.K G4 B (rm H4 L) (lvE C (setz Γ (own.map (·.2))) eelt)) acc r1 f := rs.imp fun v d g _ r => (r.post P3).post P4r
      rcases ite_some he7 with ⟨c, he8⟩ | ⟨c, he8⟩
      · dsimp only
        rw [if_pos c]
        obtain ⟨yv, b7, h7, he9⟩ := bnd_some he8
        obtain ⟨rfl, rfl⟩ := ret_some he9
        refine rd_fresh oe P4.st (en2.post P4) h7 fun v G5 H5 g P5 R nd5 fr5 => ?_
        have P5r := P5.rm P4r.st hl4
        have hl5 := P5.kp L _ (Ne.symm P4r.st.rmB) hl4
        refine ⟨acc, hl5, ?_, G5, _, acc ++ [v], r1 ++ [yv], r3, f ++ g, upd_same, ?_, ?_, ?_, ?_, h4, by simp, by rw [List.length_append]; simp; exact hacc⟩
        · rw [sizeLine_eq]; have hline : xs.length ≤ 16777216 := hlen; omega
        · rw [rm_updD]
          exact ((P2.trans P3).trans P4r).trans P5r
        · rw [rm_updD]
          have gne : ∀ a ∈ g, a ≠ L := fun a ha z => by
            subst z
            rw [fr5 a ha] at hl4; cases hl4
          exact ROs.app (rs4.imp fun v d g _ r => r.post P5r) (R.keep (fun _ _ e => e) (fun a ha => (R.fp a ha).2.1) fun a ha => rm_ne (gne a ha))
        · refine List.nodup_append.mpr ⟨nd, nd5, fun a ha c hc e => ?_⟩
          subst e
          have key : ∀ {vs : List V} {ds : List D} {f : List Addr}, ROs (RO C.K G4 B (rm H4 L) (lvE C (setz Γ (own.map (·.2))) eelt)) vs ds f → ∀ a ∈ f, H4 a ≠ none := by
            intro vs ds f h
            induction h with
            | nil => intro a ha; simp at ha
            | cons r t ih =>
              intro a ha
              rcases List.mem_append.mp ha with ha | ha
              · obtain ⟨_, _, o, e, _⟩ := r.fp a ha
                rw [(rm_some e).2]; simp
              · exact ih a ha
          exact key rs4 a ha (fr5 a hc)
        · intro a ha
          rcases List.mem_append.mp ha with ha | ha
          · exact fr a ha
          · have z := fr5 a ha
            cases e : H1 a with
            | none => rfl
            | some o =>
              have nb : a ≠ B := (R.fp a ha).1
              have e1 := (rm_some (((P2.trans P3).trans P4r).kp a o nb e)).2
              rw [z] at e1; cases e1
      · dsimp only
        rw [if_neg c]
        obtain ⟨rfl, rfl⟩ := ret_some he8
        exact ⟨G4, _, acc, r1, r3, f, hl4, (P2.trans P3).trans P4r, rs4, nd, fr, h4, by simp, Nat.le_succ_of_le hacc⟩
  · intro H2 h
    obtain ⟨G2, f, P2, R, nd, fr⟩ := lc_ends (K := C.K) hL h
    obtain ⟨G3, f3, P3, R3, n3, h3, _⟩ := P2.lower (m := min m (min 9 (lv C.own (setz Γ (own.map (·.2))) eelt + 1))) (by unfold lvE; omega) R nd fr
    exact qT P1 P3 R3 ⟨n3, h3⟩ q
theorem s_lc (hK : C.K = X.K) (hx : XOk X n) (hN : X.N.Nodup) (hi : PI X tgt iter (ri C Γ eit)) (ok : BlkOk X.N X.env.scope scope own)
    (hg : ∀ (s : Shared) (H : Hp) (Ca : Addr) (cl : List (Str × Addr)) (fp : List Addr), PG (X.blk s H scope (compEnvC scope cl Ca X.env) fp) tgt (rg X.K etg))
    (ht : ∀ (s : Shared) (H : Hp) (Ca : Addr) (cl : List (Str × Addr)) (fp : List Addr), PTs (X.blk s H scope (compEnvC scope cl Ca X.env) fp) ifs (rc C (setz Γ (own.map (·.2))) eif))
    (he : ∀ (s : Shared) (H : Hp) (Ca : Addr) (cl : List (Str × Addr)) (fp : List Addr), PE (X.blk s H scope (compEnvC scope cl Ca X.env) fp) elt (rd C 9 (setz Γ (own.map (·.2))) eelt))
    (hs : ∀ x, foldedSetIterable iter X.env x = pure x) (hb : ∀ i ∈ own.map (·.2), C.bs ≠ some i) (ho : ∀ i ∈ slots etg, i ∈ own.map (·.2)) (oe : okE C (setz Γ (own.map (·.2))) eelt) (hpt : itPair eit = true → isTp etg = true) :
    PE X (.ListComp elt [⟨tgt, iter, ifs, 0⟩] scope pos) (rd C m Γ (.lc eelt (own.map (·.2)) etg eit eif)) :=
  wkE (pe_lc hx.calm hN hi ok hg ht he hs) fun σ H Q hh => lc_rd hK hb ho oe hpt hh
end
end Dn

set_option Elab.async false
set_option linter.all false
set_option maxRecDepth 100000
/-! Dn, part N: the state between statements; statements. -/
namespace Dn
open PySem PySem.Spec PyProof.Rows L2
/-- the slots' own things: at f, new since the def's entry (H0), apart -/
def OwnAt (C : Cn) (B : Addr) (H0 : Hp) (Γ : Gam) (G H : Hp) (σ : L2.St) (ρ : Rho) (f : Nat → List Addr) : Prop :=
  (∀ i d, ρ[i]? = some (some d) → ∃ v, σ[i]? = some (some v) ∧ RO C.K G B H (lvl Γ i) v d (f i) ∧ (f i).Nodup ∧ ∀ a ∈ f i, H0 a = none) ∧ (∀ i j, i ≠ j → ∀ a ∈ f i, a ∉ f j)
/-- between statements: B G0 H0 the entry's -/
structure SI (C : Cn) (B : Addr) (G0 H0 : Hp) (Γ : Gam) (G : Hp) (b : Bg) (H : Hp) (σ : L2.St) (ρ : Rho) : Prop where
  p : Post B G0 H0 G b H
  len : σ.length = ρ.length
  own : ∃ f, OwnAt C B H0 Γ G H σ ρ f
  bag : ∀ i, C.bs = some i → σ[i]? = some (some (.ref B)) ∧ ρ[i]? = some none
  cel : ∃ Ca x y z, H0 B = some (.lst [x, y, z, .ref Ca]) ∧ H0 Ca ≠ none
section
variable {C : Cn} {B : Addr} {G0 H0 G H G' H' : Hp} {Γ Γ' : Gam} {b b' : Bg} {σ : L2.St} {ρ : Rho} {f : Nat → List Addr} {v : V} {d : D} {n : Nat} {fp : List Addr}
theorem SI.st (S : SI C B G0 H0 Γ G b H σ ρ) : StOk B G H b := S.p.st
theorem SI.env (S : SI C B G0 H0 Γ G b H σ ρ) : EnvOk C.K B G H C.bs Γ σ ρ := by
  obtain ⟨f, h1, h2⟩ := S.own
  refine ⟨S.len, ⟨f, fun i d hd => ?_, h2⟩, S.bag⟩
  obtain ⟨v, a1, a2, a3, _⟩ := h1 i d hd
  exact ⟨v, a1, a2, a3⟩
theorem OwnAt.post (h : OwnAt C B H0 Γ G H σ ρ f) (P : Post B G H G' b' H') : OwnAt C B H0 Γ G' H' σ ρ f :=
  ⟨fun i d hd => let ⟨v, a1, a2, a3⟩ := h.1 i d hd; ⟨v, a1, a2.post P, a3⟩, h.2⟩
theorem SI.step (S : SI C B G0 H0 Γ G b H σ ρ) (P : Post B G H G' b' H') : SI C B G0 H0 Γ G' b' H' σ ρ := by
  obtain ⟨f, h⟩ := S.own
  exact ⟨S.p.trans P, S.len, ⟨f, h.post P⟩, S.bag, S.cel⟩
theorem SI.old (S : SI C B G0 H0 Γ G b H σ ρ) {a : Addr} (h : H a = none) (nb : a ≠ B) : H0 a = none := by
  cases e : H0 a with
  | none => rfl
  | some o => rw [S.p.kp a o nb e] at h; cases h
/-- levels where nothing is held -/
theorem SI.lvls (S : SI C B G0 H0 Γ G b H σ ρ) (h : ∀ i d, ρ[i]? = some (some d) → lvl Γ' i = lvl Γ i) : SI C B G0 H0 Γ' G b H σ ρ := by
  obtain ⟨f, h1, h2⟩ := S.own
  refine ⟨S.p, S.len, ⟨f, fun i d hd => ?_, h2⟩, S.bag, S.cel⟩
  rw [h i d hd]; exact h1 i d hd
theorem slot_ne {a : Addr} {i : Nat} (h : OwnAt C B H0 Γ G H σ ρ f) (hd : ρ[i]? = some (some d)) (ha : a ∈ f i) : a ≠ B ∧ G a = none ∧ H a ≠ none := by
  obtain ⟨v, a1, a2, a3⟩ := h.1 i d hd
  obtain ⟨x, y, o, e, _⟩ := a2.fp a ha
  exact ⟨x, y, by rw [e]; simp⟩
theorem _root_.Dn.Post.unbase {G1 H1 : Hp} {b1 : Bg} (P : Post B G1 H0 G b H) (P0 : Post B G0 H0 G1 b1 H1) : Post B G0 H0 G b H :=
  ⟨fun a o e => P.gs a o (P0.gs a o e), fun a h => (P.gn a h).elim (P0.gn a) .inr, P.kp, P.st, P.cl⟩
/-- what is frozen now as the ground -/
theorem SI.rebase (S : SI C B G0 H0 Γ G b H σ ρ) : SI C B G H0 Γ G b H σ ρ := ⟨⟨fun _ _ e => e, fun _ h => .inl h, S.p.kp, S.p.st, S.p.cl⟩, S.len, S.own, S.bag, S.cel⟩
theorem SI.unbase {G1 H1 : Hp} {b1 : Bg} (S : SI C B G1 H0 Γ G b H σ ρ) (P0 : Post B G0 H0 G1 b1 H1) : SI C B G0 H0 Γ G b H σ ρ := ⟨S.p.unbase P0, S.len, S.own, S.bag, S.cel⟩
/-- a slot written -/
theorem SI.setv (S : SI C B G0 H0 Γ G b H σ ρ) (P : Post B G H G' b' H') {i : Nat} (hi : i < ρ.length) (hb : C.bs ≠ some i) (hl : lvl Γ' i = n) (hΓ : ∀ j, j ≠ i → lvl Γ' j = lvl Γ j)
    (R : RO C.K G' B H' n v d fp) (nd : fp.Nodup) (fr : ∀ a ∈ fp, H a = none) : SI C B G0 H0 Γ' G' b' H' (σ.set i (some v)) (ρ.set i (some d)) := by
  obtain ⟨f, h⟩ := S.own
  have key : ∀ j x, ρ[j]? = some (some x) → ∀ a ∈ f j, a ∉ fp := fun j x hx a ha z => (slot_ne h hx ha).2.2 (fr a z)
  have h' := h.post P
  classical
  refine ⟨S.p.trans P, by rw [List.length_set, List.length_set, S.len], ⟨fun j => if j = i then fp else if (∃ x, ρ[j]? = some (some x)) then f j else [], fun j x hx => ?_, fun j k ne a ha hc => ?_⟩, fun j hj => ?_, S.cel⟩
  · by_cases q : j = i
    · subst q
      rw [List.getElem?_set_self hi] at hx
      cases hx
      refine ⟨v, by rw [List.getElem?_set_self (by rw [S.len]; exact hi)], ?_, ?_, ?_⟩
      · dsimp only; rw [if_pos rfl, hl]; exact R
      · dsimp only; rw [if_pos rfl]; exact nd
      · dsimp only; rw [if_pos rfl]; exact fun a ha => S.old (fr a ha) (R.fp a ha).1
    · rw [List.getElem?_set_ne (Ne.symm q)] at hx
      obtain ⟨w, a1, a2, a3⟩ := h'.1 j x hx
      dsimp only
      rw [if_neg q, if_pos ⟨x, hx⟩, hΓ j q]
      exact ⟨w, by rw [List.getElem?_set_ne (Ne.symm q)]; exact a1, a2, a3⟩
  · have kk : ∀ j, j ≠ i → ∀ a, a ∈ (if (∃ x, ρ[j]? = some (some x)) then f j else []) → a ∉ fp := fun j q a ha => by
      by_cases z : ∃ x, ρ[j]? = some (some x)
      · rw [if_pos z] at ha
        obtain ⟨x, hx⟩ := z
        exact key j x hx a ha
      · rw [if_neg z] at ha; simp at ha
    dsimp only at ha hc
    by_cases q : j = i
    · rw [if_pos q] at ha
      rw [if_neg (fun z => ne (q.trans z.symm))] at hc
      exact kk k (fun z => ne (q.trans z.symm)) a hc ha
    · rw [if_neg q] at ha
      by_cases q2 : k = i
      · rw [if_pos q2] at hc; exact kk j q a ha hc
      · rw [if_neg q2] at hc
        by_cases z : ∃ x, ρ[j]? = some (some x)
        · rw [if_pos z] at ha
          by_cases z2 : ∃ x, ρ[k]? = some (some x)
          · rw [if_pos z2] at hc; exact h.2 j k ne a ha hc
          · rw [if_neg z2] at hc; simp at hc
        · rw [if_neg z] at ha; simp at ha
  · have q : j ≠ i := fun z => hb (z ▸ hj)
    rw [List.getElem?_set_ne (Ne.symm q), List.getElem?_set_ne (Ne.symm q)]
    exact S.bag j hj
theorem SI.set0 (S : SI C B G0 H0 Γ G b H σ ρ) {i : Nat} (hi : i < ρ.length) (hl : lvl Γ i = 0) (hb : C.bs ≠ some i) (r : Rp C.K G v d) : SI C B G0 H0 Γ G b H (σ.set i (some v)) (ρ.set i (some d)) :=
  S.setv (.refl S.st) (n := 0) (fp := []) hi hb hl (fun _ _ => rfl) ⟨rfl, r⟩ List.nodup_nil (by simp)
/-- a slot made less owned -/
theorem SI.low (S : SI C B G0 H0 Γ G b H σ ρ) {i m : Nat} (hm : m ≤ lvl Γ i) (hl : lvl Γ' i = m) (hΓ : ∀ j, j ≠ i → lvl Γ' j = lvl Γ j) : ∃ G', SI C B G0 H0 Γ' G' b H σ ρ := by
  obtain ⟨f, h⟩ := S.own
  by_cases hd : ∃ d, ρ[i]? = some (some d)
  · obtain ⟨d, hd⟩ := hd
    obtain ⟨v, a1, a2, a3, a4⟩ := h.1 i d hd
    obtain ⟨t, l, b1, b2, b3, b4⟩ := a2.split hm
    obtain ⟨c1, c2⟩ := b3 a3
    have hfp := a2.fp
    have hll : ∀ a ∈ l, a ≠ B ∧ G a = none ∧ ∃ o, H a = some o ∧ ((∃ vs, o = .lst vs) ∨ ∃ kvs, o = .dK kvs) := fun a ha => hfp a (b2 a ha)
    have hs := frz_sub (G := G) (H := H) fun a ha => (hll a ha).2.1
    refine ⟨frz G H l, ⟨⟨fun a o e => hs a o (S.p.gs a o e), fun a z => ?_, S.p.kp, S.p.st.frz hll, S.p.cl⟩, S.len, ⟨fun j => if j = i then t else f j, fun j x hx => ?_, fun j k ne a ha hc => ?_⟩, S.bag, S.cel⟩⟩
    · by_cases y : a ∈ l
      · exact .inr (a4 a (b2 a y))
      · rw [frz_out y] at z; exact S.p.gn a z
    · by_cases q : j = i
      · subst q
        rw [hd] at hx; cases hx
        dsimp only
        rw [if_pos rfl, hl]
        refine ⟨v, a1, b4 _ hs (fun a ha => frz_in ha) (fun a ha => ?_), c1, fun a ha => a4 a (b1 a ha)⟩
        have z : a ∉ l := fun y => c2 a y ha
        rw [frz_out z]; exact (hfp a (b1 a ha)).2.1
      · obtain ⟨w, w1, w2, w3⟩ := h.1 j x hx
        dsimp only
        rw [if_neg q, hΓ j q]
        refine ⟨w, w1, w2.keep hs (fun a ha => ?_) (fun _ _ => rfl), w3⟩
        have z : a ∉ l := fun y => h.2 j i q a ha (b2 a y)
        rw [frz_out z]; exact (w2.fp a ha).2.1
    · have up : ∀ j a, a ∈ (if j = i then t else f j) → a ∈ f j := fun j a ha => by
        by_cases q : j = i
        · rw [if_pos q] at ha; rw [q]; exact b1 a ha
        · rw [if_neg q] at ha; exact ha
      exact h.2 j k ne a (up j a ha) (up k a hc)
  · exact ⟨G, S.lvls fun j d e => hΓ j fun z => hd ⟨d, z ▸ e⟩⟩
theorem OwnAt.norm (h : OwnAt C B H0 Γ G H σ ρ f) : ∃ f', OwnAt C B H0 Γ G H σ ρ f' ∧ (∀ j a, a ∈ f' j → H a ≠ none) ∧ ∀ j x, ρ[j]? = some (some x) → f' j = f j := by
  classical
  have up : ∀ j a, a ∈ (if (∃ x, ρ[j]? = some (some x)) then f j else []) → a ∈ f j ∧ ∃ x, ρ[j]? = some (some x) := fun j a ha => by
    by_cases z : ∃ x, ρ[j]? = some (some x)
    · rw [if_pos z] at ha; exact ⟨ha, z⟩
    · rw [if_neg z] at ha; simp at ha
  refine ⟨fun j => if (∃ x, ρ[j]? = some (some x)) then f j else [], ⟨fun j x hx => ?_, fun j k ne a ha hc => h.2 j k ne a (up j a ha).1 (up k a hc).1⟩, fun j a ha => ?_, fun j x hx => if_pos ⟨x, hx⟩⟩
  · dsimp only
    rw [if_pos ⟨x, hx⟩]
    exact h.1 j x hx
  · obtain ⟨h1, x, hx⟩ := up j a ha
    exact (slot_ne h hx h1).2.2
/-- an owned thing changed in place: what a slot holds is another thing now -/
theorem SI.chg (S : SI C B G0 H0 Γ G b H σ ρ) (P : Post B G H G' b' H') (h : OwnAt C B H0 Γ G H σ ρ f) {i : Nat} {a : Addr} {o : HO} {g2 : List Addr} {d2 : D} (hi : ρ[i]? = some (some d)) (hv : σ[i]? = some (some v)) (ha : a ∈ f i)
    (R2 : RO C.K G' B (upd H' a o) (lvl Γ i) v d2 g2) (nd2 : g2.Nodup) (sub : ∀ c ∈ g2, c ∈ f i ∨ H c = none) : SI C B G0 H0 Γ G' b' (upd H' a o) σ (ρ.set i (some d2)) := by
  obtain ⟨f', hf, n1, n2⟩ := h.norm
  rw [← n2 i d hi] at ha sub
  clear n2 h
  generalize f' = f at *
  have h := hf
  have h' := h.post P
  have hil : i < ρ.length := (List.getElem?_eq_some_iff.mp hi).1
  obtain ⟨w, w1, w2, w3, w4⟩ := h.1 i d hi
  obtain ⟨aB, aG, aH⟩ := slot_ne h' hi ha
  have a0 := w4 a ha
  have PP := S.p.trans P
  obtain ⟨Ca, x, y, z, c1, c2⟩ := S.cel
  have nC : Ca ≠ a := fun e => c2 (e ▸ a0)
  refine ⟨⟨PP.gs, PP.gn, fun c u nb e => ?_, ⟨fun c u e => ?_, PP.st.gb, ?_⟩, fun C x y z e => ?_⟩, by rw [List.length_set, S.len], ⟨fun j => if j = i then g2 else f j, fun j x hx => ?_, fun j k ne c hc hk => ?_⟩, fun j hj => ?_, S.cel⟩
  · have q : c ≠ a := fun z => by subst z; rw [a0] at e; cases e
    rw [upd_ne q]; exact PP.kp c u nb e
  · have q : c ≠ a := fun z => by subst z; rw [aG] at e; cases e
    rw [upd_ne q]; exact PP.st.sub c u e
  · obtain ⟨ok, Cb, nCb, e1, e2⟩ := PP.st.bag
    obtain ⟨x2, y2, z2, e3⟩ := PP.cl _ _ _ _ c1
    rw [e1] at e3
    cases e3
    exact ⟨ok, Ca, nCb, by rw [upd_ne (Ne.symm aB)]; exact e1, by rw [upd_ne nC]; exact e2⟩
  · obtain ⟨x2, y2, z2, e3⟩ := PP.cl C x y z e
    exact ⟨x2, y2, z2, by rw [upd_ne (Ne.symm aB)]; exact e3⟩
  · by_cases q : j = i
    · subst q
      rw [List.getElem?_set_self hil] at hx
      cases hx
      dsimp only
      rw [if_pos rfl]
      refine ⟨v, hv, R2, nd2, fun c hc => ?_⟩
      rcases sub c hc with z | z
      · exact w4 c z
      · exact S.old z (R2.fp c hc).1
    · rw [List.getElem?_set_ne (Ne.symm q)] at hx
      obtain ⟨u, u1, u2, u3⟩ := h'.1 j x hx
      dsimp only
      rw [if_neg q]
      refine ⟨u, u1, u2.keep (fun _ _ e => e) (fun c hc => (u2.fp c hc).2.1) (fun c hc => ?_), u3⟩
      exact upd_ne fun z => h.2 j i q c hc (z ▸ ha)
  · have kk : ∀ j, j ≠ i → ∀ c ∈ f j, c ∉ g2 := fun j q c hc hk => by
      rcases sub c hk with z | z
      · exact h.2 j i q c hc z
      · exact n1 j c hc z
    dsimp only at hc hk
    by_cases q : j = i
    · rw [if_pos q] at hc
      have q2 : k ≠ i := fun z => ne (q.trans z.symm)
      rw [if_neg q2] at hk
      exact kk k q2 c hk hc
    · rw [if_neg q] at hc
      by_cases q2 : k = i
      · rw [if_pos q2] at hk; exact kk j q c hc hk
      · rw [if_neg q2] at hk; exact h.2 j k ne c hc hk
  · have q : j ≠ i := fun z => by
      have := (S.bag j hj).2
      rw [z, hi] at this; cases this
    rw [List.getElem?_set_ne (Ne.symm q)]
    exact S.bag j hj
end
end Dn

set_option Elab.async false
set_option linter.all false
set_option maxRecDepth 100000
/-! Dn, part O: statements. -/
namespace Dn
open PySem PySem.Spec PyProof.Rows L2
def setL (Γ : Gam) (i n : Nat) : Gam := (List.range (max Γ.length (i + 1))).map fun j => if j = i then n else lvl Γ j
theorem lvl_setL (Γ : Gam) (i n j : Nat) : lvl (setL Γ i n) j = if j = i then n else lvl Γ j := by
  unfold setL
  show (List.map _ _).getD j 0 = _
  rw [List.getD_eq_getElem?_getD, List.getElem?_map]
  by_cases hj : j < max Γ.length (i + 1)
  · rw [List.getElem?_range hj]; rfl
  · rw [List.getElem?_eq_none (by rw [List.length_range]; omega)]
    have z : lvl Γ j = 0 := by unfold lvl; rw [List.getD_eq_getElem?_getD, List.getElem?_eq_none (by omega)]; rfl
    rw [if_neg (by omega), z]; rfl
/-- what an outcome is to lead to -/
def ends (C : Cn) (own : Nat) (ΓL Γ' : Gam) (B : Addr) (G0 H0 : Hp) (b' : Bg) (E : Ends) : Out → Prop
  | .nx ρ' => ∀ G' H' σ', SI C B G0 H0 Γ' G' b' H' σ' ρ' → E.nx σ' H'
  | .rt d => ∀ v G' H' fp, Post B G0 H0 G' b' H' → RO C.K G' B H' own v d fp → fp.Nodup → (∀ a ∈ fp, H0 a = none) → E.rt v H'
  | .bk ρ' => ∀ G' H' σ', SI C B G0 H0 ΓL G' b' H' σ' ρ' → E.bk σ' H'
  | .ct ρ' => ∀ G' H' σ', SI C B G0 H0 ΓL G' b' H' σ' ρ' → E.ct σ' H'
def zs (C : Cn) (own : Nat) (ΓL Γ : Gam) (s : St) (Γ' : Gam) : TS := fun E σ H => ∃ B G0 H0 G b ρ o b', SI C B G0 H0 Γ G b H σ ρ ∧ ex C.Φ ρ s b = some (o, b') ∧ ends C own ΓL Γ' B G0 H0 b' E o
def zss (C : Cn) (own : Nat) (ΓL Γ : Gam) (s : Sts) (Γ' : Gam) : TS := fun E σ H => ∃ B G0 H0 G b ρ o b', SI C B G0 H0 Γ G b H σ ρ ∧ exs C.Φ ρ s b = some (o, b') ∧ ends C own ΓL Γ' B G0 H0 b' E o
section
variable {X : Cx} {C : Cn} {own : Nat} {ΓL Γ Γ1 Γ2 : Gam} {m n ma mb i : Nat} {a b e tg itr : Expr} {ea eb ee : Ex} {st : Stmt} {rest sts sts2 : List Stmt} {s : St} {r r2 : Sts} {pos p2 p3 : Pos} {x : Str} {etg : Tg} {eit : Dn.It}
theorem z_nil : PSs X [] (zss C own ΓL Γ .nil Γ) := wkSs pss_nil fun E σ H ⟨B, G0, H0, G, b, ρ, o, b', S, he, q⟩ => by
  obtain ⟨rfl, rfl⟩ := ret_some he
  exact q G H σ S
theorem z_cons (h1 : PS X st (zs C own ΓL Γ s Γ1)) (h2 : PSs X rest (zss C own ΓL Γ1 r Γ2)) : PSs X (st :: rest) (zss C own ΓL Γ (.cons s r) Γ2) :=
  wkSs (pss_cons h1 h2) fun E σ H ⟨B, G0, H0, G, b, ρ, o, b', S, he, q⟩ => by
  obtain ⟨o1, b1, e1, e2⟩ := bnd_some he
  refine ⟨B, G0, H0, G, b, ρ, o1, b1, S, e1, ?_⟩
  cases o1 with
  | nx ρ1 => exact fun G' H' σ' S' => ⟨B, G0, H0, G', b1, ρ1, o, b', S', e2, q⟩
  | rt d => obtain ⟨rfl, rfl⟩ := ret_some e2; exact q
  | bk ρ1 => obtain ⟨rfl, rfl⟩ := ret_some e2; exact q
  | ct ρ1 => obtain ⟨rfl, rfl⟩ := ret_some e2; exact q
theorem z_low (h : PSs X sts (zss C own ΓL (setL Γ i m) r Γ2)) (hm : m ≤ lvl Γ i) : PSs X sts (zss C own ΓL Γ (.cons (.low i m) r) Γ2) :=
  wkSs h fun E σ H ⟨B, G0, H0, G, b, ρ, o, b', S, he, q⟩ => by
  obtain ⟨o1, b1, e1, e2⟩ := bnd_some he
  obtain ⟨rfl, rfl⟩ := ret_some e1
  obtain ⟨G', S'⟩ := S.low (Γ' := setL Γ i m) hm (by rw [lvl_setL, if_pos rfl]) fun j hj => by rw [lvl_setL, if_neg hj]
  exact ⟨B, G0, H0, G', _, ρ, o, b', S', e2, q⟩
/-- the same levels, told otherwise -/
theorem z_pass : PS X (.Pass pos) (zs C own ΓL Γ .pass Γ) := wkS ps_pass fun E σ H ⟨B, G0, H0, G, b, ρ, o, b', S, he, q⟩ => by
  obtain ⟨rfl, rfl⟩ := ret_some he
  exact q G H σ S
theorem z_cont : PS X (.Continue pos) (zs C own Γ Γ .cont Γ2) := wkS ps_continue fun E σ H ⟨B, G0, H0, G, b, ρ, o, b', S, he, q⟩ => by
  obtain ⟨rfl, rfl⟩ := ret_some he
  exact q G H σ S
theorem z_brk : PS X (.Break pos) (zs C own Γ Γ .brk Γ2) := wkS ps_break fun E σ H ⟨B, G0, H0, G, b, ρ, o, b', S, he, q⟩ => by
  obtain ⟨rfl, rfl⟩ := ret_some he
  exact q G H σ S
theorem bind_nm {i : Nat} {d : D} {ρ : Rho} {b b' : Bg} {o : Out} (h : bnd (lift (bindT (.nm i) d ρ)) (fun ρ' => ret (Out.nx ρ')) b = some (o, b')) : i < ρ.length ∧ o = .nx (ρ.set i (some d)) ∧ b' = b := by
  obtain ⟨ρ1, b1, e1, e2⟩ := bnd_some h
  obtain ⟨e3, rfl⟩ := lift_some e1
  obtain ⟨rfl, rfl⟩ := ret_some e2
  unfold bindT at e3
  by_cases q : i < ρ.length
  · rw [if_pos q] at e3; cases e3; exact ⟨q, rfl, rfl⟩
  · rw [if_neg q] at e3; cases e3
theorem z_asg (hN : X.N.Nodup) (hi : X.N[i]? = some x) (hx : Loc X.env.scope x) (hf : X.fn x = true ∨ X.env.scope.names.lookup x = some .local) (he : PE X e (rd C 9 Γ ee)) (ok : okE C Γ ee) (hb : C.bs ≠ some i)
    (hs : swapsWith e (some (.Name x p2)) pos.line X.env = pure false) : PS X (.Assign [.Name x p2] e pos) (zs C own ΓL Γ (.asg (.nm i) ee) (setL Γ i (lvE C Γ ee))) :=
  wkS (ps_set hN hi hx he hs hf) fun E σ H ⟨B, G0, H0, G, b, ρ, o, b', S, hex, q⟩ => by
  obtain ⟨d, b1, h1, h2⟩ := bnd_some hex
  obtain ⟨hl, rfl, rfl⟩ := bind_nm h2
  exact rd_fresh ok S.st S.env h1 fun v G' H' fp P R nd fr => q G' H' _ (S.setv P hl hb (by rw [lvl_setL, if_pos rfl]) (fun j hj => by rw [lvl_setL, if_neg hj]) R nd fr)
/-- name = [..] on one line -/
theorem z_asgL (h : PS X st (tAsg (rd C 9 Γ ee) (gName i))) (ok : okE C Γ ee) (hb : C.bs ≠ some i) : PS X st (zs C own ΓL Γ (.asg (.nm i) ee) (setL Γ i (lvE C Γ ee))) :=
  wkS h fun E σ H ⟨B, G0, H0, G, b, ρ, o, b', S, hex, q⟩ => by
  obtain ⟨d, b1, h1, h2⟩ := bnd_some hex
  obtain ⟨hl, rfl, rfl⟩ := bind_nm h2
  exact rd_fresh ok S.st S.env h1 fun v G' H' fp P R nd fr => q G' H' _ (S.setv P hl hb (by rw [lvl_setL, if_pos rfl]) (fun j hj => by rw [lvl_setL, if_neg hj]) R nd fr)
/-- (a, b) = e -/
theorem z_asgT (hK : C.K = X.K) (he : PE X e (rd C 0 Γ ee)) (hg : PG X tg (rg X.K etg)) (ok : tgOk C Γ (slots etg)) (hs : swapsWithSole [tg] e pos.line X.env = pure false) (hw : swappedStores [tg] e X.env = pure none)
    (h1 : (assignEach [tg] X.env).map (·.2) = [assign tg X.env]) : PS X (.Assign [tg] e pos) (zs C own ΓL Γ (.asg etg ee) Γ) :=
  wkS (ps_asg he hg hs hw h1) fun E σ H ⟨B, G0, H0, G, b, ρ, o, b', S, hex, q⟩ => by
  obtain ⟨d, b1, h1, h2⟩ := bnd_some hex
  obtain ⟨ρ1, b2, e1, e2⟩ := bnd_some h2
  obtain ⟨e3, rfl⟩ := lift_some e1
  obtain ⟨rfl, rfl⟩ := ret_some e2
  refine ⟨B, G, b, ρ, d, _, S.st, S.env, h1, fun v G' H' fp P ⟨k, hk, _, R⟩ _ => ?_⟩
  have R0 := (R.cast (k := 0) (by omega)).2
  exact ⟨fun σ ρ => SI C B G0 H0 Γ G' _ H' σ ρ, G', ρ, d, ρ1, P.st.sub, by rw [← hK]; exact R0.relG P.st.sub e3, S.step P, fun i hi σ ρ v d hl S r => S.set0 hl (ok i hi).1 (ok i hi).2 (by rw [hK]; exact r), e3, fun σ' S' _ => q G' H' σ' S'⟩
/-- a, b = x, y with plain names -/
theorem z_par {j : Nat} {y : Str} {py pt : Pos} {kt k2 : Nat} {pt2 : Pos} (h : PS X st (tPar i j (tCons (rd C 0 Γ ea) (tCons (rd C 0 Γ eb) tNil)))) (hij : i ≠ j) (ok : tgOk C Γ [i, j]) : PS X st (zs C own ΓL Γ (.asg (.tp [.nm i, .nm j]) (.tup (.cons ea (.cons eb .nil)))) Γ) :=
  wkS h fun E σ H ⟨B, G0, H0, G, b, ρ, o, b', S, hex, q⟩ => by
  obtain ⟨d, b1, h1, h2⟩ := bnd_some hex
  obtain ⟨xs, b2, h3, h4⟩ := bnd_some h1
  obtain ⟨rfl, rfl⟩ := ret_some h4
  obtain ⟨d1, b3, h5, h6⟩ := bnd_some h3
  obtain ⟨ys, b4, h7, h8⟩ := bnd_some h6
  obtain ⟨rfl, rfl⟩ := ret_some h8
  obtain ⟨d2, b5, h9, h10⟩ := bnd_some h7
  obtain ⟨zs, b6, h11, h12⟩ := bnd_some h10
  obtain ⟨rfl, rfl⟩ := ret_some h12
  obtain ⟨rfl, rfl⟩ := ret_some h11
  obtain ⟨ρ1, b7, e1, e2⟩ := bnd_some h2
  obtain ⟨e3, rfl⟩ := lift_some e1
  obtain ⟨rfl, rfl⟩ := ret_some e2
  have e4 : ((bindT (.nm i) d1 ρ).bind fun ρ' => (bindT (.nm j) d2 ρ').bind fun ρ' => some ρ') = some ρ1 := e3
  obtain ⟨ρa, e5, e6⟩ := Option.bind_eq_some_iff.mp e4
  obtain ⟨ρb, e7, e8⟩ := Option.bind_eq_some_iff.mp e6
  cases e8
  refine ⟨B, G, b, ρ, d1, _, S.st, S.env, h5, fun v G1 H1 f P1 ⟨k, hk, _, R⟩ _ => ⟨B, G1, _, ρ, d2, _, P1.st, S.env.post P1, h9, fun w G2 H2 g P2 ⟨k2, hk2, _, R2⟩ _ => ⟨v, w, rfl, ?_⟩⟩⟩
  have R0 := ((R.cast (k := 0) (by omega)).2).mono P2.gs
  have R3 := (R2.cast (k := 0) (by omega)).2
  have S2 := S.step (P1.trans P2)
  unfold bindT at e5 e7
  by_cases q1 : i < ρ.length
  · rw [if_pos q1] at e5
    cases e5
    by_cases q2 : j < (ρ.set i (some d1)).length
    · rw [if_pos q2] at e7
      cases e7
      obtain ⟨o1, o2⟩ := ok i (by simp)
      obtain ⟨o3, o4⟩ := ok j (by simp)
      exact q G2 H2 _ ((S2.set0 q1 o1 o2 R0).set0 q2 o3 o4 R3)
    · rw [if_neg q2] at e7; cases e7
  · rw [if_neg q1] at e5; cases e5
theorem z_expr (he : PE X e (rd C 0 Γ ee)) (hs : swapsWith e none pos.line X.env = pure false) : PS X (.Expr e pos) (zs C own ΓL Γ (.expr ee) Γ) :=
  wkS (ps_expr he hs) fun E σ H ⟨B, G0, H0, G, b, ρ, o, b', S, hex, q⟩ => by
  obtain ⟨d, b1, h1, h2⟩ := bnd_some hex
  obtain ⟨rfl, rfl⟩ := ret_some h2
  exact ⟨B, G, b, ρ, d, _, S.st, S.env, h1, fun v G' H' fp P _ _ => q G' H' σ (S.step P)⟩
theorem z_ret (he : PE X e (rd C 9 Γ ee)) (ok : okE C Γ ee) (ho : own ≤ lvE C Γ ee) : PS X (.Return (some e) pos) (zs C own ΓL Γ (.ret ee) Γ2) :=
  wkS (ps_ret he) fun E σ H ⟨B, G0, H0, G, b, ρ, o, b', S, hex, q⟩ => by
  obtain ⟨d, b1, h1, h2⟩ := bnd_some hex
  obtain ⟨rfl, rfl⟩ := ret_some h2
  refine rd_fresh ok S.st S.env h1 fun v G' H' fp P R nd fr => ?_
  obtain ⟨G2, fp2, P2, R2, n2, f2, _⟩ := P.lower ho R nd fr
  exact q v G2 H' fp2 (S.p.trans P2) R2 n2 fun a ha => S.old (f2 a ha) (R2.fp a ha).1
/-- a slot's own thing handed back -/
theorem z_retv (hN : X.N[i]? = some x) (hv : Vis X.env.scope x) (hl : lvl Γ i = own) (hd : (x == ("__debug__" : Str)) = false) (hcd : (x == ("__classdict__" : Str)) = false) : PS X (.Return (some (.Name x p2)) pos) (zs C own ΓL Γ (.ret (.var i)) Γ2) :=
  wkS (ps_ret (pe_var hN hv hd hcd)) fun E σ H ⟨B, G0, H0, G, b, ρ, o, b', S, hex, q⟩ => by
  obtain ⟨d, b1, h1, h2⟩ := bnd_some hex
  obtain ⟨rfl, rfl⟩ := ret_some h2
  obtain ⟨e1, rfl⟩ := lift_some h1
  have e2 : ρ[i]? = some (some d) := by
    rw [List.getD_eq_getElem?_getD] at e1
    cases z : ρ[i]? with
    | none => rw [z] at e1; cases e1
    | some o => rw [z] at e1; simp at e1; rw [e1]
  obtain ⟨f, h⟩ := S.own
  obtain ⟨v, a1, a2, a3, a4⟩ := h.1 i d e2
  exact ⟨v, a1, q v G H (f i) S.p (hl ▸ a2) a3 a4⟩
theorem z_if (hc : PT X a (rt C Γ ea)) (h1 : PSs X sts (zss C own ΓL Γ r Γ2)) (h2 : PSs X sts2 (zss C own ΓL Γ r2 Γ2)) : PS X (.If a sts sts2 pos) (zs C own ΓL Γ (.ifs ea r r2) Γ2) :=
  wkS (ps_if hc h1 h2) fun E σ H ⟨B, G0, H0, G, b, ρ, o, b', S, hex, q⟩ => by
  obtain ⟨d, b1, e1, e2⟩ := bnd_some hex
  obtain ⟨t, b2, e3, e4⟩ := bnd_some e2
  refine ⟨B, G, b, ρ, t, b2, S.st, S.env, by unfold bnd; rw [e1]; exact e3, fun G' H' P => ?_⟩
  rcases ite_some e4 with ⟨c, e5⟩ | ⟨c, e5⟩
  · rw [if_pos c]; exact ⟨B, G0, H0, G', b2, ρ, o, b', S.step P, e5, q⟩
  · rw [if_neg c]; exact ⟨B, G0, H0, G', b2, ρ, o, b', S.step P, e5, q⟩
/-- one turn of a for -/
def forF (Φ : Nat → List D → M D) (tg : Tg) (r : Sts) (ρ : Rho) (x : D) : M Out := bnd (lift (bindT tg x ρ)) fun ρ' => exs Φ ρ' r
theorem z_for (hK : C.K = X.K) (hp : PassesOwn (model X.prog X.w) X.A X.env X.xe) (hx : XOk X n) (hi : PI X tg itr (ri C Γ eit)) (hg : PG X tg (rg X.K etg)) (ok : tgOk C Γ (slots etg)) (hpt : itPair eit = true → isTp etg = true) (hb : PSs X sts (zss C own Γ Γ r Γ))
    (hs : ∀ x, foldedSetIterable itr X.env x = pure x) : PS X (.For tg itr sts [] pos) (zs C own ΓL Γ (.for_ etg eit r) Γ) :=
  wkS (ps_for hp hx.calm hi hg hb hs) fun E σ H ⟨B, G0, H0, G, b, ρ, o, b', S, hex, q⟩ => by
  obtain ⟨xs, b1, h1, h2⟩ := bnd_some hex
  have h2 : iter (forF C.Φ etg r) ρ xs b1 = some (o, b') := h2
  refine ⟨B, G, b, ρ, xs, b1, S.st, S.env, h1, fun J G1 H1 P1 ⟨Gd, Y, w, w1, w2⟩ hlen => ?_⟩
  have S1 := (S.step P1)
  have S1' := S1.rebase
  have un : ∀ {G' : Hp} {b2 : Bg} {H' : Hp} {σ' : L2.St} {ρ' : Rho}, SI C B G1 H0 Γ G' b2 H' σ' ρ' → SI C B G0 H0 Γ G' b2 H' σ' ρ' := fun S2 => S2.unbase S1.p
  refine for_it w (fun j σ H => ∃ G b ρ, SI C B G1 H0 Γ G b H σ ρ ∧ iter (forF C.Φ etg r) ρ (xs.drop j) b = some (o, b')) ?_ ?_ ?_ ?_
  · exact ⟨G1, b1, ρ, S1', by simpa using h2⟩
  · rintro j σ2 H2 _ ⟨G2, b2, ρ2, S2, _⟩
    exact w1 H2 fun a o e => S2.st.sub a o (S2.p.gs a o e)
  · rintro j x σ2 H2 H3 hj ⟨G2, b2, ρ2, S2, he⟩ y
    have gs := S2.p.gs
    have hxj : xs[j]? = some xs[j] := List.getElem?_eq_getElem hj
    rw [List.drop_eq_getElem_cons hj] at he
    obtain ⟨o1, b3, h3, h4⟩ := bnd_some he
    obtain ⟨ρ3, b4, h5, h6⟩ := bnd_some h3
    obtain ⟨hb5, rfl⟩ := lift_some h5
    have yy : Item C.K G2 H2 H3 (itPair eit) x xs[j] := Item.mono (w2 j H2 x H3 xs[j] y hxj) gs
    obtain ⟨P3, rx⟩ := item_in S2.st yy hpt hb5
    refine ⟨fun σ ρ => SI C B G1 H0 Γ G2 _ H3 σ ρ, G2, ρ2, xs[j], ρ3, P3.st.sub, by rw [← hK]; exact rx, S2.step P3, fun i hi σ ρ v d hl S r => S.set0 hl (ok i hi).1 (ok i hi).2 (by rw [hK]; exact r), hb5, fun σ3 S3 _ => ?_⟩
    refine ⟨B, G1, H0, G2, _, ρ3, o1, b3, S3, h6, ?_⟩
    cases o1 with
    | nx ρ4 => exact fun G' H' σ' S' => ⟨G', b3, ρ4, S', h4⟩
    | ct ρ4 => exact fun G' H' σ' S' => ⟨G', b3, ρ4, S', h4⟩
    | bk ρ4 =>
      obtain ⟨rfl, rfl⟩ := ret_some h4
      exact fun G' H' σ' S' => q G' H' σ' (un S')
    | rt d =>
      obtain ⟨rfl, rfl⟩ := ret_some h4
      exact fun v G' H' fp P R nd fr => q v G' H' fp (P.unbase S1.p) R nd fr
  · rintro σ2 H2 ⟨G2, b2, ρ2, S2, he⟩
    rw [List.drop_length] at he
    obtain ⟨rfl, rfl⟩ := ret_some he
    exact q G2 H2 σ2 (un S2)
end
end Dn

set_option Elab.async false
set_option linter.all false
set_option maxRecDepth 100000
/-! Dn, part P: things changed in place. -/
namespace Dn
open PySem PySem.Spec PyProof.Rows L2
section
variable {X : Cx} {C : Cn} {own : Nat} {ΓL Γ Γ1 Γ2 : Gam} {m n ma mb i : Nat} {a b e k : Expr} {ea eb ee ek : Ex} {pos p2 p3 apos cpos : Pos} {x : Str} {st : Stmt}
theorem getD_some {ρ : Rho} {i : Nat} {d : D} (e1 : ρ.getD i none = some d) : ρ[i]? = some (some d) := by
  rw [List.getD_eq_getElem?_getD] at e1
  cases z : ρ[i]? with
  | none => rw [z] at e1; cases e1
  | some o => rw [z] at e1; simp at e1; rw [e1]
/-- a method call whose value is dropped: the object a slot's, one argument -/
theorem wk_meth {id : String} {y : Str} {T : String} {r : V → List V → Hp → VK → Prop} {es : List Expr} {t : TA} (pa : PlainAttrs T) (slot : Slot T y id) (hty : typeOf (.builtin id) = pure (.type "method_descriptor")) (hm : MtR X id r)
    (hN : X.N[i]? = some x) (hv : Vis X.env.scope x) (hd : (x == ("__debug__" : Str)) = false) (hcd : (x == ("__classdict__" : Str)) = false) (ha : PA X (a :: es) t)
    (hbase : attributeBase (.Name x p2) y X.env (eval (.Name x p2) X.env) = eval (.Name x p2) X.env)
    (hfew : ((backTo cpos (starEach (a :: es) X.env)).all (fun x => !x.1) && (backToKw cpos (keywordEach [] X.env)).all (fun x => x.1.isSome)
      && decide ((a :: es).length + ([] : List Keyword).length + (if ([] : List Keyword).isEmpty then 0 else 1) < 30)) = true)
    (hline : (apos.endLine == cpos.line) = true) (hs : starEach (a :: es) X.env = (false, eval a X.env) :: starEach es X.env) (hplain : (backTo cpos (starEach es X.env)).any (·.1) = false)
    (hsw : swapsWith (.Call (.Attribute (.Name x p2) y apos) (a :: es) [] cpos) none pos.line X.env = pure false) :
    PS X (.Expr (.Call (.Attribute (.Name x p2) y apos) (a :: es) [] cpos) pos) (fun E σ H => ∃ v, σ[i]? = some (some v) ∧ tyV X.K T v H ∧ t σ H fun xs H2 => r v xs H2 fun _ H3 => E.nx σ H3) :=
  wkS (ps_expr (pe_bm pa slot hty hm (pe_var hN hv hd hcd) ha hbase hfew hline hs hplain) hsw) fun E σ H ⟨v, h1, h2, h3⟩ => ⟨v, h1, h2, h3⟩
theorem ROs.at {K : PySem.W.Frag} {G H : Hp} {B : Addr} {n : Nat} {d : D} {fp : List Addr} {v : V} {ds : List D} (r : RO K G B H (n + 1) v (.lst ds) fp) : ∃ a vs f, v = .ref a ∧ fp = a :: f ∧ a ≠ B ∧ G a = none ∧ H a = some (.lst vs) ∧ ROs (RO K G B H n) vs ds f := by
  rcases r with ⟨c, _⟩ | ⟨a, vs, ds', f, rfl, e, rfl, q1, q2, q3, q4⟩ | ⟨_, _, _, _, _, e, _⟩
  · cases c
  · cases e; exact ⟨a, vs, f, rfl, rfl, q1, q2, q3, q4⟩
  · cases e
theorem ROk.at {K : PySem.W.Frag} {G H : Hp} {B : Addr} {n : Nat} {fp : List Addr} {v : V} {ds : List (D × D)} (r : RO K G B H (n + 1) v (.dct ds) fp) : ∃ a kvs f, v = .ref a ∧ fp = a :: f ∧ a ≠ B ∧ G a = none ∧ H a = some (.dK kvs) ∧ ROk (RO K G B H n) kvs ds f := by
  rcases r with ⟨c, _⟩ | ⟨_, _, _, _, _, e, _⟩ | ⟨a, vs, ds', f, rfl, e, rfl, q1, q2, q3, q4⟩
  · cases c
  · cases e
  · cases e; exact ⟨a, vs, f, rfl, rfl, q1, q2, q3, q4⟩
theorem ROs.ins {R : V → D → List Addr → Prop} {v : V} {d : D} {g : List Addr} : ∀ {vs : List V} {ds : List D} {f : List Addr} (j : Nat), ROs R vs ds f → R v d g → j ≤ ds.length → ∃ f2, ROs R (vs.take j ++ [v] ++ vs.drop j) (ds.insertIdx j d) f2 ∧ f2.Perm (f ++ g) := by
  intro vs ds f j h r
  induction h generalizing j with
  | nil => intro hj; have e : j = 0 := by simpa using hj
           subst e; exact ⟨g ++ [], .cons r .nil, by simp⟩
  | @cons w x f1 g1 ws xs r1 t ih =>
    intro hj
    cases j with
    | zero => exact ⟨g ++ (f1 ++ g1), by simpa using ROs.cons r (.cons r1 t), List.perm_append_comm⟩
    | succ j =>
      obtain ⟨f2, h2, p2⟩ := ih j (by simpa using hj)
      exact ⟨f1 ++ f2, by simpa using ROs.cons r1 h2, by rw [List.append_assoc]; exact p2.append_left f1⟩
theorem ROs.put {R : V → D → List Addr → Prop} {v : V} {d : D} {g : List Addr} (hg : g.Nodup) : ∀ {vs : List V} {ds : List D} {f : List Addr} (j : Nat), ROs R vs ds f → R v d g → f.Nodup → (∀ a ∈ f, a ∉ g) → ∃ f2, ROs R (vs.set j v) (ds.set j d) f2 ∧ f2.Nodup ∧ ∀ a ∈ f2, a ∈ f ∨ a ∈ g := by
  intro vs ds f j h r
  induction h generalizing j with
  | nil => intro _ _; exact ⟨[], .nil, List.nodup_nil, by simp⟩
  | @cons w x f1 g1 ws xs r1 t ih =>
    intro nd dj
    obtain ⟨n1, n2, n3⟩ := List.nodup_append.mp nd
    cases j with
    | zero =>
      refine ⟨g ++ g1, .cons r t, List.nodup_append.mpr ⟨hg, n2, fun a ha c hc e => ?_⟩, fun a ha => ?_⟩
      · subst e; exact dj a (List.mem_append_right _ hc) ha
      · rcases List.mem_append.mp ha with z | z
        · exact .inr z
        · exact .inl (List.mem_append_right _ z)
    | succ j =>
      obtain ⟨f2, h2, d2, s2⟩ := ih j n2 fun a ha => dj a (List.mem_append_right _ ha)
      refine ⟨f1 ++ f2, .cons r1 h2, List.nodup_append.mpr ⟨n1, d2, fun a ha c hc e => ?_⟩, fun a ha => ?_⟩
      · subst e
        rcases s2 a hc with z | z
        · exact n3 a ha a z rfl
        · exact dj a (List.mem_append_left _ ha) z
      · rcases List.mem_append.mp ha with z | z
        · exact .inl (List.mem_append_left _ z)
        · rcases s2 a z with y | y
          · exact .inl (List.mem_append_right _ y)
          · exact .inr y
/-- a list in a slot, changed: the shape of the statements below -/
theorem SI.lst {B : Addr} {G0 H0 G H G' H' : Hp} {bg b' : Bg} {σ : L2.St} {ρ : Rho} {ds ds2 : List D} {w : V} {y : D} {g : List Addr} {n : Nat} (S : SI C B G0 H0 Γ G bg H σ ρ) (hi : ρ[i]? = some (some (.lst ds))) (hl : lvl Γ i = n + 1) :
    ∃ a vs, σ[i]? = some (some (.ref a)) ∧ H a = some (.lst vs) ∧ vs.length = ds.length ∧ ∀ (G' H' : Hp) (b' : Bg) (vs2 : List V) (w : V) (y : D) (g : List Addr) (ds2 : List D), Post B G H G' b' H' → RO C.K G' B H' n w y g → g.Nodup → (∀ c ∈ g, H c = none) →
      (∀ f, ROs (RO C.K G' B H' n) vs ds f → f.Nodup → (∀ c ∈ f, c ∉ g) → ∃ f2, ROs (RO C.K G' B H' n) vs2 ds2 f2 ∧ f2.Nodup ∧ ∀ c ∈ f2, c ∈ f ∨ c ∈ g) →
      H' a = some (.lst vs) ∧ SI C B G0 H0 Γ G' b' (upd H' a (.lst vs2)) σ (ρ.set i (some (.lst ds2))) := by
  obtain ⟨f, h⟩ := S.own
  obtain ⟨v, a1, a2, a3, a4⟩ := h.1 i _ hi
  rw [hl] at a2
  obtain ⟨a, vs, ff, rfl, e, nb, ga, ha, rs⟩ := ROs.at (d := .non) a2
  rw [e] at a3
  obtain ⟨n1, n2⟩ := List.nodup_cons.mp a3
  refine ⟨a, vs, a1, ha, rs.length, fun G' H' b' vs2 w y g ds2 P R nd fr cont => ⟨P.kp a _ nb ha, ?_⟩⟩
  have hH : ∀ c ∈ ff, H c ≠ none := fun c hc => (slot_ne h hi (by rw [e]; exact List.mem_cons_of_mem _ hc)).2.2
  obtain ⟨f2, r2, d2, s2⟩ := cont ff (rs.imp fun v d g _ r => r.post P) n2 fun c hc z => hH c hc (fr c z)
  have na : a ∉ f2 := fun z => by
    rcases s2 a z with y | y
    · exact n1 y
    · rw [fr a y] at ha; cases ha
  have ga' : G' a = none := (slot_ne (h.post P) hi (by rw [e]; exact List.mem_cons_self)).2.1
  refine S.chg P h (g2 := a :: f2) hi a1 (by rw [e]; exact List.mem_cons_self) ?_ (List.nodup_cons.mpr ⟨na, d2⟩) fun c hc => ?_
  · rw [hl]
    refine .inr (.inl ⟨a, vs2, ds2, f2, rfl, rfl, rfl, nb, ga', upd_same, r2.imp fun v d g hg r => r.keep (fun _ _ e => e) (fun c hc => (r.fp c hc).2.1) fun c hc => upd_ne fun z => ?_⟩)
    subst z; exact na (hg c hc)
  · rcases List.mem_cons.mp hc with rfl | hc
    · exact .inl (by rw [e]; exact List.mem_cons_self)
    · rcases s2 c hc with y | y
      · exact .inl (by rw [e]; exact List.mem_cons_of_mem _ y)
      · exact .inr (fr c y)
/-- what is asked of x.m(a, ..) as a statement -/
structure MetS (X : Cx) (x y : Str) (a : Expr) (es : List Expr) (p2 apos cpos pos : Pos) : Prop where
  base : attributeBase (.Name x p2) y X.env (eval (.Name x p2) X.env) = eval (.Name x p2) X.env
  few : ((backTo cpos (starEach (a :: es) X.env)).all (fun x => !x.1) && (backToKw cpos (keywordEach [] X.env)).all (fun x => x.1.isSome)
      && decide ((a :: es).length + ([] : List Keyword).length + (if ([] : List Keyword).isEmpty then 0 else 1) < 30)) = true
  line : (apos.endLine == cpos.line) = true
  star : starEach (a :: es) X.env = (false, eval a X.env) :: starEach es X.env
  plain : (backTo cpos (starEach es X.env)).any (·.1) = false
  swap : swapsWith (.Call (.Attribute (.Name x p2) y apos) (a :: es) [] cpos) none pos.line X.env = pure false
theorem mets1 {y : Str} (hl : (apos.endLine == cpos.line) = true) (ns : noStar a = true) : MetS X x y a [] p2 apos cpos pos := by
  have hs : starEach [a] X.env = (false, eval a X.env) :: starEach [] X.env := star_of ns _ _
  exact ⟨rfl, by rw [hs]; rfl, hl, hs, rfl, rfl⟩
theorem mets2 {y : Str} (hl : (apos.endLine == cpos.line) = true) (ns : noStar a = true) (ns2 : noStar b = true) : MetS X x y a [b] p2 apos cpos pos := by
  have hs : starEach [a, b] X.env = (false, eval a X.env) :: starEach [b] X.env := star_of ns _ _
  have hs2 : starEach [b] X.env = (false, eval b X.env) :: starEach [] X.env := star_of ns2 _ _
  exact ⟨rfl, by rw [hs, hs2]; rfl, hl, hs, by rw [hs2]; rfl, rfl⟩
/-- a slot's name, read -/
structure SlotN (X : Cx) (i : Nat) (x : Str) : Prop where
  ix : X.N[i]? = some x
  vis : Vis X.env.scope x
  deb : (x == ("__debug__" : Str)) = false
  cd : (x == ("__classdict__" : Str)) = false
theorem mut_ex {mu : Mu} {es : Exs} {ρ : Rho} {bg b' : Bg} {o : Out} (h : ex C.Φ ρ (.mut mu i .nil es) bg = some (o, b')) : ∃ xs d d', evs C.Φ ρ es bg = some (xs, b') ∧ ρ[i]? = some (some d) ∧ mutD mu xs d = some d' ∧ o = .nx (ρ.set i (some d')) := by
  obtain ⟨xs, b2, h3, h4⟩ := bnd_some h
  obtain ⟨d, b3, h5, h6⟩ := bnd_some h4
  obtain ⟨e1, rfl⟩ := lift_some h5
  obtain ⟨d', b4, h7, h8⟩ := bnd_some h6
  obtain ⟨e2, rfl⟩ := lift_some h7
  obtain ⟨rfl, rfl⟩ := ret_some h8
  exact ⟨xs, d, d', h3, getD_some e1, e2, rfl⟩
theorem evs1 {ρ : Rho} {bg b' : Bg} {xs : List D} (h : evs C.Φ ρ (.cons ee .nil) bg = some (xs, b')) : ∃ y, ev C.Φ ρ ee bg = some (y, b') ∧ xs = [y] := by
  obtain ⟨y, b1, h1, h2⟩ := bnd_some h
  obtain ⟨ys, b2, h3, h4⟩ := bnd_some h2
  obtain ⟨rfl, rfl⟩ := ret_some h3
  obtain ⟨rfl, rfl⟩ := ret_some h4
  exact ⟨y, h1, rfl⟩
theorem evs2 {ρ : Rho} {bg b' : Bg} {xs : List D} (h : evs C.Φ ρ (.cons ek (.cons ee .nil)) bg = some (xs, b')) : ∃ z y b1, ev C.Φ ρ ek bg = some (z, b1) ∧ ev C.Φ ρ ee b1 = some (y, b') ∧ xs = [z, y] := by
  obtain ⟨z, b1, h1, h2⟩ := bnd_some h
  obtain ⟨ys, b2, h3, h4⟩ := bnd_some h2
  obtain ⟨y, h5, rfl⟩ := evs1 h3
  obtain ⟨rfl, rfl⟩ := ret_some h4
  exact ⟨z, y, b1, h1, h5, rfl⟩
theorem len_line {n : Nat} (h : n < line) : n < sizeLine := by
  rw [sizeLine_eq]; exact h
theorem z_append (hs : SlotN X i x) (M : MetS X x "append" a [] p2 apos cpos pos) (ha : PE X a (rd C 9 Γ ee)) (ok : okE C Γ ee) (hl : lvl Γ i = n + 1) (hle : n ≤ lvE C Γ ee) :
    PS X (.Expr (.Call (.Attribute (.Name x p2) "append" apos) [a] [] cpos) pos) (zs C own ΓL Γ (.mut .append i .nil (.cons ee .nil)) Γ) :=
  wkS (wk_meth PySem.F.plainAttrs_list PySem.F.slot_list_append PySem.F.type_list_append mt_append hs.ix hs.vis hs.deb hs.cd (pa_cons ha pa_nil M.star) M.base M.few M.line M.star M.plain M.swap) fun E σ H ⟨B, G0, H0, G, bg, ρ, o, b', S, hex, q⟩ => by
  obtain ⟨xs, d, d', h1, h2, h3, rfl⟩ := mut_ex hex
  obtain ⟨y, h4, rfl⟩ := evs1 h1
  cases d with
  | lst ds =>
    obtain ⟨c, rfl⟩ := ite_opt (show (if ds.length < line then some (D.lst (ds ++ [y])) else none) = some d' from h3)
    obtain ⟨p, vs, s1, s2, s3, fin⟩ := S.lst (i := i) h2 hl (G' := G) (H' := H) (b' := bg) (ds2 := []) (w := .non) (y := .non) (g := [])
    refine ⟨.ref p, s1, .inl ⟨rfl, vs, .inl (.inl s2)⟩, rd_fresh ok S.st S.env h4 fun w G' H' g P R nd fr => ?_⟩
    obtain ⟨G2, g2, P2, R2, nd2, fr2, _⟩ := P.lower hle R nd fr
    obtain ⟨t1, t2⟩ := fin G2 H' b' (vs ++ [w]) w y g2 (ds ++ [y]) P2 R2 nd2 fr2 fun f rf nf df => ⟨f ++ g2, rf.app R2, List.nodup_append.mpr ⟨nf, nd2, fun a ha c hc e => df a ha (e ▸ hc)⟩, fun c hc => List.mem_append.mp hc⟩
    exact ⟨p, vs, w, rfl, rfl, t1, by rw [s3]; exact len_line c, q G2 _ σ t2⟩
  | _ => cases h3
theorem z_insert (hs : SlotN X i x) (M : MetS X x "insert" k [a] p2 apos cpos pos) (hk : PE X k (rd C mb Γ ek)) (ha : PE X a (rd C 9 Γ ee)) (ok : okE C Γ ee) (hl : lvl Γ i = n + 1) (hle : n ≤ lvE C Γ ee) (ns : noStar a = true) :
    PS X (.Expr (.Call (.Attribute (.Name x p2) "insert" apos) [k, a] [] cpos) pos) (zs C own ΓL Γ (.mut .insert i .nil (.cons ek (.cons ee .nil))) Γ) :=
  wkS (wk_meth PySem.F.plainAttrs_list PySem.F.slot_list_insert PySem.F.type_list_insert mt_insert hs.ix hs.vis hs.deb hs.cd (pa_cons hk (pa_cons ha pa_nil (star_of ns _ _)) M.star) M.base M.few M.line M.star M.plain M.swap) fun E σ H ⟨B, G0, H0, G, bg, ρ, o, b', S, hex, q⟩ => by
  obtain ⟨xs, d, d', h1, h2, h3, rfl⟩ := mut_ex hex
  obtain ⟨z, y, b1, h4, h5, rfl⟩ := evs2 h1
  cases z with
  | int j =>
    cases d with
    | lst ds =>
      obtain ⟨⟨c1, c2, c3⟩, rfl⟩ := ite_opt (show (if ds.length < line ∧ 0 ≤ j ∧ j ≤ ds.length then some (D.lst (ds.insertIdx j.toNat y)) else none) = some d' from h3)
      obtain ⟨p, vs, s1, s2, s3, fin⟩ := S.lst (i := i) h2 hl (G' := G) (H' := H) (b' := bg) (ds2 := []) (w := .non) (y := .non) (g := [])
      refine ⟨.ref p, s1, .inl ⟨rfl, vs, .inl (.inl s2)⟩, B, G, bg, ρ, _, b1, S.st, S.env, h4, fun v G1 H1 f P1 ⟨_, _, _, R1⟩ _ => rd_fresh ok P1.st (S.step P1).env h5 fun w G' H' g P R nd fr => ?_⟩
      obtain ⟨G2, g2, P2, R2, nd2, fr2, _⟩ := P.lower hle R nd fr
      have fr3 : ∀ c ∈ g2, H c = none := fun c hc => by
        have z := fr2 c hc
        cases e : H c with
        | none => rfl
        | some o => rw [P1.kp c o (R2.fp c hc).1 e] at z; cases z
      obtain ⟨t1, t2⟩ := fin G2 H' b' (vs.take j.toNat ++ [w] ++ vs.drop j.toNat) w y g2 (ds.insertIdx j.toNat y) (P1.trans P2) R2 nd2 fr3 fun f rf nf df => by
        obtain ⟨f2, u1, u2⟩ := rf.ins j.toNat R2 (by omega)
        exact ⟨f2, u1, u2.nodup_iff.mpr (List.nodup_append.mpr ⟨nf, nd2, fun a ha c hc e => df a ha (e ▸ hc)⟩), fun c hc => List.mem_append.mp (u2.mem_iff.mp hc)⟩
      have hc1 : ds.length < 16777216 := c1
      exact ⟨p, vs, j, w, rfl, by rw [R1.int], t1, by rw [s3]; exact len_line c1, c2, by omega, q G2 _ σ t2⟩
    | _ => cases h3
  | _ => cases d <;> cases h3
theorem rps_ros {K : PySem.W.Frag} {G H : Hp} {B : Addr} {n : Nat} : ∀ {vs : List V} {ds : List D}, n = 0 → Rps K G vs ds → ROs (RO K G B H n) vs ds [] := fun h r => by subst h; exact r.ros
theorem ROs.cat {R : V → D → List Addr → Prop} {ws : List V} {es : List D} {g : List Addr} : ∀ {vs : List V} {ds : List D} {f : List Addr}, ROs R vs ds f → ROs R ws es g → ROs R (vs ++ ws) (ds ++ es) (f ++ g) := by
  intro vs ds f h r
  induction h with
  | nil => exact r
  | cons r1 t ih => rw [List.append_assoc]; exact .cons r1 ih
/-- x.extend(e), a list of frozen things by another -/
theorem z_extend (hs : SlotN X i x) (M : MetS X x "extend" a [] p2 apos cpos pos) (ha : PE X a (rd C 1 Γ ee)) (hl : lvl Γ i = 1) :
    PS X (.Expr (.Call (.Attribute (.Name x p2) "extend" apos) [a] [] cpos) pos) (zs C own ΓL Γ (.mut .extend i .nil (.cons ee .nil)) Γ) :=
  wkS (wk_meth PySem.F.plainAttrs_list PySem.F.slot_list_extend PySem.F.type_list_extend mt_extend hs.ix hs.vis hs.deb hs.cd (pa_cons ha pa_nil M.star) M.base M.few M.line M.star M.plain M.swap) fun E σ H ⟨B, G0, H0, G, bg, ρ, o, b', S, hex, q⟩ => by
  obtain ⟨xs, d, d', h1, h2, h3, rfl⟩ := mut_ex hex
  obtain ⟨y, h4, rfl⟩ := evs1 h1
  cases y with
  | lst es =>
    cases d with
    | lst ds =>
      obtain ⟨c, rfl⟩ := ite_opt (show (if ds.length + es.length ≤ line then some (D.lst (ds ++ es)) else none) = some d' from h3)
      obtain ⟨p, vs, s1, s2, s3, fin⟩ := S.lst (i := i) (n := 0) h2 hl (G' := G) (H' := H) (b' := bg) (ds2 := []) (w := .non) (y := .non) (g := [])
      refine ⟨.ref p, s1, .inl ⟨rfl, vs, .inl (.inl s2)⟩, B, G, bg, ρ, _, b', S.st, S.env, h4, fun v G' H' f P ⟨k, hk, _, R⟩ _ => ?_⟩
      obtain ⟨p2, ws, rfl, hw, rs⟩ := R.lst1 P.st.sub (by omega)
      obtain ⟨t1, t2⟩ := fin G' H' b' (vs ++ ws) .non .non [] (ds ++ es) P ⟨rfl, .non⟩ List.nodup_nil (by simp) fun f rf nf df => ⟨f ++ [], rf.cat rs.ros, by simpa using nf, fun c hc => .inl (by simpa using hc)⟩
      refine ⟨p, p2, vs, ws, rfl, rfl, t1, hw, ?_, q G' _ σ t2⟩
      rw [s3, rs.length, sizeLine_eq]; exact c
    | _ => cases h3
  | _ => cases d <;> cases h3
theorem SI.dct {B : Addr} {G0 H0 G H : Hp} {bg : Bg} {σ : L2.St} {ρ : Rho} {ds : List (D × D)} (S : SI C B G0 H0 Γ G bg H σ ρ) (hi : ρ[i]? = some (some (.dct ds))) (hl : lvl Γ i = 1) :
    ∃ a kvs, σ[i]? = some (some (.ref a)) ∧ ∀ (G' H' : Hp) (b' : Bg) (kvs2 : List (Key × V)) (ds2 : List (D × D)), Post B G H G' b' H' → H' a = some (.dK kvs) ∧ Rpk C.K G' kvs ds ∧
      (Rpk C.K G' kvs2 ds2 → SI C B G0 H0 Γ G' b' (upd H' a (.dK kvs2)) σ (ρ.set i (some (.dct ds2)))) := by
  obtain ⟨f, h⟩ := S.own
  obtain ⟨v, a1, a2, a3, a4⟩ := h.1 i _ hi
  rw [hl] at a2
  obtain ⟨a, vs, ff, rfl, e, nb, ga, ha, rs⟩ := ROk.at a2
  refine ⟨a, vs, a1, fun G' H' b' kvs2 ds2 P => ⟨P.kp a _ nb ha, (rs.imp (R' := RO C.K G' B H' 0) fun v d g _ r => r.post P).rpk, fun r2 => ?_⟩⟩
  have ga' : G' a = none := (slot_ne (h.post P) hi (by rw [e]; exact List.mem_cons_self)).2.1
  refine S.chg P h (g2 := [a]) hi a1 (by rw [e]; exact List.mem_cons_self) ?_ (by simp) fun c hc => ?_
  · rw [hl]
    exact .inr (.inr ⟨a, kvs2, ds2, [], rfl, rfl, rfl, nb, ga', upd_same, r2.rok⟩)
  · have e2 : c = a := by simpa using hc
    subst e2
    exact .inl (by rw [e]; exact List.mem_cons_self)
theorem setp_ex {ρ : Rho} {bg b' : Bg} {o : Out} (h : ex C.Φ ρ (.setp i .nil ek ee) bg = some (o, b')) : ∃ y z b1 d d', ev C.Φ ρ ee bg = some (y, b1) ∧ ev C.Φ ρ ek b1 = some (z, b') ∧ ρ[i]? = some (some d) ∧ setD z y d = some d' ∧ o = .nx (ρ.set i (some d')) := by
  obtain ⟨y, b1, h1, h2⟩ := bnd_some h
  obtain ⟨ks, b2, h3, h4⟩ := bnd_some h2
  obtain ⟨rfl, rfl⟩ := ret_some h3
  obtain ⟨z, b3, h5, h6⟩ := bnd_some h4
  obtain ⟨d, b4, h7, h8⟩ := bnd_some h6
  obtain ⟨e1, rfl⟩ := lift_some h7
  obtain ⟨d', b5, h9, h10⟩ := bnd_some h8
  obtain ⟨e2, rfl⟩ := lift_some h9
  obtain ⟨rfl, rfl⟩ := ret_some h10
  exact ⟨y, z, _, d, d', h1, h5, getD_some e1, e2, rfl⟩
/-- d[k] = e, d a slot's dict of frozen things -/
theorem z_setd (hs : SlotN X i x) (hK : C.K = X.K) (hx : XOk X n) (hk : PE X k (rd C 9 Γ ek)) (ha : PE X a (rd C 0 Γ ee)) (hl : lvl Γ i = 1) (hw : swapsWith a (some (.Subscript (.Name x p2) k p3)) pos.line X.env = pure false) :
    PS X (.Assign [.Subscript (.Name x p2) k p3] a pos) (fun E σ H => ∃ B G0 H0 G b ρ o b' kvs, SI C B G0 H0 Γ G b H σ ρ ∧ ex C.Φ ρ (.setp i .nil ek ee) b = some (o, b') ∧ ends C own ΓL Γ B G0 H0 b' E o ∧ ρ[i]? = some (some (.dct kvs))) := by
  have hu := hx.room.units
  refine wkS (ps_dput (by omega) (pe_var hs.ix hs.vis hs.deb hs.cd) hk ha hw) fun E σ H ⟨B, G0, H0, G, bg, ρ, o, b', ds, S, hex, q, hd⟩ => ?_
  obtain ⟨y, z, b1, d, d', h1, h2, h3, h4, rfl⟩ := setp_ex hex
  rw [hd] at h3
  cases h3
  obtain ⟨⟨c1, c2⟩, rfl⟩ := ite_opt (show (if isKey z = true ∧ ds.length < line then some (D.dct (dput ds z y)) else none) = some d' from h4)
  obtain ⟨p, kvs, s1, fin⟩ := S.dct hd hl
  refine ⟨B, G, bg, ρ, y, b1, S.st, S.env, h1, fun v G1 H1 f P1 ⟨k1, a1, _, R1⟩ _ => ⟨.ref p, s1, B, G1, b1, ρ, z, b', P1.st, S.env.post P1, h2, fun w G2 H2 g P2 ⟨k2, _, _, R2⟩ _ => ?_⟩⟩
  obtain ⟨kk, rfl⟩ := kD_of c1
  obtain ⟨rfl, hkk⟩ := kV_of (RO.ncRp (by cases kk <;> rfl) R2).2
  obtain ⟨t1, t2, t3⟩ := fin G2 H2 b' (putK kvs kk v) (dput ds (kD kk) y) (P1.trans P2)
  have R0 := ((R1.cast (k := 0) (by omega)).2).mono P2.gs
  exact ⟨p, _, rfl, .inl ⟨kvs, kk, t1, rfl, by rw [t2.length]; exact len_line c2, rfl⟩, q G2 _ σ (t3 (t2.put hkk R0))⟩
/-- l[k] = e, l a slot's list -/
theorem z_setl (hs : SlotN X i x) (hk : PE X k (rd C 9 Γ ek)) (ha : PE X a (rd C 0 Γ ee)) (hl : lvl Γ i = 1) (hw : swapsWithSole [.Subscript (.Name x p2) k p3] a pos.line X.env = pure false) (hw2 : swappedStores [.Subscript (.Name x p2) k p3] a X.env = pure none)
    (h1 : (assignEach [.Subscript (.Name x p2) k p3] X.env).map (·.2) = [assign (.Subscript (.Name x p2) k p3) X.env]) (hsub : ∀ v, assign (.Subscript (.Name x p2) k p3) X.env v = (do
      let ov ← holding [v] (eval (.Name x p2) X.env)
      let iv ← holding [v, ov] (eval k X.env)
      standAt p3
      holding [v, ov, iv] (setItem ov iv v)
      release [v, ov, iv] [])) :
    PS X (.Assign [.Subscript (.Name x p2) k p3] a pos) (fun E σ H => ∃ B G0 H0 G b ρ o b' ds, SI C B G0 H0 Γ G b H σ ρ ∧ ex C.Φ ρ (.setp i .nil ek ee) b = some (o, b') ∧ ends C own ΓL Γ B G0 H0 b' E o ∧ ρ[i]? = some (some (.lst ds))) := by
  refine wkS (ps_asg ha (pg_sub (pe_var hs.ix hs.vis hs.deb hs.cd) hk set_list hsub) hw hw2 h1) fun E σ H ⟨B, G0, H0, G, bg, ρ, o, b', ds, S, hex, q, hd⟩ => ?_
  obtain ⟨y, z, b1, d, d', h1, h2, h3, h4, rfl⟩ := setp_ex hex
  rw [hd] at h3
  cases h3
  cases z with
  | int j =>
    obtain ⟨jj, c1, rfl⟩ := Option.map_eq_some_iff.mp (show (ixN ds.length j).map (fun j => D.lst (ds.set j y)) = some d' from h4)
    obtain ⟨p, vs, s1, s2, s3, fin⟩ := S.lst (i := i) (n := 0) hd hl (G' := G) (H' := H) (b' := bg) (ds2 := []) (w := .non) (y := .non) (g := [])
    refine ⟨B, G, bg, ρ, y, b1, S.st, S.env, h1, fun v G1 H1 f P1 ⟨k1, a1, _, R1⟩ _ => ⟨.ref p, s1, B, G1, b1, ρ, _, b', P1.st, S.env.post P1, h2, fun w G2 H2 g P2 ⟨k2, _, _, R2⟩ _ => ?_⟩⟩
    have R0 := ((R1.cast (k := 0) (by omega)).2).mono P2.gs
    obtain ⟨t1, t2⟩ := fin G2 H2 b' (vs.set jj v) v y [] (ds.set jj y) (P1.trans P2) ⟨rfl, R0⟩ List.nodup_nil (by simp) fun f rf nf df => rf.put List.nodup_nil jj ⟨rfl, R0⟩ nf (by simp)
    exact ⟨p, vs, j, jj, rfl, R2.int, t1, by rw [s3]; exact c1, q G2 _ σ t2⟩
  | _ => cases h4
/-- x[k] = e, either -/
theorem z_set (h1 : PS X st (fun E σ H => ∃ B G0 H0 G b ρ o b' kvs, SI C B G0 H0 Γ G b H σ ρ ∧ ex C.Φ ρ (.setp i .nil ek ee) b = some (o, b') ∧ ends C own ΓL Γ B G0 H0 b' E o ∧ ρ[i]? = some (some (.dct kvs))))
    (h2 : PS X st (fun E σ H => ∃ B G0 H0 G b ρ o b' ds, SI C B G0 H0 Γ G b H σ ρ ∧ ex C.Φ ρ (.setp i .nil ek ee) b = some (o, b') ∧ ends C own ΓL Γ B G0 H0 b' E o ∧ ρ[i]? = some (some (.lst ds)))) : PS X st (zs C own ΓL Γ (.setp i .nil ek ee) Γ) :=
  wkS (orS h1 h2) fun E σ H ⟨B, G0, H0, G, bg, ρ, o, b', S, hex, q⟩ => by
  obtain ⟨y, z, b1, d, d', e1, e2, e3, e4, rfl⟩ := setp_ex hex
  cases d with
  | lst ds => exact .inr ⟨B, G0, H0, G, bg, ρ, _, b', ds, S, hex, q, e3⟩
  | dct ds => exact .inl ⟨B, G0, H0, G, bg, ρ, _, b', ds, S, hex, q, e3⟩
  | _ => cases e4
/-- name op= e, ints -/
def augOf (X : Cx) (op : Bo) : Prop := ∃ ti : TIp, PIp X (bopOf op) ti ∧ ∀ i j r H (Q : VK), binD op (.int i) (.int j) = some (.int r) → Q (.int r) H → ti (.int i) (.int j) H Q
theorem aug_of : ∀ op, op = .add ∨ op = .sub ∨ op = .mul → augOf X op
  | .add, _ => ⟨_, iop_add, fun i j r H Q h q => ⟨i, j, rfl, rfl, by cases h; exact q⟩⟩
  | .sub, _ => ⟨_, iop_sub, fun i j r H Q h q => ⟨i, j, rfl, rfl, by cases h; exact q⟩⟩
  | .mul, _ => ⟨_, iop_mul, fun i j r H Q h q => by
      obtain ⟨c, e⟩ := ite_opt (show (if (smallI i || smallI j) = true then some (D.int (i * j)) else none) = some (.int r) from h)
      cases e
      refine ⟨i, j, rfl, rfl, ?_, q⟩
      rcases Bool.or_eq_true_iff.mp c with c | c
      · exact .inl (smallI_ok c)
      · exact .inr (smallI_ok c)⟩
  | .fdiv, h => by rcases h with h | h | h <;> cases h
  | .mod, h => by rcases h with h | h | h <;> cases h
  | .pow, h => by rcases h with h | h | h <;> cases h
theorem z_aug {op : Bo} (hN : X.N.Nodup) (hi : X.N[i]? = some x) (hx : Loc X.env.scope x) (hf : X.fn x = true ∨ X.env.scope.names.lookup x = some .local) (he : PE X e (rd C 9 Γ ee)) (hop : op = .add ∨ op = .sub ∨ op = .mul) (hb : C.bs ≠ some i) :
    PS X (.AugAssign (.Name x p2) (bopOf op) e pos) (zs C own ΓL Γ (.aug i op ee) Γ) := by
  obtain ⟨ti, h1, h2⟩ := aug_of (X := X) op hop
  refine wkS (ps_aug hN hi hx he h1 hf) fun E σ H ⟨B, G0, H0, G, b, ρ, o, b', S, hex, q⟩ => ?_
  obtain ⟨d, b1, e1, e2⟩ := bnd_some hex
  obtain ⟨e3, rfl⟩ := lift_some e1
  obtain ⟨y, b2, e4, e5⟩ := bnd_some e2
  obtain ⟨z, b3, e6, e7⟩ := bnd_some e5
  obtain ⟨e8, rfl⟩ := lift_some e6
  obtain ⟨r, b4, e9, e10⟩ := bnd_some e7
  obtain ⟨rfl, rfl⟩ := intOf_some e9
  obtain ⟨rfl, rfl⟩ := ret_some e10
  have hd := getD_some e3
  obtain ⟨f, h⟩ := S.own
  obtain ⟨v, a1, a2, a3, a4⟩ := h.1 i d hd
  refine ⟨v, a1, B, G, _, ρ, y, _, S.st, S.env, e4, fun w G' H' fp P ⟨k, _, _, R⟩ _ => ?_⟩
  have hil : i < ρ.length := (List.getElem?_eq_some_iff.mp hd).1
  have fin : E.nx (σ.set i (some (.int r))) H' := q G' H' _ (S.setv P (n := lvl Γ i) (fp := []) hil hb rfl (fun _ _ => rfl) (.nc rfl (.int r)) List.nodup_nil (by simp))
  cases d with
  | int x0 =>
    cases y with
    | int y0 =>
      rw [a2.int, R.int]
      exact h2 x0 y0 r H' _ e8 fin
    | _ => rcases hop with h | h | h <;> (subst h; cases e8)
  | str x0 =>
    rcases hop with h | h | h
    · subst h
      cases y with
      | str y0 =>
        obtain ⟨_, z⟩ := ite_opt (show (if x0.length + y0.length ≤ line then some (D.str (x0 ++ y0)) else none) = some (.int r) from e8)
        cases z
      | _ => cases e8
    · subst h; cases e8
    · subst h; cases e8
  | lst x0 =>
    rcases hop with h | h | h
    · subst h
      cases y with
      | lst y0 =>
        obtain ⟨_, z⟩ := ite_opt (show (if x0.length + y0.length ≤ line then some (D.lst (x0 ++ y0)) else none) = some (.int r) from e8)
        cases z
      | _ => cases e8
    · subst h; cases e8
    · subst h; cases e8
  | tup x0 =>
    rcases hop with h | h | h
    · subst h
      cases y with
      | tup y0 =>
        obtain ⟨_, z⟩ := ite_opt (show (if x0.length + y0.length ≤ line then some (D.tup (x0 ++ y0)) else none) = some (.int r) from e8)
        cases z
      | _ => cases e8
    · subst h; cases e8
    · subst h; cases e8
  | _ => rcases hop with h | h | h <;> (subst h; cases e8)
end
end Dn

set_option Elab.async false
set_option linter.all false
set_option maxRecDepth 100000
/-! Dn, part P2: the bag, changed. -/
namespace Dn
open PySem PySem.Spec PyProof.Rows L2
section
variable {X : Cx} {C : Cn} {own : Nat} {ΓL Γ : Gam} {m n i : Nat} {x : Str} {a e : Expr} {ee : Ex} {pos p1 p2 p3 p4 : Pos} {j1 j2 : Nat}
theorem bag_to {B Ca : Addr} {G H : Hp} {b b2 : Bg} (st : StOk B G H b) (h1 : H B = some (.lst [.int b.st, .int b.ch, .int b.ix, .ref Ca])) (nC : Ca ≠ B) (h2 : H Ca = some (.lst (b.cells.map V.int))) (ok : b2.ok) (hc : b2.cells = b.cells) :
    Post B G H G b2 (upd H B (.lst [.int b2.st, .int b2.ch, .int b2.ix, .ref Ca])) := by
  refine ⟨fun _ _ e => e, fun _ h => .inl h, fun a o nb e => by rw [upd_ne nb]; exact e, ⟨fun a o e => ?_, st.gb, ok, Ca, nC, upd_same, by rw [upd_ne nC, hc]; exact h2⟩, fun C' x y z e => ?_⟩
  · have q : a ≠ B := fun z => by subst z; rw [st.gb] at e; cases e
    rw [upd_ne q]
    exact st.sub a o e
  · rw [h1] at e
    cases e
    exact ⟨_, _, _, upd_same⟩
theorem bgSet_ok {k : Nat} {v : Int} {b b2 : Bg} (ok : b.ok) (h : bgSet k v b = some b2) : b2.ok ∧ b2.cells = b.cells ∧ ∀ Ca, ([V.int b.st, .int b.ch, .int b.ix, .ref Ca].set k (.int v)) = [.int b2.st, .int b2.ch, .int b2.ix, .ref Ca] ∧ k < 4 := by
  match k, h with
  | 0, h =>
    obtain ⟨c, rfl⟩ := ite_opt (show (if 0 ≤ v then some { b with st := v } else none) = some b2 from h)
    exact ⟨⟨c, ok.ch, ok.ch2, ok.ix, ok.cs, ok.sz⟩, rfl, fun Ca => ⟨rfl, by decide⟩⟩
  | 1, h =>
    obtain ⟨⟨c1, c2⟩, rfl⟩ := ite_opt (show (if 0 ≤ v ∧ v < 2147483647 then some { b with ch := v } else none) = some b2 from h)
    exact ⟨⟨ok.st, c1, c2, ok.ix, ok.cs, ok.sz⟩, rfl, fun Ca => ⟨rfl, by decide⟩⟩
  | k + 2, h => cases h
theorem ixN_nat {n k : Nat} (h : k < n) : ixN n (k : Int) = some k := by
  unfold ixN
  rw [if_pos (by omega), if_pos (by omega)]
  simp
/-- bag[k] = e -/
theorem z_bgs {k : Nat} (hs : SlotM X i x) (hb : C.bs = some i) (ha : PE X a (rd C 9 Γ ee)) (hw : swapsWithSole [.Subscript (.Name x p1) (.Constant (.int (k : Int)) j1 p2) p3] a pos.line X.env = pure false) (hw2 : swappedStores [.Subscript (.Name x p1) (.Constant (.int (k : Int)) j1 p2) p3] a X.env = pure none) :
    PS X (.Assign [.Subscript (.Name x p1) (.Constant (.int (k : Int)) j1 p2) p3] a pos) (zs C own ΓL Γ (.bgs k ee) Γ) :=
  wkS (ps_asg ha (pg_sub (pe_var hs.ix hs.vis hs.deb hs.cd) pe_int set_list fun v => rfl) hw hw2 rfl) fun E σ H ⟨B, G0, H0, G, b, ρ, o, b', S, hex, q⟩ => by
  obtain ⟨d, b1, h1, h2⟩ := bnd_some hex
  obtain ⟨v, b2, h3, h4⟩ := bnd_some h2
  obtain ⟨rfl, rfl⟩ := intOf_some h3
  obtain ⟨b3, h5, h6⟩ := Option.map_eq_some_iff.mp (show (bgSet k v b2).map (fun b' => (Out.nx ρ, b')) = some (o, b') from h4)
  cases h6
  refine ⟨B, G, b, ρ, _, b2, S.st, S.env, h1, fun w G1 H1 f P1 ⟨_, _, _, R⟩ _ => ⟨.ref B, (S.env.bag i hb).1, ?_⟩⟩
  obtain ⟨ok, Ca, nC, e1, e2⟩ := P1.st.bag
  obtain ⟨k1, k2, k3⟩ := bgSet_ok ok h5
  obtain ⟨k4, k5⟩ := k3 Ca
  refine ⟨B, _, (k : Int), k, rfl, rfl, e1, ixN_nat k5, ?_⟩
  rw [R.int, k4]
  exact q G1 _ σ (S.step (P1.trans (bag_to P1.st e1 nC e2 k1 k2)))
theorem get_list0 : PGet X (fun o y H Q => ∃ p xs, ∃ k : Nat, ∃ v, o = .ref p ∧ y = .int (k : Int) ∧ SqL X.K H p xs ∧ xs[k]? = some v ∧ Q v H) := by
  intro pins s σ H o y ov yv Q I ro ry h
  obtain ⟨p, xs, k, v, rfl, rfl, hq, hv, q⟩ := h
  cases ro
  obtain ⟨t, rfl⟩ := ry
  obtain ⟨its, rv, pl, hz⟩ := I.list hq
  obtain ⟨u, hu, ru⟩ := rv.get hv
  have hk : k < xs.length := (List.getElem?_eq_some_iff.mp hv).1
  have h63 := line63
  exact wpAny_getItem_list pl.isList (Int.natCast_nonneg _) (by omega) (by simpa using hu) ⟨v, H, I, ru, q⟩
/-- bag[2] += 1 -/
theorem z_bgx (hs : SlotM X i x) (hb : C.bs = some i) : PS X (.AugAssign (.Subscript (.Name x p1) (.Constant (.int ((2 : Nat) : Int)) j1 p2) p3) .Add (.Constant (.int 1) j2 pos) p4) (zs C own ΓL Γ .bgx Γ) :=
  wkS (ps_augS (pe_var hs.ix hs.vis hs.deb hs.cd) pe_int get_list0 pe_int iop_add set_list fun _ _ _ => rfl) fun E σ H ⟨B, G0, H0, G, b, ρ, o, b', S, hex, q⟩ => by
  have e : some (Out.nx ρ, { b with ix := b.ix + 1 }) = some (o, b') := hex
  cases e
  obtain ⟨ok, Ca, nC, e1, e2⟩ := S.st.bag
  have ok2 : Bg.ok { b with ix := b.ix + 1 } := ⟨ok.st, ok.ch, ok.ch2, by have := ok.ix; show 0 ≤ b.ix + 1; omega, ok.cs, ok.sz⟩
  exact ⟨.ref B, (S.env.bag i hb).1, B, _, 2, .int b.ix, rfl, rfl, .inl (.inl e1), rfl, b.ix, 1, rfl, rfl, B, _, ((2 : Nat) : Int), 2, rfl, rfl, e1, ixN_nat (show 2 < 4 by decide), q G _ σ (S.step (bag_to S.st e1 nC e2 ok2 rfl))⟩
end
end Dn

set_option Elab.async false
set_option linter.all false
set_option maxRecDepth 100000
/-! Dn, part Q: calls of the text's own defs. -/
namespace Dn
open PySem PySem.Spec PyProof.Rows L2
/-- no exception leaves a def -/
abbrev noX : CXT := fun _ _ _ _ _ _ => False
abbrev noE : XK := fun _ _ _ => False
/-- what a def keeps, called while nothing is being shown -/
structure Gn (prg : Program) (wd : World) (Kf : PySem.W.Frag) (gl : Str → Option Value) (bas : Heap) (lim : Nat) (at_ : Addr) (fdat : FuncData) (pars : List Str) (want : List V → Hp → VK → Prop) : Prop where
  cnt : ∀ vs H Q, want vs H Q → vs.length = pars.length
  go : ∀ (Ar : Around) (outs : List Env) (sh : Shared) (H : Hp) (ag : Args) (us : List Value) (vs : List V) (Q : VK), Room lim Ar → Ar.guards = some [] → Env0 prg wd Kf gl bas Ar outs sh H → BindsTo sh fdat ag (pars.zip us) → Vals vs us → want vs H Q →
    codeAny (model prg wd) Ar (.call (.ref at_) ag) (CR noX outs prg wd H sh Q noE) sh
theorem Gn.mono {prg : Program} {wd : World} {Kf : PySem.W.Frag} {gl : Str → Option Value} {bas : Heap} {j k : Nat} {at_ : Addr} {fdat : FuncData} {pars : List Str} {want : List V → Hp → VK → Prop} (F : Gn prg wd Kf gl bas j at_ fdat pars want) (h : j ≤ k) : Gn prg wd Kf gl bas k at_ fdat pars want :=
  ⟨F.cnt, fun Ar outs sh H ag us vs Q hr => F.go Ar outs sh H ag us vs Q (hr.mono h)⟩
theorem Gn.imp {prg : Program} {wd : World} {Kf : PySem.W.Frag} {gl : Str → Option Value} {bas : Heap} {k : Nat} {at_ : Addr} {fdat : FuncData} {pars : List Str} {want want' : List V → Hp → VK → Prop} (F : Gn prg wd Kf gl bas k at_ fdat pars want) (h : ∀ vs H Q, want' vs H Q → want vs H Q) : Gn prg wd Kf gl bas k at_ fdat pars want' :=
  ⟨fun vs H Q q => F.cnt vs H Q (h _ _ _ q), fun Ar outs sh H ag us vs Q hr hq he hb hv hs => F.go Ar outs sh H ag us vs Q hr hq he hb hv (h _ _ _ hs)⟩
section
variable {X : Cx} {k : Nat} {fa : Addr} {fd : FuncData} {ps : List Str} {want : List V → Hp → VK → Prop} {x : Str} {pn pos : Pos} {e : Expr} {es : List Expr} {t : TA}
theorem Gn.call {pins : List (Addr × Obj)} {σ : L2.St} {H : Hp} {sh : Shared} {Q : VK} {us : List Value} {vs : List V} (F : Gn X.prog X.w X.K X.mg X.base k fa fd ps want) (hr : Room k X.A) (hq : X.A.guards = some []) (hb : Binds X.K fd ps [])
    (I : L2.Inv X pins σ H sh) (rv : Vals vs us) (h : want vs H Q) : wpAny (model X.prog X.w) X.A (PySem.call (.ref fa) us) (EP X pins σ Q) X.xe sh := by
  have hl : (us ++ []).length = ps.length := by rw [List.append_nil, ← rv.length]; exact F.cnt _ _ _ h
  have bind := hb sh us I.kIn hl
  rw [List.append_nil] at bind
  refine wpAny_call (codeAny_mono (F.go X.A X.stack sh H ⟨us, []⟩ us vs Q hr hq I.env0 bind rv h) fun res s2 q => ?_)
  match res, q with
  | .ok (.ret u), q => exact I.after q
theorem e_call (F : Gn X.prog X.w X.K X.mg X.base k fa fd ps want) (hr : Room k X.A) (hq : X.A.guards = some []) (hg : Gl X x) (hm : X.mg x = some (.ref fa)) (hk : PySem.W.keepIn X.K (.ref fa) = true) (hb : Binds X.K fd ps [])
    (ha : PA X (e :: es) t) (hdb : (x == ("__debug__" : Str)) = false) (hst : starEach (e :: es) X.env = (false, eval e X.env) :: starEach es X.env) (hpl : (backTo pos (starEach es X.env)).any (·.1) = false) :
    PE X (.Call (.Name x pn) (e :: es) [] pos) (fun σ H Q => t σ H fun vs H1 => want vs H1 Q) := by
  refine ⟨fun pins sh σ H Q I h => wpAny_Call_Name_kw (ld_glob I hg hm ?_ hdb)⟩
  exact PySem.W.callWith_K (h₀ := X.base) I.ok.mod.kin hk (thn (ha.run pos pins sh σ H _ I h) fun us s1 ⟨vs, H1, I1, r, q⟩ => ⟨I1.kIn, F.call hr hq hb I1 r q⟩) hst hpl
theorem e_call0 (F : Gn X.prog X.w X.K X.mg X.base k fa fd ps want) (hr : Room k X.A) (hq : X.A.guards = some []) (hg : Gl X x) (hm : X.mg x = some (.ref fa)) (hk : PySem.W.keepIn X.K (.ref fa) = true) (hb : Binds X.K fd ps [])
    (hdb : (x == ("__debug__" : Str)) = false) : PE X (.Call (.Name x pn) [] [] pos) (fun σ H Q => want [] H Q) :=
  ⟨fun pins sh σ H Q I h => wpAny_Call_Name_kw (ld_glob I hg hm (PySem.W.callWith_K0 I.kIn hk (F.call (us := []) hr hq hb I .nil h)) hdb)⟩
end
/-- a def's body keeps what it promises -/
theorem gn_of {prg : Program} {wd : World} {Kf : PySem.W.Frag} {gl : Str → Option Value} {bas : Heap} {lim : Nat} {at_ : Addr} {name qual : Str} {params : Arguments} {body : List Stmt} {scope : Scope} {dV kV doc pm cdv ct oc : Value} {an od : Option Addr}
    {osl : Array (Option Value)} {N ps : List Str} {want : List V → Hp → VK → Prop} (lk : Kf.lookup at_ = some ⟨oc, od, .func (PySem.W.fnOf name qual params body scope dV kV doc pm an cdv ct), osl⟩) (hcd : PySem.W.codeIn Kf cdv qual = true) (S : FnScope N ps scope)
    (cnt : ∀ vs H Q, want vs H Q → vs.length = ps.length)
    (hbody : ∀ (Ar : Around) (outs : List Env) (sh : Shared) (H : Hp) (vs : List V) (Q : VK), Room lim (Ar.deeper (envOfC qual scope sh.heap.objs.size at_ cdv)) → (Ar.deeper (envOfC qual scope sh.heap.objs.size at_ cdv)).guards = some [] → want vs H Q →
      ∃ t, PSs (cxOf noX prg wd Kf gl bas N qual scope at_ cdv Ar outs sh H noE) body t ∧ t { nx := fun _ H' => Q .non H', rt := Q } (start N vs) H) :
    Gn prg wd Kf gl bas (lim + 1) at_ (PySem.W.fnOf name qual params body scope dV kV doc pm an cdv ct) ps want := by
  refine ⟨cnt, fun Ar outs sh H ag us vs Q hr hq e0 hb rv hw => ?_⟩
  have hl := cnt _ _ _ hw
  have KX : Kf.In sh.heap := e0.mod.kin.keeps fun b u e => (e0.bs b u e).1
  have nolim : sh.heap.NoLimit := e0.mod.nolimit.keeps fun b u e => (e0.bs b u e).1
  have kinds : ∀ y ∈ ps.zip us, scope.names.lookup y.1 = some .local ∨ (scope.names.lookup y.1 = some .cell ∧ ((cellsFrom (sh.heap.objs.size + 1) scope.names []).lookup y.1).isSome = true) := by
    rintro ⟨n, v⟩ hy
    rcases S.par n (List.of_mem_zip hy).1 with z | z
    · exact .inl z
    · exact .inr ⟨z, PySem.W.cellsFrom_some _ _ _ (.inl z)⟩
  refine codeAny_call_function hr.depth (KX _ _ lk) rfl S.co S.gen rfl (PySem.W.codeRec_of KX hcd) (hb _ _ _ _ (wpAny_newFunctionEnv_cells S.kind kinds fun env he s1 x => ?_))
  subst he
  refine ⟨nolim.keeps x.toInCall.keep, codeAny_func ?_⟩
  obtain ⟨t, ht, q⟩ := hbody Ar outs sh H vs Q (hr.deeper _) hq hw
  have I : L2.Inv (cxOf noX prg wd Kf gl bas N qual scope at_ cdv Ar outs sh H noE) [] (start N vs) H s1 := inv_start S hr.hd e0 hl rv x
  refine wpAny_mono (ht.run [] s1 (start N vs) H _ I q) (fun fl s2 hs => ?_) fun e s2 hs => hs
  cases fl with
  | ret u =>
    obtain ⟨v, σ2, H2, J, r2, q2⟩ := hs
    exact ⟨v, H2, J.os, J.bare, J.base, J.hok, r2, q2⟩
  | next =>
    obtain ⟨σ2, H2, J, q2⟩ := hs
    exact ⟨V.non, H2, J.os, J.bare, J.base, J.hok, rfl, q2⟩
  | brk => obtain ⟨_, _, _, q2⟩ := hs; exact False.elim q2
  | cont => obtain ⟨_, _, _, q2⟩ := hs; exact False.elim q2

/-! ### a def of the layer -/
/-- what a def of the layer keeps: bag: its first argument is the bag; np: how many others -/
def pr (K : PySem.W.Frag) (φ : List D → M D) (bag : Bool) (np own : Nat) : List V → Hp → VK → Prop := fun vs H Q => ∃ B G b ds r b' vs', vs = (if bag = true then [.ref B] else []) ++ vs' ∧ ds.length = np ∧ StOk B G H b ∧ Rps K G vs' ds ∧ φ ds b = some (r, b') ∧
  ∀ v G' H' fp, Post B G H G' b' H' → RO K G' B H' own v r fp → fp.Nodup → (∀ a ∈ fp, H a = none) → Q v H'
theorem pr_cnt {K : PySem.W.Frag} {φ : List D → M D} {bag : Bool} {np own : Nat} {ps : List Str} (hl : ps.length = (if bag = true then 1 else 0) + np) : ∀ vs H Q, pr K φ bag np own vs H Q → vs.length = ps.length := fun vs H Q ⟨B, G, b, ds, r, b', vs', h1, h2, _, h3, _⟩ => by
  rw [h1, hl, List.length_append, h3.length, h2]
  cases bag <;> simp
section
variable {X : Cx} {C : Cn} {Γ : Gam} {m n f np : Nat} {bag : Bool} {es : List Expr} {ees : Exs} {x : Str} {pn pos p2 : Pos} {e : Expr} {fa : Addr} {fd : FuncData} {ps : List Str} {i : Nat}
/-- the arguments, the bag ahead of them -/
def rb (C : Cn) (Γ : Gam) (bag : Bool) (es : Exs) : TA := fun σ H Q => ∃ B G b ρ ds b', StOk B G H b ∧ EnvOk C.K B G H C.bs Γ σ ρ ∧ evs C.Φ ρ es b = some (ds, b') ∧ ∀ vs G' H', Post B G H G' b' H' → Rps C.K G' vs ds → Q ((if bag = true then [.ref B] else []) ++ vs) H'
theorem a_pure (h : PA X es (ra C Γ ees)) : PA X es (rb C Γ false ees) := wkA h fun σ H Q ⟨B, G, b, ρ, ds, b', st, en, he, q⟩ => ⟨B, G, b, ρ, ds, b', st, en, he, q⟩
theorem a_bag (hs : SlotN X i x) (hb : C.bs = some i) (h : PA X es (ra C Γ ees)) : PA X (.Name x pn :: es) (rb C Γ true ees) :=
  wkA (pa_cons (pe_var hs.ix hs.vis hs.deb hs.cd) h (star_of rfl _ _)) fun σ H Q ⟨B, G, b, ρ, ds, b', st, en, he, q⟩ =>
    ⟨.ref B, (en.bag i hb).1, B, G, b, ρ, ds, b', st, en, he, fun vs G' H' P R => q vs G' H' P R⟩
theorem call_rd {σ : L2.St} {H : Hp} {Q : VK} {K : PySem.W.Frag} (hK : C.K = K) (hn : ees.len = np) (h : rd C m Γ (.call f ees) σ H Q) : rb C Γ bag ees σ H fun vs H1 => pr K (C.Φ f) bag np (C.own f) vs H1 Q := by
  obtain ⟨B, G, b, ρ, d, b', st, en, he, q⟩ := rd_out h
  obtain ⟨xs, b1, h1, h2⟩ := bnd_some he
  refine ⟨B, G, b, ρ, xs, b1, st, en, h1, fun vs G' H' P R => ⟨B, G', b1, xs, d, b', vs, rfl, by rw [evs_len h1, hn], P.st, by rw [← hK]; exact R, h2, fun v G2 H2 fp P2 R2 nd fr => ?_⟩⟩
  obtain ⟨G3, fp3, P3, R3, n3, f3, _⟩ := P2.lower (m := min m (C.own f)) (Nat.min_le_right _ _) (by rw [← hK] at R2; exact R2) nd fr
  exact qT P P3 R3 ⟨n3, f3⟩ q
theorem s_call {k : Nat} (F : Gn X.prog X.w X.K X.mg X.base k fa fd ps (pr X.K (C.Φ f) bag np (C.own f))) (hr : Room k X.A) (hK : C.K = X.K) (hx : XOk X n) (hg : Gl X x) (hm : X.mg x = some (.ref fa)) (hk : PySem.W.keepIn X.K (.ref fa) = true) (hb : Binds X.K fd ps [])
    (ha : PA X (e :: es) (rb C Γ bag ees)) (hn : ees.len = np) (hdb : (x == ("__debug__" : Str)) = false) (hst : starEach (e :: es) X.env = (false, eval e X.env) :: starEach es X.env) (hpl : (backTo pos (starEach es X.env)).any (·.1) = false) :
    PE X (.Call (.Name x pn) (e :: es) [] pos) (rd C m Γ (.call f ees)) := wkE (e_call F hr hx.gd hg hm hk hb ha hdb hst hpl) fun σ H Q h => call_rd hK hn h
end
end Dn

set_option Elab.async false
set_option linter.all false
set_option maxRecDepth 100000
/-! Dn, part R: does a term of the layer tell what an expression of the text does: a check, and that it is right. -/
namespace Dn
open PySem PySem.Spec PyProof.Rows L2
/-- what is known where an expression stands: the slots' names, the scope, the defs (name, index, does it draw, how many others), the bag's slot -/
structure Sc where
  N : List Str
  sc : Scope
  fn : Str → Bool
  fns : List (Str × Nat × Bool × Nat)
  bs : Option Nat
  own : Nat → Nat
def Sc.blk (S : Sc) (scope : Scope) : Sc := { S with sc := relS scope S.sc, fn := fun x => scope.names.lookup x == some .cell }
structure XS (S : Sc) (X : Cx) (C : Cn) : Prop where
  N : X.N = S.N
  nd : S.N.Nodup
  sc : X.env.scope = S.sc
  fn : ∀ x, S.fn x = true → X.fn x = true
  K : C.K = X.K
  bs : C.bs = S.bs
  own : C.own = S.own
  ok : XOk X 0
  fns : ∀ p ∈ S.fns, ∃ k fa fd ps, Gn X.prog X.w X.K X.mg X.base k fa fd ps (pr X.K (C.Φ p.2.1) p.2.2.1 p.2.2.2 (C.own p.2.1)) ∧ Room k X.A ∧ X.mg p.1 = some (.ref fa) ∧ PySem.W.keepIn X.K (.ref fa) = true ∧ Binds X.K fd ps []
theorem XS.blk {S : Sc} {X : Cx} {C : Cn} (h : XS S X C) {s : Shared} {H : Hp} {scope : Scope} {cl : List (Str × Addr)} {Ca : Addr} {fp : List Addr} : XS (S.blk scope) (X.blk s H scope (compEnvC scope cl Ca X.env) fp) C :=
  ⟨h.N, h.nd, by show relS scope X.env.scope = relS scope S.sc; rw [h.sc], fun x e => e, h.K, h.bs, h.own, ⟨h.ok.calm, h.ok.room, h.ok.gd, h.ok.sys, h.ok.free⟩, h.fns⟩
/-- no name that Python keeps for itself -/
def okName (x : Str) : Bool := !(x == ("__debug__" : Str)) && !(x == ("__classdict__" : Str))
def visB (S : Sc) (x : Str) : Bool := match S.sc.names.lookup x with
  | some .local => true
  | some .cell => true
  | some .free => true
  | _ => false
def glB (S : Sc) (x : Str) : Bool := match S.sc.names.lookup x with
  | some .globalImplicit => true
  | _ => false
def slotB (S : Sc) (i : Nat) (x : Str) : Bool := (match S.N[i]? with
  | some y => x == y
  | none => false) && visB S x && okName x
def locB (S : Sc) (x : Str) : Bool := match S.sc.names.lookup x with
  | some .local => true
  | some .cell => S.fn x
  | _ => false
section
variable {S : Sc} {X : Cx} {C : Cn} {Γ : Gam}
theorem name_of {x : Str} (h : okName x = true) : (x == ("__debug__" : Str)) = false ∧ (x == ("__classdict__" : Str)) = false := by
  unfold okName at h
  obtain ⟨h1, h2⟩ := Bool.and_eq_true_iff.mp h
  exact ⟨by simpa using h1, by simpa using h2⟩
theorem vis_of {x : Str} (xs : XS S X C) (h : visB S x = true) : Vis X.env.scope x := by
  unfold visB at h
  unfold Vis
  rw [xs.sc]
  split at h
  · rename_i e; exact .inl e
  · rename_i e; exact .inr (.inl e)
  · rename_i e; exact .inr (.inr e)
  · cases h
theorem gl_of {x : Str} (xs : XS S X C) (h : glB S x = true) : Gl X x := by
  unfold glB at h
  show X.env.scope.names.lookup x = some .globalImplicit
  rw [xs.sc]
  split at h
  · rename_i e; exact e
  · cases h
theorem slot_of {x : Str} {i : Nat} (xs : XS S X C) (h : slotB S i x = true) : SlotN X i x := by
  unfold slotB at h
  obtain ⟨h1, h3⟩ := Bool.and_eq_true_iff.mp h
  obtain ⟨h1, h2⟩ := Bool.and_eq_true_iff.mp h1
  obtain ⟨d1, d2⟩ := name_of h3
  refine ⟨?_, vis_of xs h2, d1, d2⟩
  rw [xs.N]
  split at h1
  · rename_i y e; rw [e, eq_of_beq h1]
  · cases h1
theorem loc_of {x : Str} (xs : XS S X C) (h : locB S x = true) : L2.Loc X.env.scope x ∧ (X.fn x = true ∨ X.env.scope.names.lookup x = some .local) := by
  unfold locB at h
  unfold L2.Loc
  rw [xs.sc]
  split at h
  · rename_i e; exact ⟨.inl e, .inr e⟩
  · rename_i e; exact ⟨.inr e, .inl (xs.fn x h)⟩
  · cases h
end
/-! ### targets -/
mutual
def ckG (S : Sc) : Tg → Expr → Bool
  | .nm i, e => (match e with
    | .Name x _ => slotB S i x && locB S x
    | _ => false)
  | .tp ts, e => (match e with
    | .Tuple es _ _ => ckGs S ts es
    | _ => false)
def ckGs (S : Sc) : List Tg → List Expr → Bool
  | [], es => (match es with
    | [] => true
    | _ => false)
  | t :: ts, es => (match es with
    | e :: es => ckG S t e && ckGs S ts es && noStar e
    | [] => false)
end
theorem assignEach_of {e : Expr} (h : noStar e = true) (es : List Expr) (env : Env) : assignEach (e :: es) env = (false, assign e env) :: assignEach es env := by
  cases e <;> first | rfl | cases h
mutual
theorem ckG_ok {S : Sc} {X : Cx} {C : Cn} (xs : XS S X C) : ∀ (t : Tg) (e : Expr), ckG S t e = true → PG X e (rg X.K t)
  | .nm i, e, h => by
    unfold ckG at h
    split at h
    · obtain ⟨h1, h2⟩ := Bool.and_eq_true_iff.mp h
      obtain ⟨l1, l2⟩ := loc_of xs h2
      exact g_nm (by rw [xs.N]; exact xs.nd) (slot_of xs h1).ix l1 l2
    · cases h
  | .tp ts, e, h => by
    unfold ckG at h
    split at h
    · obtain ⟨p1, p2, p3⟩ := ckGs_ok xs ts _ h
      exact g_tp xs.ok.calm p1 p2 p3
    · cases h
theorem ckGs_ok {S : Sc} {X : Cx} {C : Cn} (xs : XS S X C) : ∀ (ts : List Tg) (es : List Expr), ckGs S ts es = true → PGs X es (rgs X.K ts) ∧ (assignEach es X.env).length = ts.length ∧ (assignEach es X.env).findIdx? (·.1) = none
  | [], es, h => by
    unfold ckGs at h
    split at h
    · exact ⟨gs_nil, rfl, rfl⟩
    · cases h
  | t :: ts, es, h => by
    unfold ckGs at h
    split at h
    · rename_i e es
      obtain ⟨h1, h3⟩ := Bool.and_eq_true_iff.mp h
      obtain ⟨h1, h2⟩ := Bool.and_eq_true_iff.mp h1
      obtain ⟨p1, p2, p3⟩ := ckGs_ok xs ts es h2
      have ae := assignEach_of h3 es X.env
      refine ⟨gs_cons (ckG_ok xs t e h1) p1 (by rw [ae]; rfl), by rw [ae]; simp [p2], by rw [ae]; simp [List.findIdx?_cons, p3]⟩
    · cases h
end
/-! ### expressions -/
/-- a test is its value's truth -/
def plT : Expr → Bool
  | .Name _ _ => true
  | .Constant _ _ _ => true
  | .Call _ _ _ _ => true
  | .Subscript _ _ _ => true
  | _ => false
theorem plT_ok {a : Expr} {env : Env} (h : plT a = true) : ∀ whole, isTrue a env whole = (do let v ← whole; standAt a.pos; holding [v] (truthy v)) := by
  cases a <;> first | (intro _; rfl) | cases h
def plIt : Expr → Bool
  | .Set _ _ _ => false
  | _ => true
theorem plIt_ok {a : Expr} {env : Env} (h : plIt a = true) : ∀ x, foldedSetIterable a env x = pure x := by
  cases a <;> first | (intro _; rfl) | cases h
/-- an attribute's object is evaluated plainly -/
def plAt : Expr → Bool
  | .Name _ _ => true
  | .Call (.Name _ _) [_, _] [] _ => true
  | .Subscript _ _ _ => true
  | _ => false
theorem plAt_ok {a : Expr} {f : Str} {env : Env} (h : plAt a = true) : attributeBase a f env (eval a env) = eval a env := by
  unfold plAt at h
  split at h
  · rfl
  · rfl
  · rfl
  · cases h
def chk (C : Bool) (l : Nat) : Bool := !C || l == 0
/-- an expression whose value is kept: a slot's own is not -/
def okB (S : Sc) (Γ : Gam) (e : Ex) : Bool := !chain e || lv S.own Γ e == 0
def mayBs (S : Sc) (i : Nat) : Bool := match S.bs with
  | some j => !(i == j)
  | none => true
def tgB (S : Sc) (Γ : Gam) (l : List Nat) : Bool := l.all fun i => lvl Γ i == 0 && mayBs S i
def ownOf (N : List Str) (scope : Scope) (l : List Nat) : List (Str × Nat) := l.map fun i => (N.getD i "", i)
mutual
def ckE (S : Sc) (Γ : Gam) (m : Nat) : Ex → Expr → Bool
  | .var i, e => (match e with
    | .Name x _ => slotB S i x && decide (lvl Γ i ≤ m)
    | _ => false)
  | .kn, e => (match e with
    | .Constant .none _ _ => true
    | _ => false)
  | .kb b, e => (match e with
    | .Constant (.bool c) _ _ => b == c
    | _ => false)
  | .ki i, e => (match e with
    | .Constant (.int j) _ _ => decide (i = j)
    | _ => false)
  | .ks s, e => (match e with
    | .Constant (.str t) _ _ => s == t && decide (s.length ≤ line)
    | _ => false)
  | .tup es, e => (match e with
    | .Tuple l _ _ => ckA S Γ es l && decide (es.len ≤ line)
    | _ => false)
  | .lst es, e => (match e with
    | .List l _ => ckA S Γ es l && decide (es.len ≤ line)
    | _ => false)
  | .bin op a b, e => (match e with
    | .BinOp x o y _ => decide (o = bopOf op) && ckE S Γ 1 a x && ckE S Γ 1 b y
    | _ => false)
  | .neg a, e => (match e with
    | .UnaryOp .USub x _ => ckE S Γ 9 a x
    | _ => false)
  | .cmp op a b, e => (match e with
    | .Compare x [o] [y] _ => decide (o = opOf op) && ckE S Γ 9 a x && ckE S Γ 9 b y && !behindInMarks (opOf op) y
    | _ => false)
  | .chn op op' a b c, e => (match e with
    | .Compare x [o, o'] [y, z] _ => decide (o = opOf op) && decide (o' = opOf op') && ckE S Γ 9 a x && ckE S Γ 9 b y && ckE S Γ 9 c z && !lastMarks [opOf op, opOf op'] [y, z]
    | _ => false)
  | .isn a, e => (match e with
    | .Compare x [.Is] [.Constant .none _ _] _ => ckE S Γ 9 a x
    | _ => false)
  | .ntn a, e => (match e with
    | .Compare x [.IsNot] [.Constant .none _ _] _ => ckE S Γ 9 a x
    | _ => false)
  | .isb b a, e => (match e with
    | .Compare x [.Is] [.Constant (.bool c) _ _] _ => b == c && ckE S Γ 9 a x
    | _ => false)
  | .and_ a b, e => (match e with
    | .BoolOp .And [x, y] _ => ckE S Γ 9 a x && ckE S Γ 9 b y
    | .BoolOp .And (x :: y :: z :: r) p => ckE S Γ 9 a x && ckE S Γ 9 b (.BoolOp .And (y :: z :: r) p)
    | _ => false)
  | .or_ a b, e => (match e with
    | .BoolOp .Or [x, y] _ => ckE S Γ 9 a x && ckE S Γ 9 b y
    | .BoolOp .Or (x :: y :: z :: r) p => ckE S Γ 9 a x && ckE S Γ 9 b (.BoolOp .Or (y :: z :: r) p)
    | _ => false)
  | .not_ a, e => (match e with
    | .UnaryOp .Not x _ => ckE S Γ 9 a x
    | _ => false)
  | .ite t a b, e => (match e with
    | .IfExp x y z _ => ckT S Γ t x && ckE S Γ 9 a y && ckE S Γ 9 b z && okB S Γ a && okB S Γ b && decide (m ≤ 9)
    | _ => false)
  | .idx a b, e => (match e with
    | .Subscript x y _ => ckE S Γ (m + 1) a x && ckE S Γ 9 b y && !isSl y
    | _ => false)
  | .slc a lo hi, e => (match e with
    | .Subscript x (.Slice l h none _) _ => ckE S Γ 1 a x && ckO S Γ lo l && ckO S Γ hi h
    | _ => false)
  | .call f es, e => (match e with
    | .Call (.Name x _) (y :: l) [] _ => glB S x && okName x && (match S.fns.find? fun p => p.1 == x with
      | some (_, g, bag, np) => decide (g = f) && decide (es.len = np) && l.all noStar && noStar y && (if bag = true then (match y with
          | .Name z _ => (match S.bs with
            | some i => slotB S i z
            | none => false) && ckA S Γ es l
          | _ => false) else ckA S Γ es (y :: l))
      | none => false)
    | _ => false)
  | .bi f a, e => (match e with
    | .Call (.Name x _) [y] [] _ => x == Str.ofString (biOf f) && glB S x && ckE S Γ (if need1 f = true then 1 else 9) a y && noStar y
    | _ => false)
  | .index a b, e => (match e with
    | .Call (.Attribute x f ap) [y] [] cp => f == Str.ofString "index" && ckE S Γ 9 a x && ckE S Γ 9 b y && noStar y && (ap.endLine == cp.line) && plAt x
    | _ => false)
  | .bgi k, e => (match e with
    | .Subscript (.Name x _) (.Constant (.int j) _ _) _ => (match S.bs with
      | some i => slotB S i x
      | none => false) && decide (j = (k : Int))
    | _ => false)
  | .bgc, e => (match e with
    | .Subscript (.BinOp (.Subscript (.Subscript (.Name x _) (.Constant (.int j1) _ _) _) (.Slice (some (.Subscript (.Name y _) (.Constant (.int j2) _ _) _)) none none _) _) .Add (.List [.Constant (.int j3) _ _] _) _) (.Constant (.int j4) _ _) _ => (match S.bs with
      | some i => slotB S i x
      | none => false) && x == y && decide (j1 = ((3 : Nat) : Int)) && decide (j2 = ((2 : Nat) : Int)) && decide (j3 = 0) && decide (j4 = ((0 : Nat) : Int))
    | _ => false)
  | .lc elt own tg it c, e => (match e with
    | .ListComp x [⟨t, i, ifs, 0⟩] scope _ => blkC S.N S.sc scope (ownOf S.N scope own) && ckG (S.blk scope) tg t && ckI S Γ it t i && ckC (S.blk scope) (setz Γ own) c ifs && ckE (S.blk scope) (setz Γ own) 9 elt x && plIt i && own.all (mayBs S) && (slots tg).all (fun j => own.contains j) && okB S (setz Γ own) elt && (!itPair it || isTp tg)
    | _ => false)
  | _, _ => false
def ckT (S : Sc) (Γ : Gam) : Ex → Expr → Bool
  | .and_ a b, e => (match e with
    | .BoolOp .And [x, y] _ => ckT S Γ a x && ckT S Γ b y
    | .BoolOp .And (x :: y :: z :: r) p => ckT S Γ a x && ckT S Γ b (.BoolOp .And (y :: z :: r) p)
    | _ => false)
  | .or_ a b, e => (match e with
    | .BoolOp .Or [x, y] _ => ckT S Γ a x && ckT S Γ b y
    | .BoolOp .Or (x :: y :: z :: r) p => ckT S Γ a x && ckT S Γ b (.BoolOp .Or (y :: z :: r) p)
    | _ => false)
  | .not_ a, e => (match e with
    | .UnaryOp .Not x _ => ckT S Γ a x
    | _ => false)
  | .cmp op a b, e => (match e with
    | .Compare x [o] [y] _ => decide (o = opOf op) && ckE S Γ 9 a x && ckE S Γ 9 b y && !behindInMarks (opOf op) y
    | _ => false)
  | .chn op op' a b c, e => (match e with
    | .Compare x [o, o'] [y, z] _ => decide (o = opOf op) && decide (o' = opOf op') && ckE S Γ 9 a x && ckE S Γ 9 b y && ckE S Γ 9 c z && !lastMarks [opOf op, opOf op'] [y, z]
    | _ => false)
  | .isn a, e => (match e with
    | .Compare x [.Is] [.Constant .none _ _] _ => ckE S Γ 9 a x
    | _ => false)
  | .ntn a, e => (match e with
    | .Compare x [.IsNot] [.Constant .none _ _] _ => ckE S Γ 9 a x
    | _ => false)
  | .isb b a, e => (match e with
    | .Compare x [.Is] [.Constant (.bool c) _ _] _ => b == c && ckE S Γ 9 a x
    | _ => false)
  | .var i, e => (match e with
    | .Name x _ => slotB S i x && decide (lvl Γ i ≤ 9)
    | _ => false)
  | .kb b, e => (match e with
    | .Constant (.bool c) _ _ => b == c
    | _ => false)
  | .idx a b, e => (match e with
    | .Subscript x y _ => ckE S Γ 10 a x && ckE S Γ 9 b y && !isSl y
    | _ => false)
  | .call f es, e => (match e with
    | .Call (.Name x _) (y :: l) [] _ => glB S x && okName x && (match S.fns.find? fun p => p.1 == x with
      | some (_, g, bag, np) => decide (g = f) && decide (es.len = np) && l.all noStar && noStar y && (if bag = true then (match y with
          | .Name z _ => (match S.bs with
            | some i => slotB S i z
            | none => false) && ckA S Γ es l
          | _ => false) else ckA S Γ es (y :: l))
      | none => false)
    | _ => false)
  | .bi f a, e => (match e with
    | .Call (.Name x _) [y] [] _ => x == Str.ofString (biOf f) && glB S x && ckE S Γ (if need1 f = true then 1 else 9) a y && noStar y
    | _ => false)
  | _, _ => false
def ckA (S : Sc) (Γ : Gam) : Exs → List Expr → Bool
  | .nil, l => (match l with
    | [] => true
    | _ => false)
  | .cons e es, l => (match l with
    | x :: r => ckE S Γ 0 e x && ckA S Γ es r && noStar x
    | _ => false)
def ckO (S : Sc) (Γ : Gam) : Oe → Option Expr → Bool
  | .no, l => (match l with
    | none => true
    | _ => false)
  | .yes e, l => (match l with
    | some x => ckE S Γ 9 e x
    | _ => false)
def ckC (S : Sc) (Γ : Gam) : Oe → List Expr → Bool
  | .no, l => (match l with
    | [] => true
    | _ => false)
  | .yes e, l => (match l with
    | [x] => ckT S Γ e x
    | _ => false)
def ckI (S : Sc) (Γ : Gam) : Dn.It → Expr → Expr → Bool
  | .ex e, _, x => ckE S Γ 0 e x
  | .r1 e, _, x => (match x with
    | .Call (.Name f _) [y] [] _ => f == Str.ofString "range" && glB S f && ckE S Γ 9 e y && noStar y
    | _ => false)
  | .r2 e e2, _, x => (match x with
    | .Call (.Name f _) [y, z] [] _ => f == Str.ofString "range" && glB S f && ckE S Γ 9 e y && ckE S Γ 9 e2 z && noStar y && noStar z
    | _ => false)
  | .enum e, t, x => (match t, x with
    | .Tuple _ _ _, .Call (.Name f _) [y] [] _ => f == Str.ofString "enumerate" && glB S f && ckE S Γ 0 e y && noStar y
    | _, _ => false)
  | _, _, _ => false
end
end Dn

set_option Elab.async false
set_option linter.all false
set_option maxRecDepth 100000
/-! Dn, part S: the check of expressions is right. -/
namespace Dn
open PySem PySem.Spec PyProof.Rows L2
section
variable {S : Sc} {X : Cx} {C : Cn} {Γ : Gam} {m : Nat}
theorem and2 {a b : Bool} (h : (a && b) = true) : a = true ∧ b = true := Bool.and_eq_true_iff.mp h
theorem pe_one {op : BoolOp} {e : Expr} {t : TE} {pos : Pos} (h : PE X e t) : PE X (.BoolOp op [e] pos) t := ⟨fun pins s σ H Q I q => h.run pins s σ H Q I q⟩
theorem plain_of {l : List Expr} (h : l.all noStar = true) (pos : Pos) (env : Env) : (backTo pos (starEach l env)).any (·.1) = false := by
  induction l with
  | nil => rfl
  | cons e es ih =>
    rw [List.all_cons] at h
    obtain ⟨h1, h2⟩ := and2 h
    rw [star_of h1]
    have := ih h2
    unfold backTo at this ⊢
    simpa using this
theorem cbs {f : Bi} (hx : XOk X 0) : CallR X (biV f) (rBi X.K f) := by
  cases f with
  | len => exact cb_len
  | tuple => exact cb_tuple
  | list => exact cb_list hx
  | dict => exact cb_dict hx
  | sorted => exact cb_sorted hx
  | abs => exact cb_abs
  | int => exact cb_int
  | str => exact cb_str
  | repr => exact cb_repr hx
  | all => exact cb_all hx
  | any => exact cb_any hx
  | sum => exact cb_sum hx
theorem call_ok (xs : XS S X C) {x nm : Str} {f np : Nat} {bag : Bool} {es : Exs} {y : Expr} {l : List Expr} {p pos : Pos} (hg : glB S x = true) (hn : okName x = true) (hf : S.fns.find? (fun p => p.1 == x) = some (nm, f, bag, np)) (hl : es.len = np) (hst : l.all noStar = true) (hy : noStar y = true)
    (ha : PA X (y :: l) (rb C Γ bag es)) : PE X (.Call (.Name x p) (y :: l) [] pos) (rd C m Γ (.call f es)) := by
  have h1 := List.mem_of_find?_eq_some hf
  have h2 := List.find?_some hf
  have e : nm = x := eq_of_beq h2
  subst e
  obtain ⟨k, fa, fd, ps, F, hr, hm, hk, hb⟩ := xs.fns _ h1
  exact s_call F hr xs.K xs.ok (gl_of xs hg) hm hk hb ha hl (name_of hn).1 (star_of hy _ _) (plain_of hst _ _)
theorem okB_ok {e : Ex} (xs : XS S X C) (h : okB S Γ e = true) : okE C Γ e := by
  unfold okB at h
  unfold okE
  rw [xs.own]
  rcases Bool.or_eq_true_iff.mp h with h | h
  · exact .inl (by simpa using h)
  · exact .inr (by simpa using h)
theorem mayB_ok {i : Nat} (xs : XS S X C) (h : mayBs S i = true) : C.bs ≠ some i := by
  unfold mayBs at h
  rw [xs.bs]
  split at h
  · rename_i j e
    rw [e]
    intro z
    cases z
    simp at h
  · rename_i e
    rw [e]
    intro z
    cases z
theorem pair_tp {it : Dn.It} {tg : Tg} (h : (!itPair it || isTp tg) = true) : itPair it = true → isTp tg = true := fun z => by
  rw [z] at h
  simpa using h
theorem own_snd (N : List Str) (scope : Scope) (l : List Nat) : (ownOf N scope l).map (·.2) = l := by
  unfold ownOf
  rw [List.map_map]
  exact List.map_id' l
end
def isBO : Expr → Bool
  | .BoolOp _ _ _ => true
  | _ => false
theorem bs_of {S : Sc} {X : Cx} {C : Cn} {x : Str} (xs : XS S X C) (h : (match S.bs with
      | some i => slotB S i x
      | none => false) = true) : ∃ i, C.bs = some i ∧ SlotM X i x := by
  cases e : S.bs with
  | none => rw [e] at h; cases h
  | some i =>
    rw [e] at h
    have s := slot_of xs h
    exact ⟨i, xs.bs.trans e, s.ix, s.vis, s.deb, s.cd⟩
mutual
theorem ckE_ok {C : Cn} : ∀ (ee : Ex) (S : Sc) (X : Cx) (Γ : Gam) (m : Nat) (e : Expr), XS S X C → ckE S Γ m ee e = true → PE X e (rd C m Γ ee)
  | .var i, S, X, Γ, m, e, xs, h => by
    unfold ckE at h
    split at h
    · obtain ⟨h1, h2⟩ := and2 h
      have s := slot_of xs h1
      exact s_var s.ix s.vis (of_decide_eq_true h2) s.deb s.cd
    · cases h
  | .kn, S, X, Γ, m, e, xs, h => by
    unfold ckE at h
    split at h
    · exact s_non
    · cases h
  | .kb b, S, X, Γ, m, e, xs, h => by
    unfold ckE at h
    split at h
    · have e := eq_of_beq h; subst e; exact s_bl
    · cases h
  | .ki i, S, X, Γ, m, e, xs, h => by
    unfold ckE at h
    split at h
    · have e := of_decide_eq_true h; subst e; exact s_int
    · cases h
  | .ks s, S, X, Γ, m, e, xs, h => by
    unfold ckE at h
    split at h
    · obtain ⟨h1, h2⟩ := and2 h
      have e := eq_of_beq h1; subst e; exact s_str (of_decide_eq_true h2)
    · cases h
  | .glo x d, S, X, Γ, m, e, xs, h => by unfold ckE at h; cases h
  | .tup es, S, X, Γ, m, e, xs, h => by
    unfold ckE at h
    split at h
    · obtain ⟨h1, h2⟩ := and2 h
      exact s_tup (ckA_ok es S X Γ _ xs h1) (of_decide_eq_true h2)
    · cases h
  | .lst es, S, X, Γ, m, e, xs, h => by
    unfold ckE at h
    split at h
    · obtain ⟨h1, h2⟩ := and2 h
      exact s_lst (ckA_ok es S X Γ _ xs h1) (of_decide_eq_true h2)
    · cases h
  | .tst a b, S, X, Γ, m, e, xs, h => by unfold ckE at h; cases h
  | .dsp a, S, X, Γ, m, e, xs, h => by unfold ckE at h; cases h
  | .dmg a b c, S, X, Γ, m, e, xs, h => by unfold ckE at h; cases h
  | .bin op a b, S, X, Γ, m, e, xs, h => by
    unfold ckE at h
    split at h
    · obtain ⟨h1, h3⟩ := and2 h
      obtain ⟨h1, h2⟩ := and2 h1
      have e := of_decide_eq_true h1; subst e
      exact s_bin xs.K (ckE_ok a S X Γ _ _ xs h2) (ckE_ok b S X Γ _ _ xs h3)
    · cases h
  | .neg a, S, X, Γ, m, e, xs, h => by
    unfold ckE at h
    split at h
    · exact s_neg (ckE_ok a S X Γ _ _ xs h)
    · cases h
  | .cmp op a b, S, X, Γ, m, e, xs, h => by
    unfold ckE at h
    split at h
    · obtain ⟨h1, h4⟩ := and2 h
      obtain ⟨h1, h3⟩ := and2 h1
      obtain ⟨h1, h2⟩ := and2 h1
      have e := of_decide_eq_true h1; subst e
      exact s_cmp xs.K xs.ok (ckE_ok a S X Γ _ _ xs h2) (ckE_ok b S X Γ _ _ xs h3) (by simpa using h4)
    · cases h
  | .chn op op' a b c, S, X, Γ, m, e, xs, h => by
    unfold ckE at h
    split at h
    · obtain ⟨h1, h6⟩ := and2 h
      obtain ⟨h1, h5⟩ := and2 h1
      obtain ⟨h1, h4⟩ := and2 h1
      obtain ⟨h1, h3⟩ := and2 h1
      obtain ⟨h1, h2⟩ := and2 h1
      have e := of_decide_eq_true h1; subst e
      have e := of_decide_eq_true h2; subst e
      exact s_chn xs.K xs.ok (ckE_ok a S X Γ _ _ xs h3) (ckE_ok b S X Γ _ _ xs h4) (ckE_ok c S X Γ _ _ xs h5) (by simpa using h6)
    · cases h
  | .isn a, S, X, Γ, m, e, xs, h => by
    unfold ckE at h
    split at h
    · exact s_isn (ckE_ok a S X Γ _ _ xs h)
    · cases h
  | .ntn a, S, X, Γ, m, e, xs, h => by
    unfold ckE at h
    split at h
    · exact s_ntn (ckE_ok a S X Γ _ _ xs h)
    · cases h
  | .isb b a, S, X, Γ, m, e, xs, h => by
    unfold ckE at h
    split at h
    · obtain ⟨h1, h2⟩ := and2 h
      have e := eq_of_beq h1; subst e
      exact s_isb (ckE_ok a S X Γ _ _ xs h2)
    · cases h
  | .and_ a b, S, X, Γ, m, e, xs, h => by
    unfold ckE at h
    split at h
    · obtain ⟨h1, h2⟩ := and2 h
      exact s_and (ckE_ok a S X Γ _ _ xs h1) (pe_one (ckE_ok b S X Γ _ _ xs h2))
    · obtain ⟨h1, h2⟩ := and2 h
      exact s_and (ckE_ok a S X Γ _ _ xs h1) (ckE_ok b S X Γ _ _ xs h2)
    · cases h
  | .or_ a b, S, X, Γ, m, e, xs, h => by
    unfold ckE at h
    split at h
    · obtain ⟨h1, h2⟩ := and2 h
      exact s_or (ckE_ok a S X Γ _ _ xs h1) (pe_one (ckE_ok b S X Γ _ _ xs h2))
    · obtain ⟨h1, h2⟩ := and2 h
      exact s_or (ckE_ok a S X Γ _ _ xs h1) (ckE_ok b S X Γ _ _ xs h2)
    · cases h
  | .not_ a, S, X, Γ, m, e, xs, h => by
    unfold ckE at h
    split at h
    · exact s_not (ckE_ok a S X Γ _ _ xs h)
    · cases h
  | .ite t a b, S, X, Γ, m, e, xs, h => by
    unfold ckE at h
    split at h
    · obtain ⟨h1, h6⟩ := and2 h
      obtain ⟨h1, h5⟩ := and2 h1
      obtain ⟨h1, h4⟩ := and2 h1
      obtain ⟨h1, h3⟩ := and2 h1
      obtain ⟨h1, h2⟩ := and2 h1
      exact s_ite (of_decide_eq_true h6) (ckT_ok t S X Γ _ xs h1).1 (ckE_ok a S X Γ _ _ xs h2) (ckE_ok b S X Γ _ _ xs h3) (okB_ok xs h4) (okB_ok xs h5)
    · cases h
  | .idx a b, S, X, Γ, m, e, xs, h => by
    unfold ckE at h
    split at h
    · obtain ⟨h1, h3⟩ := and2 h
      obtain ⟨h1, h2⟩ := and2 h1
      exact s_idx xs.K xs.ok (ckE_ok a S X Γ _ _ xs h1) (ckE_ok b S X Γ _ _ xs h2) (by simpa using h3)
    · cases h
  | .slc a lo hi, S, X, Γ, m, e, xs, h => by
    unfold ckE at h
    split at h
    · obtain ⟨h1, h3⟩ := and2 h
      obtain ⟨h1, h2⟩ := and2 h1
      exact s_slc xs.K (ckE_ok a S X Γ _ _ xs h1) (ckO_ok lo S X Γ _ xs h2) (ckO_ok hi S X Γ _ xs h3)
    · cases h
  | .call f es, S, X, Γ, m, e, xs, h => by
    unfold ckE at h
    split at h
    · obtain ⟨h1, h3⟩ := and2 h
      obtain ⟨h1, h2⟩ := and2 h1
      split at h3
      · rename_i hf
        obtain ⟨h3, h7⟩ := and2 h3
        obtain ⟨h3, h6⟩ := and2 h3
        obtain ⟨h3, h5⟩ := and2 h3
        obtain ⟨h3, h4⟩ := and2 h3
        have e := of_decide_eq_true h3; subst e
        split at h7
        · rename_i hb
          split at h7
          · obtain ⟨h8, h9⟩ := and2 h7
            split at h8
            · rename_i hbs
              subst hb
              exact call_ok xs h1 h2 hf (of_decide_eq_true h4) h5 h6 (a_bag (slot_of xs h8) (xs.bs.trans hbs) (ckA_ok es S X Γ _ xs h9))
            · cases h8
          · cases h7
        · rename_i hb
          have hb := eq_false_of_ne_true hb
          subst hb
          exact call_ok xs h1 h2 hf (of_decide_eq_true h4) h5 h6 (a_pure (ckA_ok es S X Γ _ xs h7))
      · cases h3
    · cases h
  | .bi f a, S, X, Γ, m, e, xs, h => by
    unfold ckE at h
    split at h
    · obtain ⟨h1, h4⟩ := and2 h
      obtain ⟨h1, h3⟩ := and2 h1
      obtain ⟨h1, h2⟩ := and2 h1
      exact s_bi (eq_of_beq h1) xs.K xs.ok (cbs xs.ok) (gl_of xs h2) (ckE_ok a S X Γ _ _ xs h3) (fun z => by rw [if_pos z]; exact Nat.le_refl _) h4
    · cases h
  | .isi a t, S, X, Γ, m, e, xs, h => by unfold ckE at h; cases h
  | .get a t, S, X, Γ, m, e, xs, h => by unfold ckE at h; cases h
  | .get2 a t c, S, X, Γ, m, e, xs, h => by unfold ckE at h; cases h
  | .index a b, S, X, Γ, m, e, xs, h => by
    unfold ckE at h
    split at h
    · obtain ⟨h1, h6⟩ := and2 h
      obtain ⟨h1, h5⟩ := and2 h1
      obtain ⟨h1, h4⟩ := and2 h1
      obtain ⟨h1, h3⟩ := and2 h1
      obtain ⟨h1, h2⟩ := and2 h1
      have e1 := eq_of_beq h1
      subst e1
      exact s_index xs.K (ckE_ok a S X Γ _ _ xs h2) (ckE_ok b S X Γ _ _ xs h3) h4 (plAt_ok h6) h5
    · cases h
  | .bgi k, S, X, Γ, m, e, xs, h => by
    unfold ckE at h
    split at h
    · obtain ⟨h1, h2⟩ := and2 h
      have e := of_decide_eq_true h2
      subst e
      obtain ⟨i, b1, b2⟩ := bs_of xs h1
      exact s_bgi b2 b1
    · cases h
  | .bgc, S, X, Γ, m, e, xs, h => by
    unfold ckE at h
    split at h
    · obtain ⟨k5, h6⟩ := and2 h
      obtain ⟨k4, h5⟩ := and2 k5
      obtain ⟨k3, h4⟩ := and2 k4
      obtain ⟨k2, h3⟩ := and2 k3
      obtain ⟨h1, h2⟩ := and2 k2
      obtain ⟨i, b1, b2⟩ := bs_of xs h1
      rw [of_decide_eq_true h3, of_decide_eq_true h4, of_decide_eq_true h5, of_decide_eq_true h6, ← eq_of_beq h2]
      exact s_bgc b2 b1
    · cases h
  | .lc elt own tg it c, S, X, Γ, m, e, xs, h => by
    unfold ckE at h
    split at h
    · rename_i x t i ifs scope pos
      obtain ⟨h1, h10⟩ := and2 h
      obtain ⟨h1, h9⟩ := and2 h1
      obtain ⟨h1, h8⟩ := and2 h1
      obtain ⟨h1, h7⟩ := and2 h1
      obtain ⟨h1, h6⟩ := and2 h1
      obtain ⟨h1, h5⟩ := and2 h1
      obtain ⟨h1, h4⟩ := and2 h1
      obtain ⟨h1, h3⟩ := and2 h1
      obtain ⟨h1, h2⟩ := and2 h1
      have key := s_lc (C := C) (X := X) (Γ := Γ) (m := m) (n := 0) (elt := x) (tgt := t) (iter := i) (ifs := ifs) (scope := scope) (own := ownOf S.N scope own) (eelt := elt) (etg := tg) (eit := it) (eif := c) (pos := pos) xs.K xs.ok (by rw [xs.N]; exact xs.nd) (ckI_ok it S X Γ t i xs h3)
        (by rw [xs.N, xs.sc]; exact blkOk_by h1)
        (fun s H Ca cl fp => ckG_ok (xs.blk (s := s) (H := H) (cl := cl) (Ca := Ca) (fp := fp)) tg t h2)
        (fun s H Ca cl fp => by rw [own_snd]; exact ckC_ok c _ _ _ _ (xs.blk (s := s) (H := H) (cl := cl) (Ca := Ca) (fp := fp)) h4)
        (fun s H Ca cl fp => by rw [own_snd]; exact ckE_ok elt _ _ _ _ _ (xs.blk (s := s) (H := H) (cl := cl) (Ca := Ca) (fp := fp)) h5)
        (plIt_ok h6) (by rw [own_snd]; exact fun j hj => mayB_ok xs (List.all_eq_true.mp h7 j hj)) (by rw [own_snd]; exact fun j hj => by simpa using List.all_eq_true.mp h8 j hj)
        (by rw [own_snd]; have z := okB_ok (Γ := setz Γ own) xs h9; exact z) (pair_tp h10)
      rw [own_snd] at key
      exact key
    · cases h
  | .lc2 _ _ _ _ _ _ _ _, S, X, Γ, m, e, xs, h => by unfold ckE at h; cases h
  | .dc _ _ _ _ _ _, S, X, Γ, m, e, xs, h => by unfold ckE at h; cases h
theorem ckT_ok {C : Cn} : ∀ (ee : Ex) (S : Sc) (X : Cx) (Γ : Gam) (e : Expr), XS S X C → ckT S Γ ee e = true → PT X e (rt C Γ ee) ∧ (isBO e = true → PW X e (rt C Γ ee))
  | .var i, S, X, Γ, e, xs, h => by
    unfold ckT at h
    split at h
    · obtain ⟨h1, h2⟩ := and2 h
      have s := slot_of xs h1
      exact ⟨t_val (s_var (C := C) s.ix s.vis (of_decide_eq_true h2) s.deb s.cd) (plT_ok rfl), fun z => by cases z⟩
    · cases h
  | .kb b, S, X, Γ, e, xs, h => by
    unfold ckT at h
    split at h
    · have e := eq_of_beq h; subst e; exact ⟨t_val (s_bl (m := 9)) (plT_ok rfl), fun z => by cases z⟩
    · cases h
  | .cmp op a b, S, X, Γ, e, xs, h => by
    unfold ckT at h
    split at h
    · obtain ⟨h1, h4⟩ := and2 h
      obtain ⟨h1, h3⟩ := and2 h1
      obtain ⟨h1, h2⟩ := and2 h1
      have e := of_decide_eq_true h1; subst e
      exact ⟨t_cmp xs.K xs.ok (ckE_ok a S X Γ _ _ xs h2) (ckE_ok b S X Γ _ _ xs h3) (by simpa using h4), fun z => by cases z⟩
    · cases h
  | .chn op op' a b c, S, X, Γ, e, xs, h => by
    unfold ckT at h
    split at h
    · obtain ⟨h1, h6⟩ := and2 h
      obtain ⟨h1, h5⟩ := and2 h1
      obtain ⟨h1, h4⟩ := and2 h1
      obtain ⟨h1, h3⟩ := and2 h1
      obtain ⟨h1, h2⟩ := and2 h1
      have e := of_decide_eq_true h1; subst e
      have e := of_decide_eq_true h2; subst e
      exact ⟨t_chn xs.K xs.ok (ckE_ok a S X Γ _ _ xs h3) (ckE_ok b S X Γ _ _ xs h4) (ckE_ok c S X Γ _ _ xs h5) (by simpa using h6), fun z => by cases z⟩
    · cases h
  | .isn a, S, X, Γ, e, xs, h => by
    unfold ckT at h
    split at h
    · exact ⟨t_isn (ckE_ok a S X Γ _ _ xs h), fun z => by cases z⟩
    · cases h
  | .ntn a, S, X, Γ, e, xs, h => by
    unfold ckT at h
    split at h
    · exact ⟨t_ntn (ckE_ok a S X Γ _ _ xs h), fun z => by cases z⟩
    · cases h
  | .isb b a, S, X, Γ, e, xs, h => by
    unfold ckT at h
    split at h
    · obtain ⟨h1, h2⟩ := and2 h
      have e := eq_of_beq h1; subst e
      exact ⟨t_isb (ckE_ok a S X Γ _ _ xs h2), fun z => by cases z⟩
    · cases h
  | .and_ a b, S, X, Γ, e, xs, h => by
    unfold ckT at h
    split at h
    · obtain ⟨h1, h2⟩ := and2 h
      exact ⟨(w_and (ckT_ok a S X Γ _ xs h1).1 (pw_and1 (ckT_ok b S X Γ _ xs h2).1)).pt, fun _ => w_and (ckT_ok a S X Γ _ xs h1).1 (pw_and1 (ckT_ok b S X Γ _ xs h2).1)⟩
    · obtain ⟨h1, h2⟩ := and2 h
      have w := w_and (ckT_ok a S X Γ _ xs h1).1 ((ckT_ok b S X Γ _ xs h2).2 rfl)
      exact ⟨w.pt, fun _ => w⟩
    · cases h
  | .or_ a b, S, X, Γ, e, xs, h => by
    unfold ckT at h
    split at h
    · obtain ⟨h1, h2⟩ := and2 h
      exact ⟨(w_or (ckT_ok a S X Γ _ xs h1).1 (pw_or1 (ckT_ok b S X Γ _ xs h2).1)).pt, fun _ => w_or (ckT_ok a S X Γ _ xs h1).1 (pw_or1 (ckT_ok b S X Γ _ xs h2).1)⟩
    · obtain ⟨h1, h2⟩ := and2 h
      have w := w_or (ckT_ok a S X Γ _ xs h1).1 ((ckT_ok b S X Γ _ xs h2).2 rfl)
      exact ⟨w.pt, fun _ => w⟩
    · cases h
  | .not_ a, S, X, Γ, e, xs, h => by
    unfold ckT at h
    split at h
    · exact ⟨t_not (ckT_ok a S X Γ _ xs h).1, fun z => by cases z⟩
    · cases h
  | .idx a b, S, X, Γ, e, xs, h => by
    unfold ckT at h
    split at h
    · obtain ⟨h1, h3⟩ := and2 h
      obtain ⟨h1, h2⟩ := and2 h1
      exact ⟨t_val (m := 9) (s_idx xs.K xs.ok (ckE_ok a S X Γ _ _ xs h1) (ckE_ok b S X Γ _ _ xs h2) (by simpa using h3)) (plT_ok rfl), fun z => by cases z⟩
    · cases h
  | .call f es, S, X, Γ, e, xs, h => by
    unfold ckT at h
    split at h
    · obtain ⟨h1, h3⟩ := and2 h
      obtain ⟨h1, h2⟩ := and2 h1
      split at h3
      · rename_i hf
        obtain ⟨h3, h7⟩ := and2 h3
        obtain ⟨h3, h6⟩ := and2 h3
        obtain ⟨h3, h5⟩ := and2 h3
        obtain ⟨h3, h4⟩ := and2 h3
        have e := of_decide_eq_true h3; subst e
        split at h7
        · rename_i hb
          split at h7
          · obtain ⟨h8, h9⟩ := and2 h7
            split at h8
            · rename_i hbs
              subst hb
              exact ⟨t_val (m := 9) (call_ok xs h1 h2 hf (of_decide_eq_true h4) h5 h6 (a_bag (slot_of xs h8) (xs.bs.trans hbs) (ckA_ok es S X Γ _ xs h9))) (plT_ok rfl), fun z => by cases z⟩
            · cases h8
          · cases h7
        · rename_i hb
          have hb := eq_false_of_ne_true hb
          subst hb
          exact ⟨t_val (m := 9) (call_ok xs h1 h2 hf (of_decide_eq_true h4) h5 h6 (a_pure (ckA_ok es S X Γ _ xs h7))) (plT_ok rfl), fun z => by cases z⟩
      · cases h3
    · cases h
  | .bi f a, S, X, Γ, e, xs, h => by
    unfold ckT at h
    split at h
    · obtain ⟨h1, h4⟩ := and2 h
      obtain ⟨h1, h3⟩ := and2 h1
      obtain ⟨h1, h2⟩ := and2 h1
      exact ⟨t_val (m := 9) (s_bi (eq_of_beq h1) xs.K xs.ok (cbs xs.ok) (gl_of xs h2) (ckE_ok a S X Γ _ _ xs h3) (fun z => by rw [if_pos z]; exact Nat.le_refl _) h4) (plT_ok rfl), fun z => by cases z⟩
    · cases h
  | .kn, S, X, Γ, e, xs, h => by unfold ckT at h; cases h
  | .ki i, S, X, Γ, e, xs, h => by unfold ckT at h; cases h
  | .ks s, S, X, Γ, e, xs, h => by unfold ckT at h; cases h
  | .glo x d, S, X, Γ, e, xs, h => by unfold ckT at h; cases h
  | .tup es, S, X, Γ, e, xs, h => by unfold ckT at h; cases h
  | .lst es, S, X, Γ, e, xs, h => by unfold ckT at h; cases h
  | .tst a b, S, X, Γ, e, xs, h => by unfold ckT at h; cases h
  | .dsp a, S, X, Γ, e, xs, h => by unfold ckT at h; cases h
  | .dmg a b c, S, X, Γ, e, xs, h => by unfold ckT at h; cases h
  | .bin op a b, S, X, Γ, e, xs, h => by unfold ckT at h; cases h
  | .neg a, S, X, Γ, e, xs, h => by unfold ckT at h; cases h
  | .ite t a b, S, X, Γ, e, xs, h => by unfold ckT at h; cases h
  | .slc a lo hi, S, X, Γ, e, xs, h => by unfold ckT at h; cases h
  | .isi a t, S, X, Γ, e, xs, h => by unfold ckT at h; cases h
  | .get a t, S, X, Γ, e, xs, h => by unfold ckT at h; cases h
  | .get2 a t c, S, X, Γ, e, xs, h => by unfold ckT at h; cases h
  | .index a t, S, X, Γ, e, xs, h => by unfold ckT at h; cases h
  | .bgi _, S, X, Γ, e, xs, h => by unfold ckT at h; cases h
  | .bgc, S, X, Γ, e, xs, h => by unfold ckT at h; cases h
  | .lc _ _ _ _ _, S, X, Γ, e, xs, h => by unfold ckT at h; cases h
  | .lc2 _ _ _ _ _ _ _ _, S, X, Γ, e, xs, h => by unfold ckT at h; cases h
  | .dc _ _ _ _ _ _, S, X, Γ, e, xs, h => by unfold ckT at h; cases h
theorem ckA_ok {C : Cn} : ∀ (ee : Exs) (S : Sc) (X : Cx) (Γ : Gam) (l : List Expr), XS S X C → ckA S Γ ee l = true → PA X l (ra C Γ ee)
  | .nil, S, X, Γ, l, xs, h => by
    unfold ckA at h
    split at h
    · exact a_nil
    · cases h
  | .cons e es, S, X, Γ, l, xs, h => by
    unfold ckA at h
    split at h
    · obtain ⟨h1, h3⟩ := and2 h
      obtain ⟨h1, h2⟩ := and2 h1
      exact a_cons (ckE_ok e S X Γ _ _ xs h1) (ckA_ok es S X Γ _ xs h2) h3
    · cases h
theorem ckO_ok {C : Cn} : ∀ (ee : Oe) (S : Sc) (X : Cx) (Γ : Gam) (l : Option Expr), XS S X C → ckO S Γ ee l = true → PO X l (ro C Γ ee)
  | .no, S, X, Γ, l, xs, h => by
    unfold ckO at h
    split at h
    · exact o_no
    · cases h
  | .yes e, S, X, Γ, l, xs, h => by
    unfold ckO at h
    split at h
    · exact o_yes (ckE_ok e S X Γ _ _ xs h)
    · cases h
theorem ckC_ok {C : Cn} : ∀ (ee : Oe) (S : Sc) (X : Cx) (Γ : Gam) (l : List Expr), XS S X C → ckC S Γ ee l = true → PTs X l (rc C Γ ee)
  | .no, S, X, Γ, l, xs, h => by
    unfold ckC at h
    split at h
    · exact c_no
    · cases h
  | .yes e, S, X, Γ, l, xs, h => by
    unfold ckC at h
    split at h
    · exact c_yes (ckT_ok e S X Γ _ xs h).1
    · cases h
theorem ckI_ok {C : Cn} : ∀ (ee : Dn.It) (S : Sc) (X : Cx) (Γ : Gam) (t e : Expr), XS S X C → ckI S Γ ee t e = true → PI X t e (ri C Γ ee)
  | .ex a, S, X, Γ, t, e, xs, h => by
    unfold ckI at h
    exact i_ex xs.K (ckE_ok a S X Γ _ _ xs h)
  | .r1 a, S, X, Γ, t, e, xs, h => by
    unfold ckI at h
    split at h
    · obtain ⟨h1, h4⟩ := and2 h
      obtain ⟨h1, h3⟩ := and2 h1
      obtain ⟨h1, h2⟩ := and2 h1
      have e := eq_of_beq h1; subst e
      exact i_r1 xs.ok (gl_of xs h2) (ckE_ok a S X Γ _ _ xs h3) h4
    · cases h
  | .r2 a b, S, X, Γ, t, e, xs, h => by
    unfold ckI at h
    split at h
    · obtain ⟨h1, h6⟩ := and2 h
      obtain ⟨h1, h5⟩ := and2 h1
      obtain ⟨h1, h4⟩ := and2 h1
      obtain ⟨h1, h3⟩ := and2 h1
      obtain ⟨h1, h2⟩ := and2 h1
      have e := eq_of_beq h1; subst e
      exact i_r2 xs.ok (gl_of xs h2) (ckE_ok a S X Γ _ _ xs h3) (ckE_ok b S X Γ _ _ xs h4) h5 h6
    · cases h
  | .enum a, S, X, Γ, t, e, xs, h => by
    unfold ckI at h
    split at h
    · obtain ⟨h1, h4⟩ := and2 h
      obtain ⟨h1, h3⟩ := and2 h1
      obtain ⟨h1, h2⟩ := and2 h1
      have e := eq_of_beq h1; subst e
      exact i_enum xs.K xs.ok (gl_of xs h2) (ckE_ok a S X Γ _ _ xs h3) h4
    · cases h
  | .zip a b, S, X, Γ, t, e, xs, h => by unfold ckI at h; cases h
  | .items a, S, X, Γ, t, e, xs, h => by unfold ckI at h; cases h
  | .values a, S, X, Γ, t, e, xs, h => by unfold ckI at h; cases h
end
end Dn

set_option Elab.async false
set_option linter.all false
set_option maxRecDepth 100000
/-! Dn, part T: the check of statements. -/
namespace Dn
open PySem PySem.Spec PyProof.Rows L2
def Sc.isF (S : Sc) : Bool := match S.sc.kind with
  | .function => true
  | _ => false
def lcLocal (S : Sc) (x : Str) (p2 : Pos) (sc : Scope) (p : Pos) : Bool := S.sc.names.lookup x == some NameKind.local && p2.line == p.line && !(sc.names.any fun (n, k) => n == x && (k == .local || k == .cell))
/-- the value is stored plainly -/
def nsw (S : Sc) (v : Expr) (x : Str) (p2 : Pos) : Bool := match v with
  | .ListComp _ _ sc p => !lcLocal S x p2 sc p
  | .DictComp _ _ _ sc p => !lcLocal S x p2 sc p
  | .SetComp _ _ _ _ => false
  | _ => true
theorem nsw_ok {S : Sc} {env : Env} (hs : env.scope = S.sc) {v : Expr} {x : Str} {p2 : Pos} {l : Nat} (h : nsw S v x p2 = true) : swapsWith v (some (.Name x p2)) l env = pure false := by
  have key : ∀ (b : Bool) (sc : Scope) (p : Pos), lcLocal S x p2 sc p = false → (b && env.kindOf x == some NameKind.local && p2.line == p.line && !(sc.names.any fun (n, k) => n == x && (k == .local || k == .cell))) = false := fun b sc p h => by
    unfold lcLocal at h
    have e : env.kindOf x = S.sc.names.lookup x := by unfold Env.kindOf; rw [hs]
    rw [e]
    cases b
    · rfl
    · rw [Bool.true_and]; exact h
  cases v with
  | ListComp a b sc p =>
    unfold nsw at h
    unfold swapsWith
    show pure _ = pure false
    rw [Expr.pos, key _ sc p (by simpa using h)]
  | DictComp a b c sc p =>
    unfold nsw at h
    unfold swapsWith
    show pure _ = pure false
    rw [Expr.pos, key _ sc p (by simpa using h)]
  | SetComp a b c d => cases h
  | _ => rfl
def noComp : Expr → Bool
  | .ListComp _ _ _ _ => false
  | .SetComp _ _ _ _ => false
  | .DictComp _ _ _ _ _ => false
  | _ => true
theorem noComp_ok {e : Expr} {env : Env} {l : Nat} (h : noComp e = true) : swapsWith e none l env = pure false := by
  cases e <;> first | rfl | cases h
theorem swT_ok {ts : List Expr} {k : Nat} {pt : Pos} {e : Expr} {l : Nat} {env : Env} : swapsWithSole [.Tuple ts k pt] e l env = pure false := by
  cases e <;> rfl
theorem swS_ok {o i : Expr} {pt : Pos} {e : Expr} {l : Nat} {env : Env} : swapsWith e (some (.Subscript o i pt)) l env = pure false := by
  cases e <;> rfl
def isTup : Expr → Bool
  | .Tuple _ _ _ => true
  | _ => false
theorem swN_ok {ts : List Expr} {k : Nat} {pt : Pos} {e : Expr} {env : Env} (h : isTup e = false) : swappedStores [.Tuple ts k pt] e env = pure none := by
  cases e <;> first | rfl | cases h
/-- a, b = x, y: is the pair not made -/
def parB (S : Sc) (x y : Str) (px py : Pos) (a b : Expr) : Bool := S.isF && S.sc.names.lookup x == some NameKind.local && S.sc.names.lookup y == some NameKind.local && py.line == px.line && !(x == y) && noStar a && noStar b && !([a, b].all (foldedForSure 8)) && !([a, b].all (constantsAlone 8))
theorem parB_ok {S : Sc} {env : Env} (hs : env.scope = S.sc) {x y : Str} {px py pt pt2 : Pos} {k k2 : Nat} {a b : Expr} (h : parB S x y px py a b = true) :
    swappedStores [.Tuple [.Name x px, .Name y py] k pt] (.Tuple [a, b] k2 pt2) env = pure (some [x, y]) := by
  unfold parB at h
  obtain ⟨h, h9⟩ := and2 h
  obtain ⟨h, h8⟩ := and2 h
  obtain ⟨h, h7⟩ := and2 h
  obtain ⟨h, h6⟩ := and2 h
  obtain ⟨h, h5⟩ := and2 h
  obtain ⟨h, h4⟩ := and2 h
  obtain ⟨h, h3⟩ := and2 h
  obtain ⟨h1, h2⟩ := and2 h
  have kf : env.blockKind = .function := by
    unfold Env.blockKind
    rw [hs]
    unfold Sc.isF at h1
    split at h1
    · rename_i e; rw [e]; rfl
    · cases h1
  have k1 : env.kindOf x = some .local := by unfold Env.kindOf; rw [hs]; exact eq_of_beq h2
  have k2 : env.kindOf y = some .local := by unfold Env.kindOf; rw [hs]; exact eq_of_beq h3
  have xy : (x == y) = false := by simpa using h5
  have yx : (y == x) = false := by
    rw [beq_eq_false_iff_ne] at xy ⊢
    exact fun z => xy z.symm
  have l1 : (py.line == px.line) = true := h4
  have st : ([a, b].any fun | .Starred .. => true | _ => false) = false := by
    have q : ∀ e, noStar e = true → (match e with | .Starred .. => true | _ => false) = false := fun e h => by cases e <;> first | rfl | cases h
    simp only [List.any_cons, List.any_nil, q a h6, q b h7, Bool.or_false]
  have h8' : ([a, b].all (foldedForSure 8)) = false := by
    cases q : [a, b].all (foldedForSure 8) with
    | true => rw [q] at h8; cases h8
    | false => rfl
  have h9' : ([a, b].all (constantsAlone 8)) = false := by
    cases q : [a, b].all (constantsAlone 8) with
    | true => rw [q] at h9; cases h9
    | false => rfl
  have d2 : [x, y].eraseDups = [x, y] := by simp [List.eraseDups_cons, yx]
  unfold swappedStores
  simp only [kf, k1, k2, Expr.pos, l1, List.filterMap, List.head?, Option.map, Option.getD, h8', h9', beq_self_eq_true, Bool.and_self, if_true]
  refine (if_neg (by simp)).trans ((if_neg fun z => ?_).trans ((if_neg fun z => ?_).trans ?_))
  · have z2 : ([a, b].any fun | .Starred .. => true | _ => false) = true := z
    rw [st] at z2; cases z2
  · rw [d2] at z
    simp at z
  · rfl
/-- a test of two levels' lists -/
def eqGam (a b : Gam) : Bool := decide (a = b)
mutual
/-- what levels stand behind a statement; some none: nothing comes behind it; none: not known -/
def ckS (S : Sc) (own : Nat) (ΓL Γ : Gam) : St → Stmt → Option (Option Gam)
  | .asg tg e, st => (match tg with
    | .nm i => (match st with
      | .Assign [.Name x p2] v _ => if (slotB S i x && locB S x && okB S Γ e && mayBs S i && ckE S Γ 9 e v && nsw S v x p2) = true then some (some (setL Γ i (min 9 (lv S.own Γ e))))
        else if (slotB S i x && S.isF && okB S Γ e && mayBs S i && ckE S Γ 9 e v && (match v with
          | .ListComp _ _ sc p => lcLocal S x p2 sc p
          | _ => false)) = true then some (some (setL Γ i (min 9 (lv S.own Γ e)))) else none
      | _ => none)
    | .tp ts => (match st with
      | .Assign [.Tuple es k pt] v _ => if (ckGs S ts es && tgB S Γ (slotss ts) && ckE S Γ 0 e v && !isTup v) = true then some (some Γ)
        else (match ts, e, es, v with
          | [.nm i, .nm j], .tup (.cons ea (.cons eb .nil)), [.Name x px, .Name y py], .Tuple [a, b] _ _ =>
            if (slotB S i x && slotB S j y && !(i == j) && tgB S Γ [i, j] && ckE S Γ 0 ea a && ckE S Γ 0 eb b && parB S x y px py a b) = true then some (some Γ) else none
          | _, _, _, _ => none)
      | _ => none))
  | .setp i ps k v, st => (match ps with
    | .nil => (match st with
      | .Assign [.Subscript (.Name x _) y _] z _ => if (slotB S i x && decide (lvl Γ i = 1) && ckE S Γ 9 k y && ckE S Γ 0 v z && !isSl y) = true then some (some Γ) else none
      | _ => none)
    | _ => none)
  | .mut mu i ps es, st => (match ps with
    | .nil => (match mu, es, st with
      | .append, .cons e .nil, .Expr (.Call (.Attribute (.Name x _) f ap) [a] [] cp) _ => if (f == Str.ofString "append" && slotB S i x && (ap.endLine == cp.line) && noStar a && ckE S Γ 9 e a && okB S Γ e && decide (1 ≤ lvl Γ i) && decide (lvl Γ i ≤ min 9 (lv S.own Γ e) + 1)) = true then some (some Γ) else none
      | .insert, .cons k (.cons e .nil), .Expr (.Call (.Attribute (.Name x _) f ap) [y, a] [] cp) _ => if (f == Str.ofString "insert" && slotB S i x && (ap.endLine == cp.line) && noStar y && noStar a && ckE S Γ 9 k y && ckE S Γ 9 e a && okB S Γ e && decide (1 ≤ lvl Γ i) && decide (lvl Γ i ≤ min 9 (lv S.own Γ e) + 1)) = true then some (some Γ) else none
      | .extend, .cons e .nil, .Expr (.Call (.Attribute (.Name x _) f ap) [a] [] cp) _ => if (f == Str.ofString "extend" && slotB S i x && (ap.endLine == cp.line) && noStar a && ckE S Γ 1 e a && decide (lvl Γ i = 1)) = true then some (some Γ) else none
      | _, _, _ => none)
    | _ => none)
  | .aug i op e, st => (match st with
    | .AugAssign (.Name x _) o v _ => if (decide (o = bopOf op) && slotB S i x && locB S x && mayBs S i && ckE S Γ 9 e v && (decide (op = .add) || decide (op = .sub) || decide (op = .mul))) = true then some (some Γ) else none
    | _ => none)
  | .ifs c a b, st => (match st with
    | .If x y z _ => if ckT S Γ c x = true then (match ckSs S own ΓL Γ a y, ckSs S own ΓL Γ b z with
      | some none, some r => some r
      | some r, some none => some r
      | some (some r), some (some r') => if eqGam r r' = true then some (some r) else none
      | _, _ => none) else none
    | _ => none)
  | .for_ tg it b, st => (match st with
    | .For t i body [] _ => if (ckI S Γ it t i && ckG S tg t && tgB S Γ (slots tg) && plIt i && (!itPair it || isTp tg)) = true then (match ckSs S own Γ Γ b body with
      | some none => some (some Γ)
      | some (some r) => if eqGam r Γ = true then some (some Γ) else none
      | none => none) else none
    | _ => none)
  | .whl _ _ _, _ => none
  | .ret e, st => (match st with
    | .Return (some v) _ => if (ckE S Γ 9 e v && okB S Γ e && decide (own ≤ min 9 (lv S.own Γ e))) = true then some none
      else (match e, v with
        | .var i, .Name x _ => if (slotB S i x && decide (lvl Γ i = own)) = true then some none else none
        | _, _ => none)
    | _ => none)
  | .expr e, st => (match st with
    | .Expr v _ => if (ckE S Γ 0 e v && noComp v) = true then some (some Γ) else none
    | _ => none)
  | .cont, st => (match st with
    | .Continue _ => if eqGam ΓL Γ = true then some none else none
    | _ => none)
  | .brk, st => (match st with
    | .Break _ => if eqGam ΓL Γ = true then some none else none
    | _ => none)
  | .pass, st => (match st with
    | .Pass _ => some (some Γ)
    | _ => none)
  | .low _ _, _ => none
  | .bgs k e, st => (match st with
    | .Assign [.Subscript (.Name x _) (.Constant (.int j) _ _) _] v _ => if ((match S.bs with
      | some i => slotB S i x
      | none => false) && decide (j = (k : Int)) && ckE S Γ 9 e v) = true then some (some Γ) else none
    | _ => none)
  | .bgx, st => (match st with
    | .AugAssign (.Subscript (.Name x _) (.Constant (.int j) _ _) _) .Add (.Constant (.int j2) _ _) _ => if ((match S.bs with
      | some i => slotB S i x
      | none => false) && decide (j = ((2 : Nat) : Int)) && decide (j2 = 1)) = true then some (some Γ) else none
    | _ => none)
def ckSs (S : Sc) (own : Nat) (ΓL Γ : Gam) : Sts → List Stmt → Option (Option Gam)
  | .nil, l => (match l with
    | [] => some (some Γ)
    | _ => none)
  | .cons s r, l => (match s with
    | .low i n => if n ≤ lvl Γ i then ckSs S own ΓL (setL Γ i n) r l else none
    | s => (match l with
      | st :: rest => (match ckS S own ΓL Γ s st with
        | some (some Γ1) => ckSs S own ΓL Γ1 r rest
        | some none => (match r, rest with
          | .nil, [] => some none
          | _, _ => none)
        | none => none)
      | [] => none))
end
end Dn

set_option Elab.async false
set_option linter.all false
set_option maxRecDepth 100000
/-! Dn, part U: the check of statements is right. -/
namespace Dn
open PySem PySem.Spec PyProof.Rows L2
section
variable {S : Sc} {X : Cx} {C : Cn} {Γ : Gam} {own : Nat} {ΓL : Gam}
theorem if_some {α : Type} {c : Prop} [Decidable c] {a r : α} {b : Option α} (h : (if c then some a else b) = some r) : (c ∧ a = r) ∨ (¬ c ∧ b = some r) := by
  by_cases q : c
  · rw [if_pos q] at h; cases h; exact .inl ⟨q, rfl⟩
  · rw [if_neg q] at h; exact .inr ⟨q, h⟩
theorem if_some' {α : Type} {c : Prop} [Decidable c] {a : Option α} {r : α} (h : (if c then a else none) = some r) : c ∧ a = some r := by
  by_cases q : c
  · rw [if_pos q] at h; exact ⟨q, h⟩
  · rw [if_neg q] at h; cases h
theorem ne_of_nb {i j : Nat} (h : (!(i == j)) = true) : i ≠ j := by simpa using h
theorem sl_of {e : Expr} (h : (!isSl e) = true) : isSl e = false := by simpa using h
theorem swSS_ok {o i : Expr} {pt : Pos} {e : Expr} {l : Nat} {env : Env} : swapsWithSole [.Subscript o i pt] e l env = pure false := by
  cases e <;> rfl
theorem swSN_ok {o i : Expr} {pt : Pos} {e : Expr} {env : Env} : swappedStores [.Subscript o i pt] e env = pure none := by
  cases e <;> rfl
theorem tgB_ok {l : List Nat} (xs : XS S X C) (h : tgB S Γ l = true) : tgOk C Γ l := fun i hi => by
  have := List.all_eq_true.mp h i hi
  obtain ⟨h1, h2⟩ := and2 this
  exact ⟨by simpa using h1, mayB_ok xs h2⟩
/-- name = [..] on one line, by the check of the comprehension -/
theorem asgL_ok {x : Str} {p2 pos : Pos} {v : Expr} {e : Ex} {i : Nat} (xs : XS S X C) (hi : slotB S i x = true) (hF : S.isF = true)
    (hl : (match v with
          | .ListComp _ _ sc p => lcLocal S x p2 sc p
          | _ => false) = true) (he : ckE S Γ 9 e v = true) : PS X (.Assign [.Name x p2] v pos) (tAsg (rd C 9 Γ e) (gName i)) := by
  cases v with
  | ListComp ve gens scope p =>
    have hl : lcLocal S x p2 scope p = true := hl
    cases e with
    | lc elt own tg it c =>
      unfold ckE at he
      split at he
      · rename_i x' t i' ifs scope' pos' heq
        cases heq
        obtain ⟨h1, h10⟩ := and2 he
        obtain ⟨h1, h9⟩ := and2 h1
        obtain ⟨h1, h8⟩ := and2 h1
        obtain ⟨h1, h7⟩ := and2 h1
        obtain ⟨h1, h6⟩ := and2 h1
        obtain ⟨h1, h5⟩ := and2 h1
        obtain ⟨h1, h4⟩ := and2 h1
        obtain ⟨h1, h3⟩ := and2 h1
        obtain ⟨h1, h2⟩ := and2 h1
        unfold lcLocal at hl
        obtain ⟨l1, l3⟩ := and2 hl
        obtain ⟨l1, l2⟩ := and2 l1
        have hk : X.env.scope.kind = .function := by
          rw [xs.sc]
          unfold Sc.isF at hF
          split at hF
          · rename_i e; exact e
          · cases hF
        have hloc : X.env.scope.names.lookup x = some .local := by rw [xs.sc]; exact eq_of_beq l1
        have sw : swapsWith (.ListComp ve [⟨t, i', ifs, 0⟩] scope p) (some (.Name x p2)) pos.line X.env = pure true := sw_true hk hloc l2 (by simpa using l3)
        have key := ps_setLc (X := X) (wi := ri C Γ it) (g := rg X.K tg) (tt := rc C (setz Γ own) c) (te := rd C 9 (setz Γ own) elt) (i := i) (y := x) (py := p2) (elt := ve) (tg := t) (iter := i') (ifs := ifs) (scope := scope) (own := ownOf S.N scope own) (pos := p) (spos := pos) xs.ok.calm (by rw [xs.N]; exact xs.nd) (slot_of xs hi).ix hloc sw (ckI_ok it S X Γ t i' xs h3)
          (by rw [xs.N, xs.sc]; exact blkOk_by h1)
          (fun s H Ca cl fp => ckG_ok (xs.blk (s := s) (H := H) (cl := cl) (Ca := Ca) (fp := fp)) tg t h2)
          (fun s H Ca cl fp => ckC_ok c _ _ _ _ (xs.blk (s := s) (H := H) (cl := cl) (Ca := Ca) (fp := fp)) h4)
          (fun s H Ca cl fp => ckE_ok elt _ _ _ _ _ (xs.blk (s := s) (H := H) (cl := cl) (Ca := Ca) (fp := fp)) h5)
          (plIt_ok h6)
        refine wkS key fun D σ H h => ?_
        have r := lc_rd (C := C) (X := X) (Γ := Γ) (own := ownOf S.N scope own) (eelt := elt) (etg := tg) (eit := it) (eif := c) (m := 9) xs.K (by rw [own_snd]; exact fun j hj => mayB_ok xs (List.all_eq_true.mp h7 j hj)) (by rw [own_snd]; exact fun j hj => by simpa using List.all_eq_true.mp h8 j hj)
          (by rw [own_snd]; have z := okB_ok (Γ := setz Γ own) xs h9; exact z) (pair_tp h10) (σ := σ) (H := H) (Q := fun x H1 => gName i x σ H1 D.nx) (by rw [own_snd]; exact h)
        rw [own_snd] at r
        show tLc _ _ _ _ _ σ H _
        rw [own_snd]
        exact r
      · cases he
    | _ => unfold ckE at he; first | cases he | (split at he <;> first | cases he | skip)
  | _ => cases hl
theorem lvE_eq {e : Ex} (xs : XS S X C) : lvE C Γ e = min 9 (lv S.own Γ e) := by unfold lvE; rw [xs.own]
theorem eqGam_ok {a b : Gam} (h : eqGam a b = true) : a = b := of_decide_eq_true h
end
theorem getsub {k : Expr} {x : Str} {p2 p3 : Pos} {env : Env} (h : isSl k = false) : ∀ v, assign (.Subscript (.Name x p2) k p3) env v = (do
      let ov ← holding [v] (eval (.Name x p2) env)
      let iv ← holding [v, ov] (eval k env)
      standAt p3
      holding [v, ov, iv] (setItem ov iv v)
      release [v, ov, iv] []) := by
  intro v
  cases k <;> first | rfl | cases h
mutual
theorem ckS_ok {C : Cn} {X : Cx} (hp : PassesOwn (model X.prog X.w) X.A X.env X.xe) : ∀ (s : St) (S : Sc) (own : Nat) (ΓL Γ : Gam) (st : Stmt) (r : Option Gam), XS S X C → ckS S own ΓL Γ s st = some r → ∀ Γ2, (∀ g, r = some g → g = Γ2) → PS X st (zs C own ΓL Γ s Γ2)
  | .asg tg e, S, own, ΓL, Γ, st, r, xs, h, Γ2, hr => by
    unfold ckS at h
    split at h
    · split at h
      · rename_i i st x p2 v pos
        have hN : X.N.Nodup := by rw [xs.N]; exact xs.nd
        rcases if_some h with ⟨c, rfl⟩ | ⟨_, h⟩
        · obtain ⟨c, c6⟩ := and2 c
          obtain ⟨c, c5⟩ := and2 c
          obtain ⟨c, c4⟩ := and2 c
          obtain ⟨c, c3⟩ := and2 c
          obtain ⟨c1, c2⟩ := and2 c
          obtain ⟨l1, l2⟩ := loc_of xs c2
          rw [← hr _ rfl, ← lvE_eq xs]
          exact z_asg hN (slot_of xs c1).ix l1 l2 (ckE_ok e S X Γ _ _ xs c5) (okB_ok xs c3) (mayB_ok xs c4) (nsw_ok xs.sc c6)
        · rcases if_some h with ⟨c, rfl⟩ | ⟨_, h⟩
          · obtain ⟨c, c6⟩ := and2 c
            obtain ⟨c, c5⟩ := and2 c
            obtain ⟨c, c4⟩ := and2 c
            obtain ⟨c, c3⟩ := and2 c
            obtain ⟨c1, c2⟩ := and2 c
            rw [← hr _ rfl, ← lvE_eq xs]
            exact z_asgL (asgL_ok xs c1 c2 c6 c5) (okB_ok xs c3) (mayB_ok xs c4)
          · cases h
      · cases h
    · split at h
      · rename_i ts st es k pt v pos
        rcases if_some h with ⟨c, rfl⟩ | ⟨_, h⟩
        · obtain ⟨c, c4⟩ := and2 c
          obtain ⟨c, c3⟩ := and2 c
          obtain ⟨c1, c2⟩ := and2 c
          obtain ⟨p1, p2, p3⟩ := ckGs_ok xs ts es c1
          rw [← hr _ rfl]
          exact z_asgT xs.K (ckE_ok e S X Γ _ _ xs c3) (g_tp xs.ok.calm p1 p2 p3) (tgB_ok xs c2) swT_ok (swN_ok (by simpa using c4)) rfl
        · split at h
          · rcases if_some h with ⟨c, rfl⟩ | ⟨_, h⟩
            · obtain ⟨c, c7⟩ := and2 c
              obtain ⟨c, c6⟩ := and2 c
              obtain ⟨c, c5⟩ := and2 c
              obtain ⟨c, c4⟩ := and2 c
              obtain ⟨c, c3⟩ := and2 c
              obtain ⟨c1, c2⟩ := and2 c
              rw [← hr _ rfl]
              have hN : X.N.Nodup := by rw [xs.N]; exact xs.nd
              have q := c7
              unfold parB at q
              obtain ⟨q, q9⟩ := and2 q
              obtain ⟨q, q8⟩ := and2 q
              obtain ⟨q, q7⟩ := and2 q
              obtain ⟨q, q6⟩ := and2 q
              obtain ⟨q, q5⟩ := and2 q
              obtain ⟨q, q4⟩ := and2 q
              obtain ⟨q, q3⟩ := and2 q
              obtain ⟨q1, q2⟩ := and2 q
              have ij := ne_of_nb c3
              exact z_par (y := "") (py := pt) (pt := pt) (kt := 0) (k2 := 0) (pt2 := pt) (ps_par xs.ok.calm hN (slot_of xs c1).ix (slot_of xs c2).ix ij (by rw [xs.sc]; exact eq_of_beq q2) (by rw [xs.sc]; exact eq_of_beq q3)
                (pa_cons (ckE_ok _ S X Γ _ _ xs c5) (pa_cons (ckE_ok _ S X Γ _ _ xs c6) pa_nil (star_of q7 _ _)) (star_of q6 _ _)) (parB_ok xs.sc c7) swT_ok) ij (tgB_ok xs c4)
            · cases h
          · cases h
      · cases h
  | .setp i ps k v, S, own, ΓL, Γ, st, r, xs, h, Γ2, hr => by
    unfold ckS at h
    split at h
    · split at h
      · rcases if_some h with ⟨c, rfl⟩ | ⟨_, h⟩
        · obtain ⟨c, c5⟩ := and2 c
          obtain ⟨c, c4⟩ := and2 c
          obtain ⟨c, c3⟩ := and2 c
          obtain ⟨c1, c2⟩ := and2 c
          rw [← hr _ rfl]
          have hl := of_decide_eq_true c2
          have hk := ckE_ok k S X Γ _ _ xs c3
          have hv := ckE_ok v S X Γ _ _ xs c4
          have hsl := sl_of c5
          exact z_set (z_setd (slot_of xs c1) xs.K xs.ok hk hv hl swS_ok) (z_setl (slot_of xs c1) hk hv hl swSS_ok swSN_ok rfl (getsub hsl))
        · cases h
      · cases h
    · cases h
  | .mut mu i ps es, S, own, ΓL, Γ, st, r, xs, h, Γ2, hr => by
    unfold ckS at h
    split at h
    · split at h
      · rcases if_some h with ⟨c, rfl⟩ | ⟨_, h⟩
        · obtain ⟨c, c8⟩ := and2 c
          obtain ⟨c, c7⟩ := and2 c
          obtain ⟨c, c6⟩ := and2 c
          obtain ⟨c, c5⟩ := and2 c
          obtain ⟨c, c4⟩ := and2 c
          obtain ⟨c, c3⟩ := and2 c
          obtain ⟨c1, c2⟩ := and2 c
          rw [← hr _ rfl]
          have e1 := eq_of_beq c1
          subst e1
          have l1 := of_decide_eq_true c7
          have l2 := of_decide_eq_true c8
          rw [← lvE_eq xs] at l2
          exact z_append (n := lvl Γ i - 1) (slot_of xs c2) (mets1 c3 c4) (ckE_ok _ S X Γ _ _ xs c5) (okB_ok xs c6) (by omega) (by omega)
        · cases h
      · rcases if_some h with ⟨c, rfl⟩ | ⟨_, h⟩
        · obtain ⟨c, c10⟩ := and2 c
          obtain ⟨c, c9⟩ := and2 c
          obtain ⟨c, c8⟩ := and2 c
          obtain ⟨c, c7⟩ := and2 c
          obtain ⟨c, c6⟩ := and2 c
          obtain ⟨c, c5⟩ := and2 c
          obtain ⟨c, c4⟩ := and2 c
          obtain ⟨c, c3⟩ := and2 c
          obtain ⟨c1, c2⟩ := and2 c
          rw [← hr _ rfl]
          have e1 := eq_of_beq c1
          subst e1
          have l1 := of_decide_eq_true c9
          have l2 := of_decide_eq_true c10
          rw [← lvE_eq xs] at l2
          exact z_insert (n := lvl Γ i - 1) (slot_of xs c2) (mets2 c3 c4 c5) (ckE_ok _ S X Γ _ _ xs c6) (ckE_ok _ S X Γ _ _ xs c7) (okB_ok xs c8) (by omega) (by omega) c5
        · cases h
      · rcases if_some h with ⟨c, rfl⟩ | ⟨_, h⟩
        · obtain ⟨c, c6⟩ := and2 c
          obtain ⟨c, c5⟩ := and2 c
          obtain ⟨c, c4⟩ := and2 c
          obtain ⟨c, c3⟩ := and2 c
          obtain ⟨c1, c2⟩ := and2 c
          rw [← hr _ rfl]
          have e1 := eq_of_beq c1
          subst e1
          exact z_extend (slot_of xs c2) (mets1 c3 c4) (ckE_ok _ S X Γ _ _ xs c5) (of_decide_eq_true c6)
        · cases h
      · cases h
    · cases h
  | .aug i op e, S, own, ΓL, Γ, st, r, xs, h, Γ2, hr => by
    unfold ckS at h
    split at h
    · rcases if_some h with ⟨c, rfl⟩ | ⟨_, h⟩
      · obtain ⟨c, c6⟩ := and2 c
        obtain ⟨c, c5⟩ := and2 c
        obtain ⟨c, c4⟩ := and2 c
        obtain ⟨c, c3⟩ := and2 c
        obtain ⟨c1, c2⟩ := and2 c
        rw [← hr _ rfl]
        have e1 := of_decide_eq_true c1
        subst e1
        obtain ⟨l1, l2⟩ := loc_of xs c3
        refine z_aug (by rw [xs.N]; exact xs.nd) (slot_of xs c2).ix l1 l2 (ckE_ok _ S X Γ _ _ xs c5) ?_ (mayB_ok xs c4)
        rcases Bool.or_eq_true_iff.mp c6 with z | z
        · rcases Bool.or_eq_true_iff.mp z with z | z
          · exact .inl (of_decide_eq_true z)
          · exact .inr (.inl (of_decide_eq_true z))
        · exact .inr (.inr (of_decide_eq_true z))
      · cases h
    · cases h
  | .ifs c a b, S, own, ΓL, Γ, st, r, xs, h, Γ2, hr => by
    unfold ckS at h
    split at h
    · rcases if_some' h with ⟨q, h⟩
      have ht := (ckT_ok c S X Γ _ xs q).1
      split at h
      · rename_i h1 h2
        cases h
        exact z_if ht (ckSs_ok hp a S own ΓL Γ _ _ xs h1 Γ2 fun g e => by cases e) (ckSs_ok hp b S own ΓL Γ _ _ xs h2 Γ2 hr)
      · rename_i h1 h2
        cases h
        exact z_if ht (ckSs_ok hp a S own ΓL Γ _ _ xs h1 Γ2 hr) (ckSs_ok hp b S own ΓL Γ _ _ xs h2 Γ2 fun g e => by cases e)
      · rename_i h1 h2
        obtain ⟨q2, h⟩ := if_some' h
        cases h
        have e := eqGam_ok q2
        subst e
        have e := hr _ rfl
        subst e
        exact z_if ht (ckSs_ok hp a S own ΓL Γ _ _ xs h1 _ fun g e => by cases e; rfl) (ckSs_ok hp b S own ΓL Γ _ _ xs h2 _ fun g e => by cases e; rfl)
      · cases h
    · cases h
  | .for_ tg it b, S, own, ΓL, Γ, st, r, xs, h, Γ2, hr => by
    unfold ckS at h
    split at h
    · rename_i t i body pos
      obtain ⟨q, h⟩ := if_some' h
      obtain ⟨q, q6⟩ := and2 q
      obtain ⟨q, q4⟩ := and2 q
      obtain ⟨q, q3⟩ := and2 q
      obtain ⟨q1, q2⟩ := and2 q
      have go : ∀ (r2 : Option Gam), ckSs S own Γ Γ b body = some r2 → (∀ g, r2 = some g → g = Γ) → PS X (.For t i body [] pos) (zs C own ΓL Γ (.for_ tg it b) Γ) := fun r2 hb hg =>
        z_for xs.K hp xs.ok (ckI_ok it S X Γ _ _ xs q1) (ckG_ok xs tg _ q2) (tgB_ok xs q3) (pair_tp q6) (ckSs_ok hp b S own Γ Γ _ _ xs hb Γ hg) (plIt_ok q4)
      split at h
      · rename_i h1
        cases h
        have e := hr _ rfl
        subst e
        exact go _ h1 fun g e => by cases e
      · rename_i h1
        obtain ⟨q5, h⟩ := if_some' h
        cases h
        have e := hr _ rfl
        subst e
        exact go _ h1 fun g e => by cases e; exact eqGam_ok q5
      · cases h
    · cases h
  | .whl _ _ _, S, own, ΓL, Γ, st, r, xs, h, Γ2, hr => by unfold ckS at h; cases h
  | .ret e, S, own, ΓL, Γ, st, r, xs, h, Γ2, hr => by
    unfold ckS at h
    split at h
    · rcases if_some h with ⟨c, rfl⟩ | ⟨_, h⟩
      · obtain ⟨c, c3⟩ := and2 c
        obtain ⟨c1, c2⟩ := and2 c
        exact z_ret (ckE_ok _ S X Γ _ _ xs c1) (okB_ok xs c2) (by rw [lvE_eq xs]; exact of_decide_eq_true c3)
      · split at h
        · rcases if_some h with ⟨c, rfl⟩ | ⟨_, h⟩
          · obtain ⟨c1, c2⟩ := and2 c
            have s := slot_of xs c1
            exact z_retv s.ix s.vis (of_decide_eq_true c2) s.deb s.cd
          · cases h
        · cases h
    · cases h
  | .expr e, S, own, ΓL, Γ, st, r, xs, h, Γ2, hr => by
    unfold ckS at h
    split at h
    · rcases if_some h with ⟨c, rfl⟩ | ⟨_, h⟩
      · obtain ⟨c1, c2⟩ := and2 c
        rw [← hr _ rfl]
        exact z_expr (ckE_ok _ S X Γ _ _ xs c1) (noComp_ok c2)
      · cases h
    · cases h
  | .cont, S, own, ΓL, Γ, st, r, xs, h, Γ2, hr => by
    unfold ckS at h
    split at h
    · rcases if_some h with ⟨c, rfl⟩ | ⟨_, h⟩
      · have e := eqGam_ok c
        subst e
        exact z_cont
      · cases h
    · cases h
  | .brk, S, own, ΓL, Γ, st, r, xs, h, Γ2, hr => by
    unfold ckS at h
    split at h
    · rcases if_some h with ⟨c, rfl⟩ | ⟨_, h⟩
      · have e := eqGam_ok c
        subst e
        exact z_brk
      · cases h
    · cases h
  | .pass, S, own, ΓL, Γ, st, r, xs, h, Γ2, hr => by
    unfold ckS at h
    split at h
    · cases h
      rw [← hr _ rfl]
      exact z_pass
    · cases h
  | .low _ _, S, own, ΓL, Γ, st, r, xs, h, Γ2, hr => by unfold ckS at h; cases h
  | .bgs k e, S, own, ΓL, Γ, st, r, xs, h, Γ2, hr => by
    unfold ckS at h
    split at h
    · obtain ⟨c, h⟩ := if_some' h
      cases h
      obtain ⟨c, c3⟩ := and2 c
      obtain ⟨c1, c2⟩ := and2 c
      obtain ⟨i, b1, b2⟩ := bs_of xs c1
      rw [← hr _ rfl, of_decide_eq_true c2]
      exact z_bgs b2 b1 (ckE_ok e S X Γ _ _ xs c3) swSS_ok swSN_ok
    · cases h
  | .bgx, S, own, ΓL, Γ, st, r, xs, h, Γ2, hr => by
    unfold ckS at h
    split at h
    · obtain ⟨c, h⟩ := if_some' h
      cases h
      obtain ⟨c, c3⟩ := and2 c
      obtain ⟨c1, c2⟩ := and2 c
      obtain ⟨i, b1, b2⟩ := bs_of xs c1
      rw [← hr _ rfl, of_decide_eq_true c2, of_decide_eq_true c3]
      exact z_bgx b2 b1
    · cases h
theorem ckSs_ok {C : Cn} {X : Cx} (hp : PassesOwn (model X.prog X.w) X.A X.env X.xe) : ∀ (s : Sts) (S : Sc) (own : Nat) (ΓL Γ : Gam) (l : List Stmt) (r : Option Gam), XS S X C → ckSs S own ΓL Γ s l = some r → ∀ Γ2, (∀ g, r = some g → g = Γ2) → PSs X l (zss C own ΓL Γ s Γ2)
  | .nil, S, own, ΓL, Γ, l, r, xs, h, Γ2, hr => by
    unfold ckSs at h
    split at h
    · cases h
      rw [← hr _ rfl]
      exact z_nil
    · cases h
  | .cons s rs, S, own, ΓL, Γ, l, r, xs, h, Γ2, hr => by
    unfold ckSs at h
    split at h
    · rename_i i n
      by_cases q : n ≤ lvl Γ i
      · rw [if_pos q] at h
        exact z_low (ckSs_ok hp rs S own ΓL _ l r xs h Γ2 hr) q
      · rw [if_neg q] at h; cases h
    · split at h
      · split at h
        · rename_i Γ1 hs
          exact z_cons (ckS_ok hp s S own ΓL Γ _ _ xs hs Γ1 fun g e => by cases e; rfl) (ckSs_ok hp rs S own ΓL Γ1 _ r xs h Γ2 hr)
        · rename_i hs
          split at h
          · cases h
            exact z_cons (ckS_ok hp s S own ΓL Γ _ _ xs hs Γ2 fun g e => by cases e) z_nil
          · cases h
        · cases h
      · cases h
end
end Dn

set_option Elab.async false
set_option linter.all false
set_option maxRecDepth 100000
/-! Dn, part V: all defs of a table keep what they promise. -/
namespace Dn
open PySem PySem.Spec PyProof.Rows L2
/-- a def of the text with its meaning: N the slots' names, the parameters first -/
structure Ent where
  d : He.DefD
  N : List Str
  m : Fn
def fnBag : Fn → Bool
  | .py p => p.bag
  | .take => true
def fnNp : Fn → Nat
  | .py p => p.np
  | .take => 1
def fnOwn : Fn → Nat
  | .py p => p.own
  | .take => 9
def tbl : Nat → List Ent → List (Str × Nat × Bool × Nat)
  | _, [] => []
  | i, e :: es => (e.d.name, i, fnBag e.m, fnNp e.m) :: tbl (i + 1) es
def ownF (es : List Ent) (i : Nat) : Nat := match es[i]? with
  | some e => fnOwn e.m
  | none => 9
def Ft (es : List Ent) : List Fn := es.map (·.m)
def isFun : ScopeKind → Bool
  | .function => true
  | _ => false
def scB (N ps : List Str) (sc : Scope) : Bool := isFun sc.kind && !sc.isCoroutine && !sc.isGenerator && decide N.Nodup && decide (N.take ps.length = ps) &&
  (ps.all fun x => match sc.names.lookup x with
    | some .local => true
    | some .cell => true
    | _ => false) && sc.names.all fun y => !(y.2 == NameKind.free)
theorem scB_ok {N ps : List Str} {sc : Scope} (h : scB N ps sc = true) : FnScope N ps sc := by
  unfold scB at h
  obtain ⟨h, h7⟩ := and2 h
  obtain ⟨h, h6⟩ := and2 h
  obtain ⟨h, h5⟩ := and2 h
  obtain ⟨h, h4⟩ := and2 h
  obtain ⟨h, h3⟩ := and2 h
  obtain ⟨h1, h2⟩ := and2 h
  refine ⟨?_, by simpa using h2, by simpa using h3, of_decide_eq_true h4, of_decide_eq_true h5, fun x hx => ?_, fun y hy e => ?_⟩
  · unfold isFun at h1
    split at h1
    · assumption
    · cases h1
  · have q := List.all_eq_true.mp h6 x hx
    split at q
    · rename_i e; exact .inl e
    · rename_i e; exact .inr e
    · cases q
  · have q := List.all_eq_true.mp h7 y hy
    rw [e] at q
    cases q
def pars (e : Ent) : List Str := e.N.take ((if fnBag e.m = true then 1 else 0) + fnNp e.m)
def scOf (es : List Ent) (e : Ent) : Sc := ⟨e.N, e.d.scope, fun _ => true, tbl 0 es, if fnBag e.m = true then some 0 else none, ownF es⟩
/-- the check of one def -/
def ckDef (es : List Ent) (e : Ent) : Bool := match e.m with
  | .take => true
  | .py p => scB e.N (pars e) e.d.scope && decide (p.ns = e.N.length) && decide ((if p.bag = true then 1 else 0) + p.np ≤ p.ns) && (match ckSs (scOf es e) p.own [] (List.replicate p.ns 0) p.body e.d.body with
    | some _ => true
    | none => false)
theorem tbl_mem : ∀ {es : List Ent} {n : Nat} {q : Str × Nat × Bool × Nat}, q ∈ tbl n es → ∃ i e, es[i]? = some e ∧ q = (e.d.name, n + i, fnBag e.m, fnNp e.m)
  | [], _, _, h => by simp [tbl] at h
  | e :: es, n, q, h => by
    rcases List.mem_cons.mp h with rfl | h
    · exact ⟨0, e, rfl, rfl⟩
    · obtain ⟨i, e', h1, h2⟩ := tbl_mem h
      exact ⟨i + 1, e', by simpa using h1, by rw [h2, Nat.add_assoc, Nat.add_comm 1 i]⟩
theorem run_len {F : List Fn} {k i : Nat} {ds : List D} {b : Bg} {r : D × Bg} {m : Fn} (hm : F[i]? = some m) (h : run F k i ds b = some r) : ds.length = fnNp m := by
  cases k with
  | zero => cases h
  | succ k =>
    unfold run at h
    rw [hm] at h
    cases m with
    | py p =>
      dsimp only at h
      by_cases q : ds.length = p.np
      · exact q
      · rw [if_neg q] at h; cases h
    | take =>
      dsimp only at h
      split at h
      · rfl
      · cases h
section
variable {P : Program} {w : World} {K : PySem.W.Frag} {mg : Str → Option Value} {base : Heap} {es : List Ent}
/-- what is known of a def's object -/
structure EntOk (K : PySem.W.Frag) (mg : Str → Option Value) (e : Ent) (f : Addr) (fd : FuncData) : Prop where
  fn : FunD K e.d.name e.d.qual e.d.params e.d.body e.d.scope [] [] f fd
  mg : mg e.d.name = some (.ref f)
  bind : Binds K fd (pars e) []
/-- what is known of the module -/
structure ModOk (K : PySem.W.Frag) (mg : Str → Option Value) (es : List Ent) : Prop where
  sys : ∃ o, K.lookup sysModules = some o
  free : ∀ x ∈ (["len", "tuple", "list", "dict", "sorted", "abs", "int", "str", "repr", "all", "any", "sum", "isinstance", "range", "enumerate", "zip", "bool"] : List String), mg (Str.ofString x) = none
  ents : ∀ e ∈ es, ∃ f fd, EntOk K mg e f fd
theorem pars_len {e : Ent} (h : (if fnBag e.m = true then 1 else 0) + fnNp e.m ≤ e.N.length) : (pars e).length = (if fnBag e.m = true then 1 else 0) + fnNp e.m := by
  unfold pars
  rw [List.length_take]
  omega
theorem rep_get {ds : List D} {n j : Nat} {d : D} (h : (ds.map some ++ List.replicate n none)[j]? = some (some d)) : ds[j]? = some d := by
  by_cases hj : j < ds.length
  · rw [List.getElem?_append_left (by simpa using hj), List.getElem?_map] at h
    obtain ⟨x, h1, h2⟩ := Option.map_eq_some_iff.mp h
    cases h2; exact h1
  · rw [List.getElem?_append_right (by simpa using hj), List.getElem?_replicate] at h
    by_cases q : j - (ds.map some).length < n
    · rw [if_pos q] at h; cases h
    · rw [if_neg q] at h; cases h
theorem entry_get {p : Py} {ds : List D} {i : Nat} {d : D} (h : (entry p ds)[i]? = some (some d)) : (if p.bag = true then 1 else 0) ≤ i ∧ ds[i - (if p.bag = true then 1 else 0)]? = some d := by
  unfold entry at h
  cases hb : p.bag with
  | false =>
    rw [hb] at h
    simp only [Bool.false_eq_true, if_false, List.nil_append, Nat.sub_zero, Nat.zero_le, true_and] at h ⊢
    exact rep_get h
  | true =>
    rw [hb] at h
    simp only [if_true] at h ⊢
    cases i with
    | zero => simp at h
    | succ i => exact ⟨Nat.succ_le_succ (Nat.zero_le _), rep_get (by simpa using h)⟩
theorem gn_zero {f : Addr} {fd : FuncData} {ps : List Str} {k0 : Nat} {φ : List D → M D} (h : ∀ ds b r, φ ds b ≠ some r) {bag : Bool} {np own : Nat} : Gn P w K mg base k0 f fd ps (pr K φ bag np own) :=
  ⟨fun vs H Q ⟨_, _, b, ds, r, b', _, _, _, _, _, q, _⟩ => absurd q (h ds b _), fun _ _ _ H _ _ vs Q _ _ _ _ _ ⟨_, _, b, ds, r, b', _, _, _, _, _, q, _⟩ => absurd q (h ds b _)⟩
theorem start_len {N : List Str} {vs : List V} (h : vs.length ≤ N.length) : (L2.start N vs).length = N.length := by
  unfold L2.start
  rw [List.length_append, List.length_map, List.length_replicate]
  omega
theorem start_get {N : List Str} {vs : List V} {i : Nat} {v : V} (h : vs[i]? = some v) : (L2.start N vs)[i]? = some (some v) := by
  unfold L2.start
  have hi : i < vs.length := (List.getElem?_eq_some_iff.mp h).1
  rw [List.getElem?_append_left (by simpa using hi), List.getElem?_map, h]
  rfl
theorem cel_of {B : Addr} {H : Hp} {b : Bg} (h : BagAt B H b) : ∃ Ca x y z, H B = some (.lst [x, y, z, .ref Ca]) ∧ H Ca ≠ none := by
  obtain ⟨ok, Ca, n, h1, h2⟩ := h
  exact ⟨Ca, _, _, _, h1, by rw [h2]; simp⟩
theorem lvl_rep (n i : Nat) : lvl (List.replicate n 0) i = 0 := by
  unfold lvl
  rw [List.getD_eq_getElem?_getD, List.getElem?_replicate]
  split <;> rfl
/-- the state at a def's entry -/
theorem si_entry {C : Cn} {p : Py} {N : List Str} {B : Addr} {G H : Hp} {b : Bg} {vs' : List V} {ds : List D} (st : StOk B G H b) (hr : Rps C.K G vs' ds) (hds : ds.length = p.np) (hn : p.ns = N.length) (hle : (if p.bag = true then 1 else 0) + p.np ≤ p.ns) (hbs : C.bs = if p.bag = true then some 0 else none) :
    SI C B G H (List.replicate p.ns 0) G b H (L2.start N ((if p.bag = true then [.ref B] else []) ++ vs')) (entry p ds) := by
  have hl := hr.length
  have hvl : ((if p.bag = true then [V.ref B] else []) ++ vs').length = (if p.bag = true then 1 else 0) + p.np := by
    rw [List.length_append, hl, hds]
    cases p.bag <;> simp
  refine ⟨.refl st, ?_, ⟨fun _ => [], fun i d hd => ?_, fun _ _ _ _ ha => by simp at ha⟩, fun i hi => ?_, cel_of st.bag⟩
  · rw [start_len (by omega)]
    unfold entry
    rw [List.length_append, List.length_append, List.length_map, List.length_replicate, hds]
    cases hb : p.bag with
    | false => rw [hb] at hle; simp at hle ⊢; omega
    | true => rw [hb] at hle; simp at hle ⊢; omega
  · obtain ⟨h1, h2⟩ := entry_get hd
    obtain ⟨v, h3, h4⟩ := hr.get h2
    refine ⟨v, start_get ?_, ?_, List.nodup_nil, by simp⟩
    · cases hb : p.bag with
      | false => rw [hb] at h3; simpa using h3
      | true =>
        rw [hb] at h1 h3
        simp only [if_true] at h1 h3 ⊢
        cases i with
        | zero => omega
        | succ i => simpa using h3
    · rw [lvl_rep]; exact ⟨rfl, h4⟩
  · rw [hbs] at hi
    cases hb : p.bag with
    | false => rw [hb] at hi; simp at hi
    | true =>
      rw [hb] at hi
      have e : i = 0 := by simpa using hi.symm
      subst e
      refine ⟨start_get (by simp), ?_⟩
      unfold entry
      rw [hb]
      rfl
/-- ALL DEFS: by the depth of calls -/
theorem gn_all (hm : ModOk K mg es) (ck : ∀ e ∈ es, ckDef es e = true) (take : ∀ k e f fd, e ∈ es → e.m = .take → EntOk K mg e f fd → Gn P w K mg base (k + 1) f fd (pars e) (pr K (fun ds => match ds with | [.int n] => takeM n | _ => fail) true 1 9)) :
    ∀ (k i : Nat) (e : Ent) (f : Addr) (fd : FuncData), es[i]? = some e → EntOk K mg e f fd → Gn P w K mg base k f fd (pars e) (pr K (run (Ft es) k i) (fnBag e.m) (fnNp e.m) (fnOwn e.m)) := by
  intro k
  induction k with
  | zero => intro i e f fd he E; exact gn_zero fun ds b r h => by cases h
  | succ k ih =>
    intro i e f fd he E
    have hF : (Ft es)[i]? = some e.m := by unfold Ft; rw [List.getElem?_map, he]; rfl
    have hme : e ∈ es := List.mem_of_getElem? he
    cases hm' : e.m with
    | take =>
      have q : run (Ft es) (k + 1) i = fun ds => match ds with | [.int n] => takeM n | _ => fail := by
        funext ds
        unfold run
        rw [hF, hm']
        all_goals rfl
      rw [q]
      exact take k e f fd hme hm' E
    | py p =>
      have c := ck e hme
      unfold ckDef at c
      rw [hm'] at c
      dsimp only at c
      obtain ⟨c, c4⟩ := and2 c
      obtain ⟨c, c3⟩ := and2 c
      obtain ⟨c1, c2⟩ := and2 c
      have hns := of_decide_eq_true c2
      have hle := of_decide_eq_true c3
      have S := scB_ok c1
      have hpl : (pars e).length = (if p.bag = true then 1 else 0) + p.np := by
        have := pars_len (e := e) (by rw [hm']; show (if p.bag = true then 1 else 0) + p.np ≤ _; omega)
        rw [hm'] at this
        exact this
      obtain ⟨oc, od, dV, kV, doc, pm, an, cdv, ct, osl, rfl, lk, hcd, _, _⟩ := E.fn.ex
      cases hck : ckSs (scOf es e) p.own [] (List.replicate p.ns 0) p.body e.d.body with
      | none => rw [hck] at c4; cases c4
      | some r =>
        refine gn_of lk hcd S (pr_cnt hpl) fun Ar outs sh H vs Q hr hq hw => ?_
        have xs : XS (scOf es e) (cxOf noX P w K mg base e.N e.d.qual e.d.scope f cdv Ar outs sh H noE).nox ⟨K, run (Ft es) k, if p.bag = true then some 0 else none, ownF es⟩ := by
          refine ⟨rfl, S.nd, rfl, fun _ _ => rfl, rfl, ?_, rfl, ⟨rfl, hr.mono (Nat.zero_le _), hq, hm.sys, hm.free⟩, fun q hqm => ?_⟩
          · show _ = if fnBag e.m = true then some 0 else none
            rw [hm']
            rfl
          · obtain ⟨j, e2, h1, rfl⟩ := tbl_mem hqm
            obtain ⟨f2, fd2, E2⟩ := hm.ents e2 (List.mem_of_getElem? h1)
            refine ⟨k, f2, fd2, pars e2, ?_, hr, E2.mg, E2.fn.kp, E2.bind⟩
            have g := ih j e2 f2 fd2 h1 E2
            rw [Nat.zero_add]
            have ho : ownF es j = fnOwn e2.m := by unfold ownF; rw [h1]
            show Gn P w K mg base k f2 fd2 (pars e2) (pr K (run (Ft es) k j) (fnBag e2.m) (fnNp e2.m) (ownF es j))
            rw [ho]
            exact g
        refine ⟨zss ⟨K, run (Ft es) k, if p.bag = true then some 0 else none, ownF es⟩ p.own [] (List.replicate p.ns 0) p.body (r.getD []), PSs.nox (ckSs_ok PassesOwn.never p.body _ _ _ _ _ r xs hck (r.getD []) fun g e => by rw [e]; rfl), ?_⟩
        obtain ⟨B, G, b, ds, res, b', vs', rfl, hds, st, hrs, hrun, q⟩ := hw
        have hrun2 : bnd (exs (run (Ft es) k) (entry p ds) p.body) outD b = some (res, b') := by
          unfold run at hrun
          rw [hF, hm'] at hrun
          dsimp only at hrun
          rw [if_pos (show ds.length = p.np from hds)] at hrun
          exact hrun
        obtain ⟨o, b1, h1, h2⟩ := bnd_some hrun2
        refine ⟨B, G, H, G, b, entry p ds, o, b1, si_entry st hrs hds hns hle rfl, h1, ?_⟩
        cases o with
        | nx ρ1 =>
          obtain ⟨rfl, rfl⟩ := ret_some h2
          exact fun G' H' σ' S' => q .non G' H' [] S'.p (.nc rfl .non) List.nodup_nil (by simp)
        | rt d =>
          obtain ⟨rfl, rfl⟩ := ret_some h2
          exact q
        | bk ρ1 => cases h2
        | ct ρ1 => cases h2
end
end Dn

set_option Elab.async false
set_option linter.all false
set_option maxRecDepth 100000
/-! Dn, part W: a law's end over what its def keeps while nothing is shown. -/
namespace Dn
open PySem PySem.Spec PyProof.Rows L2
section
variable {P : Program} {w : World} {K : PySem.W.Frag} {mg mb : Str → Option Value} {k : Nat} {fa a : Addr} {fd : FuncData} {x : Str} {want : List V → Hp → VK → Prop} {sh : Shared} {us : List Value} {ns : List Int}
/-- from an abstract heap in which nothing but the script may be held -/
theorem law_from (KX : K.In sh.heap) (hG : sh.heap.Ns mainGlobals mg) (hB : sh.heap.Ns builtinsNs mb) (hbb : ∀ x : Str, x ≠ "__name__" → mb x = bootBuiltins x) (lim : sh.heap.NoLimit) (gens : sh.gens = #[])
    (ha : sh.heap.get? a = some { cls := .type "list", data := .seq us.toArray }) (room : Room k callerA) (F : ∀ bas : Heap, K.In bas → bas.Ns mainGlobals mg → Gn P w K mg bas k fa fd [x] want)
    (bind : ∀ (s : Shared) (u : Value), BindsTo s fd ⟨[u], []⟩ [(x, u)]) {H : Hp} (only : Only H) (hw : want [.ref a] H fun v _ => v = .bl true) (hok : HOk P w H sh.heap) (hA : ∀ b, H b ≠ none → b = a) (hK : H a ≠ none → K.lookup a = none) :
    codeAny (model P w) callerA (.call (.ref fa) ⟨[.ref a], []⟩) (fun r s2 => r = .ok (.ret (.bool true)) ∧ OldK sh.heap s2.heap ∧ s2.os = sh.os ∧ AllBare s2.gens) sh := by
  have keep : ∀ {b : Addr} {o : Obj}, sh.heap.get? b = some o → H b = none → (hidT sh.heap H).get? b = some o := fun e z => hidT_get e z
  have free : ∀ {b : Addr} {o : Obj} {es : Array DictEntry} {ep : Nat}, sh.heap.get? b = some o → o.data = .dict es ep → H b = none := by
    intro b o es ep e d
    by_cases q : H b = none
    · exact q
    · have z := hA b q
      subst z
      rw [ha] at e
      cases e
      have d2 : Data.seq us.toArray _ = Data.dict es ep := d
      cases d2
  have ns_ : ∀ {b : Addr} {m : Str → Option Value}, sh.heap.Ns b m → (hidT sh.heap H).Ns b m := fun {b m} ⟨o, es, ep, e, d, r⟩ => ⟨o, es, ep, keep e (free e d), d, r⟩
  have KB : K.In (hidT sh.heap H) := fun b o e => keep (KX b o e) (by
    by_cases q : H b = none
    · exact q
    · have z := hA b q
      subst z
      rw [hK q] at e
      cases e)
  have hM : Mod K mg (hidT sh.heap H) := by
    obtain ⟨mc, l1, l2⟩ := lim
    exact ⟨KB, ns_ hG, ⟨mb, ns_ hB, hbb⟩, ⟨mc, ns_ l1, l2⟩⟩
  have e0 : Env0 P w K mg (hidT sh.heap H) callerA [] sh H := ⟨rfl, hM, fun b o e => of_hidT e, Nat.le_of_eq (hidT_size _ _), trivial, fun b hb => absurd (show b ∈ ([] : List Addr) from hb) (by simp), hok, .of_eq gens⟩
  refine codeAny_mono ((F _ KB (ns_ hG)).go callerA [] sh H ⟨[.ref a], []⟩ [.ref a] [.ref a] _ room rfl e0 (bind sh (.ref a)) (.cons rfl .nil) hw) fun r s2 h => ?_
  match r, h with
  | .ok (.ret u), h =>
    obtain ⟨v, H2, os, bare, un, hok2, rv, qv⟩ := h
    have qv : v = .bl true := qv
    subst qv
    obtain rfl : u = Value.bool true := rv
    refine ⟨rfl, OldK.of_keep fun b o e => ?_, os, bare⟩
    by_cases q : H b = none
    · exact un.keep b o e q (by intro z; exact absurd (show b ∈ ([] : List Addr) from z) (by simp)) (by simp)
    · rcases only b with z | ⟨ob, xs, z⟩
      · exact absurd z q
      · have z2 := un.frzs b ob _ z
        obtain ⟨g1, _⟩ := hok b _ z
        obtain ⟨g2, _⟩ := hok2 b _ z2
        rw [e] at g1
        cases g1
        exact g2
theorem law_end (KX : K.In sh.heap) (hG : sh.heap.Ns mainGlobals mg) (hB : sh.heap.Ns builtinsNs mb) (hbb : ∀ x : Str, x ≠ "__name__" → mb x = bootBuiltins x) (lim : sh.heap.NoLimit) (gens : sh.gens = #[])
    (ha : sh.heap.get? a = some { cls := .type "list", data := .seq us.toArray }) (hi : IntsAre us ns) (hl : ns.length ≤ sizeLine) (room : Room k callerA) (F : ∀ bas : Heap, K.In bas → bas.Ns mainGlobals mg → Gn P w K mg bas k fa fd [x] want)
    (bind : ∀ (s : Shared) (u : Value), BindsTo s fd ⟨[u], []⟩ [(x, u)]) (hw : ∀ H : Hp, Only H → SqL K H a (ns.map V.int) → want [.ref a] H fun v _ => v = .bl true) :
    codeAny (model P w) callerA (.call (.ref fa) ⟨[.ref a], []⟩) (fun r s2 => r = .ok (.ret (.bool true)) ∧ OldK sh.heap s2.heap ∧ s2.os = sh.os ∧ AllBare s2.gens) sh := by
  have rv := vals_ints hi
  have lenV := hi.length
  cases hk : K.lookup a with
  | some o =>
    have e := KX a o hk
    rw [ha] at e
    cases e
    have on : Only fun _ => none := fun _ => .inl rfl
    have sq : SqL K (fun _ => none) a (ns.map V.int) := .inr ⟨_, us.toArray, _, hk, rfl, rfl, rfl, by rw [List.size_toArray, lenV]; exact hl, by simpa using rv⟩
    refine law_from KX hG hB hbb lim gens ha room F bind on (hw _ on sq) (fun b u z => ?_) (fun b z => absurd rfl z) fun z => absurd rfl z
    have z2 : (none : Option HO) = some u := z
    cases z2
  | none =>
    have at_ : ∀ b, b = a → (if b = a then some (HO.frz { cls := .type "list", data := .seq us.toArray } (.lst (ns.map V.int))) else none) = some (HO.frz { cls := .type "list", data := .seq us.toArray } (.lst (ns.map V.int))) := fun b q => if_pos q
    have on : Only fun b => if b = a then some (.frz { cls := .type "list", data := .seq us.toArray } (.lst (ns.map V.int))) else none := fun b => by
      by_cases q : b = a
      · exact .inr ⟨_, _, if_pos q⟩
      · exact .inl (if_neg q)
    refine law_from KX hG hB hbb lim gens ha room F bind on (hw _ on (.inl (.inr ⟨_, if_pos rfl⟩))) (fun b u z => ?_) (fun b z => ?_) fun _ => hk
    · by_cases q : b = a
      · have z2 := (at_ b q).symm.trans z
        cases z2
        subst q
        exact ⟨ha, by rw [List.length_map]; exact hl, us, _, rv, ha⟩
      · have z2 := (if_neg q).symm.trans z
        cases z2
    · by_cases q : b = a
      · exact q
      · exact absurd (if_neg q) z
end
/-- a law from its def's promise -/
theorem walkG {l : PySem.W.OpenLaw} {n k : Nat} {q : Program} {loose : List Str} {XP : (Str → Option Value) → Heap → Prop} {YP : World → Heap → Prop} {d : DefRec} {x : Str} (hn : l.most = some n) (hn2 : n ≤ sizeLine) (hdf : d.params.defaults = []) (room : Room k callerA)
    (F : ∀ (w : World) (mg : Str → Option Value) (fa : Addr) (h : Heap), YP w h → h.Ns mainGlobals mg → mg d.name = some (.ref fa) →
      ∃ (K : PySem.W.Frag) (fd : FuncData) (want : List V → Hp → VK → Prop), K.In h ∧ (∀ (s : Shared) (u : Value), BindsTo s fd ⟨[u], []⟩ [(x, u)]) ∧
        (∀ (H : Hp) (a : Addr) (ns : List Int), ns.length ≤ n → Only H → SqL K H a (ns.map V.int) → want [.ref a] H fun v _ => v = .bl true) ∧ ∀ bas : Heap, K.In bas → bas.Ns mainGlobals mg → Gn l.prog w K mg bas k fa fd [x] want) :
    PySem.W.WalkO q loose XP YP l.row.toRowW d [] (fun f vs => PySem.call f vs) := by
  refine Att.attach_call hn hdf fun w s₀ sh mg mb fa o pm cd doc a us ns G Y ho hd hcd hmg hobj hints hlen hg => ?_
  obtain ⟨K, fd, want, KX, hb, hw, hF⟩ := F w mg fa _ Y G.T.g hmg
  exact law_end KX G.T.g G.T.b G.T.builtins G.T.nolimit hg hobj hints (Nat.le_trans hlen hn2) room hF hb fun H hO hS => hw H a ns hlen hO hS
end Dn

set_option Elab.async false
set_option linter.all false
set_option maxRecDepth 100000
/-! Dn, part X: the bag made of the script. -/
namespace Dn
open PySem PySem.Spec PyProof.Rows L2
/-- the bag at the beginning -/
def bag0 (ns : List Int) : Bg := ⟨0, 1234567891, 0, (cutG ns none (some 63)).map fun i => if i < 0 then -i else i⟩
theorem bag0_ok (ns : List Int) : (bag0 ns).ok := by
  refine ⟨Int.le_refl _, by show (0 : Int) ≤ 1234567891; decide, by show (1234567891 : Int) < 2147483647; decide, Int.le_refl _, fun c hc => ?_, ?_⟩
  · obtain ⟨i, _, rfl⟩ := List.mem_map.mp hc
    show 0 ≤ if i < 0 then -i else i
    split <;> omega
  · show ((cutG ns none (some 63)).map _).length < 1000
    rw [List.length_map]
    unfold cutG
    rw [List.length_take]
    have : HT.sIx ns.length ns.length (some 63) ≤ 63 := by unfold HT.sIx; simp; omega
    omega
/-- what `_law_bag` keeps: it is handed a list of ints, and makes a bag of it -/
def wantBag (K : PySem.W.Frag) : List V → Hp → VK → Prop := fun vs H Q => ∃ a ns, vs = [.ref a] ∧ SqL K H a (ns.map V.int) ∧ ∀ B H', (∀ c o, H c = some o → H' c = some o) → H B = none → BagAt B H' (bag0 ns) → Q (.ref B) H'
def absI (i : Int) : Int := if i < 0 then -i else i
section
variable {X : Cx} {scope : Scope} {sn cn : Str} {p1 p2 p3 p4 p5 p6 p7 p8 p9 p10 p11 p12 p13 p14 : Pos} {j1 j2 j3 j4 : Nat} {N : List Str}
theorem bag_body (hx : XOk X 0) (hN : X.N = [sn, cn]) (hne : sn ≠ cn) (hs : SlotM X 0 sn) (ok : BlkOk X.N X.env.scope scope [(cn, 1)])
    (hc : ∀ (s : Shared) (H : Hp) (Ca : Addr) (cl : List (Str × Addr)) (fp : List Addr), PG (X.blk s H scope (compEnvC scope cl Ca X.env) fp) (.Name cn p7) (gName 1))
    (he : ∀ (s : Shared) (H : Hp) (Ca : Addr) (cl : List (Str × Addr)) (fp : List Addr), PE (X.blk s H scope (compEnvC scope cl Ca X.env) fp) (.Call (.Name "abs" p4) [.Name cn p5] [] p6) (fun σ H Q => ∃ i, σ[1]? = some (some (.int i)) ∧ Q (.int (absI i)) H)) :
    PSs X [.Return (some (.List [.Constant (.int 0) j1 p1, .Constant (.int 1234567891) j2 p2, .Constant (.int 0) j3 p3, .ListComp (.Call (.Name "abs" p4) [.Name cn p5] [] p6) [⟨.Name cn p7, .Subscript (.Name sn p8) (.Slice none (some (.Constant (.int 63) j4 p9)) none p10) p11, [], 0⟩] scope p12] p13)) p14]
      (fun E σ H => ∃ a ns, σ = [some (.ref a), none] ∧ SqL X.K H a (ns.map V.int) ∧ ∀ B H', (∀ c o, H c = some o → H' c = some o) → H B = none → BagAt B H' (bag0 ns) → E.rt (.ref B) H') := by
  have hnd : X.N.Nodup := by rw [hN]; simp [hne]
  refine wkSs (pss_one (ps_ret (pe_lst (pa_cons pe_int (pa_cons pe_int (pa_cons pe_int (pa_cons (pe_lc hx.calm hnd (pi_list (pe_slice sl_list (pe_var hs.ix hs.vis hs.deb hs.cd) po_none (po_some pe_int))) ok hc (fun _ _ _ _ _ => pts_nil) he) pa_nil))))))) fun E σ H ⟨a, ns, e, hq, q⟩ => ?_
  subst e
  refine ⟨.ref a, rfl, 63, rfl, a, _, rfl, hq, fun p hp => ⟨p, rfl, ⟨_, .inl (.inl upd_same)⟩, fun L hL => ?_⟩⟩
  have npL : p ≠ L := fun z => by rw [← z, upd_same] at hL; cases hL
  have hHL : H L = none := by rw [upd_ne (Ne.symm npL)] at hL; exact hL
  have cm : cutV (ns.map V.int) none (some 63) = (cutG ns none (some 63)).map V.int := cutV_map _ _ _
  have ln : (cutG ns none (some 63)).length < 1000 := by have := (bag0_ok ns).sz; unfold bag0 at this; rw [List.length_map] at this; exact this
  generalize hcs : cutG ns none (some 63) = cs at cm ln
  rw [cm] at hL ⊢
  refine lc_list (K := X.K) (a := p) (xs := cs.map V.int) (g := gName 1) (tt := tYes) (te := fun σ H Q => ∃ i, σ[1]? = some (some (.int i)) ∧ Q (.int (absI i)) H) (vs := List.map (fun x => x.snd) [(cn, 1)]) (σ := [some (.ref a), none])
    (Qd := fun H1 => [V.int 0, .int 1234567891, .int 0, .ref L].length ≤ sizeLine ∧ ∀ p, H1 p = none → E.rt (.ref p) (upd H1 p (.lst [V.int 0, .int 1234567891, .int 0, .ref L]))) (fun i H' => H' = upd (upd H p (.lst (cs.map V.int))) L (.lst ((cs.take i).map fun i => V.int (absI i)))) rfl (fun i H' _ h => ?_) (fun i y H' hy h => ?_) fun H' h => ?_
  · rw [h]
    exact .inl (.inl (by rw [upd_ne npL, upd_same]))
  · rw [List.getElem?_map] at hy
    obtain ⟨c, hc1, rfl⟩ := Option.map_eq_some_iff.mp hy
    refine ⟨?_, ?_⟩
    · rfl
    · have goal : ∃ j, ((wipe [some (V.ref a), none] [1]).set 1 (some (.int c)))[1]? = some (some (.int j)) ∧ ∃ acc, H' L = some (.lst acc) ∧ acc.length < sizeLine ∧
          upd H' L (.lst (acc ++ [V.int (absI j)])) = upd (upd H p (.lst (cs.map V.int))) L (.lst ((cs.take (i + 1)).map fun i => V.int (absI i))) := by
        refine ⟨c, rfl, _, by rw [h, upd_same], ?_, ?_⟩
        · rw [List.length_map, List.length_take, sizeLine_eq]; omega
        · rw [h, upd_upd, List.take_add_one, hc1]
          simp
      exact goal
  · rw [List.length_map, List.take_length] at h
    subst h
    refine ⟨by rw [sizeLine_eq]; show 4 ≤ 16777216; decide, fun B hB => ?_⟩
    have nBL : B ≠ L := fun z => by rw [z, upd_same] at hB; cases hB
    have hB2 : (upd H p (.lst (cs.map V.int))) B = none := by rw [upd_ne nBL] at hB; exact hB
    have nBp : B ≠ p := fun z => by rw [z, upd_same] at hB2; cases hB2
    have hB3 : H B = none := by rw [upd_ne nBp] at hB2; exact hB2
    refine q B _ (fun c o e => ?_) hB3 ⟨bag0_ok ns, L, Ne.symm nBL, upd_same, ?_⟩
    · have c1 : c ≠ B := fun z => by subst z; rw [hB3] at e; cases e
      have c2 : c ≠ L := fun z => by subst z; rw [hHL] at e; cases e
      have c3 : c ≠ p := fun z => by subst z; rw [hp] at e; cases e
      rw [upd_ne c1, upd_ne c2, upd_ne c3]; exact e
    · rw [upd_ne (Ne.symm nBL), upd_same]
      unfold bag0
      rw [hcs, List.map_map]
      rfl
end
end Dn

set_option Elab.async false
set_option linter.all false
set_option maxRecDepth 100000
/-! Dn, part Y: `_law_bag` keeps its promise. -/
namespace Dn
open PySem PySem.Spec PyProof.Rows L2
def scBag (d : He.DefD) (sn cn : Str) : Sc := ⟨[sn, cn], d.scope, fun _ => true, [], none, fun _ => 9⟩
/-- is it the def that makes the bag -/
def bagB (d : He.DefD) (sn cn : Str) : Bool := match d.body with
  | [.Return (some (.List [.Constant (.int i1) _ _, .Constant (.int i2) _ _, .Constant (.int i3) _ _, .ListComp (.Call (.Name ab _) [.Name c1 _] [] _) [⟨.Name c2 _, .Subscript (.Name s1 _) (.Slice none (some (.Constant (.int i4) _ _)) none _) _, [], 0⟩] scope _] _)) _] =>
    decide (i1 = 0) && decide (i2 = 1234567891) && decide (i3 = 0) && decide (i4 = 63) && ab == Str.ofString "abs" && c1 == cn && c2 == cn && s1 == sn && scB [sn, cn] [sn] d.scope && blkC [sn, cn] d.scope scope [(cn, 1)] &&
      slotB (scBag d sn cn) 0 sn && slotB ((scBag d sn cn).blk scope) 1 cn && locB ((scBag d sn cn).blk scope) cn && glB ((scBag d sn cn).blk scope) (Str.ofString "abs") && !(sn == cn)
  | _ => false
section
variable {P : Program} {w : World} {K : PySem.W.Frag} {mg : Str → Option Value} {base : Heap} {es : List Ent}
theorem gn_bag {d : He.DefD} {f : Addr} {fd : FuncData} {sn cn : Str} (hm : ModOk K mg es) (E : FunD K d.name d.qual d.params d.body d.scope [] [] f fd) (h : bagB d sn cn = true) (k : Nat) : Gn P w K mg base (k + 1) f fd [sn] (wantBag K) := by
  obtain ⟨oc, od, dV, kV, doc, pm, an, cdv, ct, osl, rfl, lk, hcd, _, _⟩ := E.ex
  unfold bagB at h
  split at h
  · rename_i i1 j1 p1 i2 j2 p2 i3 j3 p3 ab p4 c1 p5 p6 c2 p7 s1 p8 i4 j4 p9 p10 p11 scope p12 p13 p14 hbody
    obtain ⟨h, h15⟩ := and2 h
    obtain ⟨h, h14⟩ := and2 h
    obtain ⟨h, h13⟩ := and2 h
    obtain ⟨h, h12⟩ := and2 h
    obtain ⟨h, h11⟩ := and2 h
    obtain ⟨h, h10⟩ := and2 h
    obtain ⟨h, h9⟩ := and2 h
    obtain ⟨h, h8⟩ := and2 h
    obtain ⟨h, h7⟩ := and2 h
    obtain ⟨h, h6⟩ := and2 h
    obtain ⟨h, h5⟩ := and2 h
    obtain ⟨h, h4⟩ := and2 h
    obtain ⟨h, h3⟩ := and2 h
    obtain ⟨h1, h2⟩ := and2 h
    have S := scB_ok h9
    have ne : sn ≠ cn := by
      intro z
      rw [z] at h15
      simp at h15
    have z1 := of_decide_eq_true h1
    have z2 := of_decide_eq_true h2
    have z3 := of_decide_eq_true h3
    have z4 := of_decide_eq_true h4
    have z5 := eq_of_beq h5
    have z6 := eq_of_beq h6
    have z7 := eq_of_beq h7
    have z8 := eq_of_beq h8
    subst z1 z2 z3 z4 z5 z6 z7 z8
    refine gn_of lk hcd S (fun vs H Q ⟨a, ns, e, _⟩ => by rw [e]; rfl) fun Ar outs sh H vs Q hr hq hw => ?_
    have xs : XS (scBag d s1 c2) (cxOf noX P w K mg base [s1, c2] d.qual d.scope f cdv Ar outs sh H noE).nox ⟨K, fun _ _ => fail, none, fun _ => 9⟩ :=
      ⟨rfl, S.nd, rfl, fun _ _ => rfl, rfl, rfl, rfl, ⟨rfl, hr.mono (Nat.zero_le _), hq, hm.sys, hm.free⟩, fun q hq => absurd (show q ∈ ([] : List (Str × Nat × Bool × Nat)) from hq) (by simp)⟩
    have sl := slot_of xs h11
    have key := bag_body (X := (cxOf noX P w K mg base [s1, c2] d.qual d.scope f cdv Ar outs sh H noE).nox) (p1 := p1) (p2 := p2) (p3 := p3) (p4 := p4) (p5 := p5) (p6 := p6) (p7 := p7) (p8 := p8) (p9 := p9) (p10 := p10) (p11 := p11) (p12 := p12) (p13 := p13) (p14 := p14) (j1 := j1) (j2 := j2) (j3 := j3) (j4 := j4) (scope := scope) (sn := s1) (cn := c2)
      xs.ok rfl ne ⟨sl.ix, sl.vis, sl.deb, sl.cd⟩ (by exact blkOk_by h10) (fun s H Ca cl fp => ?_) (fun s H Ca cl fp => ?_)
    · rw [hbody]
      refine ⟨_, PSs.nox key, ?_⟩
      obtain ⟨a, ns, rfl, hq2, q⟩ := hw
      exact ⟨a, ns, rfl, hq2, q⟩
    · have xb := xs.blk (s := s) (H := H) (scope := scope) (cl := cl) (Ca := Ca) (fp := fp)
      obtain ⟨l1, l2⟩ := loc_of xb h13
      exact pg_name S.nd rfl l1 l2
    · have xb := xs.blk (s := s) (H := H) (scope := scope) (cl := cl) (Ca := Ca) (fp := fp)
      have sb := slot_of xb h12
      refine wkE (pe_callB call_abs (gl_of xb h14) (hm.free "abs" (by decide)) boot_abs (pa_cons (pe_var sb.ix sb.vis sb.deb sb.cd) pa_nil)) fun σ H Q ⟨i, e1, q⟩ => ?_
      exact ⟨_, e1, i, rfl, q⟩
  · cases h
end
end Dn

set_option Elab.async false
set_option linter.all false
set_option maxRecDepth 100000
/-! Dn, part Z: the law's def. -/
namespace Dn
open PySem PySem.Spec PyProof.Rows L2
def scLaw (es : List Ent) (d : He.DefD) (N : List Str) : Sc := ⟨N, d.scope, fun _ => true, tbl 0 es, some 1, ownF es⟩
/-- is it the law's def: first the bag, then what the term tells -/
def lawOk (es : List Ent) (d : He.DefD) (N : List Str) (bn : Str) (body : Sts) : Bool := match d.body with
  | .Assign [.Name x _] (.Call (.Name f _) [.Name y _] [] _) _ :: rest =>
    f == bn && scB N (N.take 1) d.scope && slotB (scLaw es d N) 0 y && slotB (scLaw es d N) 1 x && locB (scLaw es d N) x && glB (scLaw es d N) f && okName f && decide (2 ≤ N.length) &&
      (match ckSs (scLaw es d N) 0 [] (List.replicate N.length 0) body rest with
      | some _ => true
      | none => false)
  | _ => false
def wantLaw (K : PySem.W.Frag) (es : List Ent) (k : Nat) (N : List Str) (body : Sts) : List V → Hp → VK → Prop := fun vs H Q => ∃ a ns, vs = [.ref a] ∧ SqL K H a (ns.map V.int) ∧
  (∃ b', exs (run (Ft es) k) (List.replicate N.length none) body (bag0 ns) = some (.rt (.bl true), b')) ∧ ∀ H', Q (.bl true) H'
section
variable {P : Program} {w : World} {K : PySem.W.Frag} {mg : Str → Option Value} {base : Heap} {es : List Ent}
theorem si_law {C : Cn} {N : List Str} {B a : Addr} {H' : Hp} {b : Bg} {Γ : Gam} (hN : 2 ≤ N.length) (hb : BagAt B H' b) (hbs : C.bs = some 1) :
    SI C B (fun _ => none) H' Γ (fun _ => none) b H' ((L2.start N [.ref a]).set 1 (some (.ref B))) (List.replicate N.length none) := by
  have st : StOk B (fun _ => none) H' b := ⟨fun a o e => (by have e2 : (none : Option HO) = some o := e; cases e2), rfl, hb⟩
  have hl : (L2.start N [V.ref a]).length = N.length := start_len (by show 1 ≤ N.length; omega)
  refine ⟨.refl st, by rw [List.length_set, hl, List.length_replicate], ⟨fun _ => [], fun i d hd => ?_, fun _ _ _ _ h => by simp at h⟩, fun i hi => ?_, cel_of hb⟩
  · rw [List.getElem?_replicate] at hd
    by_cases q : i < N.length
    · rw [if_pos q] at hd; cases hd
    · rw [if_neg q] at hd; cases hd
  · rw [hbs] at hi
    have e : i = 1 := by simpa using hi.symm
    subst e
    refine ⟨by rw [List.getElem?_set_self (by rw [hl]; omega)], ?_⟩
    rw [List.getElem?_replicate, if_pos (by omega)]
theorem gn_law {d : He.DefD} {f fb : Addr} {fd fdb : FuncData} {N : List Str} {bn sn : Str} {body : Sts} {k : Nat} (hm : ModOk K mg es) (ck : ∀ e ∈ es, ckDef es e = true) (E : FunD K d.name d.qual d.params d.body d.scope [] [] f fd) (h : lawOk es d N bn body = true)
    (notake : ∀ e ∈ es, e.m ≠ .take) (hbag : Gn P w K mg base k fb fdb [sn] (wantBag K)) (hbm : mg bn = some (.ref fb)) (hbk : PySem.W.keepIn K (.ref fb) = true) (hbb : Binds K fdb [sn] []) :
    Gn P w K mg base (k + 1) f fd (N.take 1) (wantLaw K es k N body) := by
  obtain ⟨oc, od, dV, kV, doc, pm, an, cdv, ct, osl, rfl, lk, hcd, _, _⟩ := E.ex
  unfold lawOk at h
  split at h
  · rename_i x p1 fn p2 y p3 p4 p5 rest hbody
    obtain ⟨h, h9⟩ := and2 h
    obtain ⟨h, h8⟩ := and2 h
    obtain ⟨h, h7⟩ := and2 h
    obtain ⟨h, h6⟩ := and2 h
    obtain ⟨h, h5⟩ := and2 h
    obtain ⟨h, h4⟩ := and2 h
    obtain ⟨h, h3⟩ := and2 h
    obtain ⟨h1, h2⟩ := and2 h
    have z1 := eq_of_beq h1
    subst z1
    have hlen := of_decide_eq_true h8
    have S := scB_ok h2
    cases hck : ckSs (scLaw es d N) 0 [] (List.replicate N.length 0) body rest with
    | none => rw [hck] at h9; cases h9
    | some r =>
      refine gn_of lk hcd S (fun vs H Q ⟨a, ns, e, _⟩ => by rw [e, List.length_take]; show 1 = _; omega) fun Ar outs sh H vs Q hr hq hw => ?_
      have xs : XS (scLaw es d N) (cxOf noX P w K mg base N d.qual d.scope f cdv Ar outs sh H noE).nox ⟨K, run (Ft es) k, some 1, ownF es⟩ := by
        refine ⟨rfl, S.nd, rfl, fun _ _ => rfl, rfl, rfl, rfl, ⟨rfl, hr.mono (Nat.zero_le _), hq, hm.sys, hm.free⟩, fun q hqm => ?_⟩
        obtain ⟨j, e2, g1, rfl⟩ := tbl_mem hqm
        obtain ⟨f2, fd2, E2⟩ := hm.ents e2 (List.mem_of_getElem? g1)
        refine ⟨k, f2, fd2, pars e2, ?_, hr, E2.mg, E2.fn.kp, E2.bind⟩
        have g := gn_all (P := P) (w := w) (base := base) hm ck (fun k e f fd he hmt => absurd hmt (notake e he)) k j e2 f2 fd2 g1 E2
        rw [Nat.zero_add]
        have ho : ownF es j = fnOwn e2.m := by unfold ownF; rw [g1]
        show Gn P w K mg base k f2 fd2 (pars e2) (pr K (run (Ft es) k j) (fnBag e2.m) (fnNp e2.m) (ownF es j))
        rw [ho]
        exact g
      have s0 := slot_of xs h3
      have s1 := slot_of xs h4
      obtain ⟨l1, l2⟩ := loc_of xs h5
      have call := e_call (X := (cxOf noX P w K mg base N d.qual d.scope f cdv Ar outs sh H noE).nox) (pn := p2) (pos := p4) hbag hr hq (gl_of xs h6) hbm hbk hbb (pa_cons (pe_var s0.ix s0.vis s0.deb s0.cd (pos := p3)) pa_nil) (name_of h7).1 rfl rfl
      have first := ps_set (X := (cxOf noX P w K mg base N d.qual d.scope f cdv Ar outs sh H noE).nox) (pos := p5) (pos' := p1) S.nd s1.ix l1 call rfl l2
      have body_ := ckSs_ok (C := ⟨K, run (Ft es) k, some 1, ownF es⟩) (X := (cxOf noX P w K mg base N d.qual d.scope f cdv Ar outs sh H noE).nox) PassesOwn.never body _ _ _ _ _ r xs hck (r.getD []) fun g e => by rw [e]; rfl
      rw [hbody]
      refine ⟨_, PSs.nox (pss_cons first body_), ?_⟩
      obtain ⟨a, ns, rfl, hq2, ⟨b', hex⟩, q⟩ := hw
      refine ⟨.ref a, start_get rfl, a, ns, rfl, hq2, fun B H' kp nB hB => ?_⟩
      refine ⟨B, fun _ => none, H', fun _ => none, _, List.replicate N.length none, _, b', si_law hlen hB rfl, hex, fun v G' H2 fp P2 R nd fr => ?_⟩
      have ev : v = .bl true := R.bl
      subst ev
      exact q H2
  · cases h
end
end Dn

set_option Elab.async false
set_option linter.all false
set_option maxRecDepth 100000
set_option maxHeartbeats 2000000
/-! Dn, part Hd: what the head tells: the defs, the free names, and that sys.modules stands. -/
namespace Dn
open PySem PySem.Spec PyProof.Rows L2
abbrev AlS : Type := Bool × He.AlD
def obsS (fa : List He.Fa) (fn : List He.DefD) (K : PySem.W.Frag) : AlS := ((K.lookup sysModules).isSome, He.obsD fa fn K)
def valS (fn : List He.DefD) : AlS := (true, He.valD fn)
def SaysS (fa : List He.Fa) (fn : List He.DefD) (K : PySem.W.Frag) : Prop := obsS fa fn K = valS fn
def obsSG (n : Nat) (fa : List He.Fa) (fn : List He.DefD) (g : Addr → Option Obj) : AlS := obsS fa fn (He.frG g (He.asD g n ++ [sysModules]))
def hookS (n : Nat) (fa : List He.Fa) (fn : List He.DefD) : PySem.W.Hook where
  α := AlS
  obs := fun s => obsSG n fa fn s.heap.get?
  val := fun _ => valS fn
  says := fun _ h => ∃ K : PySem.W.Frag, K.In h ∧ SaysS fa fn K
  of := fun _ _ e => ⟨_, He.frG_in, e⟩
  keeps := fun _ _ _ ⟨K, hK, c⟩ kp => ⟨K, PySem.W.Frag.In.keeps hK kp, c⟩
theorem obsSG_eq {n : Nat} {fa : List He.Fa} {fn : List He.DefD} {g : Addr → Option Obj} {s : Shared} (h : ∀ a, g a = s.heap.get? a) : obsSG n fa fn g = (hookS n fa fn).obs s := by
  have e : g = s.heap.get? := funext h
  rw [e] <;> rfl
theorem SaysS.sys {fa : List He.Fa} {fn : List He.DefD} {K : PySem.W.Frag} (c : SaysS fa fn K) : ∃ o, K.lookup sysModules = some o := by
  have q : (K.lookup sysModules).isSome = true := congrArg (fun z : AlS => z.1) c
  exact Option.isSome_iff_exists.mp q
theorem SaysS.d {fa : List He.Fa} {fn : List He.DefD} {K : PySem.W.Frag} (c : SaysS fa fn K) : He.SaysD fa fn K := congrArg (fun z : AlS => z.2) c
/-! ### the text's defs -/
def noDef : He.DefD := ⟨("", none), "", "", ⟨[], [], none, [], [], none, []⟩, [], ⟨.function, [], false, false, []⟩, [], []⟩
def defsIn : List Stmt → List He.DefD
  | [] => []
  | .FunctionDef n a b _ _ _ sc _ _ _ :: r => ⟨(n, none), n, n, a, b, sc, [], []⟩ :: defsIn r
  | _ :: r => defsIn r
theorem defsIn_plain : ∀ {l : List Stmt} {d : He.DefD}, d ∈ defsIn l → d.at_ = (d.name, none) ∧ d.dfl = [] ∧ d.kwd = []
  | [], _, h => by simp [defsIn] at h
  | st :: r, d, h => by
    have ih := @defsIn_plain r d
    cases st with
    | FunctionDef n a b _ _ _ sc _ _ _ =>
      rcases List.mem_cons.mp (show d ∈ ⟨(n, none), n, n, a, b, sc, [], []⟩ :: defsIn r from h) with rfl | h
      · exact ⟨rfl, rfl, rfl⟩
      · exact ih h
    | _ => exact ih h
section
variable {fa : List He.Fa} {l : List Stmt} {K : PySem.W.Frag} {h : Heap} {mg : Str → Option Value}
theorem says_all {fn : List He.DefD} (c : He.SaysD fa fn K) : ∀ x ∈ fa, x.ok K = true := by
  have c1 := (Bool.and_eq_true_iff.mp (show ((fa.all fun f => f.ok K) && fn.all fun d => d.ok K) = true from congrArg (fun z : He.AlD => z.1) c)).1
  exact List.all_eq_true.mp c1
/-- a def's object, by its name -/
theorem says_def (KX : K.In h) (G : h.Ns mainGlobals mg) (c : He.SaysD fa (defsIn l) K) (hfa : ∀ d ∈ defsIn l, He.Fa.glo d.name ∈ fa) {d : He.DefD} (hd : d ∈ defsIn l) : ∃ fd, FunD K d.name d.qual d.params d.body d.scope [] [] (He.ga K d.name) fd ∧ mg d.name = some (.ref (He.ga K d.name)) := by
  obtain ⟨i, hi⟩ := List.mem_iff_getElem?.mp hd
  obtain ⟨fd, F⟩ := c.def_ i hi
  obtain ⟨e1, e2, e3⟩ := defsIn_plain hd
  have g := He.glo_ok KX G (says_all c _ (hfa d hd))
  refine ⟨fd, ?_, g⟩
  have v1 : d.dvs K = [] := by unfold He.DefD.dvs; rw [e2]; rfl
  have v2 : d.kws K = [] := by unfold He.DefD.kws; rw [e3]; rfl
  rw [v1, v2, e1] at F
  exact F
theorem getD_mem {α : Type} {l : List α} {j : Nat} {x : α} (h : j < l.length) : l.getD j x ∈ l := by
  rw [List.getD_eq_getElem?_getD, List.getElem?_eq_getElem h]
  exact List.getElem_mem h
end
end Dn

set_option Elab.async false
set_option linter.all false
set_option maxRecDepth 100000
/-! Dn, plain laws, part one: what the evaluator tells whatever is drawn. -/
namespace Dn
open PySem L2

/-- whatever is drawn, m goes through and tells something of Q -/
def Ok {α : Type} (m : M α) (Q : α → Prop) : Prop := ∀ b, ∃ a b', m b = some (a, b') ∧ Q a
section
variable {α β γ : Type}
theorem ok_ret {a : α} {Q : α → Prop} (h : Q a) : Ok (ret a) Q := fun b => ⟨a, b, rfl, h⟩
theorem ok_bnd {m : M α} {f : α → M β} {P : α → Prop} {Q : β → Prop} (h : Ok m P) (k : ∀ a, P a → Ok (f a) Q) : Ok (bnd m f) Q := fun b => by
  obtain ⟨a, b', e, p⟩ := h b
  obtain ⟨c, b2, e2, q⟩ := k a p b'
  exact ⟨c, b2, by unfold bnd; rw [e]; exact e2, q⟩
theorem Ok.mono {m : M α} {P Q : α → Prop} (h : Ok m P) (k : ∀ a, P a → Q a) : Ok m Q := fun b => by
  obtain ⟨a, b', e, p⟩ := h b
  exact ⟨a, b', e, k a p⟩
theorem ok_eq {m m' : M α} {Q : α → Prop} (e : m = m') (h : Ok m' Q) : Ok m Q := e ▸ h
@[simp] theorem bnd_r (a : α) (f : α → M β) : bnd (ret a) f = f a := rfl
@[simp] theorem bnd_f (f : α → M β) : bnd fail f = fail := rfl
@[simp] theorem bnd_b (m : M α) (f : α → M β) (g : β → M γ) : bnd (bnd m f) g = bnd m fun x => bnd (f x) g := by
  funext b
  show (match (match m b with | some (a, b') => f a b' | none => none) with | some (a, b') => g a b' | none => none) = (match m b with | some (a, b') => (match f a b' with | some (a, b') => g a b' | none => none) | none => none)
  cases m b <;> rfl
theorem bnd_id (m : M α) : bnd m ret = m := by
  funext b
  show (match m b with | some (a, b') => some (a, b') | none => none) = m b
  cases m b <;> rfl
@[simp] theorem lift_s (a : α) : lift (some a) = ret a := rfl
@[simp] theorem boolOf_b (b : Bool) : boolOf (.bl b) = ret b := rfl
@[simp] theorem intOf_i (i : Int) : intOf (.int i) = ret i := rfl
@[simp] theorem itemsOf_l (xs : List D) : itemsOf (.lst xs) = ret xs := rfl
@[simp] theorem itemsOf_t (xs : List D) : itemsOf (.tup xs) = ret xs := rfl
@[simp] theorem lstOf_l (xs : List D) : lstOf (.lst xs) = ret xs := rfl
@[simp] theorem lstOf_t (xs : List D) : lstOf (.tup xs) = ret xs := rfl
@[simp] theorem dctOf_d (xs : List (D × D)) : dctOf (.dct xs) = ret xs := rfl
theorem bnd_ite {c : Prop} [Decidable c] (a b : M α) (f : α → M β) : bnd (if c then a else b) f = if c then bnd a f else bnd b f := by
  by_cases h : c
  · rw [if_pos h, if_pos h]
  · rw [if_neg h, if_neg h]
theorem ok_ite {c : Prop} [Decidable c] {a b : M α} {Q : α → Prop} (h1 : c → Ok a Q) (h2 : ¬c → Ok b Q) : Ok (if c then a else b) Q := by
  by_cases h : c
  · rw [if_pos h]; exact h1 h
  · rw [if_neg h]; exact h2 h
theorem ok_lift {o : Option α} {a : α} {Q : α → Prop} (e : o = some a) (q : Q a) : Ok (lift o) Q := by rw [e]; exact ok_ret q
end

/-- one by one -/
abbrev All2 {α β : Type} (R : α → β → Prop) (xs : List α) (ys : List β) : Prop := PySem.W.EachIs R xs ys
theorem all2_map {α β γ : Type} {R : α → β → Prop} {f : γ → β} : ∀ {xs : List α} {zs : List γ}, All2 (fun x z => R x (f z)) xs zs → All2 R xs (zs.map f)
  | _, _, .nil => .nil
  | _, _, .cons h t => .cons h (all2_map t)
theorem all2_ex {α β γ : Type} {R : α → γ → Prop} {f : γ → β} : ∀ {xs : List α} {ys : List β}, All2 (fun x y => ∃ z, y = f z ∧ R x z) xs ys → ∃ zs, ys = zs.map f ∧ All2 R xs zs
  | _, _, .nil => ⟨[], rfl, .nil⟩
  | _, _, .cons h t => by
    obtain ⟨z, rfl, r⟩ := h
    obtain ⟨zs, rfl, rs⟩ := all2_ex t
    exact ⟨z :: zs, rfl, .cons r rs⟩
theorem all2_fst {α β : Type} {R : α → β → Prop} {g : β → α} (hr : ∀ x y, R x y → g y = x) : ∀ {xs : List α} {ys : List β}, All2 R xs ys → ys.map g = xs
  | _, _, .nil => rfl
  | _, _, .cons h t => by rw [List.map_cons, hr _ _ h, all2_fst hr t]
theorem all2_right {α β : Type} {R : α → β → Prop} : ∀ {xs : List α} {ys : List β}, All2 R xs ys → ∀ y ∈ ys, ∃ x ∈ xs, R x y
  | _, _, .nil, _, h => by cases h
  | _, _, .cons r t, y, h => by
    rcases List.mem_cons.mp h with rfl | h
    · exact ⟨_, List.mem_cons_self, r⟩
    · obtain ⟨x, hx, q⟩ := all2_right t y h
      exact ⟨x, List.mem_cons_of_mem _ hx, q⟩

/-! ### loops -/
theorem loop_ret {f : D → M (List D)} {g : D → List D} : ∀ (xs : List D), (∀ x ∈ xs, f x = ret (g x)) → loopM f xs = ret (xs.flatMap g)
  | [], _ => rfl
  | x :: xs, h => by
    show bnd (f x) (fun a => bnd (loopM f xs) fun r => ret (a ++ r)) = _
    rw [h x List.mem_cons_self, loop_ret xs fun y hy => h y (List.mem_cons_of_mem _ hy)]
    rfl
theorem loop_map {α : Type} {f : D → M (List D)} {e : α → D} {g : α → D} (xs : List α) (h : ∀ x ∈ xs, f (e x) = ret [g x]) : loopM f (xs.map e) = ret (xs.map g) := by
  induction xs with
  | nil => rfl
  | cons x xs ih =>
    show bnd (f (e x)) (fun a => bnd (loopM f (xs.map e)) fun r => ret (a ++ r)) = _
    rw [h x List.mem_cons_self, ih fun y hy => h y (List.mem_cons_of_mem _ hy)]
    rfl
theorem loop_flat {α : Type} {f : D → M (List D)} {e : α → D} {g : α → List D} (xs : List α) (h : ∀ x ∈ xs, f (e x) = ret (g x)) : loopM f (xs.map e) = ret (xs.flatMap g) := by
  induction xs with
  | nil => rfl
  | cons x xs ih =>
    show bnd (f (e x)) (fun a => bnd (loopM f (xs.map e)) fun r => ret (a ++ r)) = _
    rw [h x List.mem_cons_self, ih fun y hy => h y (List.mem_cons_of_mem _ hy)]
    rfl
theorem ok_loop {R : D → D → Prop} {f : D → M (List D)} : ∀ (xs : List D), (∀ x ∈ xs, Ok (f x) fun l => ∃ y, l = [y] ∧ R x y) → Ok (loopM f xs) fun ys => All2 R xs ys
  | [], _ => ok_ret .nil
  | x :: xs, h => by
    refine ok_bnd (h x List.mem_cons_self) fun l hl => ?_
    obtain ⟨y, rfl, r⟩ := hl
    exact ok_bnd (ok_loop xs fun z hz => h z (List.mem_cons_of_mem _ hz)) fun ys hys => ok_ret (.cons r hys)
theorem iter_ok {f : Rho → D → M Out} (I : List D → Rho → Prop) : ∀ (xs done : List D) (ρ : Rho), I done ρ →
    (∀ dn x r ρ, done ++ xs = dn ++ x :: r → I dn ρ → Ok (f ρ x) fun o => ∃ ρ', (o = .nx ρ' ∨ o = .ct ρ') ∧ I (dn ++ [x]) ρ') → Ok (iter f ρ xs) fun o => ∃ ρ', o = .nx ρ' ∧ I (done ++ xs) ρ'
  | [], done, ρ, h, _ => ok_ret ⟨ρ, rfl, by rw [List.append_nil]; exact h⟩
  | x :: xs, done, ρ, h, k => by
    refine ok_bnd (k done x xs ρ rfl h) fun o ho => ?_
    obtain ⟨ρ', e, i⟩ := ho
    have t := iter_ok I xs (done ++ [x]) ρ' i fun dn y r ρ hy => k dn y r ρ (by rw [← hy, List.append_assoc]; rfl)
    rw [List.append_assoc] at t
    rcases e with rfl | rfl
    · exact t
    · exact t
/-- a loop over items of one kind -/
theorem iter_map {α : Type} {f : Rho → D → M Out} {e : α → D} (I : List α → Rho → Prop) : ∀ (xs done : List α) (ρ : Rho), I done ρ →
    (∀ dn x r ρ, done ++ xs = dn ++ x :: r → I dn ρ → Ok (f ρ (e x)) fun o => ∃ ρ', (o = .nx ρ' ∨ o = .ct ρ') ∧ I (dn ++ [x]) ρ') → Ok (iter f ρ (xs.map e)) fun o => ∃ ρ', o = .nx ρ' ∧ I (done ++ xs) ρ'
  | [], done, ρ, h, _ => ok_ret ⟨ρ, rfl, by rw [List.append_nil]; exact h⟩
  | x :: xs, done, ρ, h, k => by
    refine ok_bnd (k done x xs ρ rfl h) fun o ho => ?_
    obtain ⟨ρ', q, i⟩ := ho
    have t := iter_map (f := f) (e := e) I xs (done ++ [x]) ρ' i fun dn y r ρ hy => k dn y r ρ (by rw [← hy, List.append_assoc]; rfl)
    rw [List.append_assoc] at t
    rcases q with rfl | rfl
    · exact t
    · exact t
/-- a loop that keeps something -/
theorem iter_keep {f : Rho → D → M Out} {I : Rho → Prop} (xs : List D) (ρ : Rho) (h : I ρ)
    (k : ∀ x ∈ xs, ∀ ρ, I ρ → Ok (f ρ x) fun o => ∃ ρ', (o = .nx ρ' ∨ o = .ct ρ') ∧ I ρ') : Ok (iter f ρ xs) fun o => ∃ ρ', o = .nx ρ' ∧ I ρ' :=
  (iter_ok (fun _ => I) xs [] ρ h fun dn x r ρ hx i => k x (by rw [show xs = dn ++ x :: r from hx]; simp) ρ i).mono fun o ho => ho

/-! ### the run of a def -/
theorem run_py {F : List Fn} {i : Nat} {p : Py} (h : F[i]? = some (.py p)) (k : Nat) {ds : List D} (hl : ds.length = p.np) : run F (k + 1) i ds = bnd (exs (run F k) (entry p ds) p.body) outD := by
  show (match F[i]? with | some (.py p) => if ds.length = p.np then bnd (exs (run F k) (entry p ds) p.body) outD else fail | some .take => _ | none => fail) = _
  rw [h]
  exact if_pos hl
theorem exs_nil (Φ : Nat → List D → M D) (ρ : Rho) : exs Φ ρ .nil = ret (.nx ρ) := by simp [exs]
theorem exs_cons (Φ : Nat → List D → M D) (ρ : Rho) (s : St) (r : Sts) : exs Φ ρ (.cons s r) = bnd (ex Φ ρ s) fun o => match o with
    | .nx ρ' => exs Φ ρ' r
    | o => ret o := by
  rw [exs]
  all_goals first | rfl | congr 1
/-- a statement that goes on -/
theorem ok_step {Φ : Nat → List D → M D} {ρ : Rho} {s : St} {r : Sts} {P : Rho → Prop} {Q : Out → Prop} (h : Ok (ex Φ ρ s) fun o => ∃ ρ', o = .nx ρ' ∧ P ρ') (k : ∀ ρ', P ρ' → Ok (exs Φ ρ' r) Q) : Ok (exs Φ ρ (.cons s r)) Q := by
  rw [exs_cons]
  refine ok_bnd h fun o ho => ?_
  obtain ⟨ρ', rfl, p⟩ := ho
  exact k ρ' p

/-! ### sizes, and what can be shown and compared -/
mutual
/-- no dict, no instance; small numbers, texts of signs -/
def okD : D → Bool
  | .tup xs => okDs xs
  | .lst xs => okDs xs
  | .int i => decide (i.natAbs < 10 ^ 12)
  | .str s => s.cps.toList.all fun c => decide (c < 16 ^ 8)
  | .dct _ => false
  | .ins _ => false
  | _ => true
def okDs : List D → Bool
  | [] => true
  | x :: xs => okD x && okDs xs
end
mutual
def wD : D → Nat
  | .tup xs => wDs xs
  | .lst xs => wDs xs
  | .int _ => 40
  | .str s => s.cps.size
  | _ => 0
def wDs : List D → Nat
  | [] => 0
  | x :: xs => wD x + 1 + wDs xs
end
mutual
theorem flat_of_ok : ∀ d : D, okD d = true → flat d = true
  | .non, _ => rfl
  | .bl _, _ => rfl
  | .int _, _ => rfl
  | .str _, _ => rfl
  | .tup xs, h => by simpa [flat] using flats_of_ok xs (by simpa [okD] using h)
  | .lst xs, h => by simpa [flat] using flats_of_ok xs (by simpa [okD] using h)
  | .dct _, h => by simp [okD] at h
  | .ins _, h => by simp [okD] at h
theorem flats_of_ok : ∀ ds : List D, okDs ds = true → flats ds = true
  | [], _ => rfl
  | d :: ds, h => by
    have h' : okD d = true ∧ okDs ds = true := by simpa [okDs] using h
    simp [flats, flat_of_ok d h'.1, flats_of_ok ds h'.2]
end
theorem log2_lt {n k : Nat} (h : n < 2 ^ k) (hk : 0 < k) : n.log2 < k := by
  by_cases h0 : n = 0
  · subst h0; simpa using hk
  · exact (Nat.log2_lt h0).mpr h
mutual
theorem short_of_ok : ∀ d : D, okD d = true → (toP d).leavesShort 13 = true
  | .non, _ => rfl
  | .bl _, _ => rfl
  | .int i, h => by
    simp only [toP, PyData.leavesShort, decide_eq_true_eq]
    exact PyData.shown_int_le (by simpa [okD] using h)
  | .str s, h => by simpa [toP, PyData.leavesShort, okD] using h
  | .tup xs, h => by simpa [toP, PyData.leavesShort] using shorts_of_ok xs (by simpa [okD] using h)
  | .lst xs, h => by simpa [toP, PyData.leavesShort] using shorts_of_ok xs (by simpa [okD] using h)
  | .dct _, h => by simp [okD] at h
  | .ins _, h => by simp [okD] at h
theorem shorts_of_ok : ∀ ds : List D, okDs ds = true → PyData.leavesShortAll 13 (toPs ds) = true
  | [], _ => rfl
  | d :: ds, h => by
    have h' : okD d = true ∧ okDs ds = true := by simpa [okDs] using h
    simp [toPs, PyData.leavesShortAll, short_of_ok d h'.1, shorts_of_ok ds h'.2]
end
mutual
theorem showable_of_ok : ∀ d : D, okD d = true → (toP d).showable = true
  | .non, _ => rfl
  | .bl _, _ => rfl
  | .int i, h => by
    have h' : i.natAbs < 10 ^ 12 := by simpa [okD] using h
    simp only [toP, PyData.showable, decide_eq_true_eq]
    exact Nat.lt_trans (log2_lt (k := 40) (Nat.lt_trans h' (by decide)) (by decide)) (by decide)
  | .str s, h => rfl
  | .tup xs, h => by simpa [toP, PyData.showable] using showables_of_ok xs (by simpa [okD] using h)
  | .lst xs, h => by simpa [toP, PyData.showable] using showables_of_ok xs (by simpa [okD] using h)
  | .dct _, h => by simp [okD] at h
  | .ins _, h => by simp [okD] at h
theorem showables_of_ok : ∀ ds : List D, okDs ds = true → PyData.showableAll (toPs ds) = true
  | [], _ => rfl
  | d :: ds, h => by
    have h' : okD d = true ∧ okDs ds = true := by simpa [okDs] using h
    simp [toPs, PyData.showableAll, showable_of_ok d h'.1, showables_of_ok ds h'.2]
end
mutual
theorem weight_of_ok : ∀ d : D, okD d = true → (toP d).weight ≤ wD d
  | .non, _ => by simp [toP, PyData.weight, wD]
  | .bl _, _ => by simp [toP, PyData.weight, wD]
  | .int i, h => by
    have h' : i.natAbs < 10 ^ 12 := by simpa [okD] using h
    simp only [toP, PyData.weight, wD]
    have := log2_lt (k := 40) (Nat.lt_trans h' (by decide)) (by decide)
    split <;> omega
  | .str s, h => by simp [toP, PyData.weight, wD]
  | .tup xs, h => by simpa [toP, PyData.weight, wD] using weights_of_ok xs (by simpa [okD] using h)
  | .lst xs, h => by simpa [toP, PyData.weight, wD] using weights_of_ok xs (by simpa [okD] using h)
  | .dct _, h => by simp [okD] at h
  | .ins _, h => by simp [okD] at h
theorem weights_of_ok : ∀ ds : List D, okDs ds = true → PyData.weightAll (toPs ds) ≤ wDs ds
  | [], _ => by simp [toPs, PyData.weightAll, wDs]
  | d :: ds, h => by
    have h' : okD d = true ∧ okDs ds = true := by simpa [okDs] using h
    have a := weight_of_ok d h'.1
    have b := weights_of_ok ds h'.2
    simp only [toPs, PyData.weightAll, wDs]
    omega
end
theorem sz_line : sizeLine = line := sizeLine_eq
theorem show_ok {d : D} (h : okD d = true) (hd : dep d ≤ 60) (hw : wD d ≤ 2 ^ 20) : showOk d = true := by
  have h1 := noIns_of d (flat_of_ok d h)
  have h2 := showable_of_ok d h
  have h3 := PyData.shown_fits (B := 13) (by decide) (by decide) (short_of_ok d h) (Nat.le_trans (weight_of_ok d h) hw)
  rw [sz_line] at h3
  unfold showOk
  rw [h1, h2, decide_eq_true h3, decide_eq_true hd]
  rfl
theorem repr_ok {d : D} (h : okD d = true) (hd : dep d ≤ 60) (hw : wD d ≤ 2 ^ 20) : biM .repr d = some (.str (toP d).shown) := by
  show showD d = _
  unfold showD
  rw [if_pos (show_ok h hd hw)]
mutual
theorem eq_self : ∀ d : D, okD d = true → eqD d d = true
  | .non, _ => rfl
  | .bl b, _ => by simp [eqD]
  | .int i, _ => by simp [eqD]
  | .str s, _ => by simp [eqD]
  | .tup xs, h => by simpa [eqD] using eqs_self xs (by simpa [okD] using h)
  | .lst xs, h => by simpa [eqD] using eqs_self xs (by simpa [okD] using h)
  | .dct _, h => by simp [okD] at h
  | .ins _, h => by simp [okD] at h
theorem eqs_self : ∀ ds : List D, okDs ds = true → eqDs ds ds = true
  | [], _ => rfl
  | d :: ds, h => by
    have h' : okD d = true ∧ okDs ds = true := by simpa [okDs] using h
    simp [eqDs, eq_self d h'.1, eqs_self ds h'.2]
end
theorem eqOk_of {a b : D} (ha : okD a = true) (hb : okD b = true) (hd : dep a ≤ 60) : eqOk a b = true := by
  unfold eqOk roomy
  rw [flat_of_ok a ha, flat_of_ok b hb, decide_eq_true (Nat.le_trans (Nat.min_le_left _ _) hd)]
  rfl
theorem eqOk_of' {a b : D} (ha : okD a = true) (hb : okD b = true) (hd : dep b ≤ 60) : eqOk a b = true := by
  unfold eqOk roomy
  rw [flat_of_ok a ha, flat_of_ok b hb, decide_eq_true (Nat.le_trans (Nat.min_le_right _ _) hd)]
  rfl
theorem cmp_self {d : D} (h : okD d = true) (hd : dep d ≤ 60) : cmpD .eq d d = some true := by
  show (if eqOk d d = true then some (eqD d d) else none) = _
  rw [if_pos (eqOk_of h h hd), eq_self d h]
theorem eq_str (x y : Str) : cmpD .eq (.str x) (.str y) = some (x == y) := by
  show (if eqOk (.str x) (.str y) = true then some (eqD (.str x) (.str y)) else none) = _
  rw [if_pos (by simp [eqOk, flat, roomy, dep])]
  simp [eqD]
theorem ne_str (x y : Str) : cmpD .ne (.str x) (.str y) = some (!(x == y)) := by
  show (if eqOk (.str x) (.str y) = true then some (!eqD (.str x) (.str y)) else none) = _
  rw [if_pos (by simp [eqOk, flat, roomy, dep])]
  simp [eqD]
theorem eq_int (x y : Int) : cmpD .eq (.int x) (.int y) = some (x == y) := by
  show (if eqOk (.int x) (.int y) = true then some (eqD (.int x) (.int y)) else none) = _
  rw [if_pos (by simp [eqOk, flat, roomy, dep])]
  simp [eqD]
theorem ne_int (x y : Int) : cmpD .ne (.int x) (.int y) = some (!(x == y)) := by
  show (if eqOk (.int x) (.int y) = true then some (!eqD (.int x) (.int y)) else none) = _
  rw [if_pos (by simp [eqOk, flat, roomy, dep])]
  simp [eqD]
end Dn

set_option Elab.async false
set_option linter.all false
set_option maxRecDepth 100000
/-! Dn, plain laws, part two: the drawing that all the laws begin with. -/
namespace Dn
open PySem L2
/-- _law_take -/
def tkB : Sts := (.cons (.ifs (.cmp .eq (.bgi 0) (.ki 0)) (.cons (.asg (.nm 4) .bgc)
 (.cons (.low 4 0)
 (.cons .bgx
 (.cons (.ifs (.cmp .ge (.var 4) (.bin .pow (.ki 10) (.ki 18))) (.cons (.bgs 0 (.var 4))
 .nil) .nil)
 (.cons (.asg (.nm 5) (.bin .add (.bin .add (.bin .mul (.bgi 1) (.ki 48271)) (.bin .mod (.bi .int (.var 4)) (.ki 2147483647))) (.bin .mul (.ki 7919) (.bgi 2))))
 (.cons (.low 5 0)
 (.cons (.bgs 1 (.bin .mod (.bi .int (.var 5)) (.ki 2147483647)))
 .nil))))))) .nil)
 (.cons (.ifs (.cmp .gt (.bgi 0) (.ki 0)) (.cons (.asg (.nm 6) (.bin .mod (.bi .int (.bgi 0)) (.var 1)))
 (.cons (.low 6 0)
 (.cons (.bgs 0 (.bin .fdiv (.bi .int (.bgi 0)) (.var 1)))
 (.cons (.ret (.var 6))
 .nil)))) .nil)
 (.cons (.asg (.nm 2) (.bin .mod (.bi .int (.bin .mul (.bin .add (.bgi 1) (.ki 1)) (.ki 39373))) (.ki 1000000007)))
 (.cons (.low 2 0)
 (.cons (.asg (.nm 3) (.bin .mod (.bi .int (.bin .mul (.bin .mod (.bi .int (.bin .mul (.var 2) (.var 2))) (.ki 998244353)) (.ki 30011))) (.ki 998244353)))
 (.cons (.low 3 0)
 (.cons (.ret (.bin .mod (.bi .int (.bin .fdiv (.var 3) (.ki 7))) (.var 1)))
 .nil)))))))
def pTake : Py := ⟨"_law_take", true, 1, 7, 0, tkB⟩
/-- _law_some, T: where _law_take stands -/
def pSome (T : Nat) : Py := ⟨"_law_some", true, 1, 2, 0, (.cons (.ret (.idx (.var 1) (.call T (.cons (.bi .len (.var 1)) .nil)))) .nil)⟩
def pMixed (T : Nat) : Py := ⟨"_law_mixed", true, 1, 4, 0, (.cons (.asg (.nm 2) (.lst .nil))
 (.cons (.low 2 1)
 (.cons (.for_ (.nm 3) (.ex (.var 1)) (.cons (.mut .insert 2 .nil (.cons (.call T (.cons (.bin .add (.bi .len (.var 2)) (.ki 1)) .nil)) (.cons (.var 3) .nil)))
 .nil))
 (.cons (.low 2 0)
 (.cons (.ret (.var 2))
 .nil)))))⟩
def pAlike : Py := ⟨"_law_alike", false, 2, 2, 0, (.cons (.ret (.and_ (.cmp .eq (.var 0) (.var 1)) (.cmp .eq (.bi .repr (.var 0)) (.bi .repr (.var 1)))))
 .nil)⟩

def cellB (b : Bg) : Int := (cutG b.cells (some b.ix) none ++ [0]).headD 0
theorem bgC_at (b : Bg) : bgC b = some (.int (cellB b), b) := rfl
theorem small_of {i n : Int} (h0 : 0 ≤ i) (h : i < n) (hn : n ≤ 2 ^ 64) : smallI i = true := by
  unfold smallI
  rw [decide_eq_true (by omega), decide_eq_true (by omega)]
  rfl
theorem take_ok {F : List Fn} {k T : Nat} (hT : F[T]? = some (.py pTake)) {n : Int} (h0 : 0 < n) (h1 : n < 1073741824) : Ok (run F (k + 1) T [.int n]) fun d => ∃ r, d = .int r ∧ 0 ≤ r ∧ r < n := by
  rw [run_py hT k rfl]
  have nz : n ≠ 0 := by omega
  have ab : n.natAbs < 1073741824 := by omega
  have B : ∀ a b c d, Ok (bnd (exs (run F k) [none, some (.int n), a, b, c, d, none] (match tkB with | .cons _ r => r | .nil => .nil)) outD) fun d => ∃ r, d = .int r ∧ 0 ≤ r ∧ r < n := by
    intro v2 v3 v4 v5 b
    by_cases hs : 0 < b.st
    · refine ⟨.int (b.st.fmod n), { b with st := b.st.fdiv n }, ?_, _, rfl, Int.fmod_nonneg_of_pos _ h0, Int.fmod_lt_of_pos _ h0⟩
      have : 0 ≤ b.st.fdiv n := Int.fdiv_nonneg (by omega) (by omega)
      simp [tkB, exs, ex, ev, bnd, bgI, bgGet, lift, cmpD, hs, boolOf, ret, biM, biD, binD, nz, ab, bindT, bgSet, intOf, this, outD]
    · have m1 : 0 ≤ ((b.ch + 1) * 39373).fmod 1000000007 := Int.fmod_nonneg_of_pos _ (by decide)
      have m2 : ((b.ch + 1) * 39373).fmod 1000000007 < 1000000007 := Int.fmod_lt_of_pos _ (by decide)
      have s1 := small_of m1 m2 (by decide)
      refine ⟨_, b, ?_, ((((((b.ch + 1) * 39373).fmod 1000000007 * ((b.ch + 1) * 39373).fmod 1000000007).fmod 998244353 * 30011).fmod 998244353).fdiv 7).fmod n, rfl, Int.fmod_nonneg_of_pos _ h0, Int.fmod_lt_of_pos _ h0⟩
      have s2 : smallI 39373 = true := by decide
      have s3 : smallI 30011 = true := by decide
      simp [tkB, exs, ex, ev, bnd, bgI, bgGet, lift, cmpD, hs, boolOf, ret, biM, biD, binD, nz, ab, bindT, bgSet, intOf, outD, s1, s2, s3]
  intro b
  have A : ∃ a c d e b', exs (run F k) [none, some (.int n), none, none, none, none, none] (match tkB with | .cons s _ => .cons s .nil | .nil => .nil) b = some (.nx [none, some (.int n), a, c, d, e, none], b') := by
    by_cases hs : b.st = 0
    · have s1 : smallI 48271 = true := by decide
      have s2 : smallI 7919 = true := by decide
      generalize hc : cellB b = c
      have m1 : 0 ≤ (b.ch * 48271 + c.fmod 2147483647 + 7919 * (b.ix + 1)).fmod 2147483647 := Int.fmod_nonneg_of_pos _ (by decide)
      have m2 : (b.ch * 48271 + c.fmod 2147483647 + 7919 * (b.ix + 1)).fmod 2147483647 < 2147483647 := Int.fmod_lt_of_pos _ (by decide)
      by_cases hb : (1000000000000000000 : Int) ≤ c
      · have hb' : (0 : Int) ≤ c := by omega
        refine ⟨none, none, some (.int c), some (.int (b.ch * 48271 + c.fmod 2147483647 + 7919 * (b.ix + 1))), ⟨c, (b.ch * 48271 + c.fmod 2147483647 + 7919 * (b.ix + 1)).fmod 2147483647, b.ix + 1, b.cells⟩, ?_⟩
        simp only [tkB]
        simp [exs, ex, ev, bnd, bgI, bgGet, lift, cmpD, hs, boolOf, ret, biM, biD, binD, bindT, bgSet, intOf, s1, s2, bgC_at, hc, hb, hb', m1, m2, eqOk, flat, roomy, dep, eqD]
      · refine ⟨none, none, some (.int c), some (.int (b.ch * 48271 + c.fmod 2147483647 + 7919 * (b.ix + 1))), ⟨b.st, (b.ch * 48271 + c.fmod 2147483647 + 7919 * (b.ix + 1)).fmod 2147483647, b.ix + 1, b.cells⟩, ?_⟩
        simp only [tkB]
        simp [exs, ex, ev, bnd, bgI, bgGet, lift, cmpD, hs, boolOf, ret, biM, biD, binD, bindT, bgSet, intOf, s1, s2, bgC_at, hc, hb, m1, m2, eqOk, flat, roomy, dep, eqD]
    · refine ⟨none, none, none, none, b, ?_⟩
      simp only [tkB]
      simp [exs, ex, ev, bnd, bgI, bgGet, lift, cmpD, hs, boolOf, ret, eqOk, flat, roomy, dep, eqD]
  obtain ⟨v2, v3, v4, v5, b', e⟩ := A
  obtain ⟨r, b2, e2, q⟩ := B v2 v3 v4 v5 b'
  refine ⟨r, b2, ?_, q⟩
  rw [← e2]
  have split : ∀ (s : St) (r : Sts) (ρ : Rho) (f : Out → M D) b, exs (run F k) ρ (.cons s .nil) b = some (.nx [none, some (.int n), v2, v3, v4, v5, none], b') → bnd (exs (run F k) ρ (.cons s r)) f b = bnd (exs (run F k) [none, some (.int n), v2, v3, v4, v5, none] r) f b' := by
    intro s r ρ f b h
    rw [exs_cons] at h ⊢
    unfold bnd at h ⊢
    cases hx : ex (run F k) ρ s b with
    | none => rw [hx] at h; cases h
    | some p =>
      obtain ⟨o, b3⟩ := p
      rw [hx] at h
      cases o with
      | nx ρ' =>
        simp only [exs_nil] at h
        cases h
        rfl
      | _ => cases h
  exact split _ _ _ _ _ e
theorem atI_pos {α : Type} {xs : List α} {r : Int} (h0 : 0 ≤ r) (h1 : r < xs.length) : ∃ x, atI xs r = some x ∧ x ∈ xs ∧ xs[r.toNat]? = some x := by
  have hl : r.toNat < xs.length := by omega
  refine ⟨xs[r.toNat], ?_, List.getElem_mem hl, by simp [hl]⟩
  unfold atI ixN
  rw [if_pos h0, if_pos h1]
  simp [hl]
theorem some_ok {F : List Fn} {k j T : Nat} (hF : F[j]? = some (.py (pSome T))) (hT : F[T]? = some (.py pTake)) {xs : List D} (h0 : 0 < xs.length) (h1 : xs.length < 1073741824) : Ok (run F (k + 2) j [.lst xs]) fun d => d ∈ xs := by
  rw [run_py hF _ rfl]
  show Ok (bnd (exs (run F (k + 1)) [none, some (.lst xs)] (.cons (.ret (.idx (.var 1) (.call T (.cons (.bi .len (.var 1)) .nil)))) .nil)) outD) _
  simp [exs, ex, ev, evs, biM, biD]
  refine ok_bnd (take_ok hT (by omega) (by omega)) ?_
  rintro _ ⟨r, rfl, r0, r1⟩
  obtain ⟨x, e, hx, _⟩ := atI_pos (xs := xs) r0 r1
  simp [idxD, e, outD]
  exact ok_ret hx
theorem some_okT {F : List Fn} {k j T : Nat} (hF : F[j]? = some (.py (pSome T))) (hT : F[T]? = some (.py pTake)) {xs : List D} (h0 : 0 < xs.length) (h1 : xs.length < 1073741824) : Ok (run F (k + 2) j [.tup xs]) fun d => d ∈ xs := by
  rw [run_py hF _ rfl]
  show Ok (bnd (exs (run F (k + 1)) [none, some (.tup xs)] (.cons (.ret (.idx (.var 1) (.call T (.cons (.bi .len (.var 1)) .nil)))) .nil)) outD) _
  simp [exs, ex, ev, evs, biM, biD]
  refine ok_bnd (take_ok hT (by omega) (by omega)) ?_
  rintro _ ⟨r, rfl, r0, r1⟩
  obtain ⟨x, e, hx, _⟩ := atI_pos (xs := xs) r0 r1
  simp [idxD, e, outD]
  exact ok_ret hx
theorem insert_perm {α : Type} (x : α) : ∀ (n : Nat) (xs : List α), n ≤ xs.length → (xs.insertIdx n x).Perm (x :: xs)
  | 0, xs, _ => by simp
  | n + 1, [], h => by simp at h
  | n + 1, y :: xs, h => by
    rw [List.insertIdx_succ_cons]
    exact ((insert_perm x n xs (by simpa using h)).cons y).trans (List.Perm.swap _ _ _)
theorem mixed_ok {F : List Fn} {k j T : Nat} (hF : F[j]? = some (.py (pMixed T))) (hT : F[T]? = some (.py pTake)) {xs : List D} (h1 : xs.length < 1073741) : Ok (run F (k + 2) j [.lst xs]) fun d => ∃ ys, d = .lst ys ∧ ys.Perm xs := by
  rw [run_py hF _ rfl]
  show Ok (bnd (exs (run F (k + 1)) [none, some (.lst xs), none, none] (pMixed T).body) outD) _
  simp only [pMixed, exs_cons, exs_nil]
  simp [ex, ev, evs, evi, bindT, exs]
  refine ok_bnd (iter_ok (fun dn ρ => ∃ ys a, ρ = [none, some (.lst xs), some (.lst ys), a] ∧ ys.Perm dn) xs [] _ ⟨[], none, rfl, .nil⟩ ?_) ?_
  · rintro dn x r ρ e ⟨ys, a, rfl, p⟩
    have hl : dn.length < xs.length := by
      have := congrArg List.length e
      simp at this
      omega
    have hy := p.length_eq
    simp [bindT, ev, evs, biM, biD, binD]
    refine ok_bnd (take_ok hT (by omega) (by omega)) ?_
    rintro _ ⟨q, rfl, q0, q1⟩
    have c : ys.length < line ∧ 0 ≤ q ∧ q ≤ ys.length := ⟨by unfold line; omega, q0, by omega⟩
    simp [upAt, mutD, c]
    refine ok_ret ⟨_, .inl rfl, _, ⟨_, rfl⟩, ?_⟩
    have p1 := insert_perm x q.toNat ys (by omega)
    have p2 : (x :: dn).Perm (dn ++ [x]) := List.perm_append_comm (l₁ := [x]) (l₂ := dn)
    exact p1.trans ((p.cons x).trans p2)
  · rintro _ ⟨ρ', rfl, ys, a, rfl, p⟩
    simp [outD]
    exact ok_ret ⟨ys, rfl, by simpa using p⟩
theorem alike_ok {F : List Fn} {k j : Nat} (hF : F[j]? = some (.py pAlike)) {d : D} (h : okD d = true) (hd : dep d ≤ 60) (hw : wD d ≤ 2 ^ 20) : run F (k + 1) j [d, d] = ret (.bl true) := by
  rw [run_py hF _ rfl]
  show bnd (exs (run F k) [some d, some d] pAlike.body) outD = _
  simp [pAlike, exs, ex, ev, cmp_self h hd, repr_ok h hd hw, eq_str, outD]
end Dn

set_option Elab.async false
set_option linter.all false
set_option maxRecDepth 100000
/-! Dn, plain laws, part three: names, sorting, pairs, dicts. -/
namespace Dn
open PySem L2

/-! ### sorting -/
theorem merge_same {α : Type} {le : α → α → Bool} {xs : List α} (h : xs.Pairwise fun a b => le a b = true) : xs.mergeSort le = xs := List.mergeSort_of_pairwise h
theorem alike_strs (ss : List Str) : alikeB (ss.map D.str) = true := by
  unfold alikeB
  have h1 : (ss.map D.str).all notTup = true := by simp [notTup]
  rw [h1, Bool.or_true, Bool.and_true, List.all_eq_true]
  intro d hd
  obtain ⟨s, _, rfl⟩ := List.mem_map.mp hd
  rw [Bool.and_eq_true, Bool.and_eq_true, List.all_eq_true]
  refine ⟨⟨rfl, by simp [dep]⟩, fun e he => ?_⟩
  obtain ⟨t, _, rfl⟩ := List.mem_map.mp he
  show PySem.W.alike (.str s) (.str t) = true
  simp [PySem.W.alike]
theorem sort_strsD (ss : List Str) : biM .sorted (.lst (ss.map D.str)) = some (.lst ((ss.mergeSort leS).map D.str)) := by
  show (if firstB (ss.map D.str) = true then some (D.lst ((ss.map D.str).mergeSort fstLe)) else if alikeB (ss.map D.str) = true then some (D.lst ((ss.map D.str).mergeSort leD)) else none) = _
  cases ss with
  | nil => simp [firstB]
  | cons s ss =>
    rw [if_neg (by simp [firstB, fstS, noIns]), if_pos (alike_strs (s :: ss)), sort_strs]
/-- below, strictly -/
def ltS (a b : Str) : Prop := leS a b = true ∧ a ≠ b
theorem sorted_lt {ss : List Str} (h : ss.Nodup) : (ss.mergeSort leS).Pairwise ltS := by
  have h1 := List.pairwise_mergeSort (le := leS) leS_trans leS_total ss
  have h2 : (ss.mergeSort leS).Nodup := (List.mergeSort_perm ss leS).nodup_iff.mpr h
  exact List.Pairwise.and h1 h2
theorem lt_nodup {ss : List Str} (h : ss.Pairwise ltS) : ss.Nodup := h.imp fun h => h.2
theorem lt_le {ss : List Str} (h : ss.Pairwise ltS) : ss.Pairwise fun a b => leS a b = true := h.imp fun h => h.1
theorem sort_any {xs : List D} (h : alikeB xs = true) : ∃ ys, biM .sorted (.lst xs) = some (.lst ys) ∧ ys.Perm xs := by
  by_cases c : firstB xs = true
  · exact ⟨xs.mergeSort fstLe, by show (if firstB xs = true then some (D.lst (xs.mergeSort fstLe)) else if alikeB xs = true then some (D.lst (xs.mergeSort leD)) else none) = _; rw [if_pos c], List.mergeSort_perm _ _⟩
  · exact ⟨xs.mergeSort leD, by show (if firstB xs = true then some (D.lst (xs.mergeSort fstLe)) else if alikeB xs = true then some (D.lst (xs.mergeSort leD)) else none) = _; rw [if_neg c, if_pos h], List.mergeSort_perm _ _⟩
/-- already sorted -/
theorem sort_same {xs : List D} (h : alikeB xs = true) (h1 : firstB xs = true → xs.Pairwise fun a b => fstLe a b = true) (h2 : xs.Pairwise fun a b => leD a b = true) : biM .sorted (.lst xs) = some (.lst xs) := by
  by_cases c : firstB xs = true
  · show (if firstB xs = true then some (D.lst (xs.mergeSort fstLe)) else if alikeB xs = true then some (D.lst (xs.mergeSort leD)) else none) = _
    rw [if_pos c, merge_same (h1 c)]
  · show (if firstB xs = true then some (D.lst (xs.mergeSort fstLe)) else if alikeB xs = true then some (D.lst (xs.mergeSort leD)) else none) = _
    rw [if_neg c, if_pos h, merge_same h2]

/-! ### pairs with a name in front -/
def prD (p : Str × D) : D := .tup [.str p.1, p.2]
def le1 (a b : Str × D) : Bool := leS a.1 b.1
theorem fstLe_pr (a b : Str × D) : fstLe (prD a) (prD b) = le1 a b := leD_str a.1 b.1
theorem first_pr {ps : List (Str × D)} (h : ∀ p ∈ ps, noIns p.2 = true) (hn : (ps.map (·.1)).Nodup) : firstB (ps.map prD) = true := by
  unfold firstB
  rw [Bool.and_eq_true]
  constructor
  · rw [List.all_eq_true]
    intro d hd
    obtain ⟨p, hp, rfl⟩ := List.mem_map.mp hd
    simp [prD, noIns, noInss, fstS, h p hp]
  · refine decide_eq_true ?_
    have e : (ps.map prD).map fstS = (ps.map (·.1)).map some := by
      rw [List.map_map, List.map_map]; rfl
    rw [e]
    exact List.Pairwise.map some (fun a b h e => h (Option.some.inj e)) hn
theorem sort_pr {ps : List (Str × D)} (h : ∀ p ∈ ps, noIns p.2 = true) (hn : (ps.map (·.1)).Nodup) : biM .sorted (.lst (ps.map prD)) = some (.lst ((ps.mergeSort le1).map prD)) := by
  show (if firstB (ps.map prD) = true then some (D.lst ((ps.map prD).mergeSort fstLe)) else _) = _
  rw [if_pos (first_pr h hn), List.map_mergeSort fun a _ b _ => (fstLe_pr a b).symm]

/-! ### dicts -/
def kv (p : Str × D) : D × D := (.str p.1, p.2)
theorem dpairs_pr (ps : List (Str × D)) : dpairs (ps.map prD) = some (ps.map kv) := by
  induction ps with
  | nil => rfl
  | cons p ps ih =>
    show (if isKey (.str p.1) = true then (dpairs (ps.map prD)).map fun t => (D.str p.1, p.2) :: t else none) = _
    rw [ih]; rfl
theorem has_kv (ps : List (Str × D)) (n : Str) : dhas (ps.map kv) (.str n) = decide (n ∈ ps.map (·.1)) := by
  unfold dhas
  rw [List.any_map, Bool.eq_iff_iff]
  simp [kv, keq]
theorem put_new {ps : List (Str × D)} {n : Str} {d : D} (h : n ∉ ps.map (·.1)) : dput (ps.map kv) (.str n) d = (ps ++ [(n, d)]).map kv := by
  unfold dput
  rw [has_kv, if_neg (by simpa using h)]
  simp [kv]
theorem merge_kv : ∀ (qs ps : List (Str × D)), ((ps ++ qs).map (·.1)).Nodup → dmerge (ps.map kv) (qs.map kv) = (ps ++ qs).map kv
  | [], ps, _ => by simp [dmerge]
  | q :: qs, ps, h => by
    show dmerge (dput (ps.map kv) (.str q.1) q.2) (qs.map kv) = _
    have hq : q.1 ∉ ps.map (·.1) := by
      rw [List.map_append, List.nodup_append] at h
      intro hm
      exact h.2.2 _ hm _ (by simp) rfl
    rw [put_new hq, merge_kv qs (ps ++ [(q.1, q.2)]) (by simpa using h)]
    simp
theorem dict_pr {ps : List (Str × D)} (h : (ps.map (·.1)).Nodup) : biM .dict (.tup (ps.map prD)) = some (.dct (ps.map kv)) := by
  show (dpairs (ps.map prD)).map (fun kvs => D.dct (dmerge [] kvs)) = _
  rw [dpairs_pr]
  show some (D.dct (dmerge (([] : List (Str × D)).map kv) (ps.map kv))) = _
  rw [merge_kv ps [] (by simpa using h)]
  rfl
theorem dict_prL {ps : List (Str × D)} (h : (ps.map (·.1)).Nodup) : biM .dict (.lst (ps.map prD)) = some (.dct (ps.map kv)) := dict_pr h
theorem get_kv {ps : List (Str × D)} (h : (ps.map (·.1)).Nodup) {n : Str} {d : D} (hm : (n, d) ∈ ps) : dget (ps.map kv) (.str n) = some d := by
  unfold dget
  induction ps with
  | nil => cases hm
  | cons p ps ih =>
    rw [List.map_cons, List.nodup_cons] at h
    rw [List.map_cons, List.find?_cons]
    rcases List.mem_cons.mp hm with rfl | hm
    · simp [kv, keq]
    · have hne : p.1 ≠ n := fun e => h.1 (e ▸ List.mem_map.mpr ⟨_, hm, rfl⟩)
      have : keq (kv p).1 (.str n) = false := by simp [kv, keq, hne]
      rw [this]
      exact ih h.2 hm
theorem idx_kv {ps : List (Str × D)} (h : (ps.map (·.1)).Nodup) {n : Str} {d : D} (hm : (n, d) ∈ ps) : idxD (.dct (ps.map kv)) (.str n) = some d := by
  show (if isKey (.str n) = true then dget (ps.map kv) (.str n) else none) = _
  rw [get_kv h hm]; rfl
/-- the others, and the new one behind -/
def others (ps : List (Str × D)) (n : Str) : List (Str × D) := ps.filter fun p => !(p.1 == n)
theorem others_nodup {ps : List (Str × D)} (h : (ps.map (·.1)).Nodup) (n : Str) (d : D) : ((others ps n ++ [(n, d)]).map (·.1)).Nodup := by
  rw [List.map_append, List.nodup_append]
  refine ⟨(List.filter_sublist.map _).nodup h, by simp, fun a ha b hb => ?_⟩
  obtain ⟨p, hp, rfl⟩ := List.mem_map.mp ha
  have := (List.mem_filter.mp hp).2
  simp at hb this
  rw [hb]; exact this
theorem put_kv : ∀ {ps : List (Str × D)}, (ps.map (·.1)).Nodup → ∀ (n : Str) (d : D), ∃ qs : List (Str × D), dput (ps.map kv) (.str n) d = qs.map kv ∧ qs.Perm (others ps n ++ [(n, d)]) := by
  intro ps h n d
  by_cases hm : n ∈ ps.map (·.1)
  · refine ⟨ps.map fun p => if p.1 == n then (p.1, d) else p, ?_, ?_⟩
    · unfold dput
      rw [has_kv, if_pos (decide_eq_true hm), List.map_map, List.map_map]
      refine List.map_congr_left fun p _ => ?_
      by_cases e : p.1 = n
      · simp [kv, keq, e]
      · simp [kv, keq, e]
    · induction ps with
      | nil => cases hm
      | cons p ps ih =>
        rw [List.map_cons, List.nodup_cons] at h
        by_cases e : p.1 = n
        · have h0 : ∀ q ∈ ps, q.1 ≠ n := fun q hq e2 => h.1 (by rw [e, ← e2]; exact List.mem_map.mpr ⟨q, hq, rfl⟩)
          have e1 : (ps.map fun p => if p.1 == n then (p.1, d) else p) = ps := by
            conv => rhs; rw [← List.map_id ps]
            refine List.map_congr_left fun q hq => ?_
            simp [h0 q hq]
          have e2 : others (p :: ps) n = ps := by
            unfold others
            rw [List.filter_cons_of_neg (by simp [e]), List.filter_eq_self]
            intro q hq
            simp [h0 q hq]
          rw [List.map_cons, e1, e2]
          simp only [e, beq_self_eq_true, if_true]
          exact List.perm_append_comm (l₁ := [(n, d)]) (l₂ := ps)
        · have hm2 : n ∈ ps.map (·.1) := by
            rcases List.mem_cons.mp (by simpa using hm : n ∈ p.1 :: ps.map (·.1)) with q | q
            · exact absurd q.symm e
            · exact q
          have e2 : others (p :: ps) n = p :: others ps n := by
            unfold others
            rw [List.filter_cons_of_pos (by simp [e])]
          rw [List.map_cons, e2]
          rw [if_neg (by simpa using e)]
          exact (ih h.2 hm2).cons p
  · refine ⟨ps ++ [(n, d)], put_new hm, ?_⟩
    have e2 : others ps n = ps := by
      unfold others
      rw [List.filter_eq_self]
      intro q hq
      have : q.1 ≠ n := fun e => hm (e ▸ List.mem_map.mpr ⟨q, hq, rfl⟩)
      simp [this]
    rw [e2]
theorem sort_keys {qs : List (Str × D)} (h : qs.length < 64) : biM .sorted (.dct (qs.map kv)) = some (.lst (((qs.map (·.1)).mergeSort leS).map D.str)) := by
  show (if (((qs.map kv).all isStrKey || (qs.map kv).all isIntKey) && decide ((qs.map kv).length < 64)) = true then some (D.lst (((qs.map kv).map (·.1)).mergeSort leD)) else none) = _
  have e : (qs.map kv).map (·.1) = (qs.map (·.1)).map D.str := by rw [List.map_map, List.map_map]; rfl
  rw [if_pos (by simp [kv, isStrKey, h]), e, sort_strs]
theorem keys_same {ps qs : List (Str × D)} (hp : qs.Perm ps) : (qs.map (·.1)).mergeSort leS = (ps.mergeSort le1).map (·.1) := by
  have e : (ps.mergeSort le1).map (·.1) = (ps.map (·.1)).mergeSort leS := List.map_mergeSort fun a _ b _ => rfl
  rw [e]
  exact List.Perm.eq_of_pairwise (fun a b _ _ h1 h2 => leS_anti h1 h2) (List.pairwise_mergeSort leS_trans leS_total _) (List.pairwise_mergeSort leS_trans leS_total _)
    ((List.mergeSort_perm _ _).trans ((hp.map _).trans (List.mergeSort_perm _ _).symm))

/-! ### slices, indexes -/
theorem cut_take {α : Type} (xs : List α) {i : Int} (h : 0 ≤ i) : cutG xs none (some i) = xs.take i.toNat := by
  have e : HT.sIx xs.length xs.length (some i) = min i.toNat xs.length := by
    show (if i < 0 then _ else _) = _
    rw [if_neg (by omega)]
  unfold cutG
  rw [e]
  simp [HT.sIx]
theorem cut_last {α : Type} (xs : List α) : cutG xs none (some (-1)) = xs.dropLast := by
  have e : HT.sIx xs.length xs.length (some (-1)) = xs.length - 1 := by
    show (if (-1 : Int) < 0 then ((-1 : Int) + (xs.length : Int)).toNat else min (-1 : Int).toNat xs.length) = _
    rw [if_pos (by decide)]
    omega
  unfold cutG
  rw [e, List.dropLast_eq_take]
  simp [HT.sIx]
theorem strs_of (ss : List Str) : strsOf (ss.map D.str) = some ss := by
  induction ss with
  | nil => rfl
  | cons s ss ih =>
    show (strsOf (ss.map D.str)).map (fun t => s :: t) = _
    rw [ih]; rfl
theorem idx_of {dn r : List Str} {z : Str} (h : z ∉ dn) : idxOfS z (dn ++ z :: r) = some dn.length := by
  induction dn with
  | nil => simp [idxOfS]
  | cons y dn ih =>
    rw [List.mem_cons, not_or] at h
    show (if y = z then some 0 else (idxOfS z (dn ++ z :: r)).map (· + 1)) = _
    rw [if_neg (fun e => h.1 e.symm), ih h.2]
    rfl
theorem any_strs (ss : List Str) (x : Str) : ((ss.map D.str).any fun y => eqD y (.str x)) = decide (x ∈ ss) := by
  rw [List.any_map, Bool.eq_iff_iff]
  simp [eqD]
theorem in_strs (ss : List Str) (x : Str) : cmpD .isin (.str x) (.tup (ss.map D.str)) = some (decide (x ∈ ss)) := by
  show (if inOk (.str x) (ss.map D.str) = true then some ((ss.map D.str).any fun y => eqD y (.str x)) else none) = _
  rw [if_pos (by simp [inOk, flat, eqOk, roomy, dep]), any_strs]
end Dn

set_option Elab.async false
set_option linter.all false
set_option maxRecDepth 100000
/-! Dn, plain laws, part four: statement by statement; lists as they are held. -/
namespace Dn
open PySem L2
def stL (ss : List Str) : List D := ss.map D.str
def rows (ps : List (Str × D)) : List D := ps.map prD
def ents (ps : List (Str × D)) : List (D × D) := ps.map kv
section
variable {Φ : Nat → List D → M D} {ρ ρ' : Rho} {r : Sts} {Q : Out → Prop}
theorem ok_run {F : List Fn} {i : Nat} {p : Py} (h : F[i]? = some (.py p)) {k : Nat} {ds : List D} (hl : ds.length = p.np) {Q : D → Prop} (hb : Ok (exs (run F k) (entry p ds) p.body) fun o => ∃ d, o = .rt d ∧ Q d) : Ok (run F (k + 1) i ds) Q := by
  rw [run_py h k hl]
  refine ok_bnd hb ?_
  rintro _ ⟨d, rfl, q⟩
  exact ok_ret q
theorem run_eq {F : List Fn} {i : Nat} {p : Py} (h : F[i]? = some (.py p)) {k : Nat} {ds : List D} (hl : ds.length = p.np) {d : D} (hb : exs (run F k) (entry p ds) p.body = ret (.rt d)) : run F (k + 1) i ds = ret d := by
  rw [run_py h k hl, hb]; rfl
theorem st_eq {s : St} (h : ex Φ ρ s = ret (.nx ρ')) (k : Ok (exs Φ ρ' r) Q) : Ok (exs Φ ρ (.cons s r)) Q := by rw [exs_cons, h]; exact k
theorem st_low {i n : Nat} (k : Ok (exs Φ ρ r) Q) : Ok (exs Φ ρ (.cons (.low i n) r)) Q := st_eq (by simp [ex]) k
theorem st_ret {e : Ex} {P : D → Prop} (h : Ok (ev Φ ρ e) P) (k : ∀ d, P d → Q (.rt d)) : Ok (exs Φ ρ (.cons (.ret e) r)) Q := by
  rw [exs_cons]
  refine ok_bnd (P := fun o => ∃ d, o = .rt d ∧ P d) ?_ ?_
  · rw [ex]
    exact ok_bnd h fun d hd => ok_ret ⟨d, rfl, hd⟩
  · rintro _ ⟨d, rfl, hd⟩
    exact ok_ret (k d hd)
theorem st_asg {i : Nat} {e : Ex} {P : D → Prop} (h : Ok (ev Φ ρ e) P) (hi : i < ρ.length) (k : ∀ d, P d → Ok (exs Φ (ρ.set i (some d)) r) Q) : Ok (exs Φ ρ (.cons (.asg (.nm i) e) r)) Q := by
  rw [exs_cons]
  refine ok_bnd (P := fun o => ∃ d, o = .nx (ρ.set i (some d)) ∧ P d) ?_ ?_
  · rw [ex]
    refine ok_bnd h fun d hd => ?_
    rw [bindT, if_pos hi]
    exact ok_ret ⟨d, rfl, hd⟩
  · rintro _ ⟨d, rfl, hd⟩
    exact k d hd
theorem st_asgE {i : Nat} {e : Ex} {d : D} (h : ev Φ ρ e = ret d) (hi : i < ρ.length) (k : Ok (exs Φ (ρ.set i (some d)) r) Q) : Ok (exs Φ ρ (.cons (.asg (.nm i) e) r)) Q :=
  st_asg (P := fun x => x = d) (h ▸ ok_ret rfl) hi fun _ e => e ▸ k
/-- a branch not taken -/
theorem st_skip {c : Ex} {a : Sts} (h : ev Φ ρ c = ret (.bl false)) (k : Ok (exs Φ ρ r) Q) : Ok (exs Φ ρ (.cons (.ifs c a .nil) r)) Q :=
  st_eq (by rw [ex, h]; simp [exs]) k
theorem st_if {c : Ex} {a b : Sts} {P : Bool → Prop} {R : Rho → Prop} (h : Ok (ev Φ ρ c) fun d => ∃ t, d = .bl t ∧ P t) (hb : ∀ t, P t → Ok (exs Φ ρ (if t = true then a else b)) fun o => ∃ ρ', o = .nx ρ' ∧ R ρ') (k : ∀ ρ', R ρ' → Ok (exs Φ ρ' r) Q) :
    Ok (exs Φ ρ (.cons (.ifs c a b) r)) Q := by
  refine ok_step (P := R) ?_ k
  rw [ex]
  refine ok_bnd h ?_
  rintro _ ⟨t, rfl, p⟩
  rw [boolOf_b, bnd_r]
  have := hb t p
  cases t <;> simpa using this
/-- a branch that may end the def -/
theorem st_ifR {c : Ex} {a b : Sts} {P : Bool → Prop} (h : Ok (ev Φ ρ c) fun d => ∃ t, d = .bl t ∧ P t)
    (h1 : P true → Ok (exs Φ ρ a) fun o => (∃ d, o = .rt d ∧ Q (.rt d)) ∨ ∃ ρ', o = .nx ρ' ∧ Ok (exs Φ ρ' r) Q) (h2 : P false → Ok (exs Φ ρ b) fun o => (∃ d, o = .rt d ∧ Q (.rt d)) ∨ ∃ ρ', o = .nx ρ' ∧ Ok (exs Φ ρ' r) Q) : Ok (exs Φ ρ (.cons (.ifs c a b) r)) Q := by
  rw [exs_cons]
  refine ok_bnd (P := fun o => (∃ d, o = .rt d ∧ Q (.rt d)) ∨ ∃ ρ', o = .nx ρ' ∧ Ok (exs Φ ρ' r) Q) ?_ ?_
  · rw [ex]
    refine ok_bnd h ?_
    rintro _ ⟨t, rfl, p⟩
    rw [boolOf_b, bnd_r]
    cases t
    · simpa using h2 p
    · simpa using h1 p
  · rintro _ (⟨d, rfl, q⟩ | ⟨ρ', rfl, q⟩)
    · exact ok_ret q
    · exact q
theorem ok_nil {Q : Out → Prop} (h : Q (.nx ρ)) : Ok (exs Φ ρ .nil) Q := by rw [exs_nil]; exact ok_ret h
theorem ok_for {tg : Tg} {it : It} {b : Sts} {xs : List D} (he : evi Φ ρ it = ret xs) (I : List D → Rho → Prop) (h0 : I [] ρ)
    (hb : ∀ dn x r ρ, xs = dn ++ x :: r → I dn ρ → ∃ ρ1, bindT tg x ρ = some ρ1 ∧ Ok (exs Φ ρ1 b) fun o => ∃ ρ', (o = .nx ρ' ∨ o = .ct ρ') ∧ I (dn ++ [x]) ρ')
    (k : ∀ ρ', I xs ρ' → Ok (exs Φ ρ' r) Q) : Ok (exs Φ ρ (.cons (.for_ tg it b) r)) Q := by
  refine ok_step (P := I xs) ?_ k
  rw [ex, he, bnd_r]
  refine (iter_ok I xs [] ρ h0 fun dn x r ρ e i => ?_).mono fun o ho => ho
  obtain ⟨ρ1, e1, h1⟩ := hb dn x r ρ e i
  rw [e1, lift_s, bnd_r]
  exact h1
theorem ok_forM {α : Type} {tg : Tg} {it : It} {b : Sts} {zs : List α} {e : α → D} {xs : List D} (hx : xs = zs.map e) (he : evi Φ ρ it = ret xs) (I : List α → Rho → Prop) (h0 : I [] ρ)
    (hb : ∀ dn x r ρ, zs = dn ++ x :: r → I dn ρ → ∃ ρ1, bindT tg (e x) ρ = some ρ1 ∧ Ok (exs Φ ρ1 b) fun o => ∃ ρ', (o = .nx ρ' ∨ o = .ct ρ') ∧ I (dn ++ [x]) ρ')
    (k : ∀ ρ', I zs ρ' → Ok (exs Φ ρ' r) Q) : Ok (exs Φ ρ (.cons (.for_ tg it b) r)) Q := by
  refine ok_step (P := I zs) ?_ k
  rw [ex, he, bnd_r, hx]
  refine (iter_map I zs [] ρ h0 fun dn x r ρ e i => ?_).mono fun o ho => ho
  obtain ⟨ρ1, e1, h1⟩ := hb dn x r ρ e i
  rw [e1, lift_s, bnd_r]
  exact h1
theorem ok_forD {α : Type} {tg : Tg} {it : It} {b : Sts} {e : α → D} {C : List α → Prop} (he : Ok (evi Φ ρ it) fun xs => ∃ zs, xs = zs.map e ∧ C zs) (I : List α → List α → Rho → Prop) (h0 : ∀ zs, C zs → I zs [] ρ)
    (hb : ∀ zs, C zs → ∀ dn x r ρ, zs = dn ++ x :: r → I zs dn ρ → ∃ ρ1, bindT tg (e x) ρ = some ρ1 ∧ Ok (exs Φ ρ1 b) fun o => ∃ ρ', (o = .nx ρ' ∨ o = .ct ρ') ∧ I zs (dn ++ [x]) ρ')
    (k : ∀ zs, C zs → ∀ ρ', I zs zs ρ' → Ok (exs Φ ρ' r) Q) : Ok (exs Φ ρ (.cons (.for_ tg it b) r)) Q := by
  refine ok_step (P := fun ρ' => ∃ zs, C zs ∧ I zs zs ρ') ?_ fun ρ' ⟨zs, c, i⟩ => k zs c ρ' i
  rw [ex]
  refine ok_bnd he ?_
  rintro _ ⟨zs, rfl, c⟩
  refine (iter_map (I zs) zs [] ρ (h0 zs c) fun dn x r ρ e i => ?_).mono fun o ⟨ρ', h1, h2⟩ => ⟨ρ', h1, zs, c, h2⟩
  obtain ⟨ρ1, e1, h1⟩ := hb zs c dn x r ρ e i
  rw [e1, lift_s, bnd_r]
  exact h1
theorem st_app {x : Nat} {e : Ex} {xs : List D} {P : D → Prop} (h : Ok (ev Φ ρ e) P) (hx : ρ.getD x none = some (.lst xs)) (hl : xs.length < line) (k : ∀ d, P d → Ok (exs Φ (ρ.set x (some (.lst (xs ++ [d])))) r) Q) : Ok (exs Φ ρ (.cons (.mut .append x .nil (.cons e .nil)) r)) Q := by
  rw [exs_cons]
  refine ok_bnd (P := fun o => ∃ d, o = .nx (ρ.set x (some (.lst (xs ++ [d])))) ∧ P d) ?_ ?_
  · simp only [ex, evs, bnd_r, bnd_b, hx, lift_s]
    refine ok_bnd h fun d hd => ?_
    simp only [upAt, mutD, if_pos hl, lift_s, bnd_r]
    exact ok_ret ⟨d, rfl, hd⟩
  · rintro _ ⟨d, rfl, hd⟩
    exact k d hd
end

/-! lists as they are held -/
theorem dict_rows {ps : List (Str × D)} (h : (ps.map (·.1)).Nodup) : biM .dict (.tup (rows ps)) = some (.dct (ents ps)) := dict_pr h
theorem dict_rowsL {ps : List (Str × D)} (h : (ps.map (·.1)).Nodup) : biM .dict (.lst (rows ps)) = some (.dct (ents ps)) := dict_prL h
theorem get_ents {ps : List (Str × D)} (h : (ps.map (·.1)).Nodup) {n : Str} {d : D} (hm : (n, d) ∈ ps) : dget (ents ps) (.str n) = some d := get_kv h hm
theorem isK (n : Str) : isKey (.str n) = true := rfl
theorem at0 (a : D) (l : List D) : atI (a :: l) 0 = some a := by simp [atI, ixN]
theorem at1 (a b : D) (l : List D) : atI (a :: b :: l) 1 = some b := by
  unfold atI ixN
  rw [if_pos (by decide), if_pos (by simp only [List.length_cons]; omega)]
  rfl
theorem at2 (a b c : D) (l : List D) : atI (a :: b :: c :: l) 2 = some c := by
  unfold atI ixN
  rw [if_pos (by decide), if_pos (by simp only [List.length_cons]; omega)]
  rfl
/-- pairs of texts, one by one in order -/
theorem le_pair {a b c d : Str} (h : ltS a c ∨ (a = c ∧ leS b d = true)) : leD (.tup [.str a, .str b]) (.tup [.str c, .str d]) = true := by
  show (!PySem.W.dataLt (.tuple [.str c, .str d]) (.tuple [.str a, .str b])) = true
  rw [PySem.W.dataLt_pair (by simp [PySem.W.alike]) (by simp [PySem.W.alike])]
  have ev : ∀ x y : Str, PyData.eqv (.str x) (.str y) = decide (x = y) := fun x y => by rw [Bool.eq_iff_iff]; simp [PyData.eqv]
  have no : ∀ x y : Str, leS x y = true → PySem.W.dataLt (.str y) (.str x) = false := fun x y h => by
    have := leD_str x y
    rw [h] at this
    simpa [leD, toP] using this
  rw [ev, ev]
  rcases h with ⟨h1, h2⟩ | ⟨rfl, h⟩
  · rw [if_neg (by simpa using fun e => h2 e.symm), no a c h1]; rfl
  · rw [if_pos (by simp)]
    by_cases e : d = b
    · rw [if_pos (by simpa using e)]; rfl
    · rw [if_neg (by simpa using e), no b d h]; rfl
theorem idx_ents {ps : List (Str × D)} (h : (ps.map (·.1)).Nodup) {n : Str} {d : D} (hm : (n, d) ∈ ps) : idxD (.dct (ents ps)) (.str n) = some d := idx_kv h hm
theorem loop_rows {f : D → M (List D)} {ps : List (Str × D)} {g : Str × D → D} (h : ∀ p ∈ ps, f (prD p) = ret [g p]) : loopM f (rows ps) = ret (ps.map g) := loop_map ps h
theorem loop_rowsF {f : D → M (List D)} {ps : List (Str × D)} {g : Str × D → List D} (h : ∀ p ∈ ps, f (prD p) = ret (g p)) : loopM f (rows ps) = ret (ps.flatMap g) := loop_flat ps h
theorem loop_strs {f : D → M (List D)} {ss : List Str} {g : Str → D} (h : ∀ s ∈ ss, f (.str s) = ret [g s]) : loopM f (stL ss) = ret (ss.map g) := loop_map ss h
theorem sort_strs' (ss : List Str) : biM .sorted (.lst (stL ss)) = some (.lst (stL (ss.mergeSort leS))) := sort_strsD ss
theorem sort_rows {ps : List (Str × D)} (h : ∀ p ∈ ps, noIns p.2 = true) (hn : (ps.map (·.1)).Nodup) : biM .sorted (.lst (rows ps)) = some (.lst (rows (ps.mergeSort le1))) := sort_pr h hn
theorem in_strs' (ss : List Str) (x : Str) : cmpD .isin (.str x) (.tup (stL ss)) = some (decide (x ∈ ss)) := in_strs ss x
theorem index_strs {dn r : List Str} {z : Str} (h : z ∉ dn) : indexD (.tup (stL (dn ++ z :: r))) (.str z) = some (.int dn.length) := by
  show ((strsOf ((dn ++ z :: r).map D.str)).bind fun ss => (idxOfS z ss).map fun (n : Nat) => D.int (n : Int)) = _
  rw [strs_of]
  show (idxOfS z (dn ++ z :: r)).map (fun (n : Nat) => D.int (n : Int)) = _
  rw [idx_of h]; rfl
theorem len_strs (ss : List Str) : (stL ss).length = ss.length := List.length_map _
theorem len_rows (ps : List (Str × D)) : (rows ps).length = ps.length := List.length_map _
theorem rows_app (ps qs : List (Str × D)) : rows ps ++ rows qs = rows (ps ++ qs) := (List.map_append ..).symm
theorem rows_add (ps : List (Str × D)) (n : Str) (d : D) : rows ps ++ [.tup [.str n, d]] = rows (ps ++ [(n, d)]) := by simp [rows, prD]
theorem mem_strs {ss : List Str} {d : D} (h : d ∈ stL ss) : ∃ s ∈ ss, d = .str s := by
  obtain ⟨s, h1, h2⟩ := List.mem_map.mp h
  exact ⟨s, h1, h2.symm⟩
theorem perm_strs {ys : List D} {ss : List Str} (h : ys.Perm (stL ss)) : ∃ ts, ys = stL ts ∧ ts.Perm ss := by
  suffices H : ∀ {ys zs : List D}, ys.Perm zs → ∀ ss, zs = stL ss → ∃ ts, ys = stL ts ∧ ts.Perm ss from H h ss rfl
  intro ys zs h
  induction h with
  | nil => intro ss e; exact ⟨[], rfl, by cases ss with | nil => exact .nil | cons a b => simp [stL] at e⟩
  | cons x _ ih =>
    intro ss e
    cases ss with
    | nil => simp [stL] at e
    | cons s ss =>
      have e' : x = .str s ∧ _ = stL ss := List.cons.inj (show _ = D.str s :: stL ss from e)
      obtain ⟨ts, e1, p⟩ := ih ss e'.2
      exact ⟨s :: ts, by rw [e'.1, e1]; rfl, p.cons s⟩
  | swap x y l =>
    intro ss e
    match ss, e with
    | s :: t :: ss, e =>
      have e' : x = .str s ∧ _ = stL (t :: ss) := List.cons.inj (show _ = D.str s :: stL (t :: ss) from e)
      have e2 : y = .str t ∧ l = stL ss := List.cons.inj (show _ = D.str t :: stL ss from e'.2)
      exact ⟨t :: s :: ss, by rw [e'.1, e2.1, e2.2]; rfl, .swap _ _ _⟩
    | [_], e => simp [stL] at e
    | [], e => simp [stL] at e
  | trans _ _ ih1 ih2 =>
    intro ss e
    obtain ⟨ts, e1, p1⟩ := ih2 ss e
    obtain ⟨us, e2, p2⟩ := ih1 ts e1
    exact ⟨us, e2, p2.trans p1⟩
/-- some of the names, drawn and sorted -/
theorem names_ok {F : List Fn} {k j T : Nat} (hF : F[j]? = some (.py (pMixed T))) (hT : F[T]? = some (.py pTake)) {ss : List Str} (h1 : ss.length < 1073741) : Ok (run F (k + 2) j [.lst (stL ss)]) fun d => ∃ ts, d = .lst (stL ts) ∧ ts.Perm ss :=
  (mixed_ok hF hT (by rw [len_strs]; exact h1)).mono fun d hd => by
    obtain ⟨ys, rfl, p⟩ := hd
    obtain ⟨ts, rfl, q⟩ := perm_strs p
    exact ⟨ts, rfl, q⟩
theorem take_sorted {ts ss : List Str} (hp : ts.Perm ss) (hn : ss.Nodup) (m : Nat) : ((ts.take m).mergeSort leS).Pairwise ltS ∧ (∀ s ∈ (ts.take m).mergeSort leS, s ∈ ss) ∧ ((ts.take m).mergeSort leS).length = min m ss.length :=
  ⟨sorted_lt ((List.take_sublist m ts).nodup (hp.nodup_iff.mpr hn)), fun s hs => hp.mem_iff.mp (List.mem_of_mem_take ((List.mergeSort_perm _ _).mem_iff.mp hs)), by rw [List.length_mergeSort, List.length_take, hp.length_eq]⟩
theorem slc_strs (ss : List Str) {i : Int} (h : 0 ≤ i) : slcD (.lst (stL ss)) none (some i) = some (.lst (stL (ss.take i.toNat))) := by
  show some (D.lst (cutG (stL ss) none (some i))) = _
  rw [cut_take _ h]
  unfold stL
  rw [List.map_take]

theorem enum_strs (ss : List Str) : ∀ n, enumD n (stL ss) = (ss.zipIdx n).map fun p => .tup [.int (p.2 : Nat), .str p.1] := by
  induction ss with
  | nil => intro n; rfl
  | cons s ss ih =>
    intro n
    show D.tup [.int n, .str s] :: enumD (n + 1) (stL ss) = _
    rw [ih, List.zipIdx_cons]; rfl
theorem enum_rows (ps : List (Str × D)) : ∀ n, enumD n (rows ps) = (ps.zipIdx n).map fun p => .tup [.int (p.2 : Nat), prD p.1] := by
  induction ps with
  | nil => intro n; rfl
  | cons s ss ih =>
    intro n
    show D.tup [.int n, prD s] :: enumD (n + 1) (rows ss) = _
    rw [ih, List.zipIdx_cons]; rfl
theorem slc_last (ss : List Str) : slcD (.lst (stL ss)) none (some (-1)) = some (.lst (stL ss.dropLast)) := by
  show some (D.lst (cutG (stL ss) none (some (-1)))) = _
  rw [cut_last]
  unfold stL
  rw [List.map_dropLast]
/-! sizes -/
theorem okDs_iff {xs : List D} : okDs xs = true ↔ ∀ x ∈ xs, okD x = true := by
  induction xs with
  | nil => simp [okDs]
  | cons x xs ih => simp [okDs, ih]
theorem deps_le {xs : List D} {n : Nat} (h : ∀ x ∈ xs, dep x ≤ n) : deps xs ≤ n := by
  induction xs with
  | nil => simp [deps]
  | cons x xs ih =>
    have a := h x List.mem_cons_self
    have b := ih fun y hy => h y (List.mem_cons_of_mem _ hy)
    simp only [deps]
    omega
theorem wDs_le {xs : List D} {w : Nat} (h : ∀ x ∈ xs, wD x ≤ w) : wDs xs ≤ xs.length * (w + 1) := by
  induction xs with
  | nil => simp [wDs]
  | cons x xs ih =>
    have a := h x List.mem_cons_self
    have b := ih fun y hy => h y (List.mem_cons_of_mem _ hy)
    simp only [wDs, List.length_cons, Nat.add_mul, Nat.one_mul]
    omega
/-- good: of small size and depth -/
structure Gd (n w : Nat) (d : D) : Prop where
  ok : okD d = true
  dep : dep d ≤ n
  w : wD d ≤ w
theorem Gd.mono {n n' w w' : Nat} {d : D} (h : Gd n w d) (hn : n ≤ n') (hw : w ≤ w') : Gd n' w' d := ⟨h.ok, Nat.le_trans h.dep hn, Nat.le_trans h.w hw⟩
theorem Gd.tup {n w k : Nat} {xs : List D} (h : ∀ x ∈ xs, Gd n w x) (hk : xs.length ≤ k) : Gd (n + 1) (k * (w + 1)) (.tup xs) :=
  ⟨by rw [okD]; exact okDs_iff.mpr fun x hx => (h x hx).ok, by rw [Dn.dep]; exact Nat.succ_le_succ (deps_le fun x hx => (h x hx).dep), by rw [wD]; exact Nat.le_trans (wDs_le fun x hx => (h x hx).w) (Nat.mul_le_mul_right _ hk)⟩
theorem Gd.lst {n w k : Nat} {xs : List D} (h : ∀ x ∈ xs, Gd n w x) (hk : xs.length ≤ k) : Gd (n + 1) (k * (w + 1)) (.lst xs) :=
  ⟨by rw [okD]; exact okDs_iff.mpr fun x hx => (h x hx).ok, by rw [Dn.dep]; exact Nat.succ_le_succ (deps_le fun x hx => (h x hx).dep), by rw [wD]; exact Nat.le_trans (wDs_le fun x hx => (h x hx).w) (Nat.mul_le_mul_right _ hk)⟩
theorem Gd.two {n w v : Nat} {a b : D} (ha : Gd n w a) (hb : Gd n v b) : Gd (n + 1) (w + v + 2) (.tup [a, b]) := by
  have := ha.dep; have := hb.dep; have := ha.w; have := hb.w
  exact ⟨by simp [okD, okDs, ha.ok, hb.ok], by simp [Dn.dep, deps]; omega, by simp [wD, wDs]; omega⟩
theorem Gd.three {n w v u : Nat} {a b c : D} (ha : Gd n w a) (hb : Gd n v b) (hc : Gd n u c) : Gd (n + 1) (w + v + u + 3) (.tup [a, b, c]) := by
  have := ha.dep; have := hb.dep; have := ha.w; have := hb.w; have := hc.dep; have := hc.w
  exact ⟨by simp [okD, okDs, ha.ok, hb.ok, hc.ok], by simp [Dn.dep, deps]; omega, by simp [wD, wDs]; omega⟩
theorem Gd.one {n w : Nat} {a : D} (ha : Gd n w a) : Gd (n + 1) (w + 1) (.tup [a]) := by
  have := ha.dep; have := ha.w
  exact ⟨by simp [okD, okDs, ha.ok], by simp [Dn.dep, deps]; omega, by simp [wD, wDs]; omega⟩
theorem Gd.lst2 {n w v : Nat} {a b : D} (ha : Gd n w a) (hb : Gd n v b) : Gd (n + 1) (w + v + 2) (.lst [a, b]) := by
  have := ha.dep; have := hb.dep; have := ha.w; have := hb.w
  exact ⟨by simp [okD, okDs, ha.ok, hb.ok], by simp [Dn.dep, deps]; omega, by simp [wD, wDs]; omega⟩
theorem Gd.lst3 {n w v u : Nat} {a b c : D} (ha : Gd n w a) (hb : Gd n v b) (hc : Gd n u c) : Gd (n + 1) (w + v + u + 3) (.lst [a, b, c]) := by
  have := ha.dep; have := hb.dep; have := ha.w; have := hb.w; have := hc.dep; have := hc.w
  exact ⟨by simp [okD, okDs, ha.ok, hb.ok, hc.ok], by simp [Dn.dep, deps]; omega, by simp [wD, wDs]; omega⟩
theorem Gd.int {n : Nat} {i : Int} (h : i.natAbs < 10 ^ 12) : Gd n 40 (.int i) := ⟨by simp only [okD]; exact decide_eq_true h, by simp [Dn.dep], by simp [wD]⟩
theorem Gd.bl {n : Nat} {b : Bool} : Gd n 0 (.bl b) := ⟨rfl, by simp [Dn.dep], by simp [wD]⟩
/-- a name -/
def nmB (s : Str) : Bool := decide (s.cps.size ≤ 12) && okD (.str s)
theorem Gd.nm {n : Nat} {s : Str} (h : nmB s = true) : Gd n 12 (.str s) := by
  obtain ⟨h1, h2⟩ := Bool.and_eq_true_iff.mp h
  exact ⟨h2, by simp [Dn.dep], by simpa [wD] using of_decide_eq_true h1⟩
/-- closed data -/
def gdB (n w : Nat) (d : D) : Bool := okD d && decide (dep d ≤ n) && decide (wD d ≤ w)
theorem Gd.dec {n w : Nat} {d : D} (h : gdB n w d = true) : Gd n w d := by
  obtain ⟨h1, h2⟩ := Bool.and_eq_true_iff.mp h
  obtain ⟨h3, h4⟩ := Bool.and_eq_true_iff.mp h1
  exact ⟨h3, of_decide_eq_true h4, of_decide_eq_true h2⟩
theorem Gd.flat {n w : Nat} {d : D} (h : Gd n w d) : flat d = true := flat_of_ok d h.ok
theorem Gd.noIns {n w : Nat} {d : D} (h : Gd n w d) : noIns d = true := noIns_of d h.flat
theorem Gd.alike {F : List Fn} {k j n w : Nat} (hF : F[j]? = some (.py pAlike)) {d : D} (h : Gd n w d) (hn : n ≤ 60) (hw : w ≤ 2 ^ 20) : run F (k + 1) j [d, d] = ret (.bl true) := alike_ok hF h.ok (Nat.le_trans h.dep hn) (Nat.le_trans h.w hw)
theorem Gd.repr {n w : Nat} {d : D} (h : Gd n w d) (hn : n ≤ 60) (hw : w ≤ 2 ^ 20) : biM .repr d = some (.str (toP d).shown) := repr_ok h.ok (Nat.le_trans h.dep hn) (Nat.le_trans h.w hw)
theorem in_good {x : D} {ys : List D} {n w : Nat} (hx : Gd n w x) (hn : n ≤ 60) (hy : ∀ y ∈ ys, okD y = true) : cmpD .isin x (.tup ys) = some (ys.any fun y => eqD y x) := by
  show (if inOk x ys = true then some (ys.any fun y => eqD y x) else none) = _
  rw [if_pos]
  unfold inOk
  rw [hx.flat, Bool.true_and, List.all_eq_true]
  exact fun y hm => eqOk_of' (hy y hm) hx.ok (Nat.le_trans hx.dep hn)
/-- rows of texts: they can be sorted -/
theorem alike_srows {rs : List (List Str)} (h : ∀ r ∈ rs, r ≠ []) : alikeB (rs.map fun r => .tup (stL r)) = true := by
  have fl : ∀ ss : List Str, flats (stL ss) = true := fun ss => by
    induction ss with
    | nil => rfl
    | cons s ss ih => show (flat (.str s) && flats (stL ss)) = true; rw [ih]; rfl
  have dp : ∀ ss : List Str, deps (stL ss) = 0 := fun ss => by
    induction ss with
    | nil => rfl
    | cons s ss ih => show max (dep (.str s)) (deps (stL ss)) = 0; rw [ih]; rfl
  have al : ∀ ss ts : List Str, PySem.W.alikeAll (toPs (stL ss)) (toPs (stL ts)) = true := fun ss => by
    induction ss with
    | nil => intro ts; simp [stL, toPs, PySem.W.alikeAll]
    | cons s ss ih =>
      intro ts
      cases ts with
      | nil => simp [stL, toPs, PySem.W.alikeAll]
      | cons t ts =>
        show PySem.W.alikeAll (.str s :: toPs (stL ss)) (.str t :: toPs (stL ts)) = true
        rw [PySem.W.alikeAll, ih ts]
        simp [PySem.W.alike]
  unfold alikeB
  have h1 : (rs.map fun r => D.tup (stL r)).all tupNe = true := by
    rw [List.all_eq_true]
    intro d hd
    obtain ⟨r, hr, rfl⟩ := List.mem_map.mp hd
    cases r with
    | nil => exact absurd rfl (h _ hr)
    | cons s r => rfl
  rw [h1, Bool.true_or, Bool.and_true, List.all_eq_true]
  intro d hd
  obtain ⟨r, _, rfl⟩ := List.mem_map.mp hd
  rw [Bool.and_eq_true, Bool.and_eq_true, List.all_eq_true]
  refine ⟨⟨by rw [flat]; exact fl r, ?_⟩, fun e he => ?_⟩
  · rw [Dn.dep, dp]; decide
  · obtain ⟨t, _, rfl⟩ := List.mem_map.mp he
    show PySem.W.alike (.tuple (toPs (stL r))) (.tuple (toPs (stL t))) = true
    rw [PySem.W.alike]; exact al r t
end Dn

set_option Elab.async false
set_option linter.all false
set_option maxRecDepth 100000
set_option maxHeartbeats 0
/-! the table of the defs, printed by ents.py -/
namespace K05
open PySem Dn
abbrev Rw : PySem.W.OpenLaw := PySem.Challenge.rw_everyversion_k05_schemas_looked_into
def dAt (i : Nat) : He.DefD := (defsIn Rw.prog.main.body).getD i noDef
/-- columns_told(schema, table) -/
def b0 : Sts := (.cons (.ret (.idx (.idx (.bi .dict (.idx (.var 0) (.ki 0))) (.var 1)) (.ki 0)))
 .nil)
def p0 : Py := ⟨"columns_told", false, 2, 2, 0, b0⟩
def e0 : Ent := ⟨dAt 0, ["schema", "table"], .py p0⟩
/-- tables_of(schema) -/
def b1 : Sts := (.cons (.ret (.bi .tuple (.lc (.var 1) [1, 2] (.tp [(.nm 1), (.nm 2)]) (.ex (.idx (.var 0) (.ki 0))) .no)))
 .nil)
def p1 : Py := ⟨"tables_of", false, 1, 3, 0, b1⟩
def e1 : Ent := ⟨dAt 1, ["schema", "name", "table"], .py p1⟩
/-- table_of(schema, table) -/
def b2 : Sts := (.cons (.ret (.idx (.bi .dict (.idx (.var 0) (.ki 0))) (.var 1)))
 .nil)
def p2 : Py := ⟨"table_of", false, 2, 2, 0, b2⟩
def e2 : Ent := ⟨dAt 2, ["schema", "table"], .py p2⟩
/-- columns_of(schema, table) -/
def b3 : Sts := (.cons (.ret (.bi .tuple (.lc (.var 2) [2, 3] (.tp [(.nm 2), (.nm 3)]) (.ex (.call 0 (.cons (.var 0) (.cons (.var 1) .nil)))) .no)))
 .nil)
def p3 : Py := ⟨"columns_of", false, 2, 4, 0, b3⟩
def e3 : Ent := ⟨dAt 3, ["schema", "table", "column", "sort"], .py p3⟩
/-- has_column(schema, table, column) -/
def b4 : Sts := (.cons (.ret (.and_ (.cmp .isin (.var 1) (.call 1 (.cons (.var 0) .nil))) (.cmp .isin (.var 2) (.call 3 (.cons (.var 0) (.cons (.var 1) .nil))))))
 .nil)
def p4 : Py := ⟨"has_column", false, 3, 3, 0, b4⟩
def e4 : Ent := ⟨dAt 4, ["schema", "table", "column"], .py p4⟩
/-- sort_of(schema, table, column) -/
def b5 : Sts := (.cons (.ret (.idx (.bi .dict (.call 0 (.cons (.var 0) (.cons (.var 1) .nil)))) (.var 2)))
 .nil)
def p5 : Py := ⟨"sort_of", false, 3, 3, 0, b5⟩
def e5 : Ent := ⟨dAt 5, ["schema", "table", "column"], .py p5⟩
/-- index_of(schema, table, column) -/
def b6 : Sts := (.cons (.ret (.index (.call 3 (.cons (.var 0) (.cons (.var 1) .nil))) (.var 2)))
 .nil)
def p6 : Py := ⟨"index_of", false, 3, 3, 0, b6⟩
def e6 : Ent := ⟨dAt 6, ["schema", "table", "column"], .py p6⟩
/-- refs_to(schema, table) -/
def b7 : Sts := (.cons (.asg (.nm 2) (.lst .nil))
 (.cons (.low 2 1)
 (.cons (.for_ (.nm 3) (.ex (.call 1 (.cons (.var 0) .nil))) (.cons (.asg (.nm 4) (.call 0 (.cons (.var 0) (.cons (.var 3) .nil))))
 (.cons (.mut .extend 2 .nil (.cons (.lc (.tup (.cons (.var 3) (.cons (.var 5) .nil))) [5, 6] (.tp [(.nm 5), (.nm 6)]) (.ex (.var 4)) (.yes (.cmp .isin (.var 6) (.tup (.cons (.tup (.cons (.ks "ref") (.cons (.var 1) .nil))) (.cons (.tup (.cons (.ks "may") (.cons (.var 1) .nil))) .nil)))))) .nil))
 .nil)))
 (.cons (.ret (.bi .tuple (.var 2)))
 .nil))))
def p7 : Py := ⟨"refs_to", false, 2, 7, 0, b7⟩
def e7 : Ent := ⟨dAt 7, ["schema", "table", "found", "name", "columns", "column", "sort"], .py p7⟩
/-- with_table(schema, table, told) -/
def b8 : Sts := (.cons (.asg (.nm 3) (.bi .dict (.idx (.var 0) (.ki 0))))
 (.cons (.setp 3 .nil (.var 1) (.var 2))
 (.cons (.ret (.tup (.cons (.bi .tuple (.lc (.tup (.cons (.var 4) (.cons (.idx (.var 3) (.var 4)) .nil))) [4] (.nm 4) (.ex (.bi .sorted (.var 3))) .no)) (.cons (.idx (.var 0) (.ki 1)) .nil))))
 .nil)))
def p8 : Py := ⟨"with_table", false, 3, 5, 0, b8⟩
def e8 : Ent := ⟨dAt 8, ["schema", "table", "told", "tables", "name"], .py p8⟩
/-- without_table(schema, table) -/
def b9 : Sts := (.cons (.ret (.tup (.cons (.bi .tuple (.lc (.var 2) [2] (.nm 2) (.ex (.idx (.var 0) (.ki 0))) (.yes (.cmp .ne (.idx (.var 2) (.ki 0)) (.var 1))))) (.cons (.idx (.var 0) (.ki 1)) .nil))))
 .nil)
def p9 : Py := ⟨"without_table", false, 2, 3, 0, b9⟩
def e9 : Ent := ⟨dAt 9, ["schema", "table", "pair"], .py p9⟩
/-- _law_take(_law_bag_here, _law_many) -/
def b10 : Sts := (.cons (.ifs (.cmp .eq (.bgi 0) (.ki 0)) (.cons (.asg (.nm 4) .bgc)
 (.cons (.low 4 0)
 (.cons .bgx
 (.cons (.ifs (.cmp .ge (.var 4) (.bin .pow (.ki 10) (.ki 18))) (.cons (.bgs 0 (.var 4))
 .nil) .nil)
 (.cons (.asg (.nm 5) (.bin .add (.bin .add (.bin .mul (.bgi 1) (.ki 48271)) (.bin .mod (.bi .int (.var 4)) (.ki 2147483647))) (.bin .mul (.ki 7919) (.bgi 2))))
 (.cons (.low 5 0)
 (.cons (.bgs 1 (.bin .mod (.bi .int (.var 5)) (.ki 2147483647)))
 .nil))))))) .nil)
 (.cons (.ifs (.cmp .gt (.bgi 0) (.ki 0)) (.cons (.asg (.nm 6) (.bin .mod (.bi .int (.bgi 0)) (.var 1)))
 (.cons (.low 6 0)
 (.cons (.bgs 0 (.bin .fdiv (.bi .int (.bgi 0)) (.var 1)))
 (.cons (.ret (.var 6))
 .nil)))) .nil)
 (.cons (.asg (.nm 2) (.bin .mod (.bi .int (.bin .mul (.bin .add (.bgi 1) (.ki 1)) (.ki 39373))) (.ki 1000000007)))
 (.cons (.low 2 0)
 (.cons (.asg (.nm 3) (.bin .mod (.bi .int (.bin .mul (.bin .mod (.bi .int (.bin .mul (.var 2) (.var 2))) (.ki 998244353)) (.ki 30011))) (.ki 998244353)))
 (.cons (.low 3 0)
 (.cons (.ret (.bin .mod (.bi .int (.bin .fdiv (.var 3) (.ki 7))) (.var 1)))
 .nil)))))))
def p10 : Py := ⟨"_law_take", true, 1, 7, 0, b10⟩
def e10 : Ent := ⟨dAt 11, ["_law_bag_here", "_law_many", "_law_begin", "_law_second", "_law_cell", "_law_stirred", "_law_value"], .py p10⟩
/-- _law_some(_law_bag_here, _law_things) -/
def b11 : Sts := (.cons (.ret (.idx (.var 1) (.call 10 (.cons (.bi .len (.var 1)) .nil))))
 .nil)
def p11 : Py := ⟨"_law_some", true, 1, 2, 0, b11⟩
def e11 : Ent := ⟨dAt 12, ["_law_bag_here", "_law_things"], .py p11⟩
/-- _law_mixed(_law_bag_here, _law_things) -/
def b12 : Sts := (.cons (.asg (.nm 2) (.lst .nil))
 (.cons (.low 2 1)
 (.cons (.for_ (.nm 3) (.ex (.var 1)) (.cons (.mut .insert 2 .nil (.cons (.call 10 (.cons (.bin .add (.bi .len (.var 2)) (.ki 1)) .nil)) (.cons (.var 3) .nil)))
 .nil))
 (.cons (.low 2 0)
 (.cons (.ret (.var 2))
 .nil)))))
def p12 : Py := ⟨"_law_mixed", true, 1, 4, 0, b12⟩
def e12 : Ent := ⟨dAt 13, ["_law_bag_here", "_law_things", "_law_found", "_law_thing"], .py p12⟩
/-- _law_alike(_law_found, _law_due) -/
def b13 : Sts := (.cons (.ret (.and_ (.cmp .eq (.var 0) (.var 1)) (.cmp .eq (.bi .repr (.var 0)) (.bi .repr (.var 1)))))
 .nil)
def p13 : Py := ⟨"_law_alike", false, 2, 2, 0, b13⟩
def e13 : Ent := ⟨dAt 14, ["_law_found", "_law_due"], .py p13⟩
/-- _law_schema(_law_bag_here, _law_most) -/
def b14 : Sts := (.cons (.asg (.nm 2) (.bi .sorted (.slc (.call 12 (.cons (.lst (.cons (.ks "a") (.cons (.ks "bird") (.cons (.ks "c1") (.cons (.ks "d") (.cons (.ks "e") .nil)))))) .nil)) .no (.yes (.bin .add (.ki 1) (.call 10 (.cons (.var 1) .nil)))))))
 (.cons (.low 2 0)
 (.cons (.asg (.nm 3) (.lst .nil))
 (.cons (.low 3 1)
 (.cons (.for_ (.nm 4) (.ex (.var 2)) (.cons (.asg (.nm 6) (.lst .nil))
 (.cons (.low 6 1)
 (.cons (.for_ (.nm 7) (.ex (.bi .sorted (.slc (.call 12 (.cons (.lst (.cons (.ks "m") (.cons (.ks "n") (.cons (.ks "p") (.cons (.ks "q2") .nil))))) .nil)) .no (.yes (.call 11 (.cons (.lst (.cons (.ki 1) (.cons (.ki 2) (.cons (.ki 3) (.cons (.ki 0) (.cons (.ki 2) .nil)))))) .nil)))))) (.cons (.asg (.nm 9) (.call 11 (.cons (.var 2) .nil)))
 (.cons (.asg (.nm 10) (.lst (.cons (.tup (.cons (.ks "int") .nil)) (.cons (.tup (.cons (.ks "int") .nil)) (.cons (.tup (.cons (.ks "below") (.cons (.call 11 (.cons (.lst (.cons (.ki 1) (.cons (.ki 4) (.cons (.ki 10) .nil)))) .nil)) .nil))) (.cons (.tup (.cons (.ks "ref") (.cons (.var 9) .nil))) (.cons (.tup (.cons (.ks "may") (.cons (.var 9) .nil))) .nil)))))))
 (.cons (.low 10 0)
 (.cons (.mut .append 6 .nil (.cons (.tup (.cons (.var 7) (.cons (.call 11 (.cons (.var 10) .nil)) .nil))) .nil))
 .nil)))))
 (.cons (.low 6 0)
 (.cons (.mut .append 3 .nil (.cons (.tup (.cons (.var 4) (.cons (.tup (.cons (.bi .tuple (.var 6)) (.cons (.call 15 (.cons (.var 6) .nil)) .nil))) .nil))) .nil))
 .nil))))))
 (.cons (.asg (.nm 5) (.lst .nil))
 (.cons (.low 5 1)
 (.cons (.for_ (.tp [(.nm 8), (.nm 4)]) (.enum (.slc (.var 2) .no (.yes (.neg (.ki 1))))) (.cons (.ifs (.cmp .eq (.call 10 (.cons (.ki 4) .nil)) (.ki 0)) (.cons (.mut .append 5 .nil (.cons (.tup (.cons (.call 11 (.cons (.lst (.cons (.ks "apart") (.cons (.ks "same") .nil))) .nil)) (.cons (.var 4) (.cons (.idx (.var 2) (.bin .add (.var 8) (.ki 1))) .nil)))) .nil))
 .nil) .nil)
 .nil))
 (.cons (.ret (.tup (.cons (.bi .tuple (.var 3)) (.cons (.bi .tuple (.bi .sorted (.var 5))) .nil))))
 .nil)))))))))
def p14 : Py := ⟨"_law_schema", true, 1, 11, 0, b14⟩
def e14 : Ent := ⟨dAt 15, ["_law_bag_here", "_law_most", "_law_names", "_law_tables", "_law_name", "_law_rules", "_law_columns", "_law_column", "_law_at", "_law_other", "_law_sorts"], .py p14⟩
/-- _law_check(_law_bag_here, _law_columns) -/
def b15 : Sts := (.cons (.ifs (.or_ (.cmp .eq (.var 1) (.lst .nil)) (.cmp .gt (.call 10 (.cons (.ki 3) .nil)) (.ki 0))) (.cons (.ret (.call 11 (.cons (.lst (.cons (.tup (.cons (.ks "true") .nil)) (.cons (.tup (.cons (.ks "true") .nil)) (.cons (.tup (.cons (.ks "<") (.cons (.tup (.cons (.ks "num") (.cons (.neg (.ki 90)) .nil))) (.cons (.tup (.cons (.ks "key") .nil)) .nil)))) .nil)))) .nil)))
 .nil) .nil)
 (.cons (.asg (.nm 2) (.tup (.cons (.ks "col") (.cons (.idx (.call 11 (.cons (.var 1) .nil)) (.ki 0)) .nil))))
 (.cons (.low 2 0)
 (.cons (.asg (.nm 3) (.lst (.cons (.tup (.cons (.ks "<") (.cons (.var 2) (.cons (.tup (.cons (.ks "num") (.cons (.ki 40) .nil))) .nil)))) (.cons (.tup (.cons (.ks "not") (.cons (.tup (.cons (.ks "=") (.cons (.var 2) (.cons (.tup (.cons (.ks "num") (.cons (.ki 7) .nil))) .nil)))) .nil))) .nil))))
 (.cons (.low 3 0)
 (.cons (.ret (.call 11 (.cons (.bin .add (.var 3) (.lst (.cons (.tup (.cons (.ks "or") (.cons (.tup (.cons (.ks "none") (.cons (.var 2) .nil))) (.cons (.tup (.cons (.ks "<") (.cons (.tup (.cons (.ks "num") (.cons (.neg (.ki 50)) .nil))) (.cons (.var 2) .nil)))) .nil)))) .nil))) .nil)))
 .nil))))))
def p15 : Py := ⟨"_law_check", true, 1, 4, 0, b15⟩
def e15 : Ent := ⟨dAt 16, ["_law_bag_here", "_law_columns", "_law_column", "_law_menu"], .py p15⟩
/-- _law_any_way(_law_bag_here) -/
def b16 : Sts := (.cons (.asg (.nm 1) (.lst (.cons (.tup (.cons (.ks "plus") (.cons (.call 11 (.cons (.lst (.cons (.ki 0) (.cons (.ki 3) (.cons (.neg (.ki 7)) (.cons (.ki 100) .nil))))) .nil)) .nil))) (.cons (.tup (.cons (.ks "turned") .nil)) (.cons (.tup (.cons (.ks "times") (.cons (.call 11 (.cons (.lst (.cons (.ki 1) (.cons (.ki 2) (.cons (.ki 1000) .nil)))) .nil)) .nil))) .nil)))))
 (.cons (.low 1 0)
 (.cons (.asg (.nm 1) (.bin .add (.var 1) (.lst (.cons (.tup (.cons (.ks "over") (.cons (.call 11 (.cons (.lst (.cons (.ki 1) (.cons (.ki 3) (.cons (.ki 10) .nil)))) .nil)) .nil))) (.cons (.tup (.cons (.ks "rest") (.cons (.call 11 (.cons (.lst (.cons (.ki 1) (.cons (.ki 4) (.cons (.ki 1000) .nil)))) .nil)) .nil))) .nil)))))
 (.cons (.low 1 0)
 (.cons (.ret (.call 11 (.cons (.bin .add (.var 1) (.lst (.cons (.tup (.cons (.ks "list") (.cons (.bi .tuple (.lc (.bin .sub (.call 10 (.cons (.ki 9) .nil)) (.ki 3)) [2] (.nm 2) (.r1 (.bin .add (.ki 1) (.call 10 (.cons (.ki 4) .nil)))) .no)) .nil))) .nil))) .nil)))
 .nil)))))
def p16 : Py := ⟨"_law_any_way", true, 0, 3, 0, b16⟩
def e16 : Ent := ⟨dAt 17, ["_law_bag_here", "_law_some_here", "_law_turn"], .py p16⟩
/-- _law_any_name(_law_bag_here) -/
def b17 : Sts := (.cons (.ret (.call 11 (.cons (.lst (.cons (.ks "a") (.cons (.ks "bird") (.cons (.ks "c1") (.cons (.ks "m") (.cons (.ks "n") (.cons (.ks "p") (.cons (.ks "q2") (.cons (.ks "who") (.cons (.ks "b") (.cons (.ks "xyzxyzxyzxyz") (.cons (.ks "num") (.cons (.ks "col") .nil))))))))))))) .nil)))
 .nil)
def p17 : Py := ⟨"_law_any_name", true, 0, 1, 0, b17⟩
def e17 : Ent := ⟨dAt 18, ["_law_bag_here"], .py p17⟩
/-- _law_any_sort(_law_bag_here) -/
def b18 : Sts := (.cons (.asg (.nm 1) (.lst (.cons (.tup (.cons (.ks "int") .nil)) (.cons (.tup (.cons (.ks "int") .nil)) (.cons (.tup (.cons (.ks "below") (.cons (.call 11 (.cons (.lst (.cons (.ki 1) (.cons (.ki 7) (.cons (.ki 1000) .nil)))) .nil)) .nil))) (.cons (.tup (.cons (.ks "ref") (.cons (.call 17 .nil) .nil))) .nil))))))
 (.cons (.low 1 0)
 (.cons (.ret (.call 11 (.cons (.bin .add (.var 1) (.lst (.cons (.tup (.cons (.ks "may") (.cons (.call 17 .nil) .nil))) .nil))) .nil)))
 .nil)))
def p18 : Py := ⟨"_law_any_sort", true, 0, 2, 0, b18⟩
def e18 : Ent := ⟨dAt 19, ["_law_bag_here", "_law_some_here"], .py p18⟩
/-- _law_any_table(_law_bag_here) -/
def b19 : Sts := (.cons (.asg (.nm 1) (.bi .sorted (.slc (.call 12 (.cons (.lst (.cons (.ks "m") (.cons (.ks "n") (.cons (.ks "p") (.cons (.ks "q2") .nil))))) .nil)) .no (.yes (.call 10 (.cons (.ki 4) .nil))))))
 (.cons (.low 1 0)
 (.cons (.asg (.nm 2) (.call 11 (.cons (.lst (.cons (.tup (.cons (.ks "true") .nil)) (.cons (.tup (.cons (.ks "<") (.cons (.tup (.cons (.ks "num") (.cons (.neg (.ki 3)) .nil))) (.cons (.tup (.cons (.ks "key") .nil)) .nil)))) .nil))) .nil)))
 (.cons (.ifs (.and_ (.cmp .ne (.var 1) (.lst .nil)) (.cmp .eq (.call 10 (.cons (.ki 2) .nil)) (.ki 0))) (.cons (.asg (.nm 3) (.tup (.cons (.ks "col") (.cons (.call 11 (.cons (.var 1) .nil)) .nil))))
 (.cons (.low 3 0)
 (.cons (.asg (.nm 2) (.call 11 (.cons (.lst (.cons (.tup (.cons (.ks "none") (.cons (.var 3) .nil))) (.cons (.tup (.cons (.ks "not") (.cons (.tup (.cons (.ks "=") (.cons (.var 3) (.cons (.tup (.cons (.ks "by") (.cons (.call 16 .nil) (.cons (.var 3) .nil)))) .nil)))) .nil))) .nil))) .nil)))
 .nil))) .nil)
 (.cons (.ret (.tup (.cons (.bi .tuple (.lc (.tup (.cons (.var 4) (.cons (.call 18 .nil) .nil))) [4] (.nm 4) (.ex (.var 1)) .no)) (.cons (.var 2) .nil))))
 .nil)))))
def p19 : Py := ⟨"_law_any_table", true, 0, 5, 0, b19⟩
def e19 : Ent := ⟨dAt 20, ["_law_bag_here", "_law_names", "_law_check_here", "_law_column", "_law_name"], .py p19⟩
/-- _law_alike_names(_law_bag_here) -/
def b20 : Sts := (.cons (.asg (.nm 1) (.tup (.cons (.ks "<") (.cons (.tup (.cons (.ks "col") (.cons (.ks "num") .nil))) (.cons (.tup (.cons (.ks "+") (.cons (.tup (.cons (.ks "num") (.cons (.ki 3) .nil))) (.cons (.tup (.cons (.ks "col") (.cons (.ks "col") .nil))) .nil)))) .nil)))))
 (.cons (.low 1 0)
 (.cons (.asg (.nm 2) (.tup (.cons (.tup (.cons (.tup (.cons (.ks "a") (.cons (.tup (.cons (.ks "may") (.cons (.ks "a") .nil))) .nil))) (.cons (.tup (.cons (.ks "col") (.cons (.tup (.cons (.ks "int") .nil)) .nil))) (.cons (.tup (.cons (.ks "num") (.cons (.tup (.cons (.ks "int") .nil)) .nil))) .nil)))) (.cons (.call 11 (.cons (.lst (.cons (.var 1) (.cons (.tup (.cons (.ks "none") (.cons (.tup (.cons (.ks "col") (.cons (.ks "a") .nil))) .nil))) .nil))) .nil)) .nil))))
 (.cons (.low 2 0)
 (.cons (.asg (.nm 3) (.tup (.cons (.tup (.cons (.tup (.cons (.ks "a") (.cons (.tup (.cons (.ks "ref") (.cons (.ks "num") .nil))) .nil))) (.cons (.tup (.cons (.ks "num") (.cons (.tup (.cons (.ks "may") (.cons (.ks "a") .nil))) .nil))) .nil))) (.cons (.tup (.cons (.ks "not") (.cons (.tup (.cons (.ks "=") (.cons (.tup (.cons (.ks "col") (.cons (.ks "num") .nil))) (.cons (.tup (.cons (.ks "num") (.cons (.ki 3) .nil))) .nil)))) .nil))) .nil))))
 (.cons (.low 3 0)
 (.cons (.ret (.tup (.cons (.tup (.cons (.tup (.cons (.ks "a") (.cons (.var 2) .nil))) (.cons (.tup (.cons (.ks "num") (.cons (.var 3) .nil))) .nil))) (.cons (.call 11 (.cons (.lst (.cons (.tup .nil) (.cons (.tup (.cons (.tup (.cons (.ks "apart") (.cons (.ks "a") (.cons (.ks "num") .nil)))) .nil)) .nil))) .nil)) .nil))))
 .nil)))))))
def p20 : Py := ⟨"_law_alike_names", true, 0, 4, 0, b20⟩
def e20 : Ent := ⟨dAt 21, ["_law_bag_here", "_law_check_here", "_law_one", "_law_other"], .py p20⟩
/-- _law_leading(_law_schema_here, _law_table) -/
def b21 : Sts := (.cons (.asg (.nm 2) (.lst .nil))
 (.cons (.low 2 1)
 (.cons (.for_ (.tp [(.nm 3), (.tp [(.nm 4), (.nm 5)])]) (.ex (.idx (.var 0) (.ki 0))) (.cons (.mut .extend 2 .nil (.cons (.lc (.tup (.cons (.var 3) (.cons (.var 6) .nil))) [6, 7] (.tp [(.nm 6), (.nm 7)]) (.ex (.var 4)) (.yes (.cmp .isin (.var 7) (.tup (.cons (.tup (.cons (.ks "ref") (.cons (.var 1) .nil))) (.cons (.tup (.cons (.ks "may") (.cons (.var 1) .nil))) .nil)))))) .nil))
 .nil))
 (.cons (.ret (.bi .tuple (.bi .sorted (.var 2))))
 .nil))))
def p21 : Py := ⟨"_law_leading", false, 2, 8, 0, b21⟩
def e21 : Ent := ⟨dAt 22, ["_law_schema_here", "_law_table", "_law_found", "_law_name", "_law_columns", "_law_check_here", "_law_column", "_law_sort"], .py p21⟩
def es : List Ent := [e0, e1, e2, e3, e4, e5, e6, e7, e8, e9, e10, e11, e12, e13, e14, e15, e16, e17, e18, e19, e20, e21]
def lawN : List Str := ["_law_script", "_law_bag_here", "_law_turn", "_law_schema_here", "_law_name", "_law_kept", "_law_names", "_law_table", "_law_columns", "_law_told", "_law_column", "_law_rest", "_law_at", "_law_sort", "_law_one"]
def lawB : Sts := (.cons (.for_ (.nm 2) (.r1 (.ki 4)) (.cons (.asg (.nm 3) (.ite (.cmp .gt (.var 2) (.ki 0)) (.call 14 (.cons (.ki 4) .nil)) (.call 20 .nil)))
 (.cons (.asg (.tp [(.nm 5), (.nm 6)]) (.tup (.cons (.bi .repr (.var 3)) (.cons (.bi .tuple (.lc (.var 4) [4, 7] (.tp [(.nm 4), (.nm 7)]) (.ex (.idx (.var 3) (.ki 0))) .no)) .nil))))
 (.cons (.ifs (.not_ (.call 13 (.cons (.call 1 (.cons (.var 3) .nil)) (.cons (.var 6) .nil)))) (.cons (.ret (.kb false))
 .nil) .nil)
 (.cons (.for_ (.tp [(.nm 4), (.nm 7)]) (.ex (.idx (.var 3) (.ki 0))) (.cons (.asg (.nm 8) (.bi .tuple (.lc (.var 10) [10, 13] (.tp [(.nm 10), (.nm 13)]) (.ex (.idx (.var 7) (.ki 0))) .no)))
 (.cons (.low 8 0)
 (.cons (.asg (.nm 9) (.lst (.cons (.call 2 (.cons (.var 3) (.cons (.var 4) .nil))) (.cons (.call 3 (.cons (.var 3) (.cons (.var 4) .nil))) (.cons (.call 7 (.cons (.var 3) (.cons (.var 4) .nil))) .nil)))))
 (.cons (.low 9 0)
 (.cons (.ifs (.not_ (.call 13 (.cons (.var 9) (.cons (.lst (.cons (.var 7) (.cons (.var 8) (.cons (.call 21 (.cons (.var 3) (.cons (.var 4) .nil))) .nil)))) .nil)))) (.cons (.ret (.kb false))
 .nil) .nil)
 (.cons (.for_ (.tp [(.nm 12), (.tp [(.nm 10), (.nm 13)])]) (.enum (.idx (.var 7) (.ki 0))) (.cons (.ifs (.not_ (.call 13 (.cons (.lst (.cons (.call 5 (.cons (.var 3) (.cons (.var 4) (.cons (.var 10) .nil)))) (.cons (.call 6 (.cons (.var 3) (.cons (.var 4) (.cons (.var 10) .nil)))) .nil))) (.cons (.lst (.cons (.var 13) (.cons (.var 12) .nil))) .nil)))) (.cons (.ret (.kb false))
 .nil) .nil)
 .nil))
 (.cons (.for_ (.nm 10) (.ex (.tup (.cons (.ks "m") (.cons (.ks "n") (.cons (.ks "p") (.cons (.ks "q2") (.cons (.ks "zz") (.cons (.ks "a") (.cons (.ks "num") .nil))))))))) (.cons (.asg (.nm 9) (.lst (.cons (.call 4 (.cons (.var 3) (.cons (.var 4) (.cons (.var 10) .nil)))) (.cons (.call 4 (.cons (.var 3) (.cons (.ks "zz") (.cons (.var 10) .nil)))) .nil))))
 (.cons (.low 9 0)
 (.cons (.ifs (.not_ (.call 13 (.cons (.var 9) (.cons (.lst (.cons (.cmp .isin (.var 10) (.var 8)) (.cons (.kb false) .nil))) .nil)))) (.cons (.ret (.kb false))
 .nil) .nil)
 .nil))))
 (.cons (.asg (.nm 11) (.bi .tuple (.lc (.var 14) [14] (.nm 14) (.ex (.idx (.var 3) (.ki 0))) (.yes (.cmp .ne (.idx (.var 14) (.ki 0)) (.var 4))))))
 (.cons (.low 11 0)
 (.cons (.ifs (.not_ (.call 13 (.cons (.call 9 (.cons (.var 3) (.cons (.var 4) .nil))) (.cons (.tup (.cons (.var 11) (.cons (.idx (.var 3) (.ki 1)) .nil))) .nil)))) (.cons (.ret (.kb false))
 .nil) .nil)
 .nil)))))))))))
 (.cons (.for_ (.nm 4) (.ex (.bin .add (.var 6) (.tup (.cons (.ks "aa") (.cons (.ks "c") (.cons (.ks "zz") (.cons (.ks "col") .nil))))))) (.cons (.asg (.nm 7) (.call 19 .nil))
 (.cons (.asg (.nm 11) (.bin .add (.lc (.var 14) [14] (.nm 14) (.ex (.idx (.var 3) (.ki 0))) (.yes (.cmp .ne (.idx (.var 14) (.ki 0)) (.var 4)))) (.lst (.cons (.tup (.cons (.var 4) (.cons (.var 7) .nil))) .nil))))
 (.cons (.low 11 0)
 (.cons (.ifs (.not_ (.call 13 (.cons (.call 8 (.cons (.var 3) (.cons (.var 4) (.cons (.var 7) .nil)))) (.cons (.tup (.cons (.bi .tuple (.bi .sorted (.var 11))) (.cons (.idx (.var 3) (.ki 1)) .nil))) .nil)))) (.cons (.ret (.kb false))
 .nil) .nil)
 .nil)))))
 (.cons (.ifs (.cmp .ne (.bi .repr (.var 3)) (.var 5)) (.cons (.ret (.kb false))
 .nil) .nil)
 .nil)))))))
 (.cons (.ret (.kb true))
 .nil))
def lawD : He.DefD := dAt 23
def bagD : He.DefD := dAt 10
end K05

set_option Elab.async false
set_option linter.all false
set_option maxRecDepth 100000
namespace K05
open PySem Dn L2
abbrev F : List Fn := Ft es
theorem fT : F[10]? = some (.py pTake) := rfl
theorem fS : F[11]? = some (.py (pSome 10)) := rfl
theorem fM : F[12]? = some (.py (pMixed 10)) := rfl
theorem fA : F[13]? = some (.py pAlike) := rfl
/-- a table: its name, its columns with their sorts, its check -/
structure Tab where
  nm : Str
  cs : List (Str × D)
  chk : D
def told (t : Tab) : D := .tup [.tup (rows t.cs), t.chk]
def tp (t : Tab) : Str × D := (t.nm, told t)
def tps (ts : List Tab) : List (Str × D) := ts.map tp
def schD (ts : List Tab) (r : D) : D := .tup [.tup (rows (tps ts)), r]
structure TabOk (t : Tab) : Prop where
  cols : (t.cs.map (·.1)).Pairwise ltS
  nms : ∀ c ∈ t.cs, nmB c.1 = true
  len : t.cs.length ≤ 4
  srt : ∀ c ∈ t.cs, Gd 1 60 c.2
  chk : Gd 6 1000 t.chk
structure SchOk (ts : List Tab) (r : D) : Prop where
  nms : (ts.map (·.nm)).Pairwise ltS
  nmb : ∀ t ∈ ts, nmB t.nm = true
  zz : ("zz" : Str) ∉ ts.map (·.nm)
  len : ts.length ≤ 4
  tab : ∀ t ∈ ts, TabOk t
  rul : Gd 3 1000 r
theorem TabOk.nd {t : Tab} (h : TabOk t) : (t.cs.map (·.1)).Nodup := lt_nodup h.cols
theorem tps_fst (ts : List Tab) : (tps ts).map (·.1) = ts.map (·.nm) := by simp [tps, tp]
theorem SchOk.nd {ts : List Tab} {r : D} (h : SchOk ts r) : ((tps ts).map (·.1)).Nodup := by rw [tps_fst]; exact lt_nodup h.nms
theorem TabOk.gcols {t : Tab} (h : TabOk t) : Gd 3 304 (.tup (rows t.cs)) := by
  have := Gd.tup (n := 2) (w := 75) (k := 4) (xs := rows t.cs) (fun x hx => ?_) (by rw [len_rows]; exact h.len)
  · exact this
  · obtain ⟨c, hc, rfl⟩ := List.mem_map.mp hx
    exact (Gd.two (n := 1) (Gd.nm (h.nms c hc)) (h.srt c hc)).mono (by decide) (by decide)
theorem TabOk.gd {t : Tab} (h : TabOk t) : Gd 7 1306 (told t) := (Gd.two (n := 6) (h.gcols.mono (by decide) (Nat.le_refl _)) h.chk).mono (by decide) (by decide)
theorem SchOk.gtabs {ts : List Tab} {r : D} (h : SchOk ts r) : Gd 9 5284 (.tup (rows (tps ts))) := by
  have := Gd.tup (n := 8) (w := 1320) (k := 4) (xs := rows (tps ts)) (fun x hx => ?_) (by rw [len_rows, tps, List.length_map]; exact h.len)
  · exact this
  · obtain ⟨c, hc, rfl⟩ := List.mem_map.mp hx
    obtain ⟨t, ht, rfl⟩ := List.mem_map.mp hc
    exact (Gd.two (n := 7) (Gd.nm (h.nmb t ht)) (h.tab t ht).gd).mono (by decide) (by decide)
theorem SchOk.gd {ts : List Tab} {r : D} (h : SchOk ts r) : Gd 10 6286 (schD ts r) := Gd.two (n := 9) h.gtabs (h.rul.mono (by decide) (Nat.le_refl _))
section
variable {ts : List Tab} {r : D} {k : Nat}
theorem mem_tps {t : Tab} (h : t ∈ ts) : (t.nm, told t) ∈ tps ts := List.mem_map.mpr ⟨t, h, rfl⟩
theorem c0 (h : SchOk ts r) {t : Tab} (ht : t ∈ ts) : run F (k + 1) 0 [schD ts r, .str t.nm] = ret (.tup (rows t.cs)) := by
  refine run_eq (p := p0) rfl rfl ?_
  show exs (run F k) [some (schD ts r), some (.str t.nm)] b0 = _
  simp [b0, exs, ex, ev, schD, idxD, at0, dict_rows h.nd]
  have e : isKey (.str t.nm) = true := rfl
  have e2 : dget (ents (tps ts)) (.str t.nm) = some (told t) := get_kv h.nd (mem_tps ht)
  simp [e, e2, told, at0]
theorem c1 (h : SchOk ts r) : run F (k + 1) 1 [schD ts r] = ret (.tup (stL (ts.map (·.nm)))) := by
  refine run_eq (p := p1) rfl rfl ?_
  show exs (run F k) [some (schD ts r), none, none] b1 = _
  simp [b1, exs, ex, ev, evi, evc, schD, idxD, at0]
  rw [loop_rows (g := fun p => .str p.1) fun p _ => by simp [prD, wipeR, bindT, bindTs]]
  simp [biM, biD, stL, tps]
  rfl
theorem c2 (h : SchOk ts r) {t : Tab} (ht : t ∈ ts) : run F (k + 1) 2 [schD ts r, .str t.nm] = ret (told t) := by
  refine run_eq (p := p2) rfl rfl ?_
  show exs (run F k) [some (schD ts r), some (.str t.nm)] b2 = _
  simp [b2, exs, ex, ev, schD, idxD, at0, dict_rows h.nd, isK, get_ents h.nd (mem_tps ht)]
theorem c3 (h : SchOk ts r) {t : Tab} (ht : t ∈ ts) : run F (k + 2) 3 [schD ts r, .str t.nm] = ret (.tup (stL (t.cs.map (·.1)))) := by
  refine run_eq (p := p3) rfl rfl ?_
  show exs (run F (k + 1)) [some (schD ts r), some (.str t.nm), none, none] b3 = _
  simp [b3, exs, ex, ev, evs, evi, evc, c0 h ht]
  rw [loop_rows (g := fun p => .str p.1) fun p _ => by simp [prD, wipeR, bindT, bindTs]]
  simp [biM, biD, stL]
  rfl
theorem c4 (h : SchOk ts r) {t : Tab} (ht : t ∈ ts) (c : Str) : run F (k + 3) 4 [schD ts r, .str t.nm, .str c] = ret (.bl (decide (c ∈ t.cs.map (·.1)))) := by
  refine run_eq (p := p4) rfl rfl ?_
  show exs (run F (k + 2)) [some (schD ts r), some (.str t.nm), some (.str c)] b4 = _
  have hm : t.nm ∈ ts.map (·.nm) := List.mem_map.mpr ⟨t, ht, rfl⟩
  simp only [b4, exs, ex, ev, evs, List.getD_cons_zero, List.getD_cons_succ, lift_s, bnd_r, bnd_b, c1 h, c3 h ht, in_strs', hm, decide_true, boolOf_b, if_true]
theorem c4z (h : SchOk ts r) (c : Str) : run F (k + 3) 4 [schD ts r, .str "zz", .str c] = ret (.bl false) := by
  refine run_eq (p := p4) rfl rfl ?_
  show exs (run F (k + 2)) [some (schD ts r), some (.str "zz"), some (.str c)] b4 = _
  simp only [b4, exs, ex, ev, evs, List.getD_cons_zero, List.getD_cons_succ, lift_s, bnd_r, bnd_b, c1 h, in_strs', h.zz, decide_false, boolOf_b, Bool.false_eq_true, if_false]
theorem c5 (h : SchOk ts r) {t : Tab} (ht : t ∈ ts) {c : Str × D} (hc : c ∈ t.cs) : run F (k + 2) 5 [schD ts r, .str t.nm, .str c.1] = ret c.2 := by
  refine run_eq (p := p5) rfl rfl ?_
  show exs (run F (k + 1)) [some (schD ts r), some (.str t.nm), some (.str c.1)] b5 = _
  have nd := (h.tab t ht).nd
  simp [b5, exs, ex, ev, evs, c0 h ht, dict_rows nd, idxD, isK, get_ents nd (show (c.1, c.2) ∈ t.cs from hc)]
theorem c6 (h : SchOk ts r) {t : Tab} (ht : t ∈ ts) {dn s : List (Str × D)} {c : Str × D} (hc : t.cs = dn ++ c :: s) : run F (k + 3) 6 [schD ts r, .str t.nm, .str c.1] = ret (.int dn.length) := by
  refine run_eq (p := p6) rfl rfl ?_
  show exs (run F (k + 2)) [some (schD ts r), some (.str t.nm), some (.str c.1)] b6 = _
  have nd := (h.tab t ht).nd
  rw [hc, List.map_append, List.map_cons, List.nodup_append] at nd
  have e : indexD (.tup (stL (t.cs.map (·.1)))) (.str c.1) = some (.int dn.length) := by
    rw [hc, List.map_append, List.map_cons, index_strs (fun hm => nd.2.2 _ hm _ List.mem_cons_self rfl), List.length_map]
  simp [b6, exs, ex, ev, evs, c3 h ht, e]
/-- the references to n -/
def refY (n : Str) : List D := [.tup [.str "ref", .str n], .tup [.str "may", .str n]]
def refB (n : Str) (c : Str × D) : Bool := (refY n).any fun y => eqD y c.2
def refs1 (n : Str) (t : Tab) : List (Str × Str) := (t.cs.filter (refB n)).map fun c => (t.nm, c.1)
def refs (n : Str) (ts : List Tab) : List (Str × Str) := ts.flatMap (refs1 n)
def prS (p : Str × Str) : D := .tup [.str p.1, .str p.2]
theorem refY_ok {n : Str} (hn : nmB n = true) : ∀ y ∈ refY n, okD y = true := by
  have e := (Gd.nm (n := 0) hn).ok
  intro y hy
  rcases List.mem_cons.mp hy with rfl | hy
  · have : okD (.str "ref") = true := by decide
    simp [okD, okDs] at e this ⊢; exact ⟨this, e⟩
  · rcases List.mem_cons.mp hy with rfl | hy
    · have : okD (.str "may") = true := by decide
      simp [okD, okDs] at e this ⊢; exact ⟨this, e⟩
    · cases hy
theorem in_refs {n : Str} (hn : nmB n = true) {d : D} (hd : Gd 1 60 d) : cmpD .isin d (.tup (refY n)) = some ((refY n).any fun y => eqD y d) := in_good hd (by decide) (refY_ok hn)
theorem refs1_len {n : Str} {t : Tab} (h : TabOk t) : (refs1 n t).length ≤ 4 := by
  unfold refs1
  rw [List.length_map]
  exact Nat.le_trans (List.length_filter_le _ _) h.len
theorem refs_len {n : Str} : ∀ {us : List Tab}, (∀ t ∈ us, TabOk t) → (refs n us).length ≤ 4 * us.length
  | [], _ => by simp [refs]
  | t :: us, h => by
    have a := refs1_len (n := n) (h t List.mem_cons_self)
    have b := refs_len (n := n) fun u hu => h u (List.mem_cons_of_mem t hu)
    unfold refs at b ⊢
    rw [List.flatMap_cons, List.length_append, List.length_cons]
    omega
/-- one table's references, as both find them -/
theorem refs_loop {f : D → M (List D)} {n : Str} {t : Tab} (h : ∀ c ∈ t.cs, f (prD c) = ret (if refB n c = true then [.tup [.str t.nm, .str c.1]] else [])) : loopM f (rows t.cs) = ret ((refs1 n t).map prS) := by
  rw [loop_rowsF h]
  congr 1
  unfold refs1
  induction t.cs with
  | nil => rfl
  | cons c cs ih =>
    rw [List.flatMap_cons, List.filter_cons, ih]
    by_cases e : refB n c = true
    · rw [if_pos e, if_pos e]; rfl
    · rw [if_neg e, if_neg e]; rfl
theorem ret_ite {b : Bool} {x y : List D} : (if b = true then (Dn.ret x : M (List D)) else Dn.ret y) = Dn.ret (if b = true then x else y) := by cases b <;> rfl
theorem stL_nms (ts : List Tab) : stL (ts.map (·.nm)) = ts.map fun t => .str t.nm := by
  unfold stL
  rw [List.map_map]; rfl
theorem c7 (h : SchOk ts r) {n : Str} (hn : nmB n = true) : Ok (run F (k + 2) 7 [schD ts r, .str n]) fun d => d = .tup ((refs n ts).map prS) := by
  refine ok_run (p := p7) rfl rfl ?_
  show Ok (exs (run F (k + 1)) [some (schD ts r), some (.str n), none, none, none, none, none] b7) _
  unfold b7
  refine st_asgE (d := .lst []) (by simp [ev, evs]) (by simp) (st_low ?_)
  refine ok_forM (zs := ts) (e := fun t => .str t.nm) (stL_nms ts) (by simp [evi, ev, evs, c1 h]) (fun dn ρ => ∃ a b c d, ρ = [some (schD ts r), some (.str n), some (.lst ((refs n dn).map prS)), a, b, c, d]) ⟨_, _, _, _, rfl⟩ ?_ ?_
  · rintro dn t q ρ e ⟨a, b, c, d, rfl⟩
    have ht : t ∈ ts := by rw [e]; simp
    refine ⟨_, rfl, ?_⟩
    refine st_asgE (d := .tup (rows t.cs)) (by simp [ev, evs, c0 h ht]) (by simp) ?_
    have hl : ((refs n dn).map prS).length + ((refs1 n t).map prS).length ≤ line := by
      have a := refs_len (n := n) (us := dn) fun u hu => h.tab u (by rw [e]; simp [hu])
      have b := refs1_len (n := n) (h.tab t ht)
      have c : dn.length ≤ 4 := Nat.le_trans (by rw [e]; simp) h.len
      simp only [List.length_map]
      unfold line
      omega
    refine st_eq (ρ' := [some (schD ts r), some (.str n), some (.lst ((refs n dn).map prS ++ (refs1 n t).map prS)), some (.str t.nm), some (.tup (rows t.cs)), c, d]) ?_ (ok_nil ⟨_, .inl rfl, some (.str t.nm), some (.tup (rows t.cs)), c, d, by simp [refs]⟩)
    · show bnd (evs _ _ _) _ = _
      simp only [evs, bnd_r, ev, evi, List.set, List.getD_cons_zero, List.getD_cons_succ, lift_s, itemsOf_t, wipeR]
      rw [refs_loop (n := n) (t := t) fun c hc => by
        have hr : cmpD .isin c.2 (.tup [.tup [.str "ref", .str n], .tup [.str "may", .str n]]) = some (refB n c) := in_refs hn ((h.tab t ht).srt c hc)
        simp [bindT, bindTs, prD, evc, ev, evs, hr, ret_ite, tp]]
      simp only [bnd_r, lift_s, upAt, mutD, if_pos hl]
  · rintro ρ' ⟨a, b, c, d, rfl⟩
    exact st_ret (P := fun x => x = .tup ((refs n ts).map prS)) (by simp [ev, biM, biD]; exact ok_ret rfl) fun d hd => ⟨d, rfl, hd⟩
/-- the references stand in order -/
theorem refs_mem {n : Str} {us : List Tab} {p : Str × Str} (h : p ∈ refs n us) : p.1 ∈ us.map (·.nm) := by
  unfold refs refs1 at h
  simp only [List.mem_flatMap, List.mem_map, List.mem_filter] at h
  obtain ⟨t, ht, c, _, rfl⟩ := h
  exact List.mem_map.mpr ⟨t, ht, rfl⟩
def lePP (p q : Str × Str) : Prop := ltS p.1 q.1 ∨ (p.1 = q.1 ∧ ltS p.2 q.2)
theorem refs_pw {n : Str} : ∀ {us : List Tab}, (us.map (·.nm)).Pairwise ltS → (∀ t ∈ us, TabOk t) → (refs n us).Pairwise lePP
  | [], _, _ => .nil
  | t :: us, h, ho => by
    rw [List.map_cons, List.pairwise_cons] at h
    show ((refs1 n t) ++ refs n us).Pairwise lePP
    rw [List.pairwise_append]
    refine ⟨?_, refs_pw h.2 fun u hu => ho u (List.mem_cons_of_mem _ hu), fun p hp q hq => .inl ?_⟩
    · unfold refs1
      have c := (List.pairwise_map.mp (ho t List.mem_cons_self).cols).sublist (List.filter_sublist (p := refB n) (l := t.cs))
      exact List.pairwise_map.mpr (c.imp fun h => .inr ⟨rfl, h⟩)
    · unfold refs1 at hp
      obtain ⟨c, _, rfl⟩ := List.mem_map.mp hp
      exact h.1 _ (refs_mem hq)
theorem refs_sorted (h : SchOk ts r) (n : Str) : biM .sorted (.lst ((refs n ts).map prS)) = some (.lst ((refs n ts).map prS)) := by
  have pw := refs_pw (n := n) h.nms h.tab
  have e : (refs n ts).map prS = ((refs n ts).map fun p => [p.1, p.2]).map fun r => .tup (stL r) := by rw [List.map_map]; rfl
  refine sort_same ?_ (fun _ => ?_) ?_
  · rw [e]
    refine alike_srows fun r hr => ?_
    obtain ⟨p, _, rfl⟩ := List.mem_map.mp hr
    simp
  · refine List.pairwise_map.mpr (pw.imp fun {p q} h => ?_)
    show leD (.str p.1) (.str q.1) = true
    rw [leD_str]
    rcases h with h | ⟨h, _⟩
    · exact h.1
    · rw [h]
      have := leS_total q.1 q.1
      simpa using this
  · refine List.pairwise_map.mpr (pw.imp fun {p q} h => le_pair ?_)
    rcases h with h | ⟨h, h2⟩
    · exact .inl h
    · exact .inr ⟨h, h2.1⟩
theorem rows_tps (ts : List Tab) : rows (tps ts) = ts.map fun t => prD (tp t) := by
  unfold rows tps
  rw [List.map_map]; rfl
theorem c21 (h : SchOk ts r) {n : Str} (hn : nmB n = true) : Ok (run F (k + 2) 21 [schD ts r, .str n]) fun d => d = .tup ((refs n ts).map prS) := by
  refine ok_run (p := p21) rfl rfl ?_
  show Ok (exs (run F (k + 1)) [some (schD ts r), some (.str n), none, none, none, none, none, none] b21) _
  unfold b21
  refine st_asgE (d := .lst []) (by simp [ev, evs]) (by simp) (st_low ?_)
  refine ok_forM (zs := ts) (e := fun t => prD (tp t)) (rows_tps ts) (by simp [evi, ev, evs, schD, idxD, at0]) (fun dn ρ => ∃ a b c d e, ρ = [some (schD ts r), some (.str n), some (.lst ((refs n dn).map prS)), a, b, c, d, e]) ⟨_, _, _, _, _, rfl⟩ ?_ ?_
  · rintro dn t q ρ e ⟨a, b, c, d, e0, rfl⟩
    have ht : t ∈ ts := by rw [e]; simp
    refine ⟨_, rfl, ?_⟩
    have hl : ((refs n dn).map prS).length + ((refs1 n t).map prS).length ≤ line := by
      have a := refs_len (n := n) (us := dn) fun u hu => h.tab u (by rw [e]; simp [hu])
      have b := refs1_len (n := n) (h.tab t ht)
      have c : dn.length ≤ 4 := Nat.le_trans (by rw [e]; simp) h.len
      simp only [List.length_map]
      unfold line
      omega
    refine st_eq (ρ' := [some (schD ts r), some (.str n), some (.lst ((refs n dn).map prS ++ (refs1 n t).map prS)), some (.str t.nm), some (.tup (rows t.cs)), some t.chk, d, e0]) ?_ (ok_nil ⟨_, .inl rfl, some (.str t.nm), some (.tup (rows t.cs)), some t.chk, d, e0, by simp [refs]⟩)
    show bnd (evs _ _ _) _ = _
    simp only [evs, bnd_r, ev, evi, List.set, List.getD_cons_zero, List.getD_cons_succ, lift_s, itemsOf_t, wipeR]
    rw [refs_loop (n := n) (t := t) fun c hc => by
        have hr : cmpD .isin c.2 (.tup [.tup [.str "ref", .str n], .tup [.str "may", .str n]]) = some (refB n c) := in_refs hn ((h.tab t ht).srt c hc)
        simp [bindT, bindTs, prD, evc, ev, evs, hr, ret_ite, tp]]
    simp only [bnd_r, lift_s, upAt, mutD, if_pos hl]
    rfl
  · rintro ρ' ⟨a, b, c, d, e, rfl⟩
    refine st_ret (P := fun x => x = .tup ((refs n ts).map prS)) ?_ fun d hd => ⟨d, rfl, hd⟩
    simp only [ev, List.getD_cons_zero, List.getD_cons_succ, lift_s, bnd_r, bnd_b, refs_sorted h n]
    exact ok_ret rfl
theorem loop_others {f : D → M (List D)} {ps : List (Str × D)} {n : Str} (h : ∀ p ∈ ps, f (prD p) = ret (if (!(p.1 == n)) = true then [prD p] else [])) : loopM f (rows ps) = ret (rows (others ps n)) := by
  rw [loop_rowsF h]
  congr 1
  unfold others rows
  induction ps with
  | nil => rfl
  | cons c cs ih =>
    rw [List.flatMap_cons, List.filter_cons, ih fun p hp => h p (List.mem_cons_of_mem _ hp)]
    by_cases e : (!(c.1 == n)) = true
    · rw [if_pos e, if_pos e]; rfl
    · rw [if_neg e, if_neg e]; rfl
theorem c9 (h : SchOk ts r) (n : Str) : run F (k + 1) 9 [schD ts r, .str n] = ret (.tup [.tup (rows (others (tps ts) n)), r]) := by
  refine run_eq (p := p9) rfl rfl ?_
  show exs (run F k) [some (schD ts r), some (.str n), none] b9 = _
  simp [b9, exs, ex, ev, evs, evi, evc, schD, idxD, at0, at1]
  rw [loop_others (n := n) fun p _ => by simp [prD, wipeR, bindT, bindTs, idxD, at0, ne_str, ret_ite]]
  simp [biM, biD]
/-- the others and the new one, sorted -/
def placed (ps : List (Str × D)) (n : Str) (d : D) : List (Str × D) := (others ps n ++ [(n, d)]).mergeSort le1
theorem c8 (h : SchOk ts r) (n : Str) (d : D) : run F (k + 1) 8 [schD ts r, .str n, d] = ret (.tup [.tup (rows (placed (tps ts) n d)), r]) := by
  refine run_eq (p := p8) rfl rfl ?_
  show exs (run F k) [some (schD ts r), some (.str n), some d, none, none] b8 = _
  obtain ⟨qs, e, hp⟩ := put_kv h.nd n d
  have e' : dput (ents (tps ts)) (.str n) d = ents qs := e
  have ol : (others (tps ts) n).length ≤ 4 := Nat.le_trans (List.length_filter_le _ _) (by rw [tps, List.length_map]; exact h.len)
  have ql : qs.length < 64 := by rw [hp.length_eq, List.length_append, List.length_singleton]; omega
  have el : (ents (tps ts)).length < line := by
    have := h.len
    unfold ents tps line
    rw [List.length_map, List.length_map]; omega
  have qn : (qs.map (·.1)).Nodup := (hp.map _).nodup_iff.mpr (others_nodup h.nd n d)
  have sk : biM .sorted (.dct (ents qs)) = some (.lst ((placed (tps ts) n d).map fun p => .str p.1)) := by
    have := sort_keys ql
    rw [keys_same hp, List.map_map] at this
    exact this
  simp [b8, exs, ex, ev, evs, evi, evc, schD, bindT, idxD, at0, at1, dict_rows h.nd, upAt, setD, isK, e', el, sk]
  rw [loop_map (g := prD) (placed (tps ts) n d) fun p hm => by
    have hm2 : (p.1, p.2) ∈ qs := hp.mem_iff.mpr ((List.mergeSort_perm _ _).mem_iff.mp hm)
    simp [wipeR, bindT, idxD, isK, get_ents qn hm2, prD]]
  simp [biM, biD]
  rfl
end
end K05

set_option Elab.async false
set_option linter.all false
set_option maxRecDepth 100000
namespace K05
open PySem Dn L2
instance : DecidableRel ltS := fun a b => inferInstanceAs (Decidable (leS a b = true ∧ a ≠ b))
theorem gd_mem {n w : Nat} {xs : List D} {d : D} (hd : d ∈ xs) (h : xs.all (gdB n w) = true) : Gd n w d := Gd.dec (List.all_eq_true.mp h d hd)
theorem nm_mem {ss : List Str} {s : Str} (hs : s ∈ ss) (h : ss.all nmB = true) : nmB s = true := List.all_eq_true.mp h s hs
theorem eq_nil {xs : List D} (h : flats xs = true) : cmpD .eq (.lst xs) (.lst []) = some xs.isEmpty := by
  show (if eqOk (.lst xs) (.lst []) = true then some (eqD (.lst xs) (.lst [])) else none) = _
  rw [if_pos]
  · cases xs <;> simp [eqD, eqDs]
  · simp [eqOk, flat, h, flats, roomy, dep, deps]
theorem ne_nil {xs : List D} (h : flats xs = true) : cmpD .ne (.lst xs) (.lst []) = some (!xs.isEmpty) := by
  have := eq_nil h
  show (if eqOk (.lst xs) (.lst []) = true then some (!eqD (.lst xs) (.lst [])) else none) = _
  have h2 : (if eqOk (.lst xs) (.lst []) = true then some (eqD (.lst xs) (.lst [])) else none) = some xs.isEmpty := this
  by_cases c : eqOk (.lst xs) (.lst []) = true
  · rw [if_pos c] at h2 ⊢
    rw [Option.some.inj h2]
  · rw [if_neg c] at h2; cases h2
theorem okDs_rows {cs : List (Str × D)} (hn : ∀ c ∈ cs, nmB c.1 = true) (hg : ∀ c ∈ cs, Gd 1 60 c.2) : okDs (rows cs) = true := by
  refine okDs_iff.mpr fun x hx => ?_
  obtain ⟨c, hc, rfl⟩ := List.mem_map.mp hx
  exact (Gd.two (n := 1) (Gd.nm (hn c hc)) (hg c hc)).ok
section
variable {k : Nat}
theorem c15 {cs : List (Str × D)} (hn : ∀ c ∈ cs, nmB c.1 = true) (hl : cs.length ≤ 4) (hg : ∀ c ∈ cs, Gd 1 60 c.2) : Ok (run F (k + 3) 15 [.lst (rows cs)]) (Gd 6 1000) := by
  refine ok_run (p := p15) rfl rfl ?_
  show Ok (exs (run F (k + 2)) [none, some (.lst (rows cs)), none, none] b15) _
  have fl := flats_of_ok _ (okDs_rows hn hg)
  have rl := len_rows cs
  unfold b15
  refine st_ifR (P := fun t => t = false → cs ≠ []) ?_ (fun _ => ?_) (fun hc => ok_nil (.inr ⟨_, rfl, ?_⟩))
  · simp only [ev, evs, List.getD_cons_zero, List.getD_cons_succ, lift_s, bnd_r, bnd_b, eq_nil fl, boolOf_b]
    refine ok_ite (fun h => ok_ret ⟨true, rfl, by simp⟩) fun h => ?_
    refine ok_bnd (take_ok fT (by decide) (by decide)) ?_
    rintro _ ⟨i, rfl, _, _⟩
    simp only [bnd_r, cmpD, lift_s, boolOf_b]
    refine ok_ret ⟨_, rfl, fun _ e => h ?_⟩
    rw [e]; rfl
  · refine st_ret (P := Gd 6 1000) ?_ fun d hd => .inl ⟨d, rfl, ⟨d, rfl, hd⟩⟩
    simp only [ev, evs, List.getD_cons_zero, List.getD_cons_succ, lift_s, bnd_r, bnd_b, intOf_i]
    exact (some_ok fS fT (by simp) (by simp)).mono fun d hd => gd_mem hd (by decide +kernel)
  · have hc := hc rfl
    refine st_asg (P := Gd 1 26) ?_ (by simp) fun col hcol => st_low ?_
    · simp only [ev, evs, List.getD_cons_zero, List.getD_cons_succ, lift_s, bnd_r, bnd_b]
      refine ok_bnd (some_ok fS fT (by rw [rl]; exact List.length_pos_iff.mpr hc) (by omega)) fun d hd => ?_
      obtain ⟨c, hm, rfl⟩ := List.mem_map.mp hd
      simp only [prD, idxD, at0, lift_s, bnd_r]
      exact ok_ret (Gd.two (n := 0) (Gd.nm (by decide)) (Gd.nm (hn c hm)))
    · refine st_asgE rfl (by simp) (st_low ?_)
      refine st_ret (P := Gd 6 1000) ?_ fun d hd => ⟨d, rfl, hd⟩
      simp only [ev, evs, List.set, List.getD_cons_zero, List.getD_cons_succ, lift_s, bnd_r, bnd_b, intOf_i, binD, List.length_cons, List.length_nil, line, List.cons_append, List.nil_append]
      refine ok_eq (bnd_r _ _) ?_
      refine (some_ok fS fT (by simp) (by simp)).mono fun d hd => ?_
      have hcol1 := hcol
      simp only [List.mem_cons, List.not_mem_nil, or_false] at hd
      rcases hd with rfl | rfl | rfl
      · exact (Gd.three (n := 1) (Gd.nm (by decide)) hcol (Gd.dec (w := 60) (by decide +kernel))).mono (by decide) (by decide)
      · exact (Gd.two (n := 2) (Gd.nm (by decide)) (Gd.three (n := 1) (Gd.nm (by decide)) hcol (Gd.dec (w := 60) (by decide +kernel)))).mono (by decide) (by decide)
      · exact (Gd.three (n := 2) (Gd.nm (by decide)) (Gd.two (n := 1) (Gd.nm (by decide)) hcol) (Gd.three (n := 1) (Gd.nm (by decide)) (Gd.dec (w := 60) (by decide +kernel)) hcol)).mono (by decide) (by decide)
theorem c17 : Ok (run F (k + 3) 17 []) fun d => ∃ s, d = .str s ∧ nmB s = true := by
  refine ok_run (p := p17) rfl rfl ?_
  show Ok (exs (run F (k + 2)) [none] b17) _
  unfold b17
  refine st_ret (P := fun d => ∃ s, d = .str s ∧ nmB s = true) ?_ fun d hd => ⟨d, rfl, hd⟩
  simp only [ev, evs, bnd_r, bnd_b]
  refine (some_ok fS fT (by simp) (by simp)).mono fun d hd => ?_
  have e : d ∈ stL ["a", "bird", "c1", "m", "n", "p", "q2", "who", "b", "xyzxyzxyzxyz", "num", "col"] := hd
  obtain ⟨s, hs, rfl⟩ := mem_strs e
  exact ⟨s, rfl, nm_mem hs (by decide +kernel)⟩
theorem c18 : Ok (run F (k + 4) 18 []) (Gd 1 60) := by
  refine ok_run (p := p18) rfl rfl ?_
  show Ok (exs (run F (k + 3)) [none, none] b18) _
  unfold b18
  refine st_asg (P := fun d => ∃ xs, d = .lst xs ∧ xs.length = 4 ∧ ∀ x ∈ xs, Gd 1 60 x) ?_ (by simp) fun d hd => st_low ?_
  · simp only [ev, evs, bnd_r, bnd_b]
    refine ok_bnd (some_ok fS fT (by simp) (by simp)) fun i hi => ?_
    have gi : Gd 0 40 i := gd_mem hi (by decide +kernel)
    refine ok_bnd c17 ?_
    rintro _ ⟨s, rfl, hs⟩
    refine ok_ret ⟨_, rfl, rfl, fun x hx => ?_⟩
    simp only [List.mem_cons, List.not_mem_nil, or_false] at hx
    rcases hx with rfl | rfl | rfl | rfl
    · exact Gd.dec (by decide +kernel)
    · exact Gd.dec (by decide +kernel)
    · exact (Gd.two (n := 0) (Gd.nm (by decide)) gi).mono (by decide) (by decide)
    · exact (Gd.two (n := 0) (Gd.nm (by decide)) (Gd.nm hs)).mono (by decide) (by decide)
  · obtain ⟨xs, rfl, hl, hg⟩ := hd
    refine st_ret (P := Gd 1 60) ?_ fun d hd => ⟨d, rfl, hd⟩
    simp only [ev, evs, List.set, List.getD_cons_zero, List.getD_cons_succ, lift_s, bnd_r, bnd_b]
    refine ok_bnd c17 ?_
    rintro _ ⟨s, rfl, hs⟩
    have hl2 : xs.length + [D.tup [D.str "may", D.str s]].length ≤ line := by simp [hl, line]
    simp only [bnd_r, binD, if_pos hl2, lift_s]
    refine (some_ok fS fT (by simp) (by simp [hl])).mono fun d hd => ?_
    rcases List.mem_append.mp hd with hd | hd
    · exact hg d hd
    · simp only [List.mem_cons, List.not_mem_nil, or_false] at hd
      subst hd
      exact (Gd.two (n := 0) (Gd.nm (by decide)) (Gd.nm hs)).mono (by decide) (by decide)
theorem c16 : Ok (run F (k + 3) 16 []) (Gd 2 220) := by
  refine ok_run (p := p16) rfl rfl ?_
  show Ok (exs (run F (k + 2)) [none, none, none] b16) _
  unfold b16
  refine st_asg (P := fun d => ∃ xs, d = .lst xs ∧ xs.length = 3 ∧ ∀ x ∈ xs, Gd 2 220 x) ?_ (by simp) fun d hd => st_low ?_
  · simp only [ev, evs, bnd_r, bnd_b, intOf_i]
    refine ok_bnd (some_ok fS fT (by simp) (by simp)) fun i hi => ?_
    have gi : Gd 1 40 i := gd_mem hi (by decide +kernel)
    refine ok_bnd (some_ok fS fT (by simp) (by simp)) fun j hj => ?_
    have gj : Gd 1 40 j := gd_mem hj (by decide +kernel)
    refine ok_ret ⟨_, rfl, rfl, fun x hx => ?_⟩
    simp only [List.mem_cons, List.not_mem_nil, or_false] at hx
    rcases hx with rfl | rfl | rfl
    · exact (Gd.two (n := 1) (Gd.nm (by decide)) gi).mono (by decide) (by decide)
    · exact Gd.dec (by decide +kernel)
    · exact (Gd.two (n := 1) (Gd.nm (by decide)) gj).mono (by decide) (by decide)
  · obtain ⟨xs, rfl, hl, hg⟩ := hd
    refine st_asg (P := fun d => ∃ xs, d = .lst xs ∧ xs.length = 5 ∧ ∀ x ∈ xs, Gd 2 220 x) ?_ (by simp) fun d hd => st_low ?_
    · simp only [ev, evs, List.set, List.getD_cons_zero, List.getD_cons_succ, lift_s, bnd_r, bnd_b, intOf_i]
      refine ok_bnd (some_ok fS fT (by simp) (by simp)) fun i hi => ?_
      have gi : Gd 1 40 i := gd_mem hi (by decide +kernel)
      refine ok_bnd (some_ok fS fT (by simp) (by simp)) fun j hj => ?_
      have gj : Gd 1 40 j := gd_mem hj (by decide +kernel)
      have hl2 : xs.length + [D.tup [D.str "over", i], D.tup [D.str "rest", j]].length ≤ line := by simp [hl, line]
      simp only [bnd_r, binD, if_pos hl2, lift_s]
      refine ok_ret ⟨_, rfl, by simp [hl], fun x hx => ?_⟩
      rcases List.mem_append.mp hx with hx | hx
      · exact hg x hx
      · simp only [List.mem_cons, List.not_mem_nil, or_false] at hx
        rcases hx with rfl | rfl
        · exact (Gd.two (n := 1) (Gd.nm (by decide)) gi).mono (by decide) (by decide)
        · exact (Gd.two (n := 1) (Gd.nm (by decide)) gj).mono (by decide) (by decide)
    · obtain ⟨ys, rfl, hl, hg⟩ := hd
      refine st_ret (P := Gd 2 220) ?_ fun d hd => ⟨d, rfl, hd⟩
      simp only [ev, evs, evi, evc, List.set, List.getD_cons_zero, List.getD_cons_succ, lift_s, bnd_r, bnd_b, intOf_i]
      refine ok_bnd (take_ok fT (by decide) (by decide)) ?_
      rintro _ ⟨m, rfl, m0, m1⟩
      simp only [binD, lift_s, bnd_r, intOf_i, if_true]
      refine ok_bnd (P := fun l => l.length ≤ 4) ?_ fun l hl4 => ?_
      · unfold rangeD
        rw [if_pos ⟨by omega, by omega, by omega, by omega, by unfold line; omega⟩]
        refine ok_ret ?_
        simp; omega
      · refine ok_bnd (ok_loop (R := fun _ y => Gd 0 40 y) l fun x _ => ?_) fun zs hz => ?_
        · rw [show bindT (.nm 2) x (wipeR [none, some (D.lst ys), none] [2]) = some [none, some (.lst ys), some x] from rfl]
          simp only [lift_s, bnd_r]
          refine ok_bnd (take_ok fT (by decide) (by decide)) ?_
          rintro _ ⟨q, rfl, q0, q1⟩
          exact ok_ret ⟨_, rfl, Gd.int (by omega)⟩
        · have zl : zs.length ≤ 4 := by rw [← hz.length]; exact hl4
          have gz : Gd 1 164 (.tup zs) := Gd.tup (n := 0) (w := 40) (k := 4) (fun y hy => (all2_right hz y hy).elim fun x hx => hx.2) zl
          have hl2 : ys.length + [D.tup [D.str "list", D.tup zs]].length ≤ line := by simp [hl, line]
          simp only [bnd_r, bnd_b, biM, biD, binD, if_pos hl2, lift_s]
          refine (some_ok fS fT (by simp) (by simp [hl])).mono fun d hd => ?_
          rcases List.mem_append.mp hd with hd | hd
          · exact hg d hd
          · simp only [List.mem_cons, List.not_mem_nil, or_false] at hd
            subst hd
            exact (Gd.two (n := 1) (Gd.nm (by decide)) gz).mono (by decide) (by decide)
def colsM : List Str := ["m", "n", "p", "q2"]
/-- names drawn of a menu -/
def Pick (menu : List Str) (lo hi : Nat) (ss : List Str) : Prop := ss.Pairwise ltS ∧ (∀ s ∈ ss, s ∈ menu) ∧ lo ≤ ss.length ∧ ss.length ≤ hi
theorem c19 : Ok (run F (k + 5) 19 []) (Gd 7 1306) := by
  refine ok_run (p := p19) rfl rfl ?_
  show Ok (exs (run F (k + 4)) [none, none, none, none, none] b19) _
  unfold b19
  refine st_asg (P := fun d => ∃ ss, d = .lst (stL ss) ∧ Pick colsM 0 4 ss) ?_ (by simp) fun d hd => st_low ?_
  · simp only [ev, evs, evo, bnd_r, bnd_b]
    refine ok_bnd (names_ok (ss := colsM) fM fT (by decide)) ?_
    rintro _ ⟨us, rfl, hp⟩
    refine ok_bnd (take_ok fT (by decide) (by decide)) ?_
    rintro _ ⟨m, rfl, m0, m1⟩
    obtain ⟨h1, h2, h3⟩ := take_sorted hp (by decide +kernel) m.toNat
    simp only [intOf_i, bnd_r, slc_strs us m0, lift_s, sort_strs']
    have e : colsM.length = 4 := rfl
    exact ok_ret ⟨_, rfl, h1, h2, by omega, by omega⟩
  · obtain ⟨ss, rfl, pw, hm, _, hl⟩ := hd
    have nb : ∀ s ∈ ss, nmB s = true := fun s hs => nm_mem (hm s hs) (by decide +kernel)
    have fl : flats (stL ss) = true := flats_of_ok _ (okDs_iff.mpr fun x hx => by
      obtain ⟨s, hs, rfl⟩ := mem_strs hx
      exact (Gd.nm (n := 0) (nb s hs)).ok)
    refine st_asg (P := Gd 6 1000) ?_ (by simp) fun chk hchk => ?_
    · simp only [ev, evs, bnd_r, bnd_b, intOf_i]
      exact (some_ok fS fT (by simp) (by simp)).mono fun d hd => gd_mem hd (by decide +kernel)
    refine st_if (P := fun t => t = true → ss ≠ []) (R := fun ρ => ∃ a b, ρ = [none, some (.lst (stL ss)), some b, a, none] ∧ Gd 6 1000 b) ?_ ?_ ?_
    · simp only [ev, evs, List.set, List.getD_cons_zero, List.getD_cons_succ, lift_s, bnd_r, bnd_b, ne_nil fl, boolOf_b]
      refine ok_ite (fun h => ?_) fun h => ok_ret ⟨false, rfl, by simp⟩
      refine ok_bnd (take_ok fT (by decide) (by decide)) ?_
      rintro _ ⟨i, rfl, _, _⟩
      simp only [bnd_r, eq_int, lift_s, boolOf_b]
      refine ok_ret ⟨_, rfl, fun _ e => ?_⟩
      rw [e] at h
      simp [stL] at h
    · intro t ht
      cases t with
      | false => exact ok_nil ⟨_, rfl, _, _, rfl, hchk⟩
      | true =>
        have hne := ht rfl
        rw [if_pos rfl]
        refine st_asg (P := Gd 1 26) ?_ (by simp) fun col hcol => st_low ?_
        · simp only [ev, evs, List.set, List.getD_cons_zero, List.getD_cons_succ, lift_s, bnd_r, bnd_b]
          refine ok_bnd (some_ok fS fT (by rw [len_strs]; exact List.length_pos_iff.mpr hne) (by rw [len_strs]; omega)) fun d hd => ?_
          obtain ⟨s, hs, rfl⟩ := mem_strs hd
          exact ok_ret (Gd.two (n := 0) (Gd.nm (by decide)) (Gd.nm (nb s hs)))
        · refine st_asg (P := Gd 6 1000) ?_ (by simp) fun b hb => ok_nil ⟨_, rfl, _, _, rfl, hb⟩
          simp only [ev, evs, List.set, List.getD_cons_zero, List.getD_cons_succ, lift_s, bnd_r, bnd_b]
          refine ok_bnd c16 fun way hway => ?_
          refine (some_ok fS fT (by simp) (by simp)).mono fun d hd => ?_
          simp only [List.mem_cons, List.not_mem_nil, or_false] at hd
          rcases hd with rfl | rfl
          · exact (Gd.two (n := 1) (Gd.nm (by decide)) hcol).mono (by decide) (by decide)
          · exact (Gd.two (n := 4) (Gd.nm (by decide)) (Gd.three (n := 3) (Gd.nm (by decide)) (hcol.mono (by decide) (Nat.le_refl _)) (Gd.three (n := 2) (Gd.nm (by decide)) hway (hcol.mono (by decide) (Nat.le_refl _))))).mono (by decide) (by decide)
    · rintro ρ' ⟨a, b, rfl, hb⟩
      refine st_ret (P := Gd 7 1306) ?_ fun d hd => ⟨d, rfl, hd⟩
      simp only [ev, evs, evi, evc, List.getD_cons_zero, List.getD_cons_succ, lift_s, bnd_r, bnd_b, itemsOf_l, if_true]
      refine ok_bnd (ok_loop (R := fun _ y => Gd 2 75 y) (stL ss) fun x hx => ?_) fun zs hz => ?_
      · obtain ⟨s, hs, rfl⟩ := mem_strs hx
        rw [show bindT (.nm 4) (.str s) (wipeR [none, some (.lst (stL ss)), some b, a, none] [4]) = some [none, some (.lst (stL ss)), some b, a, some (.str s)] from rfl]
        simp only [lift_s, bnd_r, List.getD_cons_zero, List.getD_cons_succ, bnd_b]
        refine ok_bnd c18 fun d hd => ?_
        exact ok_ret ⟨_, rfl, (Gd.two (n := 1) (Gd.nm (nb s hs)) hd).mono (by decide) (by decide)⟩
      · have zl : zs.length ≤ 4 := by rw [← hz.length, len_strs]; exact hl
        have gz : Gd 3 304 (.tup zs) := Gd.tup (n := 2) (w := 75) (k := 4) (fun y hy => (all2_right hz y hy).elim fun x hx => hx.2) zl
        simp only [bnd_r, bnd_b, biM, biD, lift_s]
        exact ok_ret ((Gd.two (n := 6) (gz.mono (by decide) (Nat.le_refl _)) hb).mono (by decide) (by decide))
def csA : List (Str × D) := [("a", .tup [.str "may", .str "a"]), ("col", .tup [.str "int"]), ("num", .tup [.str "int"])]
def tabA (c : D) : Tab := ⟨"a", csA, c⟩
def tabN : Tab := ⟨"num", [("a", .tup [.str "ref", .str "num"]), ("num", .tup [.str "may", .str "a"])], .tup [.str "not", .tup [.str "=", .tup [.str "col", .str "num"], .tup [.str "num", .int 3]]]⟩
theorem c20 : Ok (run F (k + 3) 20 []) fun d => ∃ ts r, d = schD ts r ∧ SchOk ts r := by
  refine ok_run (p := p20) rfl rfl ?_
  show Ok (exs (run F (k + 2)) [none, none, none, none] b20) _
  unfold b20
  refine st_asgE rfl (by simp) (st_low ?_)
  refine st_asg (P := fun d => ∃ c, d = told (tabA c) ∧ Gd 6 1000 c) ?_ (by simp) fun d hd => st_low ?_
  · simp only [ev, evs, List.set, List.getD_cons_zero, List.getD_cons_succ, lift_s, bnd_r, bnd_b]
    refine ok_bnd (some_ok fS fT (by simp) (by simp)) fun c hc => ?_
    exact ok_ret ⟨c, rfl, gd_mem hc (by decide +kernel)⟩
  · obtain ⟨c, rfl, hc⟩ := hd
    refine st_asgE rfl (by simp) (st_low ?_)
    refine st_ret (P := fun d => ∃ ts r, d = schD ts r ∧ SchOk ts r) ?_ fun d hd => ⟨d, rfl, hd⟩
    simp only [ev, evs, List.set, List.getD_cons_zero, List.getD_cons_succ, lift_s, bnd_r, bnd_b]
    refine ok_bnd (some_ok fS fT (by simp) (by simp)) fun r hr => ?_
    refine ok_ret ⟨[tabA c, tabN], r, rfl, ?_⟩
    have tA : TabOk (tabA c) := ⟨by show (["a", "col", "num"] : List Str).Pairwise ltS; decide +kernel, by intro x hx; exact (List.all_eq_true (p := fun c : Str × D => nmB c.1)).mp (show csA.all (fun c : Str × D => nmB c.1) = true by decide +kernel) x hx, show csA.length ≤ 4 by decide, by intro x hx; exact Gd.dec ((List.all_eq_true (p := fun c : Str × D => gdB 1 60 c.2)).mp (show csA.all (fun c : Str × D => gdB 1 60 c.2) = true by decide +kernel) x hx), hc⟩
    have tN : TabOk tabN := ⟨by show (["a", "num"] : List Str).Pairwise ltS; decide +kernel, by intro x hx; exact (List.all_eq_true (p := fun c : Str × D => nmB c.1)).mp (by decide +kernel) x hx, by decide, by intro x hx; exact Gd.dec ((List.all_eq_true (p := fun c : Str × D => gdB 1 60 c.2)).mp (by decide +kernel) x hx), Gd.dec (by decide +kernel)⟩
    refine ⟨by show (["a", "num"] : List Str).Pairwise ltS; decide +kernel, fun t ht => ?_, by show ("zz" : Str) ∉ (["a", "num"] : List Str); decide +kernel, by simp, fun t ht => ?_, gd_mem hr (by decide +kernel)⟩
    · rcases List.mem_cons.mp ht with rfl | ht
      · show nmB "a" = true; decide +kernel
      · rcases List.mem_cons.mp ht with rfl | ht
        · decide +kernel
        · cases ht
    · rcases List.mem_cons.mp ht with rfl | ht
      · exact tA
      · rcases List.mem_cons.mp ht with rfl | ht
        · exact tN
        · cases ht
def tabM : List Str := ["a", "bird", "c1", "d", "e"]
theorem c14 : Ok (run F (k + 4) 14 [.int 4]) fun d => ∃ ts r, d = schD ts r ∧ SchOk ts r := by
  refine ok_run (p := p14) rfl rfl ?_
  show Ok (exs (run F (k + 3)) [none, some (.int 4), none, none, none, none, none, none, none, none, none] b14) _
  unfold b14
  refine st_asg (P := fun d => ∃ ss, d = .lst (stL ss) ∧ Pick tabM 1 4 ss) ?_ (by simp) fun d hd => st_low ?_
  · simp only [ev, evs, evo, bnd_r, bnd_b, List.getD_cons_zero, List.getD_cons_succ, lift_s]
    refine ok_bnd (names_ok (ss := tabM) fM fT (by decide)) ?_
    rintro _ ⟨us, rfl, hp⟩
    refine ok_bnd (take_ok fT (by decide) (by decide)) ?_
    rintro _ ⟨m, rfl, m0, m1⟩
    obtain ⟨h1, h2, h3⟩ := take_sorted hp (by decide +kernel) (1 + m).toNat
    have m2 : 0 ≤ 1 + m := by omega
    simp only [binD, intOf_i, bnd_r, slc_strs us m2, lift_s, sort_strs']
    have e : tabM.length = 5 := rfl
    exact ok_ret ⟨_, rfl, h1, h2, by omega, by omega⟩
  · obtain ⟨ss, rfl, pw, hm, hlo, hl⟩ := hd
    have nb : ∀ s ∈ ss, nmB s = true := fun s hs => nm_mem (hm s hs) (by decide +kernel)
    refine st_asgE (d := .lst (rows (tps []))) rfl (by simp) (st_low ?_)
    refine ok_forM (zs := ss) (e := D.str) (xs := stL ss) rfl (by simp [evi, ev]) (fun dn ρ => ∃ us b4 b6 b7 b9 b10, ρ = [none, some (.int 4), some (.lst (stL ss)), some (.lst (rows (tps us))), b4, none, b6, b7, none, b9, b10] ∧ us.map (·.nm) = dn ∧ ∀ t ∈ us, TabOk t) ⟨[], _, _, _, _, _, rfl, rfl, by simp⟩ ?_ ?_
    · rintro dn n q ρ edn ⟨us, b4, b6, b7, b9, b10, rfl, hus, hok⟩
      have hn : n ∈ ss := by rw [edn]; simp
      refine ⟨_, rfl, ?_⟩
      refine st_asgE (d := .lst (rows [])) rfl (by simp) (st_low ?_)
      refine ok_forD (e := D.str) (C := Pick colsM 0 4) ?_ (fun zs dn ρ => ∃ cs b7 b9 b10, ρ = [none, some (.int 4), some (.lst (stL ss)), some (.lst (rows (tps us))), some (.str n), none, some (.lst (rows cs)), b7, none, b9, b10] ∧ cs.map (·.1) = dn ∧ ∀ c ∈ cs, Gd 1 60 c.2) (fun zs _ => ⟨[], _, _, _, rfl, rfl, by simp⟩) ?_ ?_
      · simp only [evi, ev, evs, evo, bnd_r, bnd_b, List.getD_cons_zero, List.getD_cons_succ, lift_s]
        refine ok_bnd (names_ok (ss := colsM) fM fT (by decide)) ?_
        rintro _ ⟨us, rfl, hp⟩
        refine ok_bnd (some_ok fS fT (by simp) (by simp)) fun d hd => ?_
        obtain ⟨m, rfl, m0⟩ : ∃ m : Int, d = .int m ∧ 0 ≤ m := by
          simp only [List.mem_cons, List.not_mem_nil, or_false] at hd
          rcases hd with rfl | rfl | rfl | rfl | rfl <;> exact ⟨_, rfl, by decide⟩
        obtain ⟨h1, h2, h3⟩ := take_sorted hp (by decide +kernel) m.toNat
        simp only [intOf_i, bnd_r, slc_strs us m0, lift_s, sort_strs', itemsOf_l]
        have e : colsM.length = 4 := rfl
        exact ok_ret ⟨_, rfl, h1, h2, by omega, by omega⟩
      · rintro zs ⟨zpw, zm, _, zl⟩ dn c q2 ρ ez ⟨cs, b7, b9, b10, rfl, hcs, hg⟩
        refine ⟨_, rfl, ?_⟩
        refine st_asg (P := fun d => ∃ s ∈ ss, d = .str s) ?_ (by simp) fun d hd => ?_
        · simp only [ev, evs, List.set, List.getD_cons_zero, List.getD_cons_succ, lift_s, bnd_r, bnd_b]
          exact (some_ok fS fT (by rw [len_strs]; omega) (by rw [len_strs]; omega)).mono fun d hd => mem_strs hd
        obtain ⟨oth, hoth, rfl⟩ := hd
        have go : Gd 0 12 (.str oth) := Gd.nm (nb oth hoth)
        refine st_asg (P := fun d => ∃ xs, d = .lst xs ∧ xs.length = 5 ∧ ∀ x ∈ xs, Gd 1 60 x) ?_ (by simp) fun d hd => st_low ?_
        · simp only [ev, evs, List.set, List.getD_cons_zero, List.getD_cons_succ, lift_s, bnd_r, bnd_b]
          refine ok_bnd (some_ok fS fT (by simp) (by simp)) fun i hi => ?_
          have gi : Gd 0 40 i := gd_mem hi (by decide +kernel)
          refine ok_ret ⟨_, rfl, rfl, fun x hx => ?_⟩
          simp only [List.mem_cons, List.not_mem_nil, or_false] at hx
          rcases hx with rfl | rfl | rfl | rfl | rfl
          · exact Gd.dec (by decide +kernel)
          · exact Gd.dec (by decide +kernel)
          · exact (Gd.two (n := 0) (Gd.nm (by decide)) gi).mono (by decide) (by decide)
          · exact (Gd.two (n := 0) (Gd.nm (by decide)) go).mono (by decide) (by decide)
          · exact (Gd.two (n := 0) (Gd.nm (by decide)) go).mono (by decide) (by decide)
        obtain ⟨xs, rfl, xl, xg⟩ := hd
        have cl : (rows cs).length < line := by
          have h1 : cs.length = dn.length := by rw [← hcs, List.length_map]
          have h2 := congrArg List.length ez
          simp only [List.length_append, List.length_cons] at h2
          rw [len_rows]
          unfold line
          omega
        refine st_app (P := fun d => ∃ d2, d = .tup [.str c, d2] ∧ Gd 1 60 d2) ?_ rfl cl fun d hd => ?_
        · simp only [ev, evs, List.set, List.getD_cons_zero, List.getD_cons_succ, lift_s, bnd_r, bnd_b]
          refine ok_bnd (some_ok fS fT (by omega) (by omega)) fun d hd => ?_
          exact ok_ret ⟨d, rfl, xg d hd⟩
        · obtain ⟨d2, rfl, hd2⟩ := hd
          refine ok_nil ⟨_, .inl rfl, cs ++ [(c, d2)], some (.str c), some (.str oth), some (.lst xs), ?_, by simp [hcs], ?_⟩
          · rw [rows_add]; rfl
          · intro x hx
            rcases List.mem_append.mp hx with hx | hx
            · exact hg x hx
            · rcases List.mem_singleton.mp hx with rfl
              exact hd2
      · rintro zs ⟨zpw, zm, _, zl⟩ ρ' ⟨cs, b7, b9, b10, rfl, hcs, hg⟩
        refine st_low ?_
        have cl : cs.length ≤ 4 := by rw [← List.length_map (f := fun c : Str × D => c.1), hcs]; exact zl
        have cn : ∀ c ∈ cs, nmB c.1 = true := fun c hc => nm_mem (zm c.1 (by rw [← hcs]; exact List.mem_map.mpr ⟨c, hc, rfl⟩)) (by decide +kernel)
        have ul : (rows (tps us)).length < line := by
          have h1 : us.length = dn.length := by rw [← hus, List.length_map]
          have h2 := congrArg List.length edn
          simp only [List.length_append, List.length_cons] at h2
          rw [len_rows, tps, List.length_map]
          unfold line
          omega
        refine st_app (P := fun d => ∃ chk, d = .tup [.str n, told ⟨n, cs, chk⟩] ∧ Gd 6 1000 chk) ?_ rfl ul fun d hd => ?_
        · simp only [ev, evs, List.set, List.getD_cons_zero, List.getD_cons_succ, lift_s, bnd_r, bnd_b, biM, biD]
          refine ok_bnd (c15 cn cl hg) fun d hd => ?_
          exact ok_ret ⟨d, rfl, hd⟩
        · obtain ⟨chk, rfl, hchk⟩ := hd
          have tok : TabOk ⟨n, cs, chk⟩ := ⟨by show (cs.map (·.1)).Pairwise ltS; rw [hcs]; exact zpw, cn, cl, hg, hchk⟩
          refine ok_nil ⟨_, .inl rfl, us ++ [⟨n, cs, chk⟩], some (.str n), some (.lst (rows cs)), b7, b9, b10, ?_, by simp [hus], ?_⟩
          · rw [rows_add]
            have e : tps us ++ [(n, told ⟨n, cs, chk⟩)] = tps (us ++ [⟨n, cs, chk⟩]) := by simp [tps, tp]
            rw [e]; rfl
          · intro x hx
            rcases List.mem_append.mp hx with hx | hx
            · exact hok x hx
            · rcases List.mem_singleton.mp hx with rfl
              exact tok
    · rintro ρ' ⟨us, b4, b6, b7, b9, b10, rfl, hus, hok⟩
      have ul : us.length ≤ 4 := by rw [← List.length_map (f := fun t : Tab => t.nm), hus]; exact hl
      refine st_asgE (d := .lst (([] : List (List Str)).map fun r => .tup (stL r))) rfl (by simp) (st_low ?_)
      refine ok_forM (zs := ss.dropLast.zipIdx 0) (e := fun p => .tup [.int (p.2 : Nat), .str p.1]) (xs := enumD 0 (stL ss.dropLast)) (enum_strs _ 0) (by simp [evi, ev, evo, slc_last]) (fun dn ρ => ∃ rs b4 b8, ρ = [none, some (.int 4), some (.lst (stL ss)), some (.lst (rows (tps us))), b4, some (.lst ((rs : List (List Str)).map fun r => .tup (stL r))), b6, b7, b8, b9, b10] ∧ rs.length ≤ dn.length ∧ ∀ r ∈ rs, r.length = 3 ∧ ∀ s ∈ r, nmB s = true) ⟨[], _, _, rfl, by simp, by simp⟩ ?_ ?_
      · rintro dn ⟨s, i⟩ q ρ edn ⟨rs, b4, b8, rfl, rl, rg⟩
        refine ⟨_, rfl, ?_⟩
        have hz : (s, i) ∈ ss.dropLast.zipIdx 0 := by rw [edn]; simp
        have hi := List.mem_zipIdx hz
        simp at hi
        obtain ⟨hi, hs⟩ := hi
        have hs2 : s ∈ ss := by rw [hs]; exact List.getElem_mem _
        have hi2 : i + 1 < ss.length := by omega
        have rl2 : (rs.map fun r => D.tup (stL r)).length < line := by
          have h2 := congrArg List.length edn
          simp at h2
          rw [List.length_map]
          unfold line
          omega
        refine st_if (P := fun _ => True) (R := fun ρ => ∃ rs2 : List (List Str), ρ = [none, some (.int 4), some (.lst (stL ss)), some (.lst (rows (tps us))), some (.str s), some (.lst (rs2.map fun r => .tup (stL r))), b6, b7, some (.int i), b9, b10] ∧ rs2.length ≤ dn.length + 1 ∧ ∀ r ∈ rs2, r.length = 3 ∧ ∀ s ∈ r, nmB s = true) ?_ ?_ ?_
        · simp only [ev, evs, bnd_r, bnd_b]
          refine ok_bnd (take_ok fT (by decide) (by decide)) ?_
          rintro _ ⟨i, rfl, _, _⟩
          simp only [bnd_r, eq_int, lift_s]
          exact ok_ret ⟨_, rfl, trivial⟩
        · intro t _
          cases t with
          | false => exact ok_nil ⟨_, rfl, rs, rfl, by omega, rg⟩
          | true =>
            rw [if_pos rfl]
            refine st_app (P := fun d => ∃ r : List Str, d = .tup (stL r) ∧ r.length = 3 ∧ ∀ s ∈ r, nmB s = true) ?_ rfl rl2 fun d hd => ?_
            · simp only [ev, evs, List.set, List.getD_cons_zero, List.getD_cons_succ, lift_s, bnd_r, bnd_b, binD]
              refine ok_bnd (some_ok fS fT (by simp) (by simp)) fun d hd => ?_
              obtain ⟨w, hw, rfl⟩ := mem_strs (ss := ["apart", "same"]) hd
              obtain ⟨x, e, hx, _⟩ := atI_pos (xs := stL ss) (r := (i : Int) + 1) (by omega) (by rw [len_strs]; omega)
              obtain ⟨y, hy, rfl⟩ := mem_strs hx
              simp only [idxD, e, lift_s, bnd_r]
              refine ok_ret ⟨[w, s, y], rfl, rfl, fun z hz => ?_⟩
              simp only [List.mem_cons, List.not_mem_nil, or_false] at hz
              rcases hz with rfl | rfl | rfl
              · exact nm_mem hw (by decide +kernel)
              · exact nb _ hs2
              · exact nb _ hy
            · obtain ⟨r, rfl, r3, rn⟩ := hd
              refine ok_nil ⟨_, rfl, rs ++ [r], by simp, by simp; omega, fun x hx => ?_⟩
              rcases List.mem_append.mp hx with hx | hx
              · exact rg x hx
              · rcases List.mem_singleton.mp hx with rfl
                exact ⟨r3, rn⟩
        · rintro ρ' ⟨rs2, rfl, h1, h2⟩
          exact ok_nil ⟨_, .inl rfl, rs2, _, _, rfl, by simpa using h1, h2⟩
      · rintro ρ' ⟨rs, b4, b8, rfl, rl, rg⟩
        refine st_ret (P := fun d => ∃ ts r, d = schD ts r ∧ SchOk ts r) ?_ fun d hd => ⟨d, rfl, hd⟩
        obtain ⟨ys, esort, yp⟩ := sort_any (alike_srows (rs := rs) fun r hr e => by have := (rg r hr).1; rw [e] at this; cases this)
        simp only [ev, evs, List.getD_cons_zero, List.getD_cons_succ, lift_s, bnd_r, bnd_b, esort]
        simp only [biM, biD, lift_s, bnd_r]
        refine ok_ret ⟨us, .tup ys, rfl, ?_⟩
        have yl : ys.length ≤ 4 := by
          rw [yp.length_eq, List.length_map]
          refine Nat.le_trans rl ?_
          rw [List.length_zipIdx, List.length_dropLast]
          omega
        have gy : Gd 2 160 (.tup ys) := Gd.tup (n := 1) (w := 39) (k := 4) (fun y hy => by
          obtain ⟨r, hr, rfl⟩ := List.mem_map.mp (yp.mem_iff.mp hy)
          obtain ⟨r3, rn⟩ := rg r hr
          exact Gd.tup (n := 0) (w := 12) (k := 3) (fun z hz => by
            obtain ⟨s, hs, rfl⟩ := mem_strs hz
            exact Gd.nm (rn s hs)) (by rw [len_strs]; omega)) yl
        refine ⟨by rw [hus]; exact pw, fun t ht => nb _ (by rw [← hus]; exact List.mem_map.mpr ⟨t, ht, rfl⟩), ?_, ul, hok, gy.mono (by decide) (by decide)⟩
        rw [hus]
        exact fun h => absurd (hm _ h) (by decide +kernel)
end
end K05

set_option Elab.async false
set_option linter.all false
set_option maxRecDepth 100000
set_option maxHeartbeats 0
namespace K05
open PySem Dn L2
theorem st_skipD {Φ : Nat → List D → M D} {ρ : Rho} {c : Ex} {a r : Sts} {Q : Out → Prop} (h : Ok (ev Φ ρ c) fun d => d = .bl false) (k : Ok (exs Φ ρ r) Q) : Ok (exs Φ ρ (.cons (.ifs c a .nil) r)) Q := by
  refine ok_step (P := fun ρ' => ρ' = ρ) ?_ fun ρ' e => e ▸ k
  rw [ex]
  refine ok_bnd h ?_
  rintro _ rfl
  simp only [boolOf_b, bnd_r, Bool.false_eq_true, if_false, exs_nil]
  exact ok_ret ⟨_, rfl, rfl⟩
theorem ok_same {α : Type} {m : M α} {a : α} (h : m = ret a) : Ok m fun x => x = a := h ▸ ok_ret rfl
theorem gd_refs {ts : List Tab} {r : D} (h : SchOk ts r) (n : Str) : Gd 2 432 (.tup ((refs n ts).map prS)) := by
  have := Gd.tup (n := 1) (w := 26) (k := 16) (xs := (refs n ts).map prS) (fun x hx => ?_) ?_
  · exact this
  · obtain ⟨p, hp, rfl⟩ := List.mem_map.mp hx
    unfold refs refs1 at hp
    simp only [List.mem_flatMap, List.mem_map, List.mem_filter] at hp
    obtain ⟨t, ht, c, ⟨hc, _⟩, rfl⟩ := hp
    exact Gd.two (n := 0) (Gd.nm (h.nmb t ht)) (Gd.nm ((h.tab t ht).nms c hc))
  · rw [List.length_map]
    have a := refs_len (n := n) h.tab
    have b := h.len
    omega
theorem gd_names {ss : List Str} {m : Nat} (h : ∀ s ∈ ss, nmB s = true) (hl : ss.length ≤ m) : Gd 1 (m * 13) (.tup (stL ss)) :=
  Gd.tup (n := 0) (w := 12) (k := m) (fun x hx => by
    obtain ⟨s, hs, rfl⟩ := mem_strs hx
    exact Gd.nm (h s hs)) (by rw [len_strs]; exact hl)
theorem gd_placed {ts : List Tab} {r : D} (h : SchOk ts r) {n : Str} (hn : nmB n = true) {d : D} (hd : Gd 7 1306 d) : Gd 10 8000 (.tup [.tup (rows (placed (tps ts) n d)), r]) := by
  have g : Gd 9 6605 (.tup (rows (placed (tps ts) n d))) := Gd.tup (n := 8) (w := 1320) (k := 5) (fun x hx => by
    obtain ⟨p, hp, rfl⟩ := List.mem_map.mp hx
    have hp := (List.mergeSort_perm _ _).mem_iff.mp hp
    rcases List.mem_append.mp hp with hp | hp
    · have hp := (List.mem_filter.mp hp).1
      obtain ⟨t, ht, rfl⟩ := List.mem_map.mp hp
      exact (Gd.two (n := 7) (Gd.nm (h.nmb t ht)) (h.tab t ht).gd)
    · rcases List.mem_singleton.mp hp with rfl
      exact (Gd.two (n := 7) (Gd.nm hn) hd)) (by
    rw [len_rows]
    unfold placed
    rw [List.length_mergeSort, List.length_append]
    have a : (others (tps ts) n).length ≤ (tps ts).length := List.length_filter_le _ _
    have b : (tps ts).length = ts.length := List.length_map _
    have c := h.len
    simp; omega)
  exact (Gd.two (n := 9) g (h.rul.mono (by decide) (Nat.le_refl _))).mono (by decide) (by decide)
theorem gd_others {ts : List Tab} {r : D} (h : SchOk ts r) (n : Str) : Gd 10 8000 (.tup [.tup (rows (others (tps ts) n)), r]) := by
  have g : Gd 9 5284 (.tup (rows (others (tps ts) n))) := Gd.tup (n := 8) (w := 1320) (k := 4) (fun x hx => by
    obtain ⟨p, hp, rfl⟩ := List.mem_map.mp hx
    have hp := (List.mem_filter.mp hp).1
    obtain ⟨t, ht, rfl⟩ := List.mem_map.mp hp
    exact (Gd.two (n := 7) (Gd.nm (h.nmb t ht)) (h.tab t ht).gd)) (by
    rw [len_rows]
    have a : (others (tps ts) n).length ≤ (tps ts).length := List.length_filter_le _ _
    have b : (tps ts).length = ts.length := List.length_map _
    have c := h.len
    omega)
  exact (Gd.two (n := 9) g (h.rul.mono (by decide) (Nat.le_refl _))).mono (by decide) (by decide)
/-- the slots, from 3 to 6 told -/
def Lay (S K N : D) (ρ : Rho) : Prop := ∃ a2 a4 a7 a8 a9 a10 a11 a12 a13 a14, ρ = [none, none, a2, some S, a4, some K, some N, a7, a8, a9, a10, a11, a12, a13, a14]
def othM : List Str := ["aa", "c", "zz", "col"]
def askM : List Str := ["m", "n", "p", "q2", "zz", "a", "num"]
theorem noI {ts : List Tab} {r : D} (h : SchOk ts r) {n : Str} {d : D} (hd : Gd 7 1306 d) : ∀ p ∈ others (tps ts) n ++ [(n, d)], noIns p.2 = true := by
  intro p hp
  rcases List.mem_append.mp hp with hp | hp
  · have hp := (List.mem_filter.mp hp).1
    obtain ⟨t, ht, rfl⟩ := List.mem_map.mp hp
    exact (h.tab t ht).gd.noIns
  · rcases List.mem_singleton.mp hp with rfl
    exact hd.noIns
theorem body {a2 a3 a4 a5 a6 a7 a8 a9 a10 a11 a12 a13 a14 : Option D} {j : Int} : Ok (exs (run F 6) [none, none, some (.int j), a3, a4, a5, a6, a7, a8, a9, a10, a11, a12, a13, a14] (match lawB with | .cons (.for_ _ _ b) _ => b | _ => .nil)) fun o => ∃ ρ', (o = .nx ρ' ∨ o = .ct ρ') ∧ ∃ S K N, Lay S K N ρ' := by
  show Ok (exs (run F 6) _ (match lawB with | .cons (.for_ _ _ b) _ => b | _ => .nil)) _
  unfold lawB
  dsimp only
  refine st_asg (P := fun d => ∃ ts r, d = schD ts r ∧ SchOk ts r) ?_ (by simp) fun d hd => ?_
  · simp only [ev, evs, List.getD_cons_zero, List.getD_cons_succ, lift_s, bnd_r, bnd_b, cmpD, boolOf_b]
    exact ok_ite (fun _ => c14) fun _ => c20
  obtain ⟨ts, r, rfl, hs⟩ := hd
  have gS := hs.gd
  generalize hK : D.str (toP (schD ts r)).shown = K
  have hR : biM .repr (schD ts r) = some K := by rw [← hK]; exact gS.repr (by decide) (by decide)
  refine st_eq (ρ' := [none, none, some (.int j), some (schD ts r), a4, some K, some (.tup (stL (ts.map (·.nm)))), a7, a8, a9, a10, a11, a12, a13, a14]) ?_ ?_
  · simp only [ex, ev, evs, evi, evc, List.set, List.getD_cons_zero, List.getD_cons_succ, lift_s, bnd_r, bnd_b, hR]
    simp only [schD, idxD, at0, lift_s, bnd_r, itemsOf_t, if_true]
    rw [loop_rows (g := fun p => .str p.1) fun p _ => by simp [prD, wipeR, bindT, bindTs]]
    simp only [biM, biD, lift_s, bnd_r]
    have e : (tps ts).map (fun p => D.str p.1) = stL (ts.map (·.nm)) := by
      unfold tps stL
      rw [List.map_map, List.map_map]; rfl
    rw [e]
    rfl
  have gN : Gd 1 52 (.tup (stL (ts.map (·.nm)))) := gd_names (m := 4) (fun s h => by
    obtain ⟨t, ht, rfl⟩ := List.mem_map.mp h
    exact hs.nmb t ht) (by rw [List.length_map]; exact hs.len)
  refine st_skip ?_ ?_
  · simp only [ev, evs, List.getD_cons_zero, List.getD_cons_succ, lift_s, bnd_r, bnd_b, c1 hs, gN.alike fA (by decide) (by decide), boolOf_b]
    rfl
  generalize hNN : D.tup (stL (ts.map (·.nm))) = NN at *
  refine ok_forM (zs := ts) (e := fun t => prD (tp t)) (rows_tps ts) (by simp [evi, ev, schD, idxD, at0]) (fun dn ρ => Lay (schD ts r) K NN ρ) ⟨_, _, _, _, _, _, _, _, _, _, rfl⟩ ?_ ?_
  · rintro dn t q ρ edn ⟨a2, a4, a7, a8, a9, a10, a11, a12, a13, a14, rfl⟩
    have ht : t ∈ ts := by rw [edn]; simp
    have tok := hs.tab t ht
    have nmt := hs.nmb t ht
    have gc : Gd 1 52 (.tup (stL (t.cs.map (·.1)))) := gd_names (m := 4) (fun s h => by
      obtain ⟨c, hc, rfl⟩ := List.mem_map.mp h
      exact tok.nms c hc) (by rw [List.length_map]; exact tok.len)
    refine ⟨_, rfl, ?_⟩
    refine st_asgE (d := .tup (stL (t.cs.map (·.1)))) ?_ (by simp) (st_low ?_)
    · simp only [ev, evs, evi, evc, List.set, List.getD_cons_zero, List.getD_cons_succ, lift_s, bnd_r, bnd_b]
      simp only [tp, told, idxD, at0, lift_s, bnd_r, itemsOf_t, if_true]
      rw [loop_rows (g := fun p => .str p.1) fun p _ => by simp [prD, wipeR, bindT, bindTs]]
      simp only [biM, biD, lift_s, bnd_r]
      unfold stL
      rw [List.map_map]; rfl
    refine st_asg (P := fun d => d = .lst [told t, .tup (stL (t.cs.map (·.1))), .tup ((refs t.nm ts).map prS)]) ?_ (by simp) fun d hd => st_low ?_
    · simp only [ev, evs, tp, List.set, List.getD_cons_zero, List.getD_cons_succ, lift_s, bnd_r, bnd_b, c2 hs ht, c3 hs ht]
      refine ok_bnd (c7 hs nmt) ?_
      rintro _ rfl
      exact ok_ret rfl
    subst hd
    refine st_skipD ?_ ?_
    · simp only [ev, evs, tp, List.set, List.getD_cons_zero, List.getD_cons_succ, lift_s, bnd_r, bnd_b]
      refine ok_bnd (c21 hs nmt) ?_
      rintro _ rfl
      have g := Gd.lst3 (n := 7) tok.gd (gc.mono (n' := 7) (by decide) (Nat.le_refl _)) ((gd_refs hs t.nm).mono (n' := 7) (by decide) (Nat.le_refl _))
      simp only [bnd_r, tp, g.alike fA (by decide) (by decide), boolOf_b]
      exact ok_ret rfl
    refine ok_forM (zs := t.cs.zipIdx 0) (e := fun p => .tup [.int (p.2 : Nat), prD p.1]) (xs := enumD 0 (rows t.cs)) (enum_rows _ 0) (by simp [evi, ev, tp, told, idxD, at0]) (fun dn ρ => ∃ a9 a10 a12 a13, ρ = [none, none, a2, some (schD ts r), some (.str t.nm), some K, some NN, some (told t), some (.tup (stL (t.cs.map (·.1)))), a9, a10, a11, a12, a13, a14]) ⟨_, _, _, _, rfl⟩ ?_ ?_
    · rintro dn ⟨c, i⟩ q ρ ec ⟨a9, a10, a12, a13, rfl⟩
      refine ⟨_, rfl, ?_⟩
      have hm := List.mem_zipIdx (show (c, i) ∈ t.cs.zipIdx 0 by rw [ec]; simp)
      simp at hm
      obtain ⟨hi, hc⟩ := hm
      have hc2 : c ∈ t.cs := by rw [hc]; exact List.getElem_mem _
      have sp : t.cs = t.cs.take i ++ c :: t.cs.drop (i + 1) := by
        rw [hc]; simp
      have il : (t.cs.take i).length = i := by rw [List.length_take]; omega
      have c6' := c6 (k := 3) hs ht sp
      rw [il] at c6'
      refine st_skip ?_ (ok_nil ⟨_, .inl rfl, _, _, _, _, rfl⟩)
      have g := Gd.lst2 (n := 1) (tok.srt c hc2) (Gd.int (i := (i : Int)) (by have := tok.len; omega))
      simp only [ev, evs, tp, List.set, List.getD_cons_zero, List.getD_cons_succ, lift_s, bnd_r, bnd_b, prD]
      simp only [c5 hs ht hc2, bnd_r, show run F 6 6 [schD ts r, .str t.nm, .str c.1] = _ from c6', g.alike fA (by decide) (by decide), boolOf_b]
      rfl
    · rintro ρ' ⟨a9, a10, a12, a13, rfl⟩
      refine ok_forM (zs := askM) (e := D.str) (xs := stL askM) rfl (by simp [evi, ev, evs]; rfl) (fun dn ρ => ∃ a9 a10, ρ = [none, none, a2, some (schD ts r), some (.str t.nm), some K, some NN, some (told t), some (.tup (stL (t.cs.map (·.1)))), a9, a10, a11, a12, a13, a14]) ⟨_, _, rfl⟩ ?_ ?_
      · rintro dn c q ρ ec ⟨a9, a10, rfl⟩
        refine ⟨_, rfl, ?_⟩
        refine st_asgE (d := .lst [.bl (decide (c ∈ t.cs.map (·.1))), .bl false]) ?_ (by simp) (st_low ?_)
        · simp only [ev, evs, tp, List.set, List.getD_cons_zero, List.getD_cons_succ, lift_s, bnd_r, bnd_b, c4 hs ht, c4z hs]
        refine st_skip ?_ (ok_nil ⟨_, .inl rfl, _, _, rfl⟩)
        have g := Gd.lst2 (n := 0) (Gd.bl (b := decide (c ∈ t.cs.map (·.1)))) (Gd.bl (b := false))
        simp only [ev, evs, tp, List.set, List.getD_cons_zero, List.getD_cons_succ, lift_s, bnd_r, bnd_b, in_strs', g.alike fA (by decide) (by decide), boolOf_b]
        rfl
      · rintro ρ' ⟨a9, a10, rfl⟩
        refine st_asgE (d := .tup (rows (others (tps ts) t.nm))) ?_ (by simp) (st_low ?_)
        · simp only [ev, evs, evi, evc, List.set, List.getD_cons_zero, List.getD_cons_succ, lift_s, bnd_r, bnd_b]
          simp only [schD, idxD, at0, lift_s, bnd_r, itemsOf_t]
          rw [loop_others (n := t.nm) fun p _ => by simp [prD, wipeR, bindT, bindTs, idxD, at0, ne_str, ret_ite]]
          simp only [biM, biD, lift_s, bnd_r]
        refine st_skip ?_ (ok_nil ⟨_, .inl rfl, _, _, _, _, _, _, _, _, _, _, rfl⟩)
        have e1 : idxD (schD ts r) (.int 1) = some r := by simp [schD, idxD, at1]
        simp only [ev, evs, tp, List.set, List.getD_cons_zero, List.getD_cons_succ, lift_s, bnd_r, bnd_b, c9 hs, e1, (gd_others hs t.nm).alike fA (by decide) (by decide), boolOf_b]
        rfl
  · rintro ρ' ⟨a2, a4, a7, a8, a9, a10, a11, a12, a13, a14, rfl⟩
    refine ok_forM (zs := ts.map (fun t : Tab => t.nm) ++ othM) (e := D.str) (xs := stL (ts.map (fun t : Tab => t.nm) ++ othM)) rfl ?_ (fun dn ρ => Lay (schD ts r) K NN ρ) ⟨_, _, _, _, _, _, _, _, _, _, rfl⟩ ?_ ?_
    · have hl : (stL (ts.map (·.nm))).length + (stL othM).length ≤ line := by
        rw [len_strs, List.length_map]
        have := hs.len
        have e : (stL othM).length = 4 := rfl
        rw [e]; unfold line; omega
      simp only [evi, ev, evs, List.getD_cons_zero, List.getD_cons_succ, lift_s, bnd_r, bnd_b, ← hNN]
      have e2 : binD .add (.tup (stL (ts.map (·.nm)))) (.tup (stL othM)) = some (.tup (stL (ts.map (fun t : Tab => t.nm) ++ othM))) := by
        show (if _ then some (D.tup (stL (ts.map (fun t : Tab => t.nm)) ++ stL othM)) else none) = _
        rw [if_pos hl]
        unfold stL
        rw [List.map_append]
      rw [show binD .add (.tup (stL (ts.map (·.nm)))) (.tup [.str "aa", .str "c", .str "zz", .str "col"]) = _ from e2]
      rfl
    · rintro dn n q ρ en ⟨a2, a4, a7, a8, a9, a10, a11, a12, a13, a14, rfl⟩
      have hn : nmB n = true := by
        have : n ∈ ts.map (fun t : Tab => t.nm) ++ othM := by rw [en]; simp
        rcases List.mem_append.mp this with h | h
        · obtain ⟨t, ht, rfl⟩ := List.mem_map.mp h
          exact hs.nmb t ht
        · exact nm_mem h (by decide +kernel)
      refine ⟨_, rfl, ?_⟩
      refine st_asg (P := Gd 7 1306) (by simp only [ev, evs, bnd_r]; exact c19) (by simp) fun d hd => ?_
      refine st_asgE (d := .lst (rows (others (tps ts) n ++ [(n, d)]))) ?_ (by simp) (st_low ?_)
      · simp only [ev, evs, evi, evc, List.set, List.getD_cons_zero, List.getD_cons_succ, lift_s, bnd_r, bnd_b]
        simp only [schD, idxD, at0, lift_s, bnd_r, itemsOf_t]
        rw [loop_others (n := n) fun p _ => by simp [prD, wipeR, bindT, bindTs, idxD, at0, ne_str, ret_ite]]
        have hl : (rows (others (tps ts) n)).length + [D.tup [D.str n, d]].length ≤ line := by
          rw [len_rows]
          have a : (others (tps ts) n).length ≤ (tps ts).length := List.length_filter_le _ _
          have b : (tps ts).length = ts.length := List.length_map _
          have c := hs.len
          simp [line]; omega
        simp only [bnd_r, binD, if_pos hl, lift_s, rows_add]
      refine st_skip ?_ (ok_nil ⟨_, .inl rfl, _, _, _, _, _, _, _, _, _, _, rfl⟩)
      have e1 : idxD (schD ts r) (.int 1) = some r := by simp [schD, idxD, at1]
      have sr := sort_rows (noI hs (n := n) hd) (others_nodup hs.nd n d)
      simp only [ev, evs, tp, List.set, List.getD_cons_zero, List.getD_cons_succ, lift_s, bnd_r, bnd_b, c8 hs, e1, sr]
      have g := (gd_placed hs hn hd).alike (k := 5) fA (by decide) (by decide)
      simp only [biM, biD, lift_s, bnd_r]
      rw [show run F 6 13 [D.tup [D.tup (rows (placed (tps ts) n d)), r], D.tup [D.tup (rows ((others (tps ts) n ++ [(n, d)]).mergeSort le1)), r]] = ret (.bl true) from g]
      simp only [boolOf_b, bnd_r]
      rfl
    · rintro ρ' ⟨a2, a4, a7, a8, a9, a10, a11, a12, a13, a14, rfl⟩
      refine st_skip ?_ (ok_nil ⟨_, .inl rfl, _, _, _, _, _, _, _, _, _, _, _, _, _, rfl⟩)
      simp only [ev, List.getD_cons_zero, List.getD_cons_succ, lift_s, bnd_r, bnd_b, hR, ← hK, ne_str]
      simp
theorem plain (ns : List Int) (h : ns.length ≤ 63) : ∃ b, exs (run (Ft es) 6) (List.replicate lawN.length none) lawB (bag0 ns) = some (.rt (.bl true), b) := by
  have key : Ok (exs (run F 6) [none, none, none, none, none, none, none, none, none, none, none, none, none, none, none] lawB) fun o => o = .rt (.bl true) := by
    unfold lawB
    refine ok_for (xs := [.int 0, .int 1, .int 2, .int 3]) rfl (fun dn ρ => (∃ a, ρ = [none, none, a, none, none, none, none, none, none, none, none, none, none, none, none]) ∨ ∃ S K N, Lay S K N ρ) (.inl ⟨_, rfl⟩) ?_ ?_
    · intro dn x r ρ e i
      have hx : x ∈ [D.int 0, .int 1, .int 2, .int 3] := by rw [e]; simp
      obtain ⟨j, rfl⟩ : ∃ j, x = .int j := by
        simp only [List.mem_cons, List.not_mem_nil, or_false] at hx
        rcases hx with rfl | rfl | rfl | rfl <;> exact ⟨_, rfl⟩
      rcases i with ⟨a, rfl⟩ | ⟨S, K, N, a2, a4, a7, a8, a9, a10, a11, a12, a13, a14, rfl⟩
      · exact ⟨_, rfl, (body (a2 := none)).mono fun o ⟨ρ', h1, h2⟩ => ⟨ρ', h1, .inr h2⟩⟩
      · exact ⟨_, rfl, (body (a2 := none)).mono fun o ⟨ρ', h1, h2⟩ => ⟨ρ', h1, .inr h2⟩⟩
    · intro ρ' _
      refine st_ret (P := fun d => d = .bl true) (by simp only [ev]; exact ok_ret rfl) ?_
      rintro _ rfl
      rfl
  obtain ⟨o, b, e, rfl⟩ := key (bag0 ns)
  exact ⟨b, e⟩
end K05

set_option Elab.async false
set_option linter.all false
set_option maxRecDepth 100000
set_option maxHeartbeats 0
namespace K05
open PySem PySem.Spec PyProof.Rows L2 Dn
def fn : List He.DefD := defsIn Rw.prog.main.body
def freeS : List String := ["len", "tuple", "list", "dict", "sorted", "abs", "int", "str", "repr", "all", "any", "sum", "isinstance", "range", "enumerate", "zip", "bool"]
def fa : List He.Fa := (fn.map fun d => He.Fa.glo d.name) ++ freeS.map fun x => He.Fa.free (Str.ofString x)
abbrev R : PySem.W.OpenRow := PySem.W.OpenLaw.row Rw
abbrev hk : PySem.W.Hook := hookS 4 fa fn
def ob (s : PySem.W.SharedT) : AlS := obsSG 4 fa fn (HandSHeadRun.getT s)
theorem ob_eq (s : PySem.W.SharedT) : ob s = hk.obs s.abs := obsSG_eq (HandSHeadRun.getT_eq s)
def loose : List Str := (fn.map fun d => d.name).dropLast
theorem headRun (w : World) : HandSHeadRun.RunEq R (PySem.W.view R.prog [26]) hk ob 2000 loose w := by
  intro os
  kernel_rfl
theorem cks : (es.all fun e => ckDef es e) = true := by decide +kernel
theorem lawck : lawOk es lawD lawN "_law_bag" lawB = true := by decide +kernel
theorem bagck : bagB bagD "_law_script" "_law_cell" = true := by decide +kernel
theorem inFn : (es.all fun e => (fn.map fun d => d.name).contains e.d.name) = true := by decide +kernel
theorem bd0 : ∀ (kV doc pm : Value) (an : Option Addr) (cdv ct : Value) (us : List Value), us.length = (pars e0).length → bindArgs (PySem.W.fnOf e0.d.name e0.d.qual e0.d.params e0.d.body e0.d.scope .none kV doc pm an cdv ct) ⟨us, []⟩ = pure ((pars e0).zip us) := by
  intro kV doc pm an cdv ct us hl
  have hl : us.length = 2 := hl
  match us, hl with
  | [_, _], _ => kernel_rfl
theorem bd1 : ∀ (kV doc pm : Value) (an : Option Addr) (cdv ct : Value) (us : List Value), us.length = (pars e1).length → bindArgs (PySem.W.fnOf e1.d.name e1.d.qual e1.d.params e1.d.body e1.d.scope .none kV doc pm an cdv ct) ⟨us, []⟩ = pure ((pars e1).zip us) := by
  intro kV doc pm an cdv ct us hl
  have hl : us.length = 1 := hl
  match us, hl with
  | [_], _ => kernel_rfl
theorem bd2 : ∀ (kV doc pm : Value) (an : Option Addr) (cdv ct : Value) (us : List Value), us.length = (pars e2).length → bindArgs (PySem.W.fnOf e2.d.name e2.d.qual e2.d.params e2.d.body e2.d.scope .none kV doc pm an cdv ct) ⟨us, []⟩ = pure ((pars e2).zip us) := by
  intro kV doc pm an cdv ct us hl
  have hl : us.length = 2 := hl
  match us, hl with
  | [_, _], _ => kernel_rfl
theorem bd3 : ∀ (kV doc pm : Value) (an : Option Addr) (cdv ct : Value) (us : List Value), us.length = (pars e3).length → bindArgs (PySem.W.fnOf e3.d.name e3.d.qual e3.d.params e3.d.body e3.d.scope .none kV doc pm an cdv ct) ⟨us, []⟩ = pure ((pars e3).zip us) := by
  intro kV doc pm an cdv ct us hl
  have hl : us.length = 2 := hl
  match us, hl with
  | [_, _], _ => kernel_rfl
theorem bd4 : ∀ (kV doc pm : Value) (an : Option Addr) (cdv ct : Value) (us : List Value), us.length = (pars e4).length → bindArgs (PySem.W.fnOf e4.d.name e4.d.qual e4.d.params e4.d.body e4.d.scope .none kV doc pm an cdv ct) ⟨us, []⟩ = pure ((pars e4).zip us) := by
  intro kV doc pm an cdv ct us hl
  have hl : us.length = 3 := hl
  match us, hl with
  | [_, _, _], _ => kernel_rfl
theorem bd5 : ∀ (kV doc pm : Value) (an : Option Addr) (cdv ct : Value) (us : List Value), us.length = (pars e5).length → bindArgs (PySem.W.fnOf e5.d.name e5.d.qual e5.d.params e5.d.body e5.d.scope .none kV doc pm an cdv ct) ⟨us, []⟩ = pure ((pars e5).zip us) := by
  intro kV doc pm an cdv ct us hl
  have hl : us.length = 3 := hl
  match us, hl with
  | [_, _, _], _ => kernel_rfl
theorem bd6 : ∀ (kV doc pm : Value) (an : Option Addr) (cdv ct : Value) (us : List Value), us.length = (pars e6).length → bindArgs (PySem.W.fnOf e6.d.name e6.d.qual e6.d.params e6.d.body e6.d.scope .none kV doc pm an cdv ct) ⟨us, []⟩ = pure ((pars e6).zip us) := by
  intro kV doc pm an cdv ct us hl
  have hl : us.length = 3 := hl
  match us, hl with
  | [_, _, _], _ => kernel_rfl
theorem bd7 : ∀ (kV doc pm : Value) (an : Option Addr) (cdv ct : Value) (us : List Value), us.length = (pars e7).length → bindArgs (PySem.W.fnOf e7.d.name e7.d.qual e7.d.params e7.d.body e7.d.scope .none kV doc pm an cdv ct) ⟨us, []⟩ = pure ((pars e7).zip us) := by
  intro kV doc pm an cdv ct us hl
  have hl : us.length = 2 := hl
  match us, hl with
  | [_, _], _ => kernel_rfl
theorem bd8 : ∀ (kV doc pm : Value) (an : Option Addr) (cdv ct : Value) (us : List Value), us.length = (pars e8).length → bindArgs (PySem.W.fnOf e8.d.name e8.d.qual e8.d.params e8.d.body e8.d.scope .none kV doc pm an cdv ct) ⟨us, []⟩ = pure ((pars e8).zip us) := by
  intro kV doc pm an cdv ct us hl
  have hl : us.length = 3 := hl
  match us, hl with
  | [_, _, _], _ => kernel_rfl
theorem bd9 : ∀ (kV doc pm : Value) (an : Option Addr) (cdv ct : Value) (us : List Value), us.length = (pars e9).length → bindArgs (PySem.W.fnOf e9.d.name e9.d.qual e9.d.params e9.d.body e9.d.scope .none kV doc pm an cdv ct) ⟨us, []⟩ = pure ((pars e9).zip us) := by
  intro kV doc pm an cdv ct us hl
  have hl : us.length = 2 := hl
  match us, hl with
  | [_, _], _ => kernel_rfl
theorem bd10 : ∀ (kV doc pm : Value) (an : Option Addr) (cdv ct : Value) (us : List Value), us.length = (pars e10).length → bindArgs (PySem.W.fnOf e10.d.name e10.d.qual e10.d.params e10.d.body e10.d.scope .none kV doc pm an cdv ct) ⟨us, []⟩ = pure ((pars e10).zip us) := by
  intro kV doc pm an cdv ct us hl
  have hl : us.length = 2 := hl
  match us, hl with
  | [_, _], _ => kernel_rfl
theorem bd11 : ∀ (kV doc pm : Value) (an : Option Addr) (cdv ct : Value) (us : List Value), us.length = (pars e11).length → bindArgs (PySem.W.fnOf e11.d.name e11.d.qual e11.d.params e11.d.body e11.d.scope .none kV doc pm an cdv ct) ⟨us, []⟩ = pure ((pars e11).zip us) := by
  intro kV doc pm an cdv ct us hl
  have hl : us.length = 2 := hl
  match us, hl with
  | [_, _], _ => kernel_rfl
theorem bd12 : ∀ (kV doc pm : Value) (an : Option Addr) (cdv ct : Value) (us : List Value), us.length = (pars e12).length → bindArgs (PySem.W.fnOf e12.d.name e12.d.qual e12.d.params e12.d.body e12.d.scope .none kV doc pm an cdv ct) ⟨us, []⟩ = pure ((pars e12).zip us) := by
  intro kV doc pm an cdv ct us hl
  have hl : us.length = 2 := hl
  match us, hl with
  | [_, _], _ => kernel_rfl
theorem bd13 : ∀ (kV doc pm : Value) (an : Option Addr) (cdv ct : Value) (us : List Value), us.length = (pars e13).length → bindArgs (PySem.W.fnOf e13.d.name e13.d.qual e13.d.params e13.d.body e13.d.scope .none kV doc pm an cdv ct) ⟨us, []⟩ = pure ((pars e13).zip us) := by
  intro kV doc pm an cdv ct us hl
  have hl : us.length = 2 := hl
  match us, hl with
  | [_, _], _ => kernel_rfl
theorem bd14 : ∀ (kV doc pm : Value) (an : Option Addr) (cdv ct : Value) (us : List Value), us.length = (pars e14).length → bindArgs (PySem.W.fnOf e14.d.name e14.d.qual e14.d.params e14.d.body e14.d.scope .none kV doc pm an cdv ct) ⟨us, []⟩ = pure ((pars e14).zip us) := by
  intro kV doc pm an cdv ct us hl
  have hl : us.length = 2 := hl
  match us, hl with
  | [_, _], _ => kernel_rfl
theorem bd15 : ∀ (kV doc pm : Value) (an : Option Addr) (cdv ct : Value) (us : List Value), us.length = (pars e15).length → bindArgs (PySem.W.fnOf e15.d.name e15.d.qual e15.d.params e15.d.body e15.d.scope .none kV doc pm an cdv ct) ⟨us, []⟩ = pure ((pars e15).zip us) := by
  intro kV doc pm an cdv ct us hl
  have hl : us.length = 2 := hl
  match us, hl with
  | [_, _], _ => kernel_rfl
theorem bd16 : ∀ (kV doc pm : Value) (an : Option Addr) (cdv ct : Value) (us : List Value), us.length = (pars e16).length → bindArgs (PySem.W.fnOf e16.d.name e16.d.qual e16.d.params e16.d.body e16.d.scope .none kV doc pm an cdv ct) ⟨us, []⟩ = pure ((pars e16).zip us) := by
  intro kV doc pm an cdv ct us hl
  have hl : us.length = 1 := hl
  match us, hl with
  | [_], _ => kernel_rfl
theorem bd17 : ∀ (kV doc pm : Value) (an : Option Addr) (cdv ct : Value) (us : List Value), us.length = (pars e17).length → bindArgs (PySem.W.fnOf e17.d.name e17.d.qual e17.d.params e17.d.body e17.d.scope .none kV doc pm an cdv ct) ⟨us, []⟩ = pure ((pars e17).zip us) := by
  intro kV doc pm an cdv ct us hl
  have hl : us.length = 1 := hl
  match us, hl with
  | [_], _ => kernel_rfl
theorem bd18 : ∀ (kV doc pm : Value) (an : Option Addr) (cdv ct : Value) (us : List Value), us.length = (pars e18).length → bindArgs (PySem.W.fnOf e18.d.name e18.d.qual e18.d.params e18.d.body e18.d.scope .none kV doc pm an cdv ct) ⟨us, []⟩ = pure ((pars e18).zip us) := by
  intro kV doc pm an cdv ct us hl
  have hl : us.length = 1 := hl
  match us, hl with
  | [_], _ => kernel_rfl
theorem bd19 : ∀ (kV doc pm : Value) (an : Option Addr) (cdv ct : Value) (us : List Value), us.length = (pars e19).length → bindArgs (PySem.W.fnOf e19.d.name e19.d.qual e19.d.params e19.d.body e19.d.scope .none kV doc pm an cdv ct) ⟨us, []⟩ = pure ((pars e19).zip us) := by
  intro kV doc pm an cdv ct us hl
  have hl : us.length = 1 := hl
  match us, hl with
  | [_], _ => kernel_rfl
theorem bd20 : ∀ (kV doc pm : Value) (an : Option Addr) (cdv ct : Value) (us : List Value), us.length = (pars e20).length → bindArgs (PySem.W.fnOf e20.d.name e20.d.qual e20.d.params e20.d.body e20.d.scope .none kV doc pm an cdv ct) ⟨us, []⟩ = pure ((pars e20).zip us) := by
  intro kV doc pm an cdv ct us hl
  have hl : us.length = 1 := hl
  match us, hl with
  | [_], _ => kernel_rfl
theorem bd21 : ∀ (kV doc pm : Value) (an : Option Addr) (cdv ct : Value) (us : List Value), us.length = (pars e21).length → bindArgs (PySem.W.fnOf e21.d.name e21.d.qual e21.d.params e21.d.body e21.d.scope .none kV doc pm an cdv ct) ⟨us, []⟩ = pure ((pars e21).zip us) := by
  intro kV doc pm an cdv ct us hl
  have hl : us.length = 2 := hl
  match us, hl with
  | [_, _], _ => kernel_rfl
theorem bdBag : ∀ (kV doc pm : Value) (an : Option Addr) (cdv ct : Value) (us : List Value), us.length = ((["_law_script"] : List Str)).length → bindArgs (PySem.W.fnOf bagD.name bagD.qual bagD.params bagD.body bagD.scope .none kV doc pm an cdv ct) ⟨us, []⟩ = pure (((["_law_script"] : List Str)).zip us) := by
  intro kV doc pm an cdv ct us hl
  have hl : us.length = 1 := hl
  match us, hl with
  | [_], _ => kernel_rfl
theorem bdLaw : ∀ (kV doc pm : Value) (an : Option Addr) (cdv ct : Value) (us : List Value), us.length = (lawN.take 1).length → bindArgs (PySem.W.fnOf lawD.name lawD.qual lawD.params lawD.body lawD.scope .none kV doc pm an cdv ct) ⟨us, []⟩ = pure ((lawN.take 1).zip us) := by
  intro kV doc pm an cdv ct us hl
  have hl : us.length = 1 := hl
  match us, hl with
  | [_], _ => kernel_rfl
theorem faGlo : ∀ d ∈ fn, He.Fa.glo d.name ∈ fa := fun d hd => List.mem_append_left _ (List.mem_map.mpr ⟨d, hd, rfl⟩)
theorem faFree : ∀ x ∈ freeS, He.Fa.free (Str.ofString x) ∈ fa := fun x hx => List.mem_append_right _ (List.mem_map.mpr ⟨x, hx, rfl⟩)
theorem fnLen : fn.length = 24 := by decide +kernel
theorem dMem {i : Nat} (h : i < 24) : dAt i ∈ fn := getD_mem (by show i < fn.length; rw [fnLen]; exact h)
theorem modOk {K : PySem.W.Frag} {h : Heap} {mg : Str → Option Value} (KX : K.In h) (G : h.Ns mainGlobals mg) (c : SaysS fa fn K) : ModOk K mg es := by
  have D : ∀ {d : He.DefD}, d ∈ fn → ∃ fd, FunD K d.name d.qual d.params d.body d.scope [] [] (He.ga K d.name) fd ∧ mg d.name = some (.ref (He.ga K d.name)) := fun hd => says_def KX G c.d faGlo hd
  refine ⟨c.sys, fun x hx => He.free_ok KX G (says_all c.d _ (faFree x hx)), fun e he => ?_⟩
  have mk : ∀ (e : Ent), e.d ∈ fn → (∀ (kV doc pm : Value) (an : Option Addr) (cdv ct : Value) (us : List Value), us.length = (pars e).length → bindArgs (PySem.W.fnOf e.d.name e.d.qual e.d.params e.d.body e.d.scope .none kV doc pm an cdv ct) ⟨us, []⟩ = pure ((pars e).zip us)) → ∃ f fd, EntOk K mg e f fd := fun e hd b => by
    obtain ⟨fd, F, g⟩ := D hd
    exact ⟨_, fd, F, g, F.bindsN b⟩
  simp only [es, List.mem_cons, List.not_mem_nil, or_false] at he
  rcases he with rfl | rfl | rfl | rfl | rfl | rfl | rfl | rfl | rfl | rfl | rfl | rfl | rfl | rfl | rfl | rfl | rfl | rfl | rfl | rfl | rfl | rfl
  · exact mk e0 (dMem (i := 0) (by decide)) bd0
  · exact mk e1 (dMem (i := 1) (by decide)) bd1
  · exact mk e2 (dMem (i := 2) (by decide)) bd2
  · exact mk e3 (dMem (i := 3) (by decide)) bd3
  · exact mk e4 (dMem (i := 4) (by decide)) bd4
  · exact mk e5 (dMem (i := 5) (by decide)) bd5
  · exact mk e6 (dMem (i := 6) (by decide)) bd6
  · exact mk e7 (dMem (i := 7) (by decide)) bd7
  · exact mk e8 (dMem (i := 8) (by decide)) bd8
  · exact mk e9 (dMem (i := 9) (by decide)) bd9
  · exact mk e10 (dMem (i := 11) (by decide)) bd10
  · exact mk e11 (dMem (i := 12) (by decide)) bd11
  · exact mk e12 (dMem (i := 13) (by decide)) bd12
  · exact mk e13 (dMem (i := 14) (by decide)) bd13
  · exact mk e14 (dMem (i := 15) (by decide)) bd14
  · exact mk e15 (dMem (i := 16) (by decide)) bd15
  · exact mk e16 (dMem (i := 17) (by decide)) bd16
  · exact mk e17 (dMem (i := 18) (by decide)) bd17
  · exact mk e18 (dMem (i := 19) (by decide)) bd18
  · exact mk e19 (dMem (i := 20) (by decide)) bd19
  · exact mk e20 (dMem (i := 21) (by decide)) bd20
  · exact mk e21 (dMem (i := 22) (by decide)) bd21
theorem noTake : ∀ e ∈ es, e.m ≠ .take := by
  intro e he
  simp only [es, List.mem_cons, List.not_mem_nil, or_false] at he
  rcases he with rfl | rfl | rfl | rfl | rfl | rfl | rfl | rfl | rfl | rfl | rfl | rfl | rfl | rfl | rfl | rfl | rfl | rfl | rfl | rfl | rfl | rfl <;> exact fun z => by cases z
theorem lawGn {P : Program} {w : World} {K : PySem.W.Frag} {h : Heap} {mg : Str → Option Value} {f : Addr} (KX : K.In h) (G : h.Ns mainGlobals mg) (hf : mg lawD.name = some (.ref f)) (c : SaysS fa fn K) :
    ∃ fd : FuncData, (∀ (s : Shared) (u : Value), BindsTo s fd ⟨[u], []⟩ [(("_law_script" : Str), u)]) ∧ ∀ base : Heap, K.In base → base.Ns mainGlobals mg → Gn P w K mg base 7 f fd [("_law_script" : Str)] (wantLaw K es 6 lawN lawB) := by
  have M := modOk KX G c
  have hL : lawD ∈ fn := dMem (i := 23) (by decide)
  have hB : bagD ∈ fn := dMem (i := 10) (by decide)
  obtain ⟨fd, F, g⟩ := says_def KX G c.d faGlo hL
  obtain ⟨fdb, Fb, gb⟩ := says_def KX G c.d faGlo hB
  rw [g] at hf
  cases hf
  refine ⟨fd, fun s u => FunD.bindsA F bdLaw s [u] rfl, fun base _ _ => ?_⟩
  exact gn_law (P := P) (w := w) (base := base) M (List.all_eq_true.mp cks) F lawck noTake (gn_bag M Fb bagck 5) gb Fb.kp (Fb.bindsN bdBag)
end K05
open PySem PySem.W PySem.Calls PyProof.Rows
theorem PySem.Challenge.cw_everyversion_k05_schemas_looked_into_holds : PySem.Challenge.rw_everyversion_k05_schemas_looked_into.Holds := by
  w_on; o_law
  refine HandSHeadRun.head_any (r := OpenLaw.row PySem.Challenge.rw_everyversion_k05_schemas_looked_into) (q := view (OpenLaw.row PySem.Challenge.rw_everyversion_k05_schemas_looked_into).prog [26]) (H := K05.hk) (ob := K05.ob) (M := 2000) (loose := K05.loose)
    (d := HandSHeadRun.topDef (OpenLaw.row PySem.Challenge.rw_everyversion_k05_schemas_looked_into).prog 26) (kwd := []) K05.ob_eq
    (by kernel_rfl) (fun s => by kernel_rfl) K05.headRun (by kernel_rfl) (by kernel_rfl) (by kernel_rfl) (by rfl) (by first | assumption | decide +kernel) (by decide +kernel) ⟨rfl, rfl, rfl, rfl, rfl, by decide +kernel⟩ ?hw ?hc
  case hw => w_witness2
  case hc =>
    refine Dn.walkG (l := PySem.Challenge.rw_everyversion_k05_schemas_looked_into) (n := 63) (k := 7) (x := "_law_script") rfl (by decide) (by kernel_rfl) ⟨rfl, by decide, by decide⟩ ?F
    intro w mg fa h Y G hmg0
    obtain ⟨K, KX, c⟩ := Y
    have hmg : mg K05.lawD.name = some (.ref fa) := by
      have e : (HandSHeadRun.topDef (OpenLaw.row PySem.Challenge.rw_everyversion_k05_schemas_looked_into).prog 26).name = K05.lawD.name := by kernel_rfl
      rw [← e]
      exact hmg0
    obtain ⟨fd, hb, hF⟩ := K05.lawGn (P := (PySem.Challenge.rw_everyversion_k05_schemas_looked_into).prog) (w := w) KX G hmg c
    exact ⟨K, fd, _, KX, hb, fun H a ns hl _ hS => ⟨a, ns, rfl, hS, K05.plain ns hl, fun _ => rfl⟩, hF⟩
