import PyProof.Rows.All
import Wide.All
import OpenK.AllK
import Wide.FinOn
import HandS.ForMost
import KE.LtData
import PyProof.EqLayable
import HandS.List
import HandS.Base
import HandS.Call
import HandS.Comp
import HandS.Iter
import HandS.Words
import HandS.WordsList
import HandS.TupAny
import HandS.Style
import HandS.Deep
import HandS.Wide
import HandS.Text
import PyProof.Rows.InDataRows
import HandS.Dict
import HandS.IsInst
import HandS.Conv
import HandS.TupLen
import HandS.WordsDict
import KE.SortData
import KE.DataMinMax
import HandS.SetKeys
import HandS.Star
import PyProof.CollectIter
import HandS.ExcValue
import KE.GoesMore
import KE.GoesEnum
import HandS.Zip
import HandS.SetFor
import HandS.Strs
import PySem.Challenge.RW_meetrows_k48_classes_of_rows
section
set_option Elab.async false
set_option linter.all false
set_option maxRecDepth 100000
/-! The plain side: Python values as trees, a small language of expressions and statements, and what they compute. -/
namespace Mn
open PySem

/-- a Python value as a tree; `cell k` is the k-th mutable object -/
inductive D where
  | non
  | bl (b : Bool)
  | int (i : Int)
  | str (x : Str)
  | tup (xs : List D)
  | lst (xs : List D)
  /-- a dict: t false, its keys are ints and texts; t true, tuples of these -/
  | dic (t : Bool) (ks vs : List D)
  | set (xs : List D)
  /-- the law's script: a list of ints that nobody writes -/
  | scr (xs : List Int)
  | cell (k : Nat)
instance : Inhabited D := ⟨.non⟩

abbrev Env := List (Option D)
/-- the mutable objects: what stands in each, none for one that was frozen -/
abbrev Mu := List (Option D)

inductive R (α : Type) where
  | ok (a : α) (e : Env) (m : Mu)
  | exc (c : Nat) (vs : List D) (m : Mu)
  | stuck
abbrev M (α : Type) := Env → Mu → R α

@[reducible] def R.bind {α β : Type} (r : R α) (f : α → Env → Mu → R β) : R β :=
  match r with
  | .ok a e m => f a e m
  | .exc c vs m => .exc c vs m
  | .stuck => .stuck
@[reducible] def M.bind {α β : Type} (x : M α) (f : α → M β) : M β := fun e m => (x e m).bind f
@[reducible] def M.ret {α : Type} (a : α) : M α := fun e m => .ok a e m
@[reducible] def M.of {α : Type} (o : Option α) : M α := fun e m => match o with
  | some a => .ok a e m
  | none => .stuck

/-- the run ends well in P, or in an exception in E -/
def R.Ok {α : Type} (r : R α) (P : α → Env → Mu → Prop) (E : Nat → List D → Mu → Prop) : Prop :=
  match r with
  | .ok a e m => P a e m
  | .exc c vs m => E c vs m
  | .stuck => False
theorem R.Ok.bind {α β : Type} {r : R α} {f : α → Env → Mu → R β} {P : β → Env → Mu → Prop} {E : Nat → List D → Mu → Prop} (h : (r.bind f).Ok P E) : r.Ok (fun a e m => (f a e m).Ok P E) E := by
  cases r with
  | ok a e m => exact h
  | exc c vs m => exact h
  | stuck => exact h
theorem R.Ok.mono {α : Type} {r : R α} {P P' : α → Env → Mu → Prop} {E E' : Nat → List D → Mu → Prop} (h : r.Ok P E) (hp : ∀ a e m, P a e m → P' a e m) (he : ∀ c vs m, E c vs m → E' c vs m) : r.Ok P' E' := by
  cases r with
  | ok a e m => exact hp _ _ _ h
  | exc c vs m => exact he _ _ _ h
  | stuck => exact h
theorem R.Ok.of {α : Type} {o : Option α} {e : Env} {m : Mu} {P : α → Env → Mu → Prop} {E : Nat → List D → Mu → Prop} (h : (M.of o e m).Ok P E) : ∃ a, o = some a ∧ P a e m := by
  cases o with
  | none => exact h.elim
  | some a => exact ⟨a, rfl, h⟩

/-! ### data -/
mutual
def D.toPy : D → Option PyData
  | .non => some .none
  | .bl b => some (.bool b)
  | .int i => some (.int i)
  | .str x => some (.str x)
  | .tup xs => (D.toPys xs).map .tuple
  | .lst xs => (D.toPys xs).map .list
  | .dic _ _ _ => none
  | .set _ => none
  | .scr _ => none
  | .cell _ => none
def D.toPys : List D → Option (List PyData)
  | [] => some []
  | x :: xs => match D.toPy x, D.toPys xs with
    | some p, some ps => some (p :: ps)
    | _, _ => none
end
/-- what stands behind a value: a mutable object's content -/
def deref (m : Mu) : D → Option D
  | .cell k => (m[k]?).join
  | d => some d
/-- the items of a list or tuple -/
def seqOf (m : Mu) (d : D) : Option (List D) := match deref m d with
  | some (.lst xs) => some xs
  | some (.tup xs) => some xs
  | _ => none
/-- the data behind a value -/
def pyOf (m : Mu) (d : D) : Option PyData := (deref m d).bind fun d => match d.toPy with
  | some p => if SeqAt.shaped p = true then some p else none
  | none => none

def truD (m : Mu) (d : D) : Option Bool := match deref m d with
  | some .non => some false
  | some (.bl b) => some b
  | some (.int i) => some (i != 0)
  | some (.str x) => if x.length ≤ 16777216 then some ((x.length : Int) != 0) else none
  | some (.tup xs) => some (!xs.isEmpty)
  | some (.lst xs) => some (!xs.isEmpty)
  | some (.dic false ks _) => some (!ks.isEmpty)
  | _ => none

/-! ### operators -/
inductive Bop where
  | add | sub | mul | mod | fdiv | pow
  deriving DecidableEq
def Bop.op : Bop → Operator
  | .add => .Add
  | .sub => .Sub
  | .mul => .Mult
  | .mod => .Mod
  | .fdiv => .FloorDiv
  | .pow => .Pow
/-- bounded by 2 ^ 64 -/
def small64 (i : Int) : Bool := decide (-18446744073709551616 < i) && decide (i < 18446744073709551616)
def lim (xs : List D) : Bool := decide (xs.length ≤ 16777216)

def binD (m : Mu) (op : Bop) (a b : D) : Option D := match op, a, b with
  | .add, .int i, .int j => some (.int (i + j))
  | .sub, .int i, .int j => some (.int (i - j))
  | .mul, .int i, .int j => if small64 i || small64 j then some (.int (i * j)) else none
  | .mod, .int i, .int j => if 0 < j then some (.int (i % j)) else none
  | .fdiv, .int i, .int j => if 0 < j ∧ j < 1073741824 then some (.int (i / j)) else none
  | .pow, .int i, .int j => if 0 ≤ j ∧ (Builtin.Int.intBits i : Int) * j ≤ 134217728 then some (.int (i ^ j.toNat)) else none
  | .add, .str x, .str y => if x.length + y.length ≤ 16777216 then some (.str (x ++ y)) else none
  | .add, .tup xs, .tup ys => if lim (xs ++ ys) then some (.tup (xs ++ ys)) else none
  | .add, a, b => match deref m a, deref m b with
    | some (.lst xs), some (.lst ys) => if lim (xs ++ ys) then some (.lst (xs ++ ys)) else none
    | _, _ => none
  | .mul, a, .int k => match deref m a with
    | some (.lst xs) => if -9223372036854775808 ≤ k ∧ k < 9223372036854775808 ∧ xs.length * k.toNat ≤ 16777216 then some (.lst (List.replicate k.toNat xs).flatten) else none
    | _ => none
  | _, _, _ => none

inductive Cop where
  | eq | ne | lt | le | gt | ge | is | isNot | mem | notMem
  deriving DecidableEq
def Cop.op : Cop → CmpOp
  | .eq => .Eq
  | .ne => .NotEq
  | .lt => .Lt
  | .le => .LtE
  | .gt => .Gt
  | .ge => .GtE
  | .is => .Is
  | .isNot => .IsNot
  | .mem => .In
  | .notMem => .NotIn

/-- x == y -/
def eqD (m : Mu) (a b : D) : Option Bool := match pyOf m a, pyOf m b with
  | some p, some q => some (PyData.eqv p q)
  | _, _ => none
/-- x is y: for None, True, False -/
def isD (a b : D) : Option Bool := match a, b with
  | a, .non => match a with
    | .non => some true
    | .set _ => none
    | _ => some false
  | .bl x, .bl y => some (decide (x = y))
  | _, _ => none
/-- keys: ints, texts, tuples of these -/
def flatKey : D → Bool
  | .int _ => true
  | .str _ => true
  | _ => false
def isKey (t : Bool) (d : D) : Bool := if t = true then (match d with | .tup xs => xs.all flatKey | _ => false) else flatKey d
def keqF : D → D → Bool
  | .int i, .int j => decide (i = j)
  | .str x, .str y => decide (x = y)
  | _, _ => false
def keqFs : List D → List D → Bool
  | [], [] => true
  | x :: xs, y :: ys => keqF x y && keqFs xs ys
  | _, _ => false
def keq : D → D → Bool
  | .tup xs, .tup ys => keqFs xs ys
  | x, y => keqF x y
def lookD : List D → List D → D → Option D
  | k :: ks, v :: vs, y => if keq k y = true then some v else lookD ks vs y
  | _, _, _ => none
def replD : List D → List D → D → D → List D
  | k :: ks, v :: vs, y, x => (if keq k y = true then x else v) :: replD ks vs y x
  | _, vs, _, _ => vs
def hasD (ks : List D) (y : D) : Bool := ks.any fun k => keq k y
def putD (ks vs : List D) (y x : D) : List D × List D := if hasD ks y = true then (ks, replD ks vs y x) else (ks ++ [y], vs ++ [x])
def strLt (x y : Str) : Bool := decide (x.cps.toList < y.cps.toList)
/-- x in y -/
def memD (m : Mu) (a b : D) : Option Bool := match a, deref m b with
  | .str x, some (.str y) => some (!(Builtin.Str.occurrences y x 0 y.length 1).isEmpty)
  | a, some (.dic t ks vs) => if isKey t a = true then some (hasD ks a) else none
  | a, some (.lst ys) => match pyOf m a, pyOf m (.lst ys) with
    | some p, some (.list qs) => some (qs.any fun q => PyData.eqv q p)
    | _, _ => none
  | a, some (.tup ys) => match pyOf m a, pyOf m (.tup ys) with
    | some p, some (.tuple qs) => some (qs.any fun q => PyData.eqv q p)
    | _, _ => none
  | _, _ => none
/-- x < y, of data of one shape -/
def ltD (m : Mu) (a b : D) : Option Bool := match a, b with
  | .int i, .int j => some (decide (i < j))
  | .str x, .str y => some (strLt x y)
  | .tup xs, .tup ys => match pyOf m (.tup xs), pyOf m (.tup ys) with
    | some p, some q => if PySem.W.alike p q = true then some (PySem.W.dataLt p q) else none
    | _, _ => none
  | _, _ => none
def cmpD (m : Mu) (op : Cop) (a b : D) : Option Bool := match op with
  | .eq => eqD m a b
  | .ne => (eqD m a b).map (!·)
  | .lt => ltD m a b
  | .gt => match a, b with
    | .int i, .int j => some (decide (j < i))
    | _, _ => none
  | .le => match a, b with
    | .int i, .int j => some (decide (i ≤ j))
    | .str x, .str y => some (!strLt y x)
    | _, _ => none
  | .ge => match a, b with
    | .int i, .int j => some (decide (j ≤ i))
    | _, _ => none
  | .is => isD a b
  | .isNot => (isD a b).map (!·)
  | .mem => memD m a b
  | .notMem => (memD m a b).map (!·)

end Mn

namespace Mn
open PySem

/-! ### the language -/
/-- built-in functions -/
inductive Bi where
  | len | int | abs | max | min | list | tuple | set | sorted | all | any | sum | repr | dict | bool
  deriving DecidableEq
/-- built-in classes, for isinstance -/
inductive Ty where
  | int | bool | str | tuple | list | dict
  deriving DecidableEq
/-- methods that read -/
inductive Me where
  | index | get | get2 | append | extend | pop1 | setdefault | items
  deriving DecidableEq
/-- targets -/
inductive Tg where
  | nm (i : Nat)
  | tp (ts : List Tg)
inductive E where
  | lit (c : Const)
  | v (i : Nat)
  | frz (i : Nat)
  | glob (n : Nat)
  | bin (op : Bop) (a b : E)
  | neg (a : E)
  | not (a : E)
  | cmp (op : Cop) (a b : E)
  | chain (op op' : Cop) (a b c : E)
  | and (es : List E)
  | or (es : List E)
  /-- the truth of a value -/
  | tr (e : E)
  | ite (c a b : E)
  | tup (es : List E)
  | lst (es : List E)
  | mk (es : List E)
  | spr (e : E)
  | dic1 (k v : E)
  /-- list(a) as a mutable object -/
  | mkl (a : E)
  /-- sorted(set(a)) -/
  | srt (a : E)
  | mkd (t : Bool)
  | idx (a i : E)
  | slc (a : E) (lo hi : List E)
  | rev (a : E)
  | bi (b : Bi) (es : List E)
  | isi (e : E) (t : Ty)
  | fn (n : Nat) (es : List E)
  | me (m : Me) (o : E) (es : List E)
  /-- [elt for tg in it if ifs] -/
  | lc (own : List Nat) (tg : Tg) (it : E) (ifs : List E) (elt : E)
  | lc2 (own own1 : List Nat) (tg : Tg) (it : E) (ifs : List E) (tg1 : Tg) (it1 : E) (ifs1 : List E) (elt : E)
  /-- what a for walks: a value, range, enumerate, zip -/
  | it (e : E)
  | rng1 (a : E)
  | rng2 (a b : E)
  | enum (e : E)
  | zip (a b : E) (strict : Bool)

/-! ### what they compute -/
abbrev Fn := List D → Mu → R D
/-- what the names of the module stand for -/
structure Pg where
  fn : Nat → Fn
  gl : Nat → Option D
def constD : Const → Option D
  | .none => some .non
  | .bool b => some (.bl b)
  | .int i => some (.int i)
  | .str x => some (.str x)
  | _ => none
def negD : D → Option D
  | .int i => some (.int (-i))
  | _ => none
def notD : D → Option D
  | .bl b => some (.bl (!b))
  | _ => none
def varD (i : Nat) : M D := fun e m => match e[i]? with
  | some (some d) => .ok d e m
  | _ => .stuck
/-- the name's mutable object is frozen: from here on a value -/
def frzD (i : Nat) : M D := fun e m => match e[i]? with
  | some (some (.cell k)) => match m[k]? with
    | some (some d) => .ok d (e.set i (some d)) (m.set k none)
    | _ => .stuck
  | some (some d) => .ok d e m
  | _ => .stuck

def idxD (m : Mu) (a i : D) : Option D := match deref m a, i with
  | some (.lst xs), .int i => L2.atI xs i
  | some (.tup xs), .int i => L2.atI xs i
  | some (.scr xs), .int i => L2.atI (xs.map .int) i
  | some (.dic t ks vs), k => if isKey t k = true then lookD ks vs k else none
  | _, _ => none
def sliceD (xs : List D) (lo hi : Option Int) : List D := (xs.drop (HT.sIx xs.length 0 lo)).take (HT.sIx xs.length xs.length hi - HT.sIx xs.length 0 lo)
def optInt : List D → Option (Option Int)
  | [] => some none
  | [.int i] => some (some i)
  | _ => none
def slcI (m : Mu) (a : D) (lo hi : Option Int) : Option D := match deref m a with
    | some (.lst xs) => some (.lst (sliceD xs lo hi))
    | some (.tup xs) => some (.tup (sliceD xs lo hi))
    | some (.scr xs) => some (.lst (sliceD (xs.map .int) lo hi))
    | _ => none
def slcD (m : Mu) (a : D) (lo hi : List D) : Option D := match optInt lo, optInt hi with
  | some lo, some hi => slcI m a lo hi
  | _, _ => none
def revD (m : Mu) (a : D) : Option D := match deref m a with
  | some (.tup xs) => some (.tup xs.reverse)
  | some (.lst xs) => some (.lst xs.reverse)
  | _ => none

def intsOf : List D → Option (List Int)
  | [] => some []
  | .int i :: r => (intsOf r).map (i :: ·)
  | _ :: _ => none
def boolsOf : List D → Option (List Bool)
  | [] => some []
  | .bl b :: r => (boolsOf r).map (b :: ·)
  | _ :: _ => none
def strsOf : List D → Option (List Str)
  | [] => some []
  | .str x :: r => (strsOf r).map (x :: ·)
  | _ :: _ => none
def maxI : Int → List Int → Int
  | a, [] => a
  | a, b :: r => maxI (if b > a then b else a) r
def minI : Int → List Int → Int
  | a, [] => a
  | a, b :: r => minI (if b < a then b else a) r
def isiD (m : Mu) (d : D) (t : Ty) : Option Bool := match deref m d with
  | some .non => some false
  | some (.bl _) => some (decide (t = .bool) || decide (t = .int))
  | some (.int _) => some (decide (t = .int))
  | some (.str _) => some (decide (t = .str))
  | some (.tup _) => some (decide (t = .tuple))
  | some (.lst _) => some (decide (t = .list))
  | some (.dic _ _ _) => some (decide (t = .dict))
  | _ => none

def noCell : D → Bool
  | .cell _ => false
  | _ => true
/-- a sorted list of data of one shape -/
def pysOf (m : Mu) : List D → Option (List PyData)
  | [] => some []
  | x :: xs => match pyOf m x, pysOf m xs with
    | some p, some ps => some (p :: ps)
    | _, _ => none
def pyKey (m : Mu) (d : D) : PyData := (pyOf m d).getD .none
def allAlike (ps : List PyData) : Bool := ps.all fun p => (match p with | .none => false | _ => true) && ps.all fun q => PySem.W.alike p q
def sortable (ps : List PyData) : Bool := (ps.all fun p => match p with | .tuple (_ :: _) => true | _ => false) || (ps.all fun p => match p with | .none => false | .tuple _ => false | _ => true)
/-- sorted(xs) -/
def sortD (m : Mu) (xs : List D) : Option (List D) := match pysOf m xs with
  | some ps => if allAlike ps && sortable ps then some (xs.mergeSort fun a b => !PySem.W.dataLt (pyKey m b) (pyKey m a)) else none
  | none => none
/-- the first ones of equal items -/
def dedup (m : Mu) : List D → List D → List D
  | acc, [] => acc
  | acc, x :: r => dedup m (if acc.any fun y => eqD m y x == some true then acc else acc ++ [x]) r


/-- the items of pairs with plain keys -/
def pairsOf : List D → Option (List (D × D))
  | [] => some []
  | .tup [k, v] :: r => if flatKey k = true then (pairsOf r).map ((k, v) :: ·) else none
  | _ => none
def mergeD : List D → List D → List (D × D) → List D × List D
  | ks, vs, [] => (ks, vs)
  | ks, vs, (k, v) :: r => mergeD (putD ks vs k v).1 (putD ks vs k v).2 r
def listD (m : Mu) (d : D) : Option (List D) := match deref m d with
  | some (.lst xs) => some xs
  | some (.tup xs) => some xs
  | some (.dic false ks _) => some ks
  | _ => none
/-- a list of ints, rising, each once -/
def insI (i : Int) : List Int → List Int
  | [] => [i]
  | j :: r => if i < j then i :: j :: r else if i = j then j :: r else j :: insI i r
def srtI (is : List Int) : List Int := is.foldr insI []
def srtD (m : Mu) (d : D) : Option D := match deref m d with
  | some (.lst xs) => match intsOf xs with
    | some is => if is.length < 63 then some (.lst ((srtI is).map .int)) else none
    | none => none
  | _ => none
def dic1D (k v : D) : Option D := if flatKey k = true then some (.dic false [k] [v]) else none
def maxDD (m : Mu) (a : D) : Option D := match seqOf m a with
  | some (x :: r) => match pysOf m (x :: r) with
    | some ps => if allAlike ps = true ∧ SeqAt.shaped (.list ps) = true ∧ (x :: r).all noCell = true then some (r.foldl (fun a y => if PySem.W.dataLt (pyKey m a) (pyKey m y) = true then y else a) x) else none
    | none => none
  | _ => none
def minDD (m : Mu) (a : D) : Option D := match seqOf m a with
  | some (x :: r) => match pysOf m (x :: r) with
    | some ps => if allAlike ps = true ∧ SeqAt.shaped (.list ps) = true ∧ (x :: r).all noCell = true then some (r.foldl (fun a y => if PySem.W.dataLt (pyKey m y) (pyKey m a) = true then y else a) x) else none
    | none => none
  | _ => none
def biD (m : Mu) (b : Bi) (ds : List D) : Option D := match b, ds with
  | .len, [a] => match deref m a with
    | some (.lst xs) => some (.int xs.length)
    | some (.tup xs) => some (.int xs.length)
    | some (.scr xs) => some (.int xs.length)
    | some (.dic _ ks _) => some (.int ks.length)
    | some (.str x) => if x.length ≤ 16777216 then some (.int x.length) else none
    | _ => none
  | .int, [.int i] => some (.int i)
  | .int, [.bl b] => some (.int (if b then 1 else 0))
  | .abs, [.int i] => some (.int (if i < 0 then -i else i))
  | .max, [.int i, .int j] => some (.int (if j > i then j else i))
  | .min, [.int i, .int j] => some (.int (if j < i then j else i))
  | .max, [a] => maxDD m a
  | .min, [a] => minDD m a
  | .sorted, [a] => match deref m a with
    | some (.lst xs) => (sortD m xs).map .lst
    | _ => none
  | .dict, [a] => match deref m a with
    | some (.lst xs) => (pairsOf xs).map fun ps => .dic false (mergeD [] [] ps).1 (mergeD [] [] ps).2
    | _ => none
  | .repr, [.bl b] => some (.str (if b then "True" else "False"))
  | .list, [a] => match deref m a with
    | some (.lst xs) => some (.lst xs)
    | some (.tup xs) => some (.lst xs)
    | some (.dic false ks _) => some (.lst ks)
    | _ => none
  | .tuple, [a] => match deref m a with
    | some (.lst xs) => some (.tup xs)
    | some (.tup xs) => some (.tup xs)
    | _ => none
  | .all, [a] => match deref m a with
    | some (.lst xs) => (boolsOf xs).map fun bs => .bl (bs.all id)
    | _ => none
  | .any, [a] => match deref m a with
    | some (.lst xs) => (boolsOf xs).map fun bs => .bl (bs.any id)
    | _ => none
  | .sum, [a] => match deref m a with
    | some (.lst xs) => (intsOf xs).map fun is => .int is.sum
    | _ => none
  | _, _ => none

/-! ### targets, loops -/
mutual
/-- the slots of a target -/
def Tg.slots : Tg → List Nat
  | .nm i => [i]
  | .tp ts => Tg.slotss ts
def Tg.slotss : List Tg → List Nat
  | [] => []
  | t :: ts => Tg.slots t ++ Tg.slotss ts
end
mutual
def bindTg : Tg → D → Env → Option Env
  | .nm i, d, e => some (e.set i (some d))
  | .tp ts, d, e => match d with
    | .tup xs => bindTgs ts xs e
    | _ => none
def bindTgs : List Tg → List D → Env → Option Env
  | [], [], e => some e
  | t :: ts, d :: ds, e => (bindTg t d e).bind (bindTgs ts ds)
  | _, _, _ => none
end
def wipeE (e : Env) : List Nat → Env
  | [] => e
  | i :: is => (wipeE e is).set i none
/-- a comprehension's turns -/
def lcGo (g : D → Env → Option Env) (t : M Bool) (f : M D) (own : List Nat) : List D → M (List D)
  | [], e, m => .ok [] e m
  | x :: xs, e, m => match g x e with
    | none => .stuck
    | some e1 => (t e1 m).bind fun b e2 m2 =>
      if b = true then (f e2 m2).bind fun y e3 m3 => (lcGo g t f own xs (wipeE e3 own) m3).bind fun ys e4 m4 => .ok (y :: ys) e4 m4
      else lcGo g t f own xs (wipeE e2 own) m2
/-- the turns of a comprehension's outer for: what the inner ones make, one behind the other -/
def lcGo2 (g : D → Env → Option Env) (t : M Bool) (f : M (List D)) (own : List Nat) : List D → M (List D)
  | [], e, m => .ok [] e m
  | x :: xs, e, m => match g x e with
    | none => .stuck
    | some e1 => (t e1 m).bind fun b e2 m2 =>
      if b = true then (f e2 m2).bind fun ys e3 m3 => (lcGo2 g t f own xs (wipeE e3 own) m3).bind fun zs e4 m4 => .ok (ys ++ zs) e4 m4
      else lcGo2 g t f own xs (wipeE e2 own) m2

def rngD : List D → Option (List D)
  | [.int j] => if -4611686018427387904 ≤ j ∧ j < 4611686018427387904 then some ((List.range j.toNat).map fun (i : Nat) => .int (0 + (i : Int))) else none
  | [.int i, .int j] => if -4611686018427387904 ≤ i ∧ i < 4611686018427387904 ∧ -4611686018427387904 ≤ j ∧ j < 4611686018427387904 then some ((List.range (j - i).toNat).map fun (n : Nat) => .int (i + (n : Int))) else none
  | _ => none
/-- the items that a for meets -/
def walkD (m : Mu) (d : D) : Option (List D) := match d with
  | .lst xs => some xs
  | .tup xs => some xs
  | .scr xs => some (xs.map .int)
  | .str x => some (x.cps.toList.map fun c => .str ⟨#[c]⟩)
  | _ => none
def enumD (m : Mu) (d : D) : Option (List D) := match d with
  | .lst xs => some (xs.zipIdx.map fun p => .tup [.int (p.2 : Int), p.1])
  | .tup xs => some (xs.zipIdx.map fun p => .tup [.int (p.2 : Int), p.1])
  | _ => none
def zipD (m : Mu) (a b : D) (strict : Bool) : Option (List D) := match a, b with
  | .lst xs, .lst ys => if strict = true then none else some ((xs.zip ys).map fun p => .tup [p.1, p.2])
  | .tup xs, .tup ys => if strict = true then none else some ((xs.zip ys).map fun p => .tup [p.1, p.2])
  | _, _ => none

/-- the object has the method -/
def meT (m : Mu) (me : Me) (o : D) : Bool := match me, deref m o with
  | .append, some (.lst _) => true
  | .extend, some (.lst _) => true
  | .pop1, some (.lst _) => true
  | .index, some (.lst _) => true
  | .get, some (.dic _ _ _) => true
  | .get2, some (.dic _ _ _) => true
  | .setdefault, some (.dic _ _ _) => true
  | .items, some (.dic _ _ _) => true
  | _, _ => false
/-- the place of the first item that equals x -/
def indexD (p : PyData) : List PyData → Option Nat
  | [] => none
  | q :: r => if PyData.eqv q p = true then some 0 else (indexD p r).map (· + 1)
def appendD (m : Mu) (o : D) (ds : List D) : Option (D × Mu) := match o, ds with
  | .cell k, [x] => match m[k]? with
    | some (some (.lst xs)) => if xs.length < 16777216 then some (.non, m.set k (some (.lst (xs ++ [x])))) else none
    | _ => none
  | _, _ => none
def extendD (m : Mu) (o : D) (ds : List D) : Option (D × Mu) := match o, ds with
  | .cell k, [.lst ys] => match m[k]? with
    | some (some (.lst xs)) => if xs.length + ys.length ≤ 16777216 then some (.non, m.set k (some (.lst (xs ++ ys)))) else none
    | _ => none
  | _, _ => none
def popD (m : Mu) (o : D) (ds : List D) : Option (D × Mu) := match o, ds with
  | .cell k, [.int i] => match m[k]? with
    | some (some (.lst xs)) => if 0 ≤ i ∧ i < xs.length ∧ i < 9223372036854775808 then (xs[i.toNat]?).map fun x => (x, m.set k (some (.lst (xs.eraseIdx i.toNat)))) else none
    | _ => none
  | _, _ => none
def findD (m : Mu) (o : D) (ds : List D) : Option (D × Mu) := match ds with
  | [x] => match pyOf m o, pyOf m x with
    | some (.list qs), some p => (indexD p qs).map fun j => (.int ((j : Nat) : Int), m)
    | _, _ => none
  | _ => none
def setdefD (m : Mu) (o : D) (ds : List D) : Option (D × Mu) := match o, ds with
  | .cell k, [y, x] => match m[k]? with
    | some (some (.dic false ks vs)) => if isKey false y = true ∧ ks.length < 16777216 then
        match lookD ks vs y with
        | some d => some (d, m)
        | none => some (x, m.set k (some (.dic false (ks ++ [y]) (vs ++ [x]))))
      else none
    | _ => none
  | _, _ => none
/-- a method's result and the objects behind it -/
def meD (m : Mu) (me : Me) (o : D) (ds : List D) : Option (D × Mu) := match me with
  | .append => appendD m o ds
  | .extend => extendD m o ds
  | .pop1 => popD m o ds
  | .index => findD m o ds
  | .setdefault => setdefD m o ds
  | _ => none

mutual
def ev (P : Pg) : E → M D
  | .lit c => M.of (constD c)
  | .v i => varD i
  | .frz i => frzD i
  | .glob n => M.of (P.gl n)
  | .bin op a b => (ev P a).bind fun x => (ev P b).bind fun y e m => M.of (binD m op x y) e m
  | .neg a => (ev P a).bind fun x => M.of (negD x)
  | .not a => (ev P a).bind fun x => M.of (notD x)
  | .cmp op a b => (ev P a).bind fun x => (ev P b).bind fun y e m => M.of ((cmpD m op x y).map .bl) e m
  | .chain op op' a b c => (ev P a).bind fun x => (ev P b).bind fun y => M.bind (fun e m => M.of (cmpD m op x y) e m) fun (k : Bool) =>
      if k = true then (ev P c).bind fun z e m => M.of ((cmpD m op' y z).map .bl) e m else M.ret (.bl false)
  | .and es => evAnd P es
  | .or es => evOr P es
  | .ite c a b => (evT P c).bind fun k => if k = true then ev P a else ev P b
  | .tup es => (evs P es).bind fun ds => if lim ds = true then M.ret (.tup ds) else M.of none
  | .lst es => (evs P es).bind fun ds => if lim ds = true then M.ret (.lst ds) else M.of none
  | .mk es => (evs P es).bind fun ds e m => if lim ds = true then .ok (.cell m.length) e (m ++ [some (.lst ds)]) else .stuck
  | .mkd t => fun e m => .ok (.cell m.length) e (m ++ [some (.dic t [] [])])
  | .mkl a => (ev P a).bind fun x e m => match listD m x with
    | some xs => .ok (.cell m.length) e (m ++ [some (.lst xs)])
    | none => .stuck
  | .srt a => (ev P a).bind fun x e m => M.of (srtD m x) e m
  | .dic1 a b => (ev P a).bind fun x => (ev P b).bind fun y => M.of (dic1D x y)
  | .idx a i => (ev P a).bind fun x => (ev P i).bind fun y e m => M.of (idxD m x y) e m
  | .slc a lo hi => (ev P a).bind fun x => (evs P lo).bind fun l => (evs P hi).bind fun h e m => M.of (slcD m x l h) e m
  | .bi b es => (evs P es).bind fun ds e m => M.of (biD m b ds) e m
  | .isi a t => (ev P a).bind fun x e m => M.of ((isiD m x t).map .bl) e m
  | .fn n es => (evs P es).bind fun ds e m => (P.fn n ds m).bind fun d _ m' => .ok d e m'
  | .me me o es => (ev P o).bind fun x e m => if meT m me x = true then ((evs P es).bind fun ds e m => match meD m me x ds with
      | some (d, m') => .ok d e m'
      | none => .stuck) e m else .stuck
  | .lc own tg it ifs elt => (its P it).bind fun xs e m => (lcGo (bindTg tg) (evAndT P ifs) (ev P elt) own xs (wipeE e own) m).bind fun ys e m => if lim ys = true then .ok (.lst ys) e m else .stuck
  | _ => M.of none
def evs (P : Pg) : List E → M (List D)
  | [] => M.ret []
  | .spr e :: es => (ev P e).bind fun d e m => match seqOf m d with
    | some xs => ((evs P es).bind fun ds => M.ret (xs ++ ds)) e m
    | none => .stuck
  | e :: es => (ev P e).bind fun d => (evs P es).bind fun ds => M.ret (d :: ds)
def evAnd (P : Pg) : List E → M D
  | [] => M.of none
  | e :: es => (ev P e).bind fun x => if es.isEmpty = true then M.ret x else match x with
    | .bl true => evAnd P es
    | .bl false => M.ret (.bl false)
    | _ => M.of none
def evOr (P : Pg) : List E → M D
  | [] => M.of none
  | e :: es => (ev P e).bind fun x => if es.isEmpty = true then M.ret x else match x with
    | .bl false => evOr P es
    | .bl true => M.ret (.bl true)
    | _ => M.of none
/-- as a test -/
def evT (P : Pg) : E → M Bool
  | .not a => (evT P a).bind fun k => M.ret (!k)
  | .and es => evAndT P es
  | .or es => evOrT P es
  | .cmp op a b => (ev P a).bind fun x => (ev P b).bind fun y e m => M.of (cmpD m op x y) e m
  | .chain op op' a b c => (ev P a).bind fun x => (ev P b).bind fun y => M.bind (fun e m => M.of (cmpD m op x y) e m) fun (k : Bool) =>
      if k = true then (ev P c).bind fun z e m => M.of (cmpD m op' y z) e m else M.ret false
  | .tr a => (ev P a).bind fun x e m => M.of (truD m x) e m
  | _ => M.of none
def evAndT (P : Pg) : List E → M Bool
  | [] => M.ret true
  | e :: es => (evT P e).bind fun k => if k = true then evAndT P es else M.ret false
def evOrT (P : Pg) : List E → M Bool
  | [] => M.ret false
  | e :: es => (evT P e).bind fun k => if k = true then M.ret true else evOrT P es
def its (P : Pg) : E → M (List D)
  | .rng1 a => (ev P a).bind fun x => M.of (rngD [x])
  | .rng2 a b => (ev P a).bind fun x => (ev P b).bind fun y => M.of (rngD [x, y])
  | .enum a => (ev P a).bind fun x e m => M.of (enumD m x) e m
  | .zip a b s => (ev P a).bind fun x => (ev P b).bind fun y e m => M.of (zipD m x y s) e m
  | .it a => (ev P a).bind fun x e m => M.of (walkD m x) e m
  | _ => M.of none
end

end Mn

namespace Mn
open PySem

/-! ### statements -/
inductive S where
  | set (tg : Tg) (e : E)
  | par (i j : Nat) (a b : E)
  /-- x, *ys = e -/
  | star (i j : Nat) (e : E)
  | sidx (o i e : E)
  | aug (i : Nat) (op : Bop) (e : E)
  | ex (e : E)
  | ret (e : E)
  | retN
  | ite (c : E) (a b : List S)
  | for_ (tg : Tg) (it : E) (b : List S)
  /-- a for that forgets some names behind each turn -/
  | forg (vs : List Nat) (tg : Tg) (it : E) (b : List S)
  | wh (n : Nat) (c : E) (b : List S)
  | brk
  | cnt
  | pas
  | never

inductive Fl where
  | nx (e : Env) (m : Mu)
  | rt (d : D) (m : Mu)
  | bk (e : Env) (m : Mu)
  | ct (e : Env) (m : Mu)
  | exc (c : Nat) (vs : List D) (m : Mu)
  | stuck
@[reducible] def R.fl {α : Type} (r : R α) (f : α → Env → Mu → Fl) : Fl :=
  match r with
  | .ok a e m => f a e m
  | .exc c vs m => .exc c vs m
  | .stuck => .stuck
structure FP where
  nx : Env → Mu → Prop
  rt : D → Mu → Prop
  bk : Env → Mu → Prop
  ct : Env → Mu → Prop
  exc : Nat → List D → Mu → Prop
def Fl.Ok (r : Fl) (P : FP) : Prop :=
  match r with
  | .nx e m => P.nx e m
  | .rt d m => P.rt d m
  | .bk e m => P.bk e m
  | .ct e m => P.ct e m
  | .exc c vs m => P.exc c vs m
  | .stuck => False
/-- the turns of a for -/
def forGo (g : D → Env → Option Env) (f : Env → Mu → Fl) : List D → Env → Mu → Fl
  | [], e, m => .nx e m
  | x :: xs, e, m => match g x e with
    | none => .stuck
    | some e1 => match f e1 m with
      | .nx e2 m2 => forGo g f xs e2 m2
      | .ct e2 m2 => forGo g f xs e2 m2
      | .bk e2 m2 => .nx e2 m2
      | r => r
def whGo (t : M Bool) (f : Env → Mu → Fl) : Nat → Env → Mu → Fl
  | 0, _, _ => .stuck
  | n + 1, e, m => (t e m).fl fun b e1 m1 => if b = true then match f e1 m1 with
      | .nx e2 m2 => whGo t f n e2 m2
      | .ct e2 m2 => whGo t f n e2 m2
      | .bk e2 m2 => .nx e2 m2
      | r => r
    else .nx e1 m1
def setAll : List Nat → List D → Env → Option Env
  | [], [], e => some e
  | i :: is, d :: ds, e => setAll is ds (e.set i (some d))
  | _, _, _ => none
/-- o[i] = x on a mutable list -/
def sidxD (m : Mu) (o i x : D) : Option Mu := match o, i with
  | .cell k, .int i => match m[k]? with
    | some (some (.lst xs)) => if 0 ≤ i ∧ i < xs.length then some (m.set k (some (.lst (xs.set i.toNat x)))) else none
    | _ => none
  | _, _ => none
def augD (op : Bop) (x y : D) : Option D := match op, x, y with
  | .add, .int a, .int b => some (.int (a + b))
  | .sub, .int a, .int b => some (.int (a - b))
  | _, _, _ => none
def starD : D → Option (D × List D)
  | .tup (x :: xs) => some (x, xs)
  | _ => none
mutual
/-- all mutable objects in d are below n -/
def below (n : Nat) : D → Bool
  | .tup xs => belows n xs
  | .lst xs => belows n xs
  | .dic _ ks vs => belows n ks && belows n vs
  | .set xs => belows n xs
  | .cell k => decide (k < n)
  | _ => true
def belows (n : Nat) : List D → Bool
  | [] => true
  | x :: xs => below n x && belows n xs
end
def slotsBelow (n : Nat) (e : Env) : Bool := e.all fun c => match c with
  | some d => below n d
  | none => true
/-- what nobody names any more behind a turn is forgotten -/
def gcM (n : Nat) (e : Env) (m : Mu) : Mu :=
  if slotsBelow n e && (m.take n).all (fun c => match c with | some d => below n d | none => true) then m.take n else m
def gcFl (vs : List Nat) (n : Nat) : Fl → Fl
  | .nx e m => .nx (wipeE e vs) (gcM n (wipeE e vs) m)
  | .ct e m => .ct (wipeE e vs) (gcM n (wipeE e vs) m)
  | r => r
mutual
def ex (P : Pg) : S → Env → Mu → Fl
  | .set tg e => fun r m => (ev P e r m).fl fun d r m => match bindTg tg d r with
    | some r => .nx r m
    | none => .stuck
  | .par i j a b => fun r m => (ev P a r m).fl fun d r m => (ev P b r m).fl fun d2 r m => .nx ((r.set i (some d)).set j (some d2)) m
  | .star i j e => fun r m => (ev P e r m).fl fun d r m => match starD d with
    | some (x, xs) => .nx ((r.set i (some x)).set j (some (.lst xs))) m
    | none => .stuck
  | .sidx o i e => fun r m => (ev P e r m).fl fun x r m => (ev P o r m).fl fun y r m => (ev P i r m).fl fun z r m => match sidxD m y z x with
    | some m => .nx r m
    | none => .stuck
  | .aug i op e => fun r m => (varD i r m).fl fun x r m => (ev P e r m).fl fun y r m => match augD op x y with
    | some z => .nx (r.set i (some z)) m
    | none => .stuck
  | .ex e => fun r m => (ev P e r m).fl fun _ r m => .nx r m
  | .ret e => fun r m => (ev P e r m).fl fun d _ m => .rt d m
  | .retN => fun _ m => .rt .non m
  | .ite c a b => fun r m => (evT P c r m).fl fun k r m => if k = true then exs P a r m else exs P b r m
  | .for_ tg it b => fun r m => (its P it r m).fl fun xs r m => forGo (bindTg tg) (exs P b) xs r m
  | .forg vs tg it b => fun r m => (its P it r m).fl fun xs r m => forGo (bindTg tg) (fun r m => gcFl vs m.length (exs P b r m)) xs r m
  | .wh n c b => fun r m => whGo (evT P c) (exs P b) n r m
  | .brk => fun r m => .bk r m
  | .cnt => fun r m => .ct r m
  | .pas => fun r m => .nx r m
  | .never => fun _ _ => .stuck
def exs (P : Pg) : List S → Env → Mu → Fl
  | [] => fun r m => .nx r m
  | s :: ss => fun r m => match ex P s r m with
    | .nx r m => exs P ss r m
    | f => f
end

/-- what a def has made for itself alone is forgotten -/
def trunc (n : Nat) (d : D) (m : Mu) : Mu :=
  if below n d && (m.take n).all (fun c => match c with | some d => below n d | none => true) then m.take n else m
def run (P : Pg) (np ns : Nat) (body : List S) : Fn := fun ds m =>
  if ds.length = np then match exs P body (ds.map some ++ List.replicate (ns - np) none) m with
    | .rt d m' => .ok d [] (trunc m.length d m')
    | .nx _ m' => .ok .non [] (trunc m.length .non m')
    | .exc c vs m' => .exc c vs m'
    | _ => .stuck
  else .stuck

end Mn
end
section
set_option Elab.async false
set_option linter.all false
set_option maxRecDepth 100000
/-! How trees stand in the abstract heap, and the readings of the small language. -/
namespace Mn
open PySem PySem.Spec PyProof.Rows L2

/-! ### the frozen heap -/
/-- what may be read in F may be read in F' -/
structure Le (F F' : Hp) : Prop where
  tup : ∀ a xs, Rd F a (.tup xs) → Rd F' a (.tup xs)
  lst : ∀ a xs, F a = some (.lst xs) → F' a = some (.lst xs)
  scr : ∀ a xs, Rd F a (.lst xs) → Rd F' a (.lst xs)
  dK : ∀ a kvs, F a = some (.dK kvs) → F' a = some (.dK kvs)
  dT : ∀ a kvs, F a = some (.dT kvs) → F' a = some (.dT kvs)
theorem Le.refl (F : Hp) : Le F F := ⟨fun _ _ h => h, fun _ _ h => h, fun _ _ h => h, fun _ _ h => h, fun _ _ h => h⟩
theorem Le.trans {F G H : Hp} (a : Le F G) (b : Le G H) : Le F H := ⟨fun _ _ h => b.tup _ _ (a.tup _ _ h), fun _ _ h => b.lst _ _ (a.lst _ _ h), fun _ _ h => b.scr _ _ (a.scr _ _ h), fun _ _ h => b.dK _ _ (a.dK _ _ h), fun _ _ h => b.dT _ _ (a.dT _ _ h)⟩
theorem Le.of {F F' : Hp} (h : ∀ a o, F a = some o → F' a = some o) : Le F F' := by
  have g : ∀ a u, Rd F a u → Rd F' a u := fun a u r => by
    rcases r with r | ⟨o, r⟩
    · exact .inl (h _ _ r)
    · exact .inr ⟨o, h _ _ r⟩
  exact ⟨fun _ _ => g _ _, fun _ _ => h _ _, fun _ _ => g _ _, fun _ _ => h _ _, fun _ _ => h _ _⟩
theorem Le.sqT {K : PySem.W.Frag} {F F' : Hp} (l : Le F F') {a : Addr} {xs : List V} (h : SqT K F a xs) : SqT K F' a xs := h.imp (l.tup a xs) id
theorem Le.sqL {K : PySem.W.Frag} {F F' : Hp} (l : Le F F') {a : Addr} {xs : List V} (h : SqL K F a xs) : SqL K F' a xs := h.imp (l.scr a xs) id
theorem Le.new {F : Hp} {p : Addr} {o : HO} (h : F p = none) : Le F (upd F p o) := Le.of fun a u e => by
  rw [upd_ne (ne_of_none e h)]
  exact e

/-- a key as a tree -/
def kD : Key → D
  | .inl i => .int i
  | .inr x => .str x
mutual
/-- the value v is the tree d: al are the addresses of the mutable objects, F the frozen ones -/
inductive Rep (K : PySem.W.Frag) (al : List Addr) (F : Hp) : V → D → Prop
  | non : Rep K al F .non .non
  | bl (b : Bool) : Rep K al F (.bl b) (.bl b)
  | int (i : Int) : Rep K al F (.int i) (.int i)
  | str (x : Str) : Rep K al F (.str x) (.str x)
  | tup {a : Addr} {xs : List V} {ds : List D} : SqT K F a xs → RepL K al F xs ds → Rep K al F (.ref a) (.tup ds)
  | lst {a : Addr} {xs : List V} {ds : List D} : F a = some (.lst xs) → RepL K al F xs ds → Rep K al F (.ref a) (.lst ds)
  | dicK {a : Addr} {kvs : List (Key × V)} {vs : List D} : F a = some (.dK kvs) → RepL K al F (kvs.map fun p => p.2) vs → Rep K al F (.ref a) (.dic false (kvs.map fun p => kD p.1) vs)
  | dicT {a : Addr} {kvs : List (List Key × V)} {vs : List D} : F a = some (.dT kvs) → RepL K al F (kvs.map fun p => p.2) vs → Rep K al F (.ref a) (.dic true (kvs.map fun p => .tup (p.1.map kD)) vs)
  | scr {a : Addr} {ns : List Int} : SqL K F a (ns.map V.int) → Rep K al F (.ref a) (.scr ns)
  | cell {k : Nat} {a : Addr} : al[k]? = some a → Rep K al F (.ref a) (.cell k)
inductive RepL (K : PySem.W.Frag) (al : List Addr) (F : Hp) : List V → List D → Prop
  | nil : RepL K al F [] []
  | cons {v : V} {vs : List V} {d : D} {ds : List D} : Rep K al F v d → RepL K al F vs ds → RepL K al F (v :: vs) (d :: ds)
end
def Pre (al al' : List Addr) : Prop := ∀ (k : Nat) (a : Addr), al[k]? = some a → al'[k]? = some a
theorem Pre.refl (al : List Addr) : Pre al al := fun _ _ h => h
theorem Pre.trans {a b c : List Addr} (h : Pre a b) (g : Pre b c) : Pre a c := fun k x e => g k x (h k x e)
theorem Pre.app (al r : List Addr) : Pre al (al ++ r) := fun k a h => by
  have hk : k < al.length := (List.getElem?_eq_some_iff.mp h).1
  rw [List.getElem?_append_left hk]
  exact h
mutual
theorem Rep.mono {K : PySem.W.Frag} {al al' : List Addr} {F F' : Hp} (hp : Pre al al') (hl : Le F F') : ∀ {d : D} {v : V}, Rep K al F v d → Rep K al' F' v d
  | .non, _, r => by cases r; exact .non
  | .bl _, _, r => by cases r; exact .bl _
  | .int _, _, r => by cases r; exact .int _
  | .str _, _, r => by cases r; exact .str _
  | .tup ds, _, r => by
    cases r with
    | tup h1 h2 => exact .tup (hl.sqT h1) (RepL.mono hp hl h2)
  | .lst ds, _, r => by
    cases r with
    | lst h1 h2 => exact .lst (hl.lst _ _ h1) (RepL.mono hp hl h2)
  | .dic _ _ vs, _, r => by
    cases r with
    | dicK h1 h2 => exact .dicK (hl.dK _ _ h1) (RepL.mono hp hl h2)
    | dicT h1 h2 => exact .dicT (hl.dT _ _ h1) (RepL.mono hp hl h2)
  | .set _, _, r => nomatch r
  | .scr _, _, r => by
    cases r with
    | scr h => exact .scr (hl.sqL h)
  | .cell _, _, r => by
    cases r with
    | cell h => exact .cell (hp _ _ h)
theorem RepL.mono {K : PySem.W.Frag} {al al' : List Addr} {F F' : Hp} (hp : Pre al al') (hl : Le F F') : ∀ {ds : List D} {vs : List V}, RepL K al F vs ds → RepL K al' F' vs ds
  | [], _, r => by cases r; exact .nil
  | d :: ds, _, r => by
    cases r with
    | cons h1 h2 => exact .cons (Rep.mono hp hl h1) (RepL.mono hp hl h2)
end
theorem RepL.length {K : PySem.W.Frag} {al : List Addr} {F : Hp} : ∀ {ds : List D} {vs : List V}, RepL K al F vs ds → vs.length = ds.length
  | [], _, r => by cases r; rfl
  | _ :: _, _, r => by
    cases r with
    | cons _ h => rw [List.length_cons, List.length_cons, RepL.length h]
theorem RepL.get {K : PySem.W.Frag} {al : List Addr} {F : Hp} : ∀ {ds : List D} {vs : List V} {i : Nat} {d : D}, RepL K al F vs ds → ds[i]? = some d → ∃ v, vs[i]? = some v ∧ Rep K al F v d
  | [], _, _, _, _, e => by simp at e
  | x :: _, _, 0, d, r, e => by
    cases r with
    | cons h _ =>
      have : x = d := by simpa using e
      subst this
      exact ⟨_, rfl, h⟩
  | _ :: _, _, i + 1, d, r, e => by
    cases r with
    | cons _ h =>
      obtain ⟨v, h1, h2⟩ := RepL.get (i := i) h (by simpa using e)
      exact ⟨v, by simpa using h1, h2⟩
theorem RepL.app {K : PySem.W.Frag} {al : List Addr} {F : Hp} : ∀ {ds es : List D} {vs us : List V}, RepL K al F vs ds → RepL K al F us es → RepL K al F (vs ++ us) (ds ++ es)
  | [], _, _, _, r, q => by cases r; exact q
  | _ :: _, _, _, _, r, q => by
    cases r with
    | cons h1 h2 => exact .cons h1 (RepL.app h2 q)

/-! ### the state -/
/-- what stands at a mutable object -/
inductive ObjR (K : PySem.W.Frag) (al : List Addr) (F H : Hp) (a : Addr) : D → Prop
  | lst {xs : List V} {ds : List D} : H a = some (.lst xs) → RepL K al F xs ds → ObjR K al F H a (.lst ds)
  | dicK {kvs : List (Key × V)} {vs : List D} : H a = some (.dK kvs) → RepL K al F (kvs.map fun p => p.2) vs → ObjR K al F H a (.dic false (kvs.map fun p => kD p.1) vs)
  | dicT {kvs : List (List Key × V)} {vs : List D} : H a = some (.dT kvs) → RepL K al F (kvs.map fun p => p.2) vs → ObjR K al F H a (.dic true (kvs.map fun p => .tup (p.1.map kD)) vs)
structure Core (K : PySem.W.Frag) (H : Hp) (m : Mu) (al : List Addr) (F : Hp) : Prop where
  sub : ∀ a o, F a = some o → H a = some o
  len : al.length = m.length
  nd : al.Nodup
  has : ∀ a ∈ al, ∃ o, H a = some o
  live : ∀ (k : Nat) (a : Addr) (d : D), al[k]? = some a → m[k]? = some (some d) → F a = none ∧ ObjR K al F H a d
def Slots (K : PySem.W.Frag) (σ : L2.St) (e : Env) (al : List Addr) (F : Hp) : Prop := ∀ (i : Nat) (d : D), e[i]? = some (some d) → ∃ v, σ[i]? = some (some v) ∧ Rep K al F v d
structure SR (K : PySem.W.Frag) (σ : L2.St) (H : Hp) (e : Env) (m : Mu) (al : List Addr) (F : Hp) : Prop where
  core : Core K H m al F
  slots : Slots K σ e al F
  len : σ.length = e.length
/-- how the state may grow -/
structure Ex (al : List Addr) (F H : Hp) (al' : List Addr) (F' H' : Hp) : Prop where
  pre : Pre al al'
  le : Le F F'
  keep : ∀ a o, H a = some o → a ∉ al → H' a = some o
  new : ∀ a ∈ al', a ∈ al ∨ H a = none
  nf : ∀ a o, F a = none → a ∉ al → H a = some o → F' a = none
theorem Ex.refl (al : List Addr) (F H : Hp) : Ex al F H al F H := ⟨Pre.refl _, Le.refl _, fun _ _ h _ => h, fun _ h => .inl h, fun _ _ h _ _ => h⟩
theorem Ex.trans {al al1 al2 : List Addr} {F F1 F2 H H1 H2 : Hp} (a : Ex al F H al1 F1 H1) (b : Ex al1 F1 H1 al2 F2 H2) : Ex al F H al2 F2 H2 := by
  have up : ∀ c o, H c = some o → c ∉ al → c ∉ al1 := fun c o h n z => by
    rcases a.new c z with q | q
    · exact n q
    · rw [h] at q; cases q
  refine ⟨a.pre.trans b.pre, a.le.trans b.le, fun c o h n => b.keep c o (a.keep c o h n) (up c o h n), fun c h => ?_, fun c o h n q => b.nf c o (a.nf c o h n q) (up c o q n) (a.keep c o q n)⟩
  rcases b.new c h with q | q
  · exact a.new c q
  · by_cases n : c ∈ al
    · exact .inl n
    · refine .inr ?_
      cases e : H c with
      | none => rfl
      | some o => rw [a.keep c o e n] at q; cases q
theorem Slots.mono {K : PySem.W.Frag} {σ : L2.St} {e : Env} {al al' : List Addr} {F F' : Hp} (s : Slots K σ e al F) (hp : Pre al al') (hl : Le F F') : Slots K σ e al' F' := fun i d h =>
  let ⟨v, h1, h2⟩ := s i d h
  ⟨v, h1, h2.mono hp hl⟩

/-! ### readings -/
/-- how a result stands for a value -/
abbrev RP (α β : Type) := List Addr → Hp → α → β → Prop
abbrev rpD (K : PySem.W.Frag) : RP D V := fun al F d v => Rep K al F v d
abbrev rpL (K : PySem.W.Frag) : RP (List D) (List V) := fun al F d v => RepL K al F v d
abbrev rpB : RP Bool Bool := fun _ _ b c => b = c
/-- what is wanted of a value -/
def FinG {α β : Type} (K : PySem.W.Frag) (rp : RP α β) (σ : L2.St) (al : List Addr) (F H : Hp) (Q : β → Hp → Prop) : α → Env → Mu → Prop := fun d e m =>
  ∀ v H' al' F', SR K σ H' e m al' F' → Ex al F H al' F' H' → rp al' F' d v → Q v H'
abbrev Fin (K : PySem.W.Frag) (σ : L2.St) (al : List Addr) (F H : Hp) (Q : VK) : D → Env → Mu → Prop := FinG K (rpD K) σ al F H Q
/-- no exception leaves (for the time being) -/
def NoE : Nat → List D → Mu → Prop := fun _ _ _ => False
def tG {α β : Type} (K : PySem.W.Frag) (rp : RP α β) (f : M α) : L2.St → Hp → (β → Hp → Prop) → Prop := fun σ H Q => ∃ e m al F, SR K σ H e m al F ∧ (f e m).Ok (FinG K rp σ al F H Q) NoE
abbrev tD (K : PySem.W.Frag) (f : M D) : TE := tG K (rpD K) f
abbrev tDs (K : PySem.W.Frag) (f : M (List D)) : TA := tG K (rpL K) f
abbrev tDT (K : PySem.W.Frag) (f : M Bool) : TT := tG K rpB f
theorem FinG.trans {α β : Type} {K : PySem.W.Frag} {rp : RP α β} {σ : L2.St} {al al1 : List Addr} {F F1 H H1 : Hp} {Q : β → Hp → Prop} (x : Ex al F H al1 F1 H1) {d : α} {e : Env} {m : Mu} (fin : FinG K rp σ al F H Q d e m) : FinG K rp σ al1 F1 H1 Q d e m :=
  fun v H' al' F' sr ex r => fin v H' al' F' sr (x.trans ex) r
/-- what follows a value -/
def tK {α β α' β' : Type} (K : PySem.W.Frag) (rp : RP α β) (rp' : RP α' β') (g : α → M α') (v : β) : L2.St → Hp → (β' → Hp → Prop) → Prop := fun σ H Q => ∃ d e m al F, SR K σ H e m al F ∧ rp al F d v ∧ (g d e m).Ok (FinG K rp' σ al F H Q) NoE
theorem tG_bind {α β α' β' : Type} {K : PySem.W.Frag} {rp : RP α β} {rp' : RP α' β'} {f : M α} {g : α → M α'} {σ : L2.St} {H : Hp} {Q : β' → Hp → Prop} (h : tG K rp' (f.bind g) σ H Q) : tG K rp f σ H (fun v H1 => tK K rp rp' g v σ H1 Q) := by
  obtain ⟨e, m, al, F, sr, ok⟩ := h
  refine ⟨e, m, al, F, sr, (R.Ok.bind ok).mono (fun d e1 m1 ok1 v H1 al1 F1 sr1 ex1 r1 => ?_) fun _ _ _ z => z⟩
  exact ⟨d, e1, m1, al1, F1, sr1, r1, ok1.mono (fun _ _ _ fin => fin.trans ex1) fun _ _ _ z => z⟩
theorem tG_mono {α β : Type} {K : PySem.W.Frag} {rp : RP α β} {f : M α} {σ : L2.St} {H : Hp} {Q Q' : β → Hp → Prop} (h : tG K rp f σ H Q) (hq : ∀ v H1, Q v H1 → Q' v H1) : tG K rp f σ H Q' := by
  obtain ⟨e, m, al, F, sr, ok⟩ := h
  exact ⟨e, m, al, F, sr, ok.mono (fun _ _ _ fin v H' al' F' sr' ex' r' => hq _ _ (fin v H' al' F' sr' ex' r')) fun _ _ _ z => z⟩

theorem _root_.L2.PE.imp {X : Cx} {e : Expr} {t t' : TE} (h : PE X e t) (i : ∀ σ H Q, t' σ H Q → t σ H Q) : PE X e t' := ⟨fun pins s σ H Q I w => h.run pins s σ H Q I (i σ H Q w)⟩
theorem _root_.L2.PT.imp {X : Cx} {e : Expr} {t t' : TT} (h : PT X e t) (i : ∀ σ H Q, t' σ H Q → t σ H Q) : PT X e t' := ⟨fun pins s σ H Q I w => h.run pins s σ H Q I (i σ H Q w)⟩
theorem _root_.L2.PW.imp {X : Cx} {e : Expr} {t t' : TT} (h : PW X e t) (i : ∀ σ H Q, t' σ H Q → t σ H Q) : PW X e t' := ⟨fun wh pins s σ H Q I w => h.run wh pins s σ H Q I (i σ H Q w)⟩
theorem _root_.L2.PA.imp {X : Cx} {e : List Expr} {t t' : TA} (h : PA X e t) (i : ∀ σ H Q, t' σ H Q → t σ H Q) : PA X e t' := ⟨fun pos pins s σ H Q I w => h.run pos pins s σ H Q I (i σ H Q w)⟩
theorem _root_.L2.PS.imp {X : Cx} {e : Stmt} {t t' : TS} (h : PS X e t) (i : ∀ D σ H, t' D σ H → t D σ H) : PS X e t' := ⟨fun pins s σ H D I w => h.run pins s σ H D I (i D σ H w)⟩
theorem _root_.L2.PSs.imp {X : Cx} {e : List Stmt} {t t' : TS} (h : PSs X e t) (i : ∀ D σ H, t' D σ H → t D σ H) : PSs X e t' := ⟨fun pins s σ H D I w => h.run pins s σ H D I (i D σ H w)⟩
theorem _root_.L2.PI.imp {X : Cx} {tg e : Expr} {t t' : TI} (h : PI X tg e t) (i : ∀ σ H Q, t' σ H Q → t σ H Q) : PI X tg e t' := ⟨fun pins s σ H Q I w => h.run pins s σ H Q I (i σ H Q w)⟩
theorem _root_.L2.PG.imp {X : Cx} {e : Expr} {t t' : TG} (h : PG X e t) (i : ∀ v σ H Q, t' v σ H Q → t v σ H Q) : PG X e t' := ⟨fun pins s σ H v u Q I r w => h.run pins s σ H v u Q I r (i v σ H Q w)⟩

/-- an operator's rule, by trees: what it wants of the values, and what it gives -/
def rD2 (K : PySem.W.Frag) (f : Mu → D → D → Option D) : R2 := fun x y H Q => ∃ σ e m al F a b d, SR K σ H e m al F ∧ Rep K al F x a ∧ Rep K al F y b ∧ f m a b = some d ∧ Fin K σ al F H Q d e m

theorem bin_imp {K : PySem.W.Frag} {f : Mu → D → D → Option D} {g h : M D} {r : R2} (hr : ∀ x y H Q, rD2 K f x y H Q → r x y H Q) :
    ∀ σ H Q, tD K (g.bind fun x => h.bind fun y e m => M.of (f m x y) e m) σ H Q → tOp r (tD K g) (tD K h) σ H Q := by
  rintro σ H Q ⟨e, m, al, F, sr, ok⟩
  refine ⟨e, m, al, F, sr, (R.Ok.bind ok).mono (fun d1 e1 m1 ok1 v1 H1 al1 F1 sr1 ex1 r1 => ?_) fun _ _ _ z => z⟩
  refine ⟨e1, m1, al1, F1, sr1, (R.Ok.bind ok1).mono (fun d2 e2 m2 ok2 v2 H2 al2 F2 sr2 ex2 r2 => ?_) fun _ _ _ z => z⟩
  obtain ⟨d, hd, fin⟩ := R.Ok.of ok2
  exact hr _ _ _ _ ⟨σ, e2, m2, al2, F2, d1, d2, d, sr2, r1.mono ex2.pre ex2.le, r2, hd, fun v H' al' F' sr' ex' r' => fin v H' al' F' sr' (ex1.trans (ex2.trans ex')) r'⟩
end Mn
end
section
set_option Elab.async false
set_option linter.all false
set_option maxRecDepth 100000
/-! Operators over trees. -/
namespace Mn
open PySem PySem.Spec PyProof.Rows L2
variable {K : PySem.W.Frag}

/-! ### new objects -/
section
variable {σ : L2.St} {H : Hp} {e : Env} {m : Mu} {al : List Addr} {F : Hp} {p : Addr} {Q : VK}
theorem rd_sub {F H : Hp} {a : Addr} {u : HO} (sub : ∀ a o, F a = some o → H a = some o) (r : Rd F a u) : Rd H a u := by
  rcases r with r | ⟨o, r⟩
  · exact .inl (sub _ _ r)
  · exact .inr ⟨o, sub _ _ r⟩
theorem sqT_sub {F H : Hp} {a : Addr} {xs : List V} (sub : ∀ a o, F a = some o → H a = some o) (h : SqT K F a xs) : SqT K H a xs := h.imp (rd_sub sub) id
theorem sqL_sub {F H : Hp} {a : Addr} {xs : List V} (sub : ∀ a o, F a = some o → H a = some o) (h : SqL K F a xs) : SqL K H a xs := h.imp (rd_sub sub) id
theorem Core.fresh (c : Core K H m al F) (hp : H p = none) : F p = none := by
  cases q : F p with
  | none => rfl
  | some o => rw [c.sub p o q] at hp; cases hp
mutual
theorem repL_newObj {al : List Addr} {F H : Hp} {a p : Addr} {o : HO} (hF : F p = none) (hp : H p = none) : ∀ {d : D}, ObjR K al F H a d → ObjR K al (upd F p o) (upd H p o) a d
  | _, .lst h1 h2 => .lst (by rw [upd_ne (ne_of_none h1 hp)]; exact h1) (h2.mono (Pre.refl _) (Le.new hF))
  | _, .dicK h1 h2 => .dicK (by rw [upd_ne (ne_of_none h1 hp)]; exact h1) (h2.mono (Pre.refl _) (Le.new hF))
  | _, .dicT h1 h2 => .dicT (by rw [upd_ne (ne_of_none h1 hp)]; exact h1) (h2.mono (Pre.refl _) (Le.new hF))
end
theorem Core.new (c : Core K H m al F) (hp : H p = none) (o : HO) : Core K (upd H p o) m al (upd F p o) := by
  have hF := c.fresh hp
  refine ⟨fun a u h => ?_, c.len, c.nd, fun a h => ?_, fun k a d h1 h2 => ?_⟩
  · by_cases q : a = p
    · subst q; rw [upd_same] at h ⊢; exact h
    · rw [upd_ne q] at h ⊢; exact c.sub a u h
  · obtain ⟨u, hu⟩ := c.has a h
    exact ⟨u, by rw [upd_ne (ne_of_none hu hp)]; exact hu⟩
  · obtain ⟨g1, g2⟩ := c.live k a d h1 h2
    have hne : a ≠ p := by
      cases g2 with
      | lst h _ => exact ne_of_none h hp
      | dicK h _ => exact ne_of_none h hp
      | dicT h _ => exact ne_of_none h hp
    exact ⟨by rw [upd_ne hne]; exact g1, repL_newObj hF hp g2⟩
theorem SR.new (sr : SR K σ H e m al F) (hp : H p = none) (o : HO) : SR K σ (upd H p o) e m al (upd F p o) :=
  ⟨sr.core.new hp o, sr.slots.mono (Pre.refl _) (Le.new (sr.core.fresh hp)), sr.len⟩
theorem Ex.newO (hF : F p = none) (hp : H p = none) (o : HO) : Ex al F H al (upd F p o) (upd H p o) :=
  ⟨Pre.refl _, Le.new hF, fun a u h _ => by rw [upd_ne (ne_of_none h hp)]; exact h, fun _ h => .inl h, fun a u h _ q => by rw [upd_ne (ne_of_none q hp)]; exact h⟩
theorem Fin.val {d : D} {v : V} (fin : Fin K σ al F H Q d e m) (sr : SR K σ H e m al F) (r : Rep K al F v d) : Q v H := fin v H al F sr (Ex.refl _ _ _) r
theorem Fin.newL {ds : List D} {xs : List V} (fin : Fin K σ al F H Q (.lst ds) e m) (sr : SR K σ H e m al F) (r : RepL K al F xs ds) (hp : H p = none) : Q (.ref p) (upd H p (.lst xs)) :=
  fin _ _ _ _ (sr.new hp _) (Ex.newO (sr.core.fresh hp) hp _) (.lst upd_same (r.mono (Pre.refl _) (Le.new (sr.core.fresh hp))))
theorem Fin.newT {ds : List D} {xs : List V} (fin : Fin K σ al F H Q (.tup ds) e m) (sr : SR K σ H e m al F) (r : RepL K al F xs ds) (hp : H p = none) : Q (.ref p) (upd H p (.tup xs)) :=
  fin _ _ _ _ (sr.new hp _) (Ex.newO (sr.core.fresh hp) hp _) (.tup (.inl (.inl upd_same)) (r.mono (Pre.refl _) (Le.new (sr.core.fresh hp))))
end

/-! ### what is behind a value -/
/-- a value, a mutable object seen through -/
inductive Thru (K : PySem.W.Frag) (al : List Addr) (F H : Hp) : V → D → Prop
  | rep {v : V} {d : D} : Rep K al F v d → (∀ k, d ≠ .cell k) → Thru K al F H v d
  | obj {a : Addr} {d : D} : F a = none → ObjR K al F H a d → Thru K al F H (.ref a) d
theorem Core.thru {H : Hp} {m : Mu} {al : List Addr} {F : Hp} (c : Core K H m al F) {v : V} {d d' : D} (r : Rep K al F v d) (h : deref m d = some d') : Thru K al F H v d' := by
  cases d with
  | cell k =>
    cases r with
    | cell ha =>
      have e : m[k]? = some (some d') := by
        have h : (m[k]?).join = some d' := h
        cases q : m[k]? with
        | none => rw [q] at h; cases h
        | some o =>
          rw [q] at h
          cases o with
          | none => cases h
          | some x => cases h; rfl
      obtain ⟨g1, g2⟩ := c.live k _ d' ha e
      exact .obj g1 g2
  | _ =>
    cases h
    exact .rep r (fun k z => nomatch z)
theorem Thru.lst {al : List Addr} {F H : Hp} {v : V} {ds : List D} (sub : ∀ a o, F a = some o → H a = some o) (t : Thru K al F H v (.lst ds)) : ∃ a xs, v = .ref a ∧ H a = some (.lst xs) ∧ RepL K al F xs ds := by
  cases t with
  | rep r _ =>
    cases r with
    | lst h1 h2 => exact ⟨_, _, rfl, sub _ _ h1, h2⟩
  | obj _ o =>
    cases o with
    | lst h1 h2 => exact ⟨_, _, rfl, h1, h2⟩
theorem Thru.tup {al : List Addr} {F H : Hp} {v : V} {ds : List D} (sub : ∀ a o, F a = some o → H a = some o) (t : Thru K al F H v (.tup ds)) : ∃ a xs, v = .ref a ∧ SqT K H a xs ∧ RepL K al F xs ds := by
  cases t with
  | rep r _ =>
    cases r with
    | tup h1 h2 => exact ⟨_, _, rfl, sqT_sub sub h1, h2⟩
  | obj _ o => nomatch o
theorem Thru.scr {al : List Addr} {F H : Hp} {v : V} {ns : List Int} (sub : ∀ a o, F a = some o → H a = some o) (t : Thru K al F H v (.scr ns)) : ∃ a, v = .ref a ∧ SqL K H a (ns.map V.int) := by
  cases t with
  | rep r _ =>
    cases r with
    | scr h1 => exact ⟨_, rfl, sqL_sub sub h1⟩
  | obj _ o => nomatch o
theorem repL_ints {al : List Addr} {F : Hp} : ∀ ns : List Int, RepL K al F (ns.map V.int) (ns.map D.int)
  | [] => .nil
  | _ :: r => .cons (.int _) (repL_ints r)

/-! ### data -/
mutual
theorem dp_of {K : PySem.W.Frag} {al : List Addr} {F H : Hp} (sub : ∀ a o, F a = some o → H a = some o) : ∀ {d : D} {v : V} {p : PyData}, Rep K al F v d → d.toPy = some p → Dp K H v p
  | .non, _, _, r, h => by cases r; cases h; exact .non
  | .bl _, _, _, r, h => by cases r; cases h; exact .bl _
  | .int _, _, _, r, h => by cases r; cases h; exact .int _
  | .str _, _, _, r, h => by cases r; cases h; exact .str _
  | .tup ds, _, _, r, h => by
    rw [D.toPy] at h
    cases r with
    | tup h1 h2 =>
      obtain ⟨ps, hps, rfl⟩ := Option.map_eq_some_iff.mp h
      exact .tup (sqT_sub sub h1) (dps_of sub h2 hps)
  | .lst ds, _, _, r, h => by
    rw [D.toPy] at h
    cases r with
    | lst h1 h2 =>
      obtain ⟨ps, hps, rfl⟩ := Option.map_eq_some_iff.mp h
      exact .lst (SqL.of (sub _ _ h1)) (dps_of sub h2 hps)
  | .dic _ _ _, _, _, _, h => by rw [D.toPy] at h; cases h
  | .set _, _, _, _, h => by rw [D.toPy] at h; cases h
  | .scr _, _, _, _, h => by rw [D.toPy] at h; cases h
  | .cell _, _, _, _, h => by rw [D.toPy] at h; cases h
theorem dps_of {K : PySem.W.Frag} {al : List Addr} {F H : Hp} (sub : ∀ a o, F a = some o → H a = some o) : ∀ {ds : List D} {vs : List V} {ps : List PyData}, RepL K al F vs ds → D.toPys ds = some ps → DpAll K H vs ps
  | [], _, _, r, h => by cases r; cases h; exact .nil
  | d :: ds, _, _, r, h => by
    cases r with
    | cons h1 h2 =>
      rw [D.toPys] at h
      cases q : d.toPy with
      | none => rw [q] at h; cases h
      | some p =>
        cases q' : D.toPys ds with
        | none => rw [q, q'] at h; cases h
        | some ps =>
          rw [q, q'] at h
          cases h
          exact .cons (dp_of sub h1 q) (dps_of sub h2 q')
end
theorem pyOf_spec {m : Mu} {d : D} {p : PyData} (h : pyOf m d = some p) : ∃ d', deref m d = some d' ∧ d'.toPy = some p ∧ SeqAt.shaped p = true := by
  unfold pyOf at h
  cases q : deref m d with
  | none => rw [q] at h; cases h
  | some d' =>
    rw [q] at h
    change (match d'.toPy with | some p => if SeqAt.shaped p = true then some p else none | none => none) = some p at h
    cases q' : d'.toPy with
    | none => rw [q'] at h; cases h
    | some p' =>
      rw [q'] at h
      change (if SeqAt.shaped p' = true then some p' else none) = some p at h
      by_cases z : SeqAt.shaped p' = true
      · rw [if_pos z] at h
        cases h
        exact ⟨d', rfl, q', z⟩
      · rw [if_neg z] at h; cases h
theorem Core.data {K : PySem.W.Frag} {H : Hp} {m : Mu} {al : List Addr} {F : Hp} (c : Core K H m al F) {v : V} {d : D} {p : PyData} (r : Rep K al F v d) (h : pyOf m d = some p) : Dp K H v p ∧ SeqAt.shaped p = true := by
  obtain ⟨d', h1, h2, h3⟩ := pyOf_spec h
  refine ⟨?_, h3⟩
  cases c.thru r h1 with
  | rep r' _ => exact dp_of c.sub r' h2
  | obj _ o =>
    cases o with
    | lst g1 g2 =>
      rw [D.toPy] at h2
      obtain ⟨ps, hps, rfl⟩ := Option.map_eq_some_iff.mp h2
      exact .lst (SqL.of g1) (dps_of c.sub g2 hps)
    | dicK => rw [D.toPy] at h2; cases h2
    | dicT => rw [D.toPy] at h2; cases h2

/-! ### the operators -/
section
variable {X : Cx}
theorem small64_ok {i : Int} (h : small64 i = true) : -(2 ^ 64) < i ∧ i < 2 ^ 64 := by
  unfold small64 at h
  simp only [Bool.and_eq_true, decide_eq_true_eq] at h
  omega
theorem lim_ok {xs : List D} (h : lim xs = true) : xs.length ≤ sizeLine := by
  unfold lim at h
  rw [sizeLine_eq]
  exact of_decide_eq_true h
theorem op_addD : OpR X (binaryOp .Add) (rD2 X.K fun m => binD m .add) := by
  rintro pins s σ H x y v u Q I rx ry ⟨τ, e, m, al, F, a, b, d, sr, ra, rb, hd, fin⟩
  have seqs : ∀ {xs ys : List D}, deref m a = some (.lst xs) → deref m b = some (.lst ys) → (if lim (xs ++ ys) = true then some (D.lst (xs ++ ys)) else none) = some d → wpAny (model X.prog X.w) X.A (binaryOp .Add v u) (EP X pins σ Q) X.xe s := fun {xs ys} ha hb hd => by
    obtain ⟨p, vs, rfl, h1, h2⟩ := (sr.core.thru ra ha).lst sr.core.sub
    obtain ⟨q, us, rfl, g1, g2⟩ := (sr.core.thru rb hb).lst sr.core.sub
    by_cases z : lim (xs ++ ys) = true
    · rw [if_pos z] at hd
      cases hd
      have zl := lim_ok z
      refine op_cat pins s σ H _ _ v u Q I rx ry ⟨p, q, vs, us, rfl, rfl, h1, g1, ?_, fun l hl => fin.newL sr (h2.app g2) hl⟩
      rw [h2.length, g2.length, ← List.length_append]
      exact zl
    · rw [if_neg z] at hd; cases hd
  cases ra with
  | int i =>
    cases rb with
    | int j => cases hd; exact op_add pins s σ H _ _ v u Q I rx ry ⟨i, j, rfl, rfl, fin.val sr (.int _)⟩
    | _ => simp [binD, deref] at hd
  | str i =>
    cases rb with
    | str j =>
      simp only [binD] at hd
      split at hd
      · rename_i hz
        cases hd
        exact op_add_str pins s σ H _ _ v u Q I rx ry ⟨i, j, rfl, rfl, by rw [sizeLine_eq]; exact hz, fin.val sr (.str _)⟩
      · cases hd
    | _ => simp [binD, deref] at hd
  | @tup p vs xs h1 h2 =>
    cases rb with
    | @tup q us ys g1 g2 =>
      simp only [binD] at hd
      split at hd
      · rename_i hz
        cases hd
        have zl := lim_ok hz
        rw [List.length_append] at zl
        have r := h2.app g2
        refine op_catA pins s σ H _ _ v u Q I rx ry ⟨p, q, vs, us, rfl, rfl, sqT_sub sr.core.sub h1, sqT_sub sr.core.sub g1, by rw [h2.length, g2.length]; exact zl, fun e => ?_, fun _ e => ?_, fun _ _ l hl => fin.newT sr r hl⟩
        · subst e
          exact fin.val sr (.tup g1 r)
        · subst e
          refine fin.val sr (.tup h1 ?_)
          simpa using r
      · cases hd
    | _ => simp [binD, deref] at hd
  | lst h1 h2 =>
    cases rb with
    | lst g1 g2 => exact seqs rfl rfl hd
    | @cell k q g =>
      simp only [binD] at hd
      cases z : deref m (.cell k) with
      | none => rw [z] at hd; simp [deref] at hd
      | some w =>
        rw [z] at hd
        cases w with
        | lst ys => exact seqs rfl z hd
        | _ => simp [deref] at hd
    | _ => simp [binD, deref] at hd
  | @cell k q g =>
    simp only [binD] at hd
    cases z : deref m (.cell k) with
    | none => rw [z] at hd; cases b <;> simp at hd
    | some w =>
      rw [z] at hd
      cases w with
      | lst xs =>
        cases z' : deref m b with
        | none => rw [z'] at hd; cases b <;> simp at hd
        | some w' =>
          rw [z'] at hd
          cases w' with
          | lst ys => exact seqs z z' (by cases b <;> simpa using hd)
          | _ => cases b <;> simp at hd
      | _ => cases b <;> simp at hd
  | _ => cases b <;> simp [binD, deref] at hd
theorem op_subD : OpR X (binaryOp .Sub) (rD2 X.K fun m => binD m .sub) := by
  rintro pins s σ H x y v u Q I rx ry ⟨τ, e, m, al, F, a, b, d, sr, ra, rb, hd, fin⟩
  cases ra <;> cases rb <;> first | (simp [binD] at hd; done) | skip
  cases hd
  exact op_sub pins s σ H _ _ v u Q I rx ry ⟨_, _, rfl, rfl, fin.val sr (.int _)⟩
theorem op_modD : OpR X (binaryOp .Mod) (rD2 X.K fun m => binD m .mod) := by
  rintro pins s σ H x y v u Q I rx ry ⟨τ, e, m, al, F, a, b, d, sr, ra, rb, hd, fin⟩
  cases ra <;> cases rb <;> first | (simp [binD] at hd; done) | skip
  simp only [binD] at hd
  split at hd
  · cases hd
    rename_i hz
    exact op_mod pins s σ H _ _ v u Q I rx ry ⟨_, _, rfl, rfl, hz, fin.val sr (.int _)⟩
  · cases hd
theorem op_fdivD : OpR X (binaryOp .FloorDiv) (rD2 X.K fun m => binD m .fdiv) := by
  rintro pins s σ H x y v u Q I rx ry ⟨τ, e, m, al, F, a, b, d, sr, ra, rb, hd, fin⟩
  cases ra <;> cases rb <;> first | (simp [binD] at hd; done) | skip
  simp only [binD] at hd
  split at hd
  · cases hd
    rename_i hz
    exact op_fdiv pins s σ H _ _ v u Q I rx ry ⟨_, _, rfl, rfl, hz, fin.val sr (.int _)⟩
  · cases hd
end
end Mn
end
section
set_option Elab.async false
set_option linter.all false
set_option maxRecDepth 100000
/-! More operators over trees: products, powers, comparisons. -/
namespace Mn
open PySem PySem.Spec PyProof.Rows L2
variable {K : PySem.W.Frag}
section
variable {X : Cx}
theorem op_mulD : OpR X (binaryOp .Mult) (rD2 X.K fun m => binD m .mul) := by
  rintro pins s σ H x y v u Q I rx ry ⟨τ, e, m, al, F, a, b, d, sr, ra, rb, hd, fin⟩
  have reps : ∀ {xs : List D} {k : Int}, deref m a = some (.lst xs) → b = .int k → (if -9223372036854775808 ≤ k ∧ k < 9223372036854775808 ∧ xs.length * k.toNat ≤ 16777216 then some (D.lst (List.replicate k.toNat xs).flatten) else none) = some d →
      wpAny (model X.prog X.w) X.A (binaryOp .Mult v u) (EP X pins σ Q) X.xe s := fun {xs k} ha hb hd2 => by
    subst hb
    cases rb
    obtain ⟨p, vs, rfl, h1, h2⟩ := (sr.core.thru ra ha).lst sr.core.sub
    split at hd2
    · rename_i hz
      cases hd2
      refine op_rep pins s σ H _ _ v u Q I rx ry ⟨p, k, vs, rfl, rfl, h1, by omega, by omega, by rw [sizeLine_eq, h2.length]; exact hz.2.2, fun l hl => fin.newL sr ?_ hl⟩
      have rep : ∀ n : Nat, RepL X.K al F (List.replicate n vs).flatten (List.replicate n xs).flatten := fun n => by
        induction n with
        | zero => exact .nil
        | succ n ih =>
          rw [List.replicate_succ, List.replicate_succ, List.flatten_cons, List.flatten_cons]
          exact h2.app ih
      exact rep _
    · cases hd2
  cases rb with
  | int j =>
    cases ra with
    | int i =>
      simp only [binD] at hd
      split at hd
      · rename_i hz
        cases hd
        refine op_mul pins s σ H _ _ v u Q I rx ry ⟨i, j, rfl, rfl, ?_, fin.val sr (.int _)⟩
        rcases Bool.or_eq_true_iff.mp hz with z | z
        · exact .inl (small64_ok z)
        · exact .inr (small64_ok z)
      · cases hd
    | lst h1 h2 => exact reps rfl rfl hd
    | @cell k p g =>
      simp only [binD] at hd
      cases z : deref m (.cell k) with
      | none => rw [z] at hd; cases hd
      | some w =>
        rw [z] at hd
        cases w with
        | lst xs => exact reps z rfl hd
        | _ => cases hd
    | _ => simp [binD, deref] at hd
  | _ => cases ra <;> simp [binD] at hd
theorem op_powD : OpR X (binaryOp .Pow) (rD2 X.K fun m => binD m .pow) := by
  rintro pins s σ H x y v u Q I rx ry ⟨τ, e, m, al, F, a, b, d, sr, ra, rb, hd, fin⟩
  cases ra <;> cases rb <;> first | (simp [binD] at hd; done) | skip
  simp only [binD] at hd
  split at hd
  · rename_i hz
    cases hd
    obtain ⟨t, rfl⟩ := rx
    obtain ⟨t', rfl⟩ := ry
    exact pow_int hz.1 (by have := hz.2; omega) ⟨.int _, H, I.tok _, ⟨_, rfl⟩, fin.val sr (.int _)⟩
  · cases hd
theorem op_binD : ∀ op : Bop, OpR X (binaryOp op.op) (rD2 X.K fun m => binD m op)
  | .add => op_addD
  | .sub => op_subD
  | .mul => op_mulD
  | .mod => op_modD
  | .fdiv => op_fdivD
  | .pow => op_powD

/-! ### comparisons -/
theorem op_eqDD (hu : X.A.units + 64 < cLine) : OpR X (compareOp .Eq) (rD2 X.K fun m a b => (eqD m a b).map .bl) := by
  rintro pins s σ H x y v u Q I rx ry ⟨τ, e, m, al, F, a, b, d, sr, ra, rb, hd, fin⟩
  obtain ⟨k, hk, rfl⟩ := Option.map_eq_some_iff.mp hd
  unfold eqD at hk
  cases h1 : pyOf m a with
  | none => rw [h1] at hk; cases hk
  | some p =>
    cases h2 : pyOf m b with
    | none => rw [h1, h2] at hk; cases hk
    | some q =>
      rw [h1, h2] at hk
      cases hk
      obtain ⟨d1, s1⟩ := sr.core.data ra h1
      obtain ⟨d2, s2⟩ := sr.core.data rb h2
      exact op_eqD hu pins s σ H x y v u Q I rx ry ⟨p, q, d1, d2, s1, s2, fin.val sr (.bl _)⟩
theorem op_neDD (hu : X.A.units + 64 < cLine) : OpR X (compareOp .NotEq) (rD2 X.K fun m a b => ((eqD m a b).map (!·)).map .bl) := by
  rintro pins s σ H x y v u Q I rx ry ⟨τ, e, m, al, F, a, b, d, sr, ra, rb, hd, fin⟩
  obtain ⟨k', hk', rfl⟩ := Option.map_eq_some_iff.mp hd
  obtain ⟨k, hk, rfl⟩ := Option.map_eq_some_iff.mp hk'
  unfold eqD at hk
  cases h1 : pyOf m a with
  | none => rw [h1] at hk; cases hk
  | some p =>
    cases h2 : pyOf m b with
    | none => rw [h1, h2] at hk; cases hk
    | some q =>
      rw [h1, h2] at hk
      have hk := Option.some.inj hk
      subst hk
      obtain ⟨d1, s1⟩ := sr.core.data ra h1
      obtain ⟨d2, s2⟩ := sr.core.data rb h2
      exact op_neD hu pins s σ H x y v u Q I rx ry ⟨p, q, d1, d2, s1, s2, fin.val sr (.bl _)⟩
theorem op_ltDD (hu : X.A.units + 64 < cLine) : OpR X (compareOp .Lt) (rD2 X.K fun m a b => (ltD m a b).map .bl) := by
  rintro pins s σ H x y v u Q I rx ry ⟨τ, e, m, al, F, a, b, d, sr, ra, rb, hd, fin⟩
  obtain ⟨k, hk, rfl⟩ := Option.map_eq_some_iff.mp hd
  cases ra with
  | int i =>
    cases rb with
    | int j => cases hk; exact op_lt pins s σ H _ _ v u Q I rx ry ⟨i, j, rfl, rfl, fin.val sr (.bl _)⟩
    | _ => simp [ltD] at hk
  | str i =>
    cases rb with
    | str j => cases hk; exact op_lt_str pins s σ H _ _ v u Q I rx ry ⟨i, j, rfl, rfl, fin.val sr (.bl _)⟩
    | _ => simp [ltD] at hk
  | @tup p vs xs h1 h2 =>
    cases rb with
    | @tup q us ys g1 g2 =>
      simp only [ltD] at hk
      cases z1 : pyOf m (.tup xs) with
      | none => rw [z1] at hk; cases hk
      | some p' =>
        cases z2 : pyOf m (.tup ys) with
        | none => rw [z1, z2] at hk; cases hk
        | some q' =>
          rw [z1, z2] at hk
          simp only at hk
          split at hk
          · rename_i hal
            cases hk
            obtain ⟨d1, s1⟩ := sr.core.data (Rep.tup h1 h2) z1
            obtain ⟨d2, s2⟩ := sr.core.data (Rep.tup g1 g2) z2
            obtain ⟨as, r1⟩ := Dp.reads I p' _ v d1 rx
            obtain ⟨bs, r2⟩ := Dp.reads I q' _ u d2 ry
            have hn : p' ≠ .none := by
              obtain ⟨d', e1, e2, _⟩ := pyOf_spec z1
              cases e1
              rw [D.toPy] at e2
              obtain ⟨ps, _, rfl⟩ := Option.map_eq_some_iff.mp e2
              exact fun z => nomatch z
            exact PySem.W.rcLt_alike p' q' X.A s v u as bs r1 r2 hal hn (SeqAt.room_of_shaped s1 hu) X.prog X.w X.xe _ ⟨.bl _, H, I, rfl, fin.val sr (.bl _)⟩
          · cases hk
    | _ => simp [ltD] at hk
  | _ => cases rb <;> simp [ltD] at hk
theorem op_gtDD : OpR X (compareOp .Gt) (rD2 X.K fun m a b => (cmpD m .gt a b).map .bl) := by
  rintro pins s σ H x y v u Q I rx ry ⟨τ, e, m, al, F, a, b, d, sr, ra, rb, hd, fin⟩
  obtain ⟨k, hk, rfl⟩ := Option.map_eq_some_iff.mp hd
  cases ra <;> cases rb <;> first | (simp [cmpD] at hk; done) | skip
  cases hk
  exact op_gt pins s σ H _ _ v u Q I rx ry ⟨_, _, rfl, rfl, fin.val sr (.bl _)⟩
theorem op_geDD : OpR X (compareOp .GtE) (rD2 X.K fun m a b => (cmpD m .ge a b).map .bl) := by
  rintro pins s σ H x y v u Q I rx ry ⟨τ, e, m, al, F, a, b, d, sr, ra, rb, hd, fin⟩
  obtain ⟨k, hk, rfl⟩ := Option.map_eq_some_iff.mp hd
  cases ra <;> cases rb <;> first | (simp [cmpD] at hk; done) | skip
  cases hk
  exact op_ge pins s σ H _ _ v u Q I rx ry ⟨_, _, rfl, rfl, fin.val sr (.bl _)⟩
theorem op_leDD : OpR X (compareOp .LtE) (rD2 X.K fun m a b => (cmpD m .le a b).map .bl) := by
  rintro pins s σ H x y v u Q I rx ry ⟨τ, e, m, al, F, a, b, d, sr, ra, rb, hd, fin⟩
  obtain ⟨k, hk, rfl⟩ := Option.map_eq_some_iff.mp hd
  cases ra <;> cases rb <;> first | (simp [cmpD] at hk; done) | skip
  · cases hk
    exact op_le pins s σ H _ _ v u Q I rx ry ⟨_, _, rfl, rfl, fin.val sr (.bl _)⟩
  · cases hk
    exact op_le_str pins s σ H _ _ v u Q I rx ry ⟨_, _, rfl, rfl, fin.val sr (.bl _)⟩
end
end Mn
end
section
set_option Elab.async false
set_option linter.all false
set_option maxRecDepth 100000
/-! is, in, subscripts over trees. -/
namespace Mn
open PySem PySem.Spec PyProof.Rows L2
variable {K : PySem.W.Frag}

/-! ### dicts -/
theorem keqF_kD (a b : Key) : keqF (kD a) (kD b) = decide (a = b) := by
  cases a <;> cases b <;> simp [kD, keqF]
theorem keqFs_kD : ∀ a b : List Key, keqFs (a.map kD) (b.map kD) = decide (a = b)
  | [], [] => by simp [keqFs]
  | [], _ :: _ => by simp [keqFs]
  | _ :: _, [] => by simp [keqFs]
  | x :: xs, y :: ys => by
    rw [List.map_cons, List.map_cons, keqFs, keqF_kD, keqFs_kD xs ys, ← Bool.decide_and]
    exact decide_eq_decide.mpr ⟨fun h => by rw [h.1, h.2], fun h => ⟨(List.cons.inj h).1, (List.cons.inj h).2⟩⟩
theorem keq_kD (a b : Key) : keq (kD a) (kD b) = decide (a = b) := by
  rw [← keqF_kD]
  cases a <;> cases b <;> rfl
theorem keq_kDT (a b : List Key) : keq (.tup (a.map kD)) (.tup (b.map kD)) = decide (a = b) := keqFs_kD a b
theorem flatKey_of {d : D} (h : flatKey d = true) : ∃ k, d = kD k := by
  cases d with
  | int i => exact ⟨.inl i, rfl⟩
  | str x => exact ⟨.inr x, rfl⟩
  | _ => exact absurd h (by simp [flatKey])
theorem flatKeys_of : ∀ {ds : List D}, ds.all flatKey = true → ∃ ks : List Key, ds = ks.map kD
  | [], _ => ⟨[], rfl⟩
  | d :: ds, h => by
    rw [List.all_cons, Bool.and_eq_true] at h
    obtain ⟨k, rfl⟩ := flatKey_of h.1
    obtain ⟨ks, rfl⟩ := flatKeys_of h.2
    exact ⟨k :: ks, rfl⟩
theorem rep_kD {al : List Addr} {F : Hp} {v : V} {k : Key} (r : Rep K al F v (kD k)) : v = kV k := by
  cases k with
  | inl i => cases r; rfl
  | inr x => cases r; rfl
theorem repL_kD {al : List Addr} {F : Hp} : ∀ {ks : List Key} {vs : List V}, RepL K al F vs (ks.map kD) → vs = ks.map kV
  | [], _, r => by cases r; rfl
  | k :: ks, _, r => by
    cases r with
    | cons h1 h2 => rw [rep_kD h1, repL_kD h2]; rfl
theorem kV_rep {al : List Addr} {F : Hp} (k : Key) : Rep K al F (kV k) (kD k) := by
  cases k with
  | inl i => exact .int i
  | inr x => exact .str x
theorem kVs_rep {al : List Addr} {F : Hp} : ∀ ks : List Key, RepL K al F (ks.map kV) (ks.map kD)
  | [] => .nil
  | k :: ks => .cons (kV_rep k) (kVs_rep ks)
/-- the value at a key, by trees and by values -/
theorem look_val {κ : Type} [DecidableEq κ] {al : List Addr} {F : Hp} (kd : κ → D) (hk : ∀ a b, keq (kd a) (kd b) = decide (a = b)) (k : κ) : ∀ {kvs : List (κ × V)} {vs : List D}, RepL K al F (kvs.map fun p => p.2) vs →
    match lookD (kvs.map fun p => kd p.1) vs (kd k) with
    | some d => ∃ v, valV kvs k = some v ∧ Rep K al F v d
    | none => valV kvs k = none
  | [], _, r => by cases r; exact valV_nil
  | (k', v) :: kvs, _, r => by
    cases r with
    | @cons _ _ d ds h1 h2 =>
      have ih := look_val kd hk k h2
      simp only [List.map_cons, lookD, hk]
      by_cases e : k' = k
      · subst e
        simp only [decide_true, if_true]
        exact ⟨v, valV_pos (p := (k', v)) rfl, h1⟩
      · simp only [decide_eq_false e, Bool.false_eq_true, if_false]
        rw [valV_neg (p := (k', v)) e]
        exact ih
theorem has_val {κ : Type} [DecidableEq κ] (kd : κ → D) (hk : ∀ a b, keq (kd a) (kd b) = decide (a = b)) (k : κ) : ∀ kvs : List (κ × V), hasD (kvs.map fun p => kd p.1) (kd k) = (valV kvs k).isSome
  | [] => rfl
  | (k', v) :: kvs => by
    have ih := has_val kd hk k kvs
    unfold hasD at ih ⊢
    rw [List.map_cons, List.any_cons, hk, ih]
    by_cases e : k' = k
    · rw [valV_pos (p := (k', v)) e, decide_eq_true e]; rfl
    · rw [valV_neg (p := (k', v)) e, decide_eq_false e]; rfl
/-! ### dicts that are read with any tuple as key -/
def DGetS (K : PySem.W.Frag) (H : Hp) (a : Addr) (y : V) (r : Option V) : Prop :=
  (∃ kvs k, Rd H a (.dK kvs) ∧ y = kV k ∧ r = valV kvs k) ∨ ∃ kvs k b, Rd H a (.dT kvs) ∧ y = .ref b ∧ SqT K H b (k.map kV) ∧ r = valV kvs k
section
variable {X : Cx} {pins : List (Addr × Obj)} {σ : L2.St} {H : Hp} {s : Shared} {a : Addr} {y v d : V} {u r : Value} {o : Option V} {A : Around} {E : Value → Shared → Prop}
theorem key_ofS {ks : List Key} (I : Inv X pins σ H s) (e : SqT X.K H a (ks.map kV)) : (tupleKind (mixKind X.prog X.w)).is s.heap ks a := by
  obtain ⟨its, r, ⟨o, h1, h2, n, h3⟩, _⟩ := I.tuple e
  exact ⟨o, its.toArray, n, h1, h2, h3, by simpa using items_are r⟩
theorem dS_typeIs (I : Inv X pins σ H s) (g : DGetS X.K H a y o) : s.TypeIs (.ref a) "dict" := by
  rcases g with ⟨kvs, k, e, _, _⟩ | ⟨kvs, k, b, e, _, _, _⟩
  · obtain ⟨_, _, vs, _, dd⟩ := dk_rd I.hok e
    exact dd.typeIs
  · obtain ⟨_, _, xs, _, dd⟩ := dt_rd I.hok e
    exact dd.typeIs
theorem dS_getItem {Q : Value → Shared → Prop} (hu : A.units + 1 < cLine) (I : Inv X pins σ H s) (g : DGetS X.K H a y (some v)) (ry : RelV y u) (h : ∀ w' s', Inv X pins σ H s' → RelV v w' → Q w' s') :
    wpAny (model X.prog X.w) A (getItem (.ref a) u) Q E s := by
  rcases g with ⟨kvs, k, e, ey, l⟩ | ⟨kvs, k, b, e, ey, eb, l⟩
  · exact d_getItem hu I (.inl ⟨kvs, k, e, ey, l⟩) ry h
  · subst ey
    cases (show u = Value.ref b from ry)
    obtain ⟨z, hd, xs, rel, dd⟩ := dt_rd I.hok e
    obtain ⟨w', hw, rw'⟩ := RelO.some_of (v := v) (o := (atKey xs k).map (·.2)) (by rw [l]; exact rel.val k)
    obtain ⟨p, hp, hp2⟩ := Option.map_eq_some_iff.mp hw
    refine wpAny_getItem_heap (tupleKind_room_in1 hu) (key_ofS I eb) dd hp ?_
    rw [hp2]
    exact h w' _ (I.tok _) rw'
theorem dS_in {Q : Value → Shared → Prop} (hu : A.units + 1 < cLine) (I : Inv X pins σ H s) (g : DGetS X.K H a y o) (ry : RelV y u) (h : ∀ s', Inv X pins σ H s' → Q (.bool o.isSome) s') :
    wpAny (model X.prog X.w) A (compareOp .In u (.ref a)) Q E s := by
  rcases g with ⟨kvs, k, e, ey, l⟩ | ⟨kvs, k, b, e, ey, eb, l⟩
  · exact d_in hu I (.inl ⟨kvs, k, e, ey, l⟩) ry h
  · subst ey
    cases (show u = Value.ref b from ry)
    obtain ⟨z, hd, xs, rel, dd⟩ := dt_rd I.hok e
    refine wpAny_in_heap (tupleKind_room_in1 hu) (key_ofS I eb) hd dd ?_
    have q := (rel.val k).isSome_eq
    rw [Option.isSome_map] at q
    rw [← q, ← l]
    exact h _ (I.tok _)
theorem dS_notIn {Q : Value → Shared → Prop} (hu : A.units + 1 < cLine) (I : Inv X pins σ H s) (g : DGetS X.K H a y o) (ry : RelV y u) (h : ∀ s', Inv X pins σ H s' → Q (.bool (!o.isSome)) s') :
    wpAny (model X.prog X.w) A (compareOp .NotIn u (.ref a)) Q E s := by
  rcases g with ⟨kvs, k, e, ey, l⟩ | ⟨kvs, k, b, e, ey, eb, l⟩
  · exact d_notIn hu I (.inl ⟨kvs, k, e, ey, l⟩) ry h
  · subst ey
    cases (show u = Value.ref b from ry)
    obtain ⟨z, hd, xs, rel, dd⟩ := dt_rd I.hok e
    refine wpAny_notIn_heap (tupleKind_room_in1 hu) (key_ofS I eb) hd dd ?_
    have q := (rel.val k).isSome_eq
    rw [Option.isSome_map] at q
    rw [← q, ← l]
    exact h _ (I.tok _)
end
/-- a dict that is read -/
structure DicAt (K : PySem.W.Frag) (al : List Addr) (F H : Hp) (t : Bool) (ks vs : List D) (a : Addr) : Prop where
  get : ∀ y v, Rep K al F v y → isKey t y = true → ∃ o, DGetS K H a v o ∧ hasD ks y = o.isSome ∧ ∀ d, lookD ks vs y = some d → ∃ x, o = some x ∧ Rep K al F x d
theorem dicAtK {al : List Addr} {F H : Hp} {a : Addr} {kvs : List (Key × V)} {vs : List D} (h : Rd H a (.dK kvs)) (r : RepL K al F (kvs.map fun p => p.2) vs) : DicAt K al F H false (kvs.map fun p => kD p.1) vs a := by
  refine ⟨fun y v rv hy => ?_⟩
  obtain ⟨k, rfl⟩ := flatKey_of (show flatKey y = true from hy)
  have ev := rep_kD rv
  subst ev
  refine ⟨valV kvs k, .inl ⟨kvs, k, h, rfl, rfl⟩, has_val kD keq_kD k kvs, fun d e => ?_⟩
  have q := look_val kD keq_kD k r
  rw [e] at q
  exact q
theorem dicAtT {al : List Addr} {F H : Hp} {a : Addr} {kvs : List (List Key × V)} {vs : List D} (sub : ∀ a o, F a = some o → H a = some o) (h : Rd H a (.dT kvs)) (r : RepL K al F (kvs.map fun p => p.2) vs) :
    DicAt K al F H true (kvs.map fun p => .tup (p.1.map kD)) vs a := by
  refine ⟨fun y v rv hy => ?_⟩
  cases y with
  | tup xs =>
    obtain ⟨k, rfl⟩ := flatKeys_of (show xs.all flatKey = true from hy)
    cases rv with
    | tup h1 h2 =>
      have ev := repL_kD h2
      subst ev
      refine ⟨valV kvs k, .inr ⟨kvs, k, _, h, rfl, sqT_sub sub h1, rfl⟩, has_val (fun k => .tup (k.map kD)) keq_kDT k kvs, fun d e => ?_⟩
      have q := look_val (fun k => .tup (k.map kD)) keq_kDT k r
      rw [e] at q
      exact q
  | _ => exact absurd hy (by simp [isKey])
theorem Thru.dic {al : List Addr} {F H : Hp} {v : V} {t : Bool} {ks vs : List D} (sub : ∀ a o, F a = some o → H a = some o) (h : Thru K al F H v (.dic t ks vs)) : ∃ a, v = .ref a ∧ DicAt K al F H t ks vs a := by
  cases h with
  | rep r _ =>
    cases r with
    | dicK h1 h2 => exact ⟨_, rfl, dicAtK (.inl (sub _ _ h1)) h2⟩
    | dicT h1 h2 => exact ⟨_, rfl, dicAtT sub (.inl (sub _ _ h1)) h2⟩
  | obj _ o =>
    cases o with
    | dicK h1 h2 => exact ⟨_, rfl, dicAtK (.inl h1) h2⟩
    | dicT h1 h2 => exact ⟨_, rfl, dicAtT sub (.inl h1) h2⟩

section
variable {X : Cx}
/-! ### is -/
theorem rep_non {al : List Addr} {F : Hp} {v : V} {a : D} {k : Bool} (r : Rep K al F v a) (h : isD a .non = some k) : decide (v = .non) = k := by
  cases r <;> simp_all [isD]
theorem op_isD : OpR X (compareOp .Is) (rD2 X.K fun m a b => (isD a b).map .bl) := by
  rintro pins s σ H x y v u Q I rx ry ⟨τ, e, m, al, F, a, b, d, sr, ra, rb, hd, fin⟩
  obtain ⟨k, hk, rfl⟩ := Option.map_eq_some_iff.mp hd
  cases rb with
  | non => exact op_isN pins s σ H _ _ v u Q I rx ry ⟨rfl, by rw [rep_non ra hk]; exact fin.val sr (.bl _)⟩
  | bl j =>
    cases ra with
    | bl i => cases hk; exact op_isBl pins s σ H _ _ v u Q I rx ry ⟨i, j, rfl, rfl, fin.val sr (.bl _)⟩
    | _ => simp [isD] at hk
  | _ => cases ra <;> simp [isD] at hk
theorem op_isNotD : OpR X (compareOp .IsNot) (rD2 X.K fun m a b => ((isD a b).map (!·)).map .bl) := by
  rintro pins s σ H x y v u Q I rx ry ⟨τ, e, m, al, F, a, b, d, sr, ra, rb, hd, fin⟩
  obtain ⟨k', hk', rfl⟩ := Option.map_eq_some_iff.mp hd
  obtain ⟨k, hk, rfl⟩ := Option.map_eq_some_iff.mp hk'
  cases rb with
  | non => exact op_notN pins s σ H _ _ v u Q I rx ry ⟨rfl, by rw [rep_non ra hk]; exact fin.val sr (.bl _)⟩
  | bl j =>
    cases ra with
    | bl i =>
      have hk := Option.some.inj hk
      subst hk
      exact op_notBl pins s σ H _ _ v u Q I rx ry ⟨i, j, rfl, rfl, fin.val sr (.bl _)⟩
    | _ => simp [isD] at hk
  | _ => cases ra <;> simp [isD] at hk

/-! ### in -/
/-- the rules of in and not in, by the answer -/
theorem op_memAny (hu : X.A.units + 65 < cLine) (neg : Bool) {op : CmpOp} (hop : op = if neg = true then .NotIn else .In) : OpR X (compareOp op) (rD2 X.K fun m a b => ((memD m a b).map fun k => if neg = true then !k else k).map .bl) := by
  rintro pins s σ H x y v u Q I rx ry ⟨τ, e, m, al, F, a, b, d, sr, ra, rb, hd, fin⟩
  obtain ⟨k', hk', rfl⟩ := Option.map_eq_some_iff.mp hd
  obtain ⟨k, hk, rfl⟩ := Option.map_eq_some_iff.mp hk'
  have fin' := fin.val sr (.bl _)
  -- data
  have data : ∀ {p : PyData} {qs : List PyData}, pyOf m a = some p → (∃ c, pyOf m c = some (.list qs) ∧ Dp X.K H y (.list qs)) → k = (qs.any fun z => PyData.eqv z p) → wpAny (model X.prog X.w) X.A (compareOp op v u) (EP X pins σ Q) X.xe s := fun {p qs} h1 ⟨c, h2, d2⟩ ek => by
    obtain ⟨d1, s1⟩ := sr.core.data ra h1
    obtain ⟨_, _, _, s2⟩ := pyOf_spec h2
    subst ek
    cases neg with
    | true => subst hop; exact op_notInD hu pins s σ H x y v u Q I rx ry ⟨p, qs, d1, d2, s1, s2, fin'⟩
    | false => subst hop; exact op_inD hu pins s σ H x y v u Q I rx ry ⟨p, qs, d1, d2, s1, s2, fin'⟩
  unfold memD at hk
  cases z : deref m b with
  | none => rw [z] at hk; cases a <;> simp at hk
  | some b' =>
    rw [z] at hk
    have th := sr.core.thru rb z
    cases b' with
    | str w =>
      cases a with
      | str c =>
        cases th with
        | rep r _ =>
          cases r
          cases ra
          have hk := Option.some.inj hk
          subst hk
          cases neg with
          | true => subst hop; exact op_notin_str pins s σ H _ _ v u Q I rx ry ⟨c, w, rfl, rfl, fin'⟩
          | false => subst hop; exact op_in_str pins s σ H _ _ v u Q I rx ry ⟨c, w, rfl, rfl, fin'⟩
        | obj _ o => nomatch o
      | _ => simp at hk
    | dic t ks vs =>
      have hk : (if isKey t a = true then some (hasD ks a) else none) = some k := by cases a <;> exact hk
      by_cases hkey : isKey t a = true
      · rw [if_pos hkey] at hk
        have hk := Option.some.inj hk
        obtain ⟨p, rfl, da⟩ := th.dic sr.core.sub
        obtain ⟨o, g, ho, _⟩ := da.get a x ra hkey
        have hu1 : X.A.units + 1 < cLine := by omega
        cases (show u = Value.ref p from ry)
        rw [← hk, ho] at fin'
        cases neg with
        | true => subst hop; exact dS_notIn hu1 I g rx fun s3 I3 => ⟨.bl (!o.isSome), H, I3, rfl, fin'⟩
        | false => subst hop; exact dS_in hu1 I g rx fun s3 I3 => ⟨.bl o.isSome, H, I3, rfl, fin'⟩
      · rw [if_neg hkey] at hk; cases hk
    | lst ys =>
      have hk : (match pyOf m a, pyOf m (.lst ys) with | some p, some (.list qs) => some (qs.any fun q => PyData.eqv q p) | _, _ => none) = some k := by cases a <;> exact hk
      cases z1 : pyOf m a with
      | none => rw [z1] at hk; simp at hk
      | some p =>
        cases z2 : pyOf m (.lst ys) with
        | none => rw [z1, z2] at hk; simp at hk
        | some q =>
          rw [z1, z2] at hk
          cases q with
          | list qs =>
            have hk := Option.some.inj hk
            refine data z1 ⟨.lst ys, z2, ?_⟩ hk.symm
            obtain ⟨d', e1, e2, _⟩ := pyOf_spec z2
            cases e1
            rw [D.toPy] at e2
            obtain ⟨ps, hps, e3⟩ := Option.map_eq_some_iff.mp e2
            cases e3
            obtain ⟨p', xs, rfl, g1, g2⟩ := th.lst sr.core.sub
            exact .lst (SqL.of g1) (dps_of sr.core.sub g2 hps)
          | _ => simp at hk
    | tup ys =>
      have hk : (match pyOf m a, pyOf m (.tup ys) with | some p, some (.tuple qs) => some (qs.any fun q => PyData.eqv q p) | _, _ => none) = some k := by cases a <;> exact hk
      cases z1 : pyOf m a with
      | none => rw [z1] at hk; simp at hk
      | some p =>
        cases z2 : pyOf m (.tup ys) with
        | none => rw [z1, z2] at hk; simp at hk
        | some q =>
          rw [z1, z2] at hk
          cases q with
          | tuple qs =>
            have hk := Option.some.inj hk
            obtain ⟨d1, s1⟩ := sr.core.data ra z1
            obtain ⟨d', e1, e2, s2⟩ := pyOf_spec z2
            cases e1
            rw [D.toPy] at e2
            obtain ⟨ps, hps, e3⟩ := Option.map_eq_some_iff.mp e2
            cases e3
            obtain ⟨p', xs, rfl, g1, g2⟩ := th.tup sr.core.sub
            have d2 : Dp X.K H (.ref p') (.tuple qs) := .tup g1 (dps_of sr.core.sub g2 hps)
            obtain ⟨as, r1⟩ := Dp.reads I p x v d1 rx
            obtain ⟨bs, r2⟩ := Dp.reads I (.tuple qs) _ u d2 ry
            subst hk
            cases neg with
            | true => subst hop; exact SeqAt.notIn_tuple_reads r2 r1 (SeqAt.canLay_of_shaped s2) (SeqAt.canLay_of_shaped s1) (room_in_shaped s1 hu) ⟨.bl _, H, I, rfl, fin'⟩
            | false => subst hop; exact SeqAt.in_tuple_reads r2 r1 (SeqAt.canLay_of_shaped s2) (SeqAt.canLay_of_shaped s1) (room_in_shaped s1 hu) ⟨.bl _, H, I, rfl, fin'⟩
          | _ => simp at hk
    | _ => cases a <;> simp at hk
theorem op_inDD (hu : X.A.units + 65 < cLine) : OpR X (compareOp .In) (rD2 X.K fun m a b => (memD m a b).map .bl) := by
  have h := op_memAny (X := X) hu false (op := .In) rfl
  have e : (fun (m : Mu) (a b : D) => (memD m a b).map D.bl) = fun m a b => ((memD m a b).map fun k => if false = true then !k else k).map D.bl := by
    funext m a b
    cases memD m a b <;> rfl
  rw [e]
  exact h
theorem op_notInDD (hu : X.A.units + 65 < cLine) : OpR X (compareOp .NotIn) (rD2 X.K fun m a b => ((memD m a b).map (!·)).map .bl) := by
  have h := op_memAny (X := X) hu true (op := .NotIn) rfl
  have e : (fun (m : Mu) (a b : D) => ((memD m a b).map (!·)).map D.bl) = fun m a b => ((memD m a b).map fun k => if true = true then !k else k).map D.bl := by
    funext m a b
    cases memD m a b <;> rfl
  rw [e]
  exact h
theorem op_cmpD (hu : X.A.units + 65 < cLine) : ∀ op : Cop, OpR X (compareOp op.op) (rD2 X.K fun m a b => (cmpD m op a b).map .bl)
  | .eq => op_eqDD (by omega)
  | .ne => op_neDD (by omega)
  | .lt => op_ltDD (by omega)
  | .le => op_leDD
  | .gt => op_gtDD
  | .ge => op_geDD
  | .is => op_isD
  | .isNot => op_isNotD
  | .mem => op_inDD hu
  | .notMem => op_notInDD hu

/-! ### subscripts -/
theorem RepL.map_get {al : List Addr} {F : Hp} {ds : List D} {vs : List V} {i : Int} {d : D} (r : RepL K al F vs ds) (h : atI ds i = some d) : ∃ v, atI vs i = some v ∧ Rep K al F v d := by
  unfold atI at h ⊢
  rw [r.length]
  cases q : ixN ds.length i with
  | none => rw [q] at h; cases h
  | some j =>
    rw [q] at h
    exact r.get h
theorem ix_idxD (hu : X.A.units + 1 < cLine) : IxR X (rD2 X.K fun m a i => idxD m a i) := by
  rintro value slice pins s σ H x y v u Q I rx ry ⟨τ, e, m, al, F, a, i, d, sr, ra, ri, hd, fin⟩ hs
  have hd : idxD m a i = some d := hd
  unfold idxD at hd
  cases z : deref m a with
  | none => rw [z] at hd; simp at hd
  | some a' =>
    rw [z] at hd
    have th := sr.core.thru ra z
    cases a' with
    | lst xs =>
      cases i with
      | int i =>
        cases ri
        obtain ⟨p, vs, rfl, h1, h2⟩ := th.lst sr.core.sub
        obtain ⟨w, hw, rw'⟩ := h2.map_get hd
        exact ix_list value slice pins s σ H _ _ v u Q I rx ry ⟨p, vs, i, w, rfl, rfl, SqL.of h1, hw, fin.val sr rw'⟩ hs
      | _ => simp at hd
    | tup xs =>
      cases i with
      | int i =>
        cases ri
        obtain ⟨p, vs, rfl, h1, h2⟩ := th.tup sr.core.sub
        obtain ⟨w, hw, rw'⟩ := h2.map_get hd
        exact ix_tup value slice pins s σ H _ _ v u Q I rx ry ⟨p, vs, i, w, rfl, rfl, h1, hw, fin.val sr rw'⟩ hs
      | _ => simp at hd
    | scr ns =>
      cases i with
      | int i =>
        cases ri
        obtain ⟨p, rfl, h1⟩ := th.scr sr.core.sub
        obtain ⟨w, hw, rw'⟩ := (repL_ints (al := al) (F := F) ns).map_get hd
        exact ix_list value slice pins s σ H _ _ v u Q I rx ry ⟨p, _, i, w, rfl, rfl, h1, hw, fin.val sr rw'⟩ hs
      | _ => simp at hd
    | dic t ks vs =>
      have hd : (if isKey t i = true then lookD ks vs i else none) = some d := hd
      by_cases hkey : isKey t i = true
      · rw [if_pos hkey] at hd
        obtain ⟨p, rfl, da⟩ := th.dic sr.core.sub
        obtain ⟨o, g, _, hg⟩ := da.get i y ri hkey
        obtain ⟨w, rfl, rw'⟩ := hg d hd
        cases (show v = Value.ref p from rx)
        exact tail_any (dS_typeIs I g) PySem.F.slot_dict_getitem.lookup (dS_getItem hu I g ry fun w' s3 I3 rw2 => ⟨w, H, I3, rw2, fin.val sr rw'⟩) hs
      · rw [if_neg hkey] at hd; cases hd
    | _ => simp at hd
end
end Mn
end
section
set_option Elab.async false
set_option linter.all false
set_option maxRecDepth 100000
/-! Built-in calls, slices, truth over trees. -/
namespace Mn
open PySem PySem.Spec PyProof.Rows L2
variable {K : PySem.W.Frag}

theorem RepL.unmapI {al : List Addr} {F : Hp} : ∀ {ds : List D} {vs : List V} {is : List Int}, RepL K al F vs ds → intsOf ds = some is → vs = is.map V.int
  | [], _, _, r, h => by cases r; cases h; rfl
  | d :: ds, _, _, r, h => by
    cases r with
    | cons h1 h2 =>
      cases d with
      | int i =>
        rw [intsOf] at h
        obtain ⟨js, hj, rfl⟩ := Option.map_eq_some_iff.mp h
        cases h1
        rw [RepL.unmapI h2 hj]; rfl
      | _ => simp [intsOf] at h
theorem RepL.unmapB {al : List Addr} {F : Hp} : ∀ {ds : List D} {vs : List V} {is : List Bool}, RepL K al F vs ds → boolsOf ds = some is → vs = is.map V.bl
  | [], _, _, r, h => by cases r; cases h; rfl
  | d :: ds, _, _, r, h => by
    cases r with
    | cons h1 h2 =>
      cases d with
      | bl i =>
        rw [boolsOf] at h
        obtain ⟨js, hj, rfl⟩ := Option.map_eq_some_iff.mp h
        cases h1
        rw [RepL.unmapB h2 hj]; rfl
      | _ => simp [boolsOf] at h
theorem RepL.nilv {al : List Addr} {F : Hp} {vs : List V} {ds : List D} (r : RepL K al F vs ds) : vs.isEmpty = ds.isEmpty := by
  cases r <;> rfl
theorem RepL.take {al : List Addr} {F : Hp} : ∀ {ds : List D} {vs : List V} (n : Nat), RepL K al F vs ds → RepL K al F (vs.take n) (ds.take n)
  | [], _, n, r => by cases r; simpa using RepL.nil
  | d :: ds, _, 0, r => by simpa using RepL.nil
  | d :: ds, _, n + 1, r => by
    cases r with
    | cons h1 h2 => exact .cons h1 (RepL.take n h2)
theorem RepL.drop {al : List Addr} {F : Hp} : ∀ {ds : List D} {vs : List V} (n : Nat), RepL K al F vs ds → RepL K al F (vs.drop n) (ds.drop n)
  | [], _, n, r => by cases r; simpa using RepL.nil
  | d :: ds, _, 0, r => r
  | d :: ds, _, n + 1, r => by
    cases r with
    | cons h1 h2 => exact RepL.drop n h2

/-- a mutable object's dict, or a frozen one's -/
theorem Thru.dicv {al : List Addr} {F H : Hp} {v : V} {t : Bool} {ks vs : List D} (sub : ∀ a o, F a = some o → H a = some o) (h : Thru K al F H v (.dic t ks vs)) :
    (t = false ∧ ∃ a kvs, v = .ref a ∧ H a = some (.dK kvs) ∧ ks = kvs.map (fun p => kD p.1) ∧ RepL K al F (kvs.map fun p => p.2) vs) ∨
    (t = true ∧ ∃ a kvs, v = .ref a ∧ H a = some (.dT kvs) ∧ ks = kvs.map (fun p => .tup (p.1.map kD)) ∧ RepL K al F (kvs.map fun p => p.2) vs) := by
  cases h with
  | rep r _ =>
    cases r with
    | dicK h1 h2 => exact .inl ⟨rfl, _, _, rfl, sub _ _ h1, rfl, h2⟩
    | dicT h1 h2 => exact .inr ⟨rfl, _, _, rfl, sub _ _ h1, rfl, h2⟩
  | obj _ o =>
    cases o with
    | dicK h1 h2 => exact .inl ⟨rfl, _, _, rfl, h1, rfl, h2⟩
    | dicT h1 h2 => exact .inr ⟨rfl, _, _, rfl, h1, rfl, h2⟩
theorem Thru.nonref {al : List Addr} {F H : Hp} {v : V} {d : D} (h : Thru K al F H v d) : (∃ al' F', Rep K al' F' v d) ∨ ∃ a, v = .ref a := by
  cases h with
  | rep r _ => exact .inl ⟨_, _, r⟩
  | obj _ _ => exact .inr ⟨_, rfl⟩

/-! ### truth -/
theorem tru_of {al : List Addr} {F H : Hp} {m : Mu} (c : Core K H m al F) {v : V} {d : D} {k : Bool} (r : Rep K al F v d) (h : truD m d = some k) : TruV K v H k := by
  unfold truD at h
  cases z : deref m d with
  | none => rw [z] at h; cases h
  | some d' =>
    rw [z] at h
    have th := c.thru r z
    cases d' with
    | non => cases th with
      | rep q _ => cases q; cases h; rfl
      | obj _ o => cases o
    | bl b => cases th with
      | rep q _ => cases q; cases h; rfl
      | obj _ o => cases o
    | int i => cases th with
      | rep q _ => cases q; cases h; rfl
      | obj _ o => cases o
    | str x => cases th with
      | rep q _ =>
        cases q
        simp only at h
        split at h
        · rename_i hz
          cases h
          exact ⟨by rw [sizeLine_eq]; exact hz, rfl⟩
        · cases h
      | obj _ o => cases o
    | tup xs =>
      cases h
      obtain ⟨a, vs, rfl, h1, h2⟩ := th.tup c.sub
      exact .inr (.inl ⟨vs, h1, by rw [h2.nilv]⟩)
    | lst xs =>
      cases h
      obtain ⟨a, vs, rfl, h1, h2⟩ := th.lst c.sub
      exact .inl ⟨vs, SqL.of h1, by rw [h2.nilv]⟩
    | dic t ks vs =>
      cases t with
      | true => cases h
      | false =>
        cases h
        rcases th.dicv c.sub with ⟨_, a, kvs, rfl, h1, rfl, h2⟩ | ⟨e, _⟩
        · exact .inr (.inr ⟨kvs, h1, by simp⟩)
        · cases e
    | _ => cases h

/-! ### built-in functions -/
def rBi (K : PySem.W.Frag) (f : Mu → List D → Option D) : List V → Hp → VK → Prop := fun vs H Q => ∃ σ e m al F ds d, SR K σ H e m al F ∧ RepL K al F vs ds ∧ f m ds = some d ∧ Fin K σ al F H Q d e m
theorem bi_imp {f : Mu → List D → Option D} {g : M (List D)} {r : List V → Hp → VK → Prop} (hr : ∀ vs H Q, rBi K f vs H Q → r vs H Q) :
    ∀ σ H Q, tD K (g.bind fun ds e m => M.of (f m ds) e m) σ H Q → tCB r (tDs K g) σ H Q := by
  rintro σ H Q ⟨e, m, al, F, sr, ok⟩
  refine ⟨e, m, al, F, sr, (R.Ok.bind ok).mono (fun ds e1 m1 ok1 vs H1 al1 F1 sr1 ex1 r1 => ?_) fun _ _ _ z => z⟩
  obtain ⟨d, hd, fin⟩ := R.Ok.of ok1
  exact hr _ _ _ ⟨σ, e1, m1, al1, F1, ds, d, sr1, r1, hd, fun v H' al' F' sr' ex' r' => fin v H' al' F' sr' (ex1.trans ex') r'⟩
theorem repL1 {al : List Addr} {F : Hp} {vs : List V} {d : D} (r : RepL K al F vs [d]) : ∃ v, vs = [v] ∧ Rep K al F v d := by
  cases r with
  | cons h t => cases t; exact ⟨_, rfl, h⟩
theorem repL2 {al : List Addr} {F : Hp} {vs : List V} {d d2 : D} (r : RepL K al F vs [d, d2]) : ∃ v v2, vs = [v, v2] ∧ Rep K al F v d ∧ Rep K al F v2 d2 := by
  cases r with
  | cons h t =>
    obtain ⟨v2, rfl, h2⟩ := repL1 t
    exact ⟨_, _, rfl, h, h2⟩
section
variable {X : Cx}
/-- what a built-in's call gives, by the argument's content -/
theorem bi_len : CallR X (.builtin "len") (rBi X.K fun m ds => biD m .len ds) := by
  rintro pins s σ H vs us Q I rs ⟨τ, e, m, al, F, ds, d, sr, r, hd, fin⟩
  have lenv : ∀ {n : Nat} {v : V}, vs = [v] → LenV X.K v H n → d = .int n → wpAny (model X.prog X.w) X.A (call (.builtin "len") us) (EP X pins σ Q) X.xe s := fun {n v} e1 e2 e3 => by
    subst e1 e3
    exact call_len pins s σ H _ us Q I rs ⟨v, n, rfl, e2, fin.val sr (.int _)⟩
  match ds, r, hd with
  | [a], r, hd =>
    obtain ⟨v, rfl, ra⟩ := repL1 r
    simp only [biD] at hd
    cases z : deref m a with
    | none => rw [z] at hd; cases hd
    | some a' =>
      rw [z] at hd
      have th := sr.core.thru ra z
      cases a' with
      | lst xs =>
        cases hd
        obtain ⟨p, ys, rfl, h1, h2⟩ := th.lst sr.core.sub
        exact lenv rfl (.inl ⟨ys, SqL.of h1, h2.length.symm⟩) rfl
      | tup xs =>
        cases hd
        obtain ⟨p, ys, rfl, h1, h2⟩ := th.tup sr.core.sub
        exact lenv rfl (.inr ⟨ys, h1, h2.length.symm⟩) rfl
      | scr xs =>
        cases hd
        obtain ⟨p, rfl, h1⟩ := th.scr sr.core.sub
        exact lenv rfl (.inl ⟨_, h1, (List.length_map ..).symm⟩) rfl
      | dic t ks ws =>
        cases hd
        rcases th.dicv sr.core.sub with ⟨_, p, kvs, rfl, h1, rfl, h2⟩ | ⟨_, p, kvs, rfl, h1, rfl, h2⟩
        · refine call_lenD pins s σ H _ us Q I rs ⟨p, kvs, rfl, h1, ?_⟩
          have := fin.val sr (v := .int kvs.length) (by rw [List.length_map]; exact .int _)
          exact this
        · refine call_len_dT pins s σ H _ us Q I rs ⟨p, kvs, rfl, h1, ?_⟩
          have := fin.val sr (v := .int kvs.length) (by rw [List.length_map]; exact .int _)
          exact this
      | str x =>
        simp only at hd
        split at hd
        · rename_i hz
          cases hd
          cases th with
          | rep q _ => cases q; exact lenv rfl ⟨by rw [sizeLine_eq]; exact hz, rfl⟩ rfl
          | obj _ o => cases o
        · cases hd
      | _ => cases hd
  | [], _, hd => simp [biD] at hd
  | _ :: _ :: _, _, hd => simp [biD] at hd
theorem bi_int : CallR X (.type "int") (rBi X.K fun m ds => biD m .int ds) := by
  rintro pins s σ H vs us Q I rs ⟨τ, e, m, al, F, ds, d, sr, r, hd, fin⟩
  match ds, r, hd with
  | [.int i], r, hd =>
    obtain ⟨v, rfl, ra⟩ := repL1 r
    cases ra; cases hd
    exact call_int1 pins s σ H _ us Q I rs (.inl ⟨i, rfl, fin.val sr (.int _)⟩)
  | [.bl i], r, hd =>
    obtain ⟨v, rfl, ra⟩ := repL1 r
    cases ra; cases hd
    exact call_int1 pins s σ H _ us Q I rs (.inr ⟨i, rfl, fin.val sr (.int _)⟩)
  | [], _, hd => simp [biD] at hd
  | [.non], _, hd => simp [biD] at hd
  | [.str _], _, hd => simp [biD] at hd
  | [.tup _], _, hd => simp [biD] at hd
  | [.lst _], _, hd => simp [biD] at hd
  | [.dic _ _ _], _, hd => simp [biD] at hd
  | [.set _], _, hd => simp [biD] at hd
  | [.scr _], _, hd => simp [biD] at hd
  | [.cell _], _, hd => simp [biD] at hd
  | _ :: _ :: _, _, hd => simp [biD] at hd
theorem bi_abs : CallR X (.builtin "abs") (rBi X.K fun m ds => biD m .abs ds) := by
  rintro pins s σ H vs us Q I rs ⟨τ, e, m, al, F, ds, d, sr, r, hd, fin⟩
  match ds, r, hd with
  | [.int i], r, hd =>
    obtain ⟨v, rfl, ra⟩ := repL1 r
    cases ra; cases hd
    exact call_abs pins s σ H _ us Q I rs ⟨i, rfl, fin.val sr (.int _)⟩
  | [], _, hd => simp [biD] at hd
  | [.bl _], _, hd => simp [biD] at hd
  | [.non], _, hd => simp [biD] at hd
  | [.str _], _, hd => simp [biD] at hd
  | [.tup _], _, hd => simp [biD] at hd
  | [.lst _], _, hd => simp [biD] at hd
  | [.dic _ _ _], _, hd => simp [biD] at hd
  | [.set _], _, hd => simp [biD] at hd
  | [.scr _], _, hd => simp [biD] at hd
  | [.cell _], _, hd => simp [biD] at hd
  | _ :: _ :: _, _, hd => simp [biD] at hd
end
end Mn
end
section
set_option Elab.async false
set_option linter.all false
set_option maxRecDepth 100000
/-! More built-in calls, slices over trees. -/
namespace Mn
open PySem PySem.Spec PyProof.Rows L2
variable {K : PySem.W.Frag}
section
variable {X : Cx}
theorem bi_list (hc : X.calm = true) : CallR X (.type "list") (rBi X.K fun m ds => biD m .list ds) := by
  rintro pins s σ H vs us Q I rs ⟨τ, e, m, al, F, ds, d, sr, r, hd, fin⟩
  match ds, r, hd with
  | [a], r, hd =>
    obtain ⟨v, rfl, ra⟩ := repL1 r
    simp only [biD] at hd
    cases z : deref m a with
    | none => rw [z] at hd; cases hd
    | some a' =>
      rw [z] at hd
      have th := sr.core.thru ra z
      cases a' with
      | lst xs =>
        cases hd
        obtain ⟨p, ys, rfl, h1, h2⟩ := th.lst sr.core.sub
        exact call_list_of pins s σ H _ us Q I rs ⟨p, ys, rfl, .inl (SqL.of h1), fun l hl => fin.newL sr h2 hl⟩
      | tup xs =>
        cases hd
        obtain ⟨p, ys, rfl, h1, h2⟩ := th.tup sr.core.sub
        exact call_list_of pins s σ H _ us Q I rs ⟨p, ys, rfl, .inr h1, fun l hl => fin.newL sr h2 hl⟩
      | dic t ks ws =>
        cases t with
        | true => cases hd
        | false =>
          cases hd
          rcases th.dicv sr.core.sub with ⟨_, p, kvs, rfl, h1, rfl, h2⟩ | ⟨e, _⟩
          · refine call_list_dK hc pins s σ H _ us Q I rs ⟨p, kvs, rfl, h1, fun l hl => fin.newL sr ?_ hl⟩
            have := kVs_rep (K := X.K) (al := al) (F := F) (kvs.map fun p => p.1)
            rw [List.map_map, List.map_map] at this
            exact this
          · cases e
      | _ => cases hd
  | [], _, hd => simp [biD] at hd
  | _ :: _ :: _, _, hd => simp [biD] at hd
theorem bi_tuple : CallR X (.type "tuple") (rBi X.K fun m ds => biD m .tuple ds) := by
  rintro pins s σ H vs us Q I rs ⟨τ, e, m, al, F, ds, d, sr, r, hd, fin⟩
  match ds, r, hd with
  | [a], r, hd =>
    obtain ⟨v, rfl, ra⟩ := repL1 r
    simp only [biD] at hd
    cases z : deref m a with
    | none => rw [z] at hd; cases hd
    | some a' =>
      rw [z] at hd
      have th := sr.core.thru ra z
      cases a' with
      | lst xs =>
        cases hd
        obtain ⟨p, ys, rfl, h1, h2⟩ := th.lst sr.core.sub
        exact call_tuple_of pins s σ H _ us Q I rs ⟨p, ys, rfl, .inl ⟨SqL.of h1, fun l hl => fin.newT sr h2 hl⟩⟩
      | tup xs =>
        cases hd
        cases th with
        | rep r' _ =>
          cases r' with
          | tup h1 h2 => exact call_tuple_of pins s σ H _ us Q I rs ⟨_, _, rfl, .inr ⟨sqT_sub sr.core.sub h1, fin.val sr (.tup h1 h2)⟩⟩
        | obj _ o => cases o
      | _ => cases hd
  | [], _, hd => simp [biD] at hd
  | _ :: _ :: _, _, hd => simp [biD] at hd
theorem bi_all (hc : X.calm = true) : CallR X (.builtin "all") (rBi X.K fun m ds => biD m .all ds) := by
  rintro pins s σ H vs us Q I rs ⟨τ, e, m, al, F, ds, d, sr, r, hd, fin⟩
  match ds, r, hd with
  | [a], r, hd =>
    obtain ⟨v, rfl, ra⟩ := repL1 r
    simp only [biD] at hd
    cases z : deref m a with
    | none => rw [z] at hd; cases hd
    | some a' =>
      rw [z] at hd
      have th := sr.core.thru ra z
      cases a' with
      | lst xs =>
        obtain ⟨bs, hb, rfl⟩ := Option.map_eq_some_iff.mp hd
        obtain ⟨p, ys, rfl, h1, h2⟩ := th.lst sr.core.sub
        have e := h2.unmapB hb
        subst e
        exact cr_all hc pins s σ H _ us Q I rs ⟨p, bs, rfl, SqL.of h1, fin.val sr (.bl _)⟩
      | _ => cases hd
  | [], _, hd => simp [biD] at hd
  | _ :: _ :: _, _, hd => simp [biD] at hd
theorem bi_any (hc : X.calm = true) : CallR X (.builtin "any") (rBi X.K fun m ds => biD m .any ds) := by
  rintro pins s σ H vs us Q I rs ⟨τ, e, m, al, F, ds, d, sr, r, hd, fin⟩
  match ds, r, hd with
  | [a], r, hd =>
    obtain ⟨v, rfl, ra⟩ := repL1 r
    simp only [biD] at hd
    cases z : deref m a with
    | none => rw [z] at hd; cases hd
    | some a' =>
      rw [z] at hd
      have th := sr.core.thru ra z
      cases a' with
      | lst xs =>
        obtain ⟨bs, hb, rfl⟩ := Option.map_eq_some_iff.mp hd
        obtain ⟨p, ys, rfl, h1, h2⟩ := th.lst sr.core.sub
        have e := h2.unmapB hb
        subst e
        exact cr_any hc pins s σ H _ us Q I rs ⟨p, bs, rfl, SqL.of h1, fin.val sr (.bl _)⟩
      | _ => cases hd
  | [], _, hd => simp [biD] at hd
  | _ :: _ :: _, _, hd => simp [biD] at hd
theorem bi_sum (hc : X.calm = true) : CallR X (.builtin "sum") (rBi X.K fun m ds => biD m .sum ds) := by
  rintro pins s σ H vs us Q I rs ⟨τ, e, m, al, F, ds, d, sr, r, hd, fin⟩
  match ds, r, hd with
  | [a], r, hd =>
    obtain ⟨v, rfl, ra⟩ := repL1 r
    simp only [biD] at hd
    cases z : deref m a with
    | none => rw [z] at hd; cases hd
    | some a' =>
      rw [z] at hd
      have th := sr.core.thru ra z
      cases a' with
      | lst xs =>
        obtain ⟨bs, hb, rfl⟩ := Option.map_eq_some_iff.mp hd
        obtain ⟨p, ys, rfl, h1, h2⟩ := th.lst sr.core.sub
        have e := h2.unmapI hb
        subst e
        exact cr_sum hc pins s σ H _ us Q I rs ⟨p, bs, rfl, SqL.of h1, fin.val sr (.int _)⟩
      | _ => cases hd
  | [], _, hd => simp [biD] at hd
  | _ :: _ :: _, _, hd => simp [biD] at hd

/-! ### isinstance -/
def Ty.name : Ty → String
  | .int => "int"
  | .bool => "bool"
  | .str => "str"
  | .tuple => "tuple"
  | .list => "list"
  | .dict => "dict"
theorem isi_kit (t : Ty) :
    kitB "NoneType" t.name = some false ∧ kitB "bool" t.name = some (decide (t = .bool) || decide (t = .int)) ∧ kitB "int" t.name = some (decide (t = .int)) ∧ kitB "str" t.name = some (decide (t = .str)) ∧
    kitB "tuple" t.name = some (decide (t = .tuple)) ∧ kitB "list" t.name = some (decide (t = .list)) ∧ kitB "dict" t.name = some (decide (t = .dict)) := by
  cases t <;> decide +kernel
theorem sqT_ty {H : Hp} {a : Addr} {xs : List V} (h : SqT K H a xs) : TyX K H (.ref a) (.type "tuple") := by
  rcases h with (h | ⟨o, h⟩) | ⟨o, its, n, h1, h2, _⟩
  · exact .base (.tup h)
  · exact .fTuple h
  · exact .kTuple h1 h2
theorem call_isiD (t : Ty) : CallR X (.builtin "isinstance") (fun vs H Q => ∃ σ e m al F v a k, vs = [v, .ty t.name] ∧ SR X.K σ H e m al F ∧ Rep X.K al F v a ∧ isiD m a t = some k ∧ Q (.bl k) H) := by
  rintro pins s σ H vs us Q I rs ⟨τ, e, m, al, F, v, a, k, rfl, sr, ra, hk, q⟩
  obtain ⟨k0, k1, k2, k3, k4, k5, k6⟩ := isi_kit t
  have go : ∀ {n : String} {b : Bool}, TyX X.K H v (.type n) → kitB n t.name = some b → b = k → wpAny (model X.prog X.w) X.A (call (.builtin "isinstance") us) (EP X pins σ Q) X.xe s := fun {n b} ty hb e => by
    subst e
    exact call_isi pins s σ H _ us Q I rs ⟨v, .ty t.name, .type n, .type t.name, b, rfl, .ty _, ty, kit_ty hb, q⟩
  unfold isiD at hk
  cases z : deref m a with
  | none => rw [z] at hk; cases hk
  | some a' =>
    rw [z] at hk
    have th := sr.core.thru ra z
    cases a' with
    | non => cases th with
      | rep r _ => cases r; exact go (.base .non) k0 (Option.some.inj hk)
      | obj _ o => cases o
    | bl b => cases th with
      | rep r _ => cases r; exact go (.base (.bl b)) k1 (Option.some.inj hk)
      | obj _ o => cases o
    | int b => cases th with
      | rep r _ => cases r; exact go (.base (.int b)) k2 (Option.some.inj hk)
      | obj _ o => cases o
    | str b => cases th with
      | rep r _ => cases r; exact go (.base (.str b)) k3 (Option.some.inj hk)
      | obj _ o => cases o
    | tup xs =>
      obtain ⟨p, ys, rfl, h1, h2⟩ := th.tup sr.core.sub
      exact go (sqT_ty h1) k4 (Option.some.inj hk)
    | lst xs =>
      obtain ⟨p, ys, rfl, h1, h2⟩ := th.lst sr.core.sub
      exact go (.base (.lst h1)) k5 (Option.some.inj hk)
    | dic t' ks ws =>
      rcases th.dicv sr.core.sub with ⟨_, p, kvs, rfl, h1, rfl, h2⟩ | ⟨_, p, kvs, rfl, h1, rfl, h2⟩
      · exact go (.base (.dK h1)) k6 (Option.some.inj hk)
      · exact go (.base (.dT h1)) k6 (Option.some.inj hk)
    | _ => cases hk

/-! ### slices -/
theorem RepL.cut {al : List Addr} {F : Hp} {ds : List D} {vs : List V} (lo hi : Option Int) (r : RepL K al F vs ds) : RepL K al F (cutV vs lo hi) (sliceD ds lo hi) := by
  unfold cutV sliceD
  rw [r.length]
  exact (r.drop _).take _
def rSlD (K : PySem.W.Frag) : V → Option Int → Option Int → Hp → VK → Prop := fun x lo hi H Q => ∃ σ e m al F a d, SR K σ H e m al F ∧ Rep K al F x a ∧ slcI m a lo hi = some d ∧ Fin K σ al F H Q d e m
theorem sl_D : SlR X (rSlD X.K) := by
  rintro pins s σ H x v vl vu lo hi sl Q I rx hs pl pu ⟨τ, e, m, al, F, a, d, sr, ra, hd, fin⟩
  unfold slcI at hd
  cases z : deref m a with
  | none => rw [z] at hd; cases hd
  | some a' =>
    rw [z] at hd
    have th := sr.core.thru ra z
    cases a' with
    | lst xs =>
      cases hd
      obtain ⟨p, ys, rfl, h1, h2⟩ := th.lst sr.core.sub
      exact sl_list pins s σ H _ v vl vu lo hi sl Q I rx hs pl pu ⟨p, ys, rfl, SqL.of h1, fun l hl => fin.newL sr (h2.cut lo hi) hl⟩
    | tup xs =>
      cases hd
      cases th with
      | rep r' _ =>
        cases r' with
        | @tup p ys _ h1 h2 =>
          refine sl_tupA pins s σ H _ v vl vu lo hi sl Q I rx hs pl pu ⟨p, ys, rfl, sqT_sub sr.core.sub h1, fun hw => ?_, fun _ l hl => fin.newT sr (h2.cut lo hi) hl⟩
          have e : cutV ys lo hi = ys := by
            unfold cutV
            rw [hw.1, hw.2]
            simp
          refine fin.val sr (.tup (xs := ys) h1 ?_)
          have := h2.cut lo hi
          rw [e] at this
          exact this
      | obj _ o => cases o
    | scr xs =>
      cases hd
      obtain ⟨p, rfl, h1⟩ := th.scr sr.core.sub
      exact sl_list pins s σ H _ v vl vu lo hi sl Q I rx hs pl pu ⟨p, _, rfl, h1, fun l hl => fin.newL sr ((repL_ints _).cut lo hi) hl⟩
    | _ => cases hd
end
end Mn
end
section
set_option Elab.async false
set_option linter.all false
set_option maxRecDepth 100000
/-! max, min, sorted, repr, methods over trees. -/
namespace Mn
open PySem PySem.Spec PyProof.Rows L2
variable {K : PySem.W.Frag}
/-! ### trees and data -/
mutual
theorem toPy_inj : ∀ {a b : D} {p : PyData}, a.toPy = some p → b.toPy = some p → a = b
  | .non, b, p, h, g => by cases h; cases b <;> simp [D.toPy] at g <;> rfl
  | .bl x, b, p, h, g => by cases h; cases b <;> simp [D.toPy] at g; subst g; rfl
  | .int x, b, p, h, g => by cases h; cases b <;> simp [D.toPy] at g; subst g; rfl
  | .str x, b, p, h, g => by cases h; cases b <;> simp [D.toPy] at g; subst g; rfl
  | .tup xs, b, p, h, g => by
    rw [D.toPy] at h
    obtain ⟨ps, hps, rfl⟩ := Option.map_eq_some_iff.mp h
    cases b <;> simp [D.toPy] at g
    rw [toPys_inj hps g]
  | .lst xs, b, p, h, g => by
    rw [D.toPy] at h
    obtain ⟨ps, hps, rfl⟩ := Option.map_eq_some_iff.mp h
    cases b <;> simp [D.toPy] at g
    rw [toPys_inj hps g]
  | .dic _ _ _, _, _, h, _ => by rw [D.toPy] at h; cases h
  | .set _, _, _, h, _ => by rw [D.toPy] at h; cases h
  | .scr _, _, _, h, _ => by rw [D.toPy] at h; cases h
  | .cell _, _, _, h, _ => by rw [D.toPy] at h; cases h
theorem toPys_inj : ∀ {as bs : List D} {ps : List PyData}, D.toPys as = some ps → D.toPys bs = some ps → as = bs
  | [], bs, ps, h, g => by
    cases h
    cases bs with
    | nil => rfl
    | cons b bs =>
      rw [D.toPys] at g
      split at g <;> cases g
  | a :: as, bs, ps, h, g => by
    rw [D.toPys] at h
    cases q : a.toPy with
    | none => rw [q] at h; cases h
    | some p =>
      cases q' : D.toPys as with
      | none => rw [q, q'] at h; cases h
      | some ps' =>
        rw [q, q'] at h
        cases h
        cases bs with
        | nil => cases g
        | cons b bs =>
          rw [D.toPys] at g
          split at g
          · rename_i h1 h2
            cases g
            rw [toPy_inj q h1, toPys_inj q' h2]
          · cases g
end
theorem pysOf_get {m : Mu} : ∀ {xs : List D} {ps : List PyData} {i : Nat} {d : D}, pysOf m xs = some ps → xs[i]? = some d → ∃ p, ps[i]? = some p ∧ pyOf m d = some p
  | [], _, _, _, _, h => by simp at h
  | x :: xs, ps, i, d, h, hi => by
    rw [pysOf] at h
    cases q : pyOf m x with
    | none => rw [q] at h; cases h
    | some p =>
      cases q' : pysOf m xs with
      | none => rw [q, q'] at h; cases h
      | some ps' =>
        rw [q, q'] at h
        cases h
        cases i with
        | zero =>
          simp at hi
          subst hi
          exact ⟨p, by simp, q⟩
        | succ i => simpa using pysOf_get (i := i) q' (by simpa using hi)
theorem pysOf_map {m : Mu} : ∀ {xs : List D} {ps : List PyData}, pysOf m xs = some ps → ps = xs.map (pyKey m)
  | [], _, h => by cases h; rfl
  | x :: xs, ps, h => by
    rw [pysOf] at h
    cases q : pyOf m x with
    | none => rw [q] at h; cases h
    | some p =>
      cases q' : pysOf m xs with
      | none => rw [q, q'] at h; cases h
      | some ps' =>
        rw [q, q'] at h
        cases h
        rw [pysOf_map q']
        simp [pyKey, q]
theorem pysOf_mem {m : Mu} {xs : List D} {ps : List PyData} (h : pysOf m xs = some ps) {d : D} (hd : d ∈ xs) : pyOf m d = some (pyKey m d) := by
  obtain ⟨i, hi⟩ := List.mem_iff_getElem?.mp hd
  obtain ⟨p, _, e⟩ := pysOf_get h hi
  unfold pyKey
  rw [e]; rfl
theorem allAlike_ok {ps : List PyData} (h : allAlike ps = true) : PySem.W.AlikeAll ps := by
  unfold allAlike at h
  simp only [List.all_eq_true, Bool.and_eq_true] at h
  refine ⟨fun x hx y hy => (h x hx).2 y hy, fun x hx e => ?_⟩
  have := (h x hx).1
  subst e
  cases this
theorem Core.datas {K : PySem.W.Frag} {H : Hp} {m : Mu} {al : List Addr} {F : Hp} (c : Core K H m al F) : ∀ {ds : List D} {vs : List V} {ps : List PyData}, RepL K al F vs ds → pysOf m ds = some ps → DpAll K H vs ps
  | [], _, _, r, h => by cases r; cases h; exact .nil
  | d :: ds, _, _, r, h => by
    cases r with
    | cons h1 h2 =>
      rw [pysOf] at h
      cases q : pyOf m d with
      | none => rw [q] at h; cases h
      | some p =>
        cases q' : pysOf m ds with
        | none => rw [q, q'] at h; cases h
        | some ps' =>
          rw [q, q'] at h
          cases h
          exact .cons (c.data h1 q).1 (c.datas h2 q')
theorem foldl_pick {α β : Type} (f : α → β) (lt : β → β → Bool) : ∀ (xs : List α) (x : α), (xs.map f).foldl (fun a y => if lt y a = true then y else a) (f x) = f (xs.foldl (fun a y => if lt (f y) (f a) = true then y else a) x)
  | [], _ => rfl
  | y :: ys, x => by
    rw [List.map_cons, List.foldl_cons, List.foldl_cons, ← foldl_pick f lt ys]
    congr 1
    split <;> rfl
theorem foldl_mem {α : Type} (c : α → α → Bool) : ∀ (xs : List α) (x : α), xs.foldl (fun a y => if c a y = true then y else a) x ∈ x :: xs
  | [], _ => by simp
  | y :: ys, x => by
    rw [List.foldl_cons]
    have := foldl_mem c ys (if c x y = true then y else x)
    rcases List.mem_cons.mp this with h | h
    · rw [h]
      split
      · simp
      · simp
    · simp [h]
theorem depth_list {ps : List PyData} (h : SeqAt.shaped (.list ps) = true) : PyData.depthAll ps ≤ 63 := by
  have := SeqAt.depth_of_shaped h
  rw [PyData.depth] at this
  omega
section
variable {X : Cx}
theorem best_rep {m : Mu} {al : List Addr} {F H : Hp} {s : Shared} {pins : List (Addr × Obj)} {σ : L2.St} (I : Inv X pins σ H s) (c : Core X.K H m al F) {ds : List D} {vs : List V} {us : List Value} {ps : List PyData} (r : RepL X.K al F vs ds) (rv : Vals vs us)
    (hp : pysOf m ds = some ps) {d : D} (hd : d ∈ ds) (hnc : ∀ y ∈ ds, noCell y = true) {i : Nat} {u : Value} (hu : us[i]? = some u) {h' : Heap} {bs : List Addr} (rd : Reads h' u (pyKey m d) bs) (hk : ∀ b o, s.heap.get? b = some o → h'.get? b = some o) :
    ∃ v, RelV v u ∧ Rep X.K al F v d := by
  have hlen := rv.length
  obtain ⟨v, hv⟩ : ∃ v, vs[i]? = some v := by
    have hi : i < us.length := (List.getElem?_eq_some_iff.mp hu).1
    exact ⟨vs[i], by rw [List.getElem?_eq_getElem]⟩
  obtain ⟨u', hu', rv'⟩ := rv.get hv
  rw [hu] at hu'
  cases hu'
  obtain ⟨d', hd'⟩ : ∃ d', ds[i]? = some d' := by
    have hi : i < vs.length := (List.getElem?_eq_some_iff.mp hv).1
    rw [r.length] at hi
    exact ⟨ds[i], by rw [List.getElem?_eq_getElem]⟩
  obtain ⟨v2, hv2, rr⟩ := r.get hd'
  rw [hv] at hv2
  cases hv2
  obtain ⟨p, _, hp'⟩ := pysOf_get hp hd'
  obtain ⟨dp, sh⟩ := c.data rr hp'
  obtain ⟨as, r1⟩ := Dp.reads I p v u dp rv'
  have r2 : Reads h' u p as := PyProof.Rows.Reads.keeps hk r1
  have e := (Reads.unique r2 _ _ rd).1
  have e2 : pyOf m d' = pyOf m d := by rw [hp', pysOf_mem hp hd, e]
  have nc : ∀ {x : D}, x ∈ ds → pyOf m x = (x.toPy).bind fun p => if SeqAt.shaped p = true then some p else none := fun {x} hx => by
    have hx := hnc x hx
    unfold pyOf
    cases x with
    | cell k => cases hx
    | _ =>
      simp only [deref, Option.bind_some]
      split
      · rename_i q
        rw [q]; rfl
      · rename_i q
        rw [q]; rfl
  have n1 := nc (List.mem_of_getElem? hd')
  have n2 := nc hd
  rw [hp'] at n1
  rw [← e2, hp'] at n2
  have t : ∀ {x : D}, some p = ((x.toPy).bind fun p => if SeqAt.shaped p = true then some p else none) → x.toPy = some p := fun {x} h => by
    cases q : x.toPy with
    | none => rw [q] at h; cases h
    | some p' =>
      rw [q] at h
      simp only [Option.bind_some] at h
      split at h <;> cases h
      rfl
  rw [toPy_inj (t n2) (t n1)]
  exact ⟨v, rv', rr⟩
theorem bi_max (hc : X.calm = true) (hu : X.A.units + 64 < cLine) : CallR X (.builtin "max") (rBi X.K fun m ds => biD m .max ds) := by
  rintro pins s σ H vs us Q I rs ⟨τ, e, m, al, F, ds, d, sr, r, hd, fin⟩
  have gen : ∀ {a : D}, ds = [a] → maxDD m a = some d → wpAny (model X.prog X.w) X.A (call (.builtin "max") us) (EP X pins σ Q) X.xe s := fun {a} ea hdd => by
    subst ea
    unfold maxDD at hdd
    obtain ⟨v, rfl, ra⟩ := repL1 r
    cases z : deref m a with
    | none => simp only [seqOf, z] at hdd; cases hdd
    | some a' =>
      have th := sr.core.thru ra z
      have key : ∀ {xs : List D} {ys : List V} {us' : List Value}, seqOf m a = some xs → RepL X.K al F ys xs → Vals ys us' → ∃ p ps as, ReadsAll s.heap us' (p :: ps) as ∧ PySem.W.AlikeAll (p :: ps) ∧ PyData.depthAll (p :: ps) ≤ 63 ∧
          ∀ (i : Nat) (u : Value) (h' : Heap) (bs : List Addr), us'[i]? = some u → Reads h' u (PySem.W.maxD p ps) bs → (∀ b o, s.heap.get? b = some o → h'.get? b = some o) → ∃ v, RelV v u ∧ Rep X.K al F v d := fun {xs ys us'} hx hr hv => by
        rw [hx] at hdd
        cases xs with
        | nil => cases hdd
        | cons x xs =>
          simp only at hdd
          cases hp : pysOf m (x :: xs) with
          | none => rw [hp] at hdd; cases hdd
          | some ps =>
            rw [hp] at hdd
            simp only at hdd
            split at hdd
            · rename_i hz
              have hd2 := Option.some.inj hdd
              subst hd2
              obtain ⟨z1, z2, z3⟩ := hz
              have em := pysOf_map hp
              have mem := foldl_mem (fun a y => PySem.W.dataLt (pyKey m a) (pyKey m y)) xs x
              have pick := foldl_pick (pyKey m) (fun y a => PySem.W.dataLt a y) xs x
              cases ps with
              | nil => cases em
              | cons p ps =>
                injection em with e1 e2
                subst e1 e2
                obtain ⟨as, rd⟩ := Dp.readsAll I _ _ _ (sr.core.datas hr hp) hv
                refine ⟨_, _, as, rd, allAlike_ok z1, depth_list z2, fun i u h' bs hi hb hk => ?_⟩
                refine best_rep I sr.core hr hv hp mem (fun y hy => List.all_eq_true.mp z3 y hy) hi (bs := bs) ?_ hk
                rw [← pick]
                exact hb
            · cases hdd
      cases a' with
      | lst xs =>
        obtain ⟨p, ys, rfl, h1, h2⟩ := th.lst sr.core.sub
        obtain ⟨its, rv, hl, _⟩ := I.list (SqL.of h1)
        obtain ⟨p', ps, as, rd, hal, hdp, k⟩ := key (by simp only [seqOf, z]) h2 rv
        rw [Vals.ref1 rs]
        refine PySem.W.max_list_data (I.ok.hd hc) hl.isList rd hal (by omega) fun i u h' tk bs hi hb hk => ?_
        obtain ⟨v', rv', rr⟩ := k i u h' bs (by simpa using hi) hb hk
        exact ⟨v', H, I.kept (t' := tk) hk, rv', fin.val sr rr⟩
      | tup xs =>
        obtain ⟨p, ys, rfl, h1, h2⟩ := th.tup sr.core.sub
        obtain ⟨its, rv, hl, _⟩ := I.tuple h1
        obtain ⟨p', ps, as, rd, hal, hdp, k⟩ := key (by simp only [seqOf, z]) h2 rv
        rw [Vals.ref1 rs]
        refine PySem.W.max_tuple_data (I.ok.hd hc) (show s.heap.IsTuple p its.toArray from hl) rd hal (by omega) fun i u h' tk bs hi hb hk => ?_
        obtain ⟨v', rv', rr⟩ := k i u h' bs (by simpa using hi) hb hk
        exact ⟨v', H, I.kept (t' := tk) hk, rv', fin.val sr rr⟩
      | _ => simp only [seqOf, z] at hdd; cases hdd
  match ds, r, hd with
  | [], _, hd => simp [biD] at hd
  | [a], r, hd => exact gen rfl (by simpa [biD] using hd)
  | [a, b], r, hd =>
    obtain ⟨v, v2, rfl, ra, rb⟩ := repL2 r
    cases ra <;> first | (simp [biD] at hd; done) | (cases rb <;> first | (simp [biD] at hd; done) | skip)
    cases hd
    exact call_max2 hc pins s σ H _ us Q I rs ⟨_, _, rfl, fin.val sr (.int _)⟩
  | a :: b :: c :: t, r, hd => simp [biD] at hd
theorem bi_min (hc : X.calm = true) (hu : X.A.units + 64 < cLine) : CallR X (.builtin "min") (rBi X.K fun m ds => biD m .min ds) := by
  rintro pins s σ H vs us Q I rs ⟨τ, e, m, al, F, ds, d, sr, r, hd, fin⟩
  have gen : ∀ {a : D}, ds = [a] → minDD m a = some d → wpAny (model X.prog X.w) X.A (call (.builtin "min") us) (EP X pins σ Q) X.xe s := fun {a} ea hdd => by
    subst ea
    unfold minDD at hdd
    obtain ⟨v, rfl, ra⟩ := repL1 r
    cases z : deref m a with
    | none => simp only [seqOf, z] at hdd; cases hdd
    | some a' =>
      have th := sr.core.thru ra z
      have key : ∀ {xs : List D} {ys : List V} {us' : List Value}, seqOf m a = some xs → RepL X.K al F ys xs → Vals ys us' → ∃ p ps as, ReadsAll s.heap us' (p :: ps) as ∧ PySem.W.AlikeAll (p :: ps) ∧ PyData.depthAll (p :: ps) ≤ 63 ∧
          ∀ (i : Nat) (u : Value) (h' : Heap) (bs : List Addr), us'[i]? = some u → Reads h' u (PySem.W.minD p ps) bs → (∀ b o, s.heap.get? b = some o → h'.get? b = some o) → ∃ v, RelV v u ∧ Rep X.K al F v d := fun {xs ys us'} hx hr hv => by
        rw [hx] at hdd
        cases xs with
        | nil => cases hdd
        | cons x xs =>
          simp only at hdd
          cases hp : pysOf m (x :: xs) with
          | none => rw [hp] at hdd; cases hdd
          | some ps =>
            rw [hp] at hdd
            simp only at hdd
            split at hdd
            · rename_i hz
              have hd2 := Option.some.inj hdd
              subst hd2
              obtain ⟨z1, z2, z3⟩ := hz
              have em := pysOf_map hp
              have mem := foldl_mem (fun a y => PySem.W.dataLt (pyKey m y) (pyKey m a)) xs x
              have pick := foldl_pick (pyKey m) (fun y a => PySem.W.dataLt y a) xs x
              cases ps with
              | nil => cases em
              | cons p ps =>
                injection em with e1 e2
                subst e1 e2
                obtain ⟨as, rd⟩ := Dp.readsAll I _ _ _ (sr.core.datas hr hp) hv
                refine ⟨_, _, as, rd, allAlike_ok z1, depth_list z2, fun i u h' bs hi hb hk => ?_⟩
                refine best_rep I sr.core hr hv hp mem (fun y hy => List.all_eq_true.mp z3 y hy) hi (bs := bs) ?_ hk
                rw [← pick]
                exact hb
            · cases hdd
      cases a' with
      | lst xs =>
        obtain ⟨p, ys, rfl, h1, h2⟩ := th.lst sr.core.sub
        obtain ⟨its, rv, hl, _⟩ := I.list (SqL.of h1)
        obtain ⟨p', ps, as, rd, hal, hdp, k⟩ := key (by simp only [seqOf, z]) h2 rv
        rw [Vals.ref1 rs]
        refine PySem.W.min_list_data (I.ok.hd hc) hl.isList rd hal (by omega) fun i u h' tk bs hi hb hk => ?_
        obtain ⟨v', rv', rr⟩ := k i u h' bs (by simpa using hi) hb hk
        exact ⟨v', H, I.kept (t' := tk) hk, rv', fin.val sr rr⟩
      | tup xs =>
        obtain ⟨p, ys, rfl, h1, h2⟩ := th.tup sr.core.sub
        obtain ⟨its, rv, hl, _⟩ := I.tuple h1
        obtain ⟨p', ps, as, rd, hal, hdp, k⟩ := key (by simp only [seqOf, z]) h2 rv
        rw [Vals.ref1 rs]
        refine PySem.W.min_tuple_data (I.ok.hd hc) (show s.heap.IsTuple p its.toArray from hl) rd hal (by omega) fun i u h' tk bs hi hb hk => ?_
        obtain ⟨v', rv', rr⟩ := k i u h' bs (by simpa using hi) hb hk
        exact ⟨v', H, I.kept (t' := tk) hk, rv', fin.val sr rr⟩
      | _ => simp only [seqOf, z] at hdd; cases hdd
  match ds, r, hd with
  | [], _, hd => simp [biD] at hd
  | [a], r, hd => exact gen rfl (by simpa [biD] using hd)
  | [a, b], r, hd =>
    obtain ⟨v, v2, rfl, ra, rb⟩ := repL2 r
    cases ra <;> first | (simp [biD] at hd; done) | (cases rb <;> first | (simp [biD] at hd; done) | skip)
    cases hd
    exact call_min2 hc pins s σ H _ us Q I rs ⟨_, _, rfl, fin.val sr (.int _)⟩
  | a :: b :: c :: t, r, hd => simp [biD] at hd
end
end Mn
end
section
set_option Elab.async false
set_option linter.all false
set_option maxRecDepth 100000
/-! sorted, repr, dict, methods over trees. -/
namespace Mn
open PySem PySem.Spec PyProof.Rows L2
variable {K : PySem.W.Frag}
section
variable {X : Cx}
theorem bi_repr : CallR X (.builtin "repr") (rBi X.K fun m ds => biD m .repr ds) := by
  rintro pins s σ H vs us Q I rs ⟨τ, e, m, al, F, ds, d, sr, r, hd, fin⟩
  match ds, r, hd with
  | [a], r, hd =>
    obtain ⟨v, rfl, ra⟩ := repL1 r
    cases ra <;> first | (simp [biD] at hd; done) | skip
    obtain ⟨u, rfl, ru⟩ := vals1 rs
    cases (show u = Value.bool _ from ru)
    refine PySem.P.repr_of_bool ?_
    cases hd
    exact ⟨.str _, H, I.tok _, ⟨_, rfl⟩, fin.val sr (.str _)⟩
  | [], _, hd => simp [biD] at hd
  | _ :: _ :: _, _, hd => simp [biD] at hd

theorem each_of {al : List Addr} {F : Hp} : ∀ {ds : List D} {vs : List V} {us : List Value}, RepL K al F vs ds → Vals vs us → PySem.W.EachIs (fun u d => ∃ v, RelV v u ∧ Rep K al F v d) us ds
  | [], _, _, r, t => by cases r; cases t; exact .nil
  | _ :: _, _, _, r, t => by
    cases r with
    | cons h1 h2 =>
      cases t with
      | cons t1 t2 => exact .cons ⟨_, t1, h1⟩ (each_of h2 t2)
theorem of_each {al : List Addr} {F : Hp} : ∀ {ds : List D} {us : List Value}, PySem.W.EachIs (fun u d => ∃ v, RelV v u ∧ Rep K al F v d) us ds → ∃ vs, Vals vs us ∧ RepL K al F vs ds
  | _, _, .nil => ⟨[], .nil, .nil⟩
  | _, _, .cons ⟨v, h1, h2⟩ t =>
    let ⟨vs, g1, g2⟩ := of_each t
    ⟨v :: vs, .cons h1 g1, .cons h2 g2⟩
theorem each_reads {s : Shared} {m : Mu} : ∀ {ds : List D} {us : List Value} {ps : List PyData} {as : List Addr}, pysOf m ds = some ps → ReadsAll s.heap us ps as → PySem.W.EachIs (fun u d => ∃ as, Reads s.heap u (pyKey m d) as) us ds
  | [], us, ps, as, h, r => by cases h; cases r; exact .nil
  | d :: ds, us, ps, as, h, r => by
    rw [pysOf] at h
    cases q : pyOf m d with
    | none => rw [q] at h; cases h
    | some p =>
      cases q' : pysOf m ds with
      | none => rw [q, q'] at h; cases h
      | some ps' =>
        rw [q, q'] at h
        cases h
        cases r with
        | cons r1 r2 => exact .cons ⟨_, by unfold pyKey; rw [q]; exact r1⟩ (each_reads q' r2)
theorem sortable_ok {ps : List PyData} (h : sortable ps = true) : PySem.W.Sortable ps := by
  unfold sortable at h
  rcases Bool.or_eq_true_iff.mp h with h | h
  · refine .inl fun d hd => ?_
    have := List.all_eq_true.mp h d hd
    cases d with
    | tuple xs =>
      cases xs with
      | nil => cases this
      | cons x r => exact ⟨x, r, rfl⟩
    | _ => cases this
  · refine .inr fun d hd => ?_
    have := List.all_eq_true.mp h d hd
    refine ⟨fun e => ?_, fun xs e => ?_⟩
    · subst e; cases this
    · subst e; cases this
/-- sorted(xs) of a list -/
theorem sorted_call {pins : List (Addr × Obj)} {s : Shared} {σ : L2.St} {H : Hp} {Q : VK} {p : Addr} {m : Mu} {al : List Addr} {F : Hp} {vs : List V} {xs zs : List D} (hu : X.A.units + 66 < cLine) (I : Inv X pins σ H s) (c : Core X.K H m al F) (h1 : SqL X.K H p vs) (h2 : RepL X.K al F vs xs)
    (hs : sortD m xs = some zs) (fin : ∀ (q : Addr) (ws : List V), H q = none → RepL X.K al F ws zs → Q (.ref q) (upd H q (.lst ws))) : wpAny (model X.prog X.w) X.A (call (.builtin "sorted") [.ref p]) (EP X pins σ Q) X.xe s := by
  unfold sortD at hs
  cases hp : pysOf m xs with
  | none => rw [hp] at hs; cases hs
  | some ps =>
    rw [hp] at hs
    simp only at hs
    split at hs
    · rename_i hz
      have hs := Option.some.inj hs
      subst hs
      rw [Bool.and_eq_true] at hz
      have em := pysOf_map hp
      obtain ⟨its, rv, hl, hlen⟩ := I.list h1
      obtain ⟨as, rd⟩ := Dp.readsAll I _ _ _ (c.datas h2 hp) rv
      have er := each_reads hp rd
      have ea := each_of h2 rv
      have hn : xs.length ≤ sizeLine := by rw [← h2.length]; exact hlen
      refine PySem.W.sorted_data (enc := pyKey m) hl.isList ea er (em ▸ (allAlike_ok hz.1).1) (em ▸ sortable_ok hz.2) hn (fun b hb => ?_) fun out ho eo => ?_
      · have sh := (pyOf_spec (pysOf_mem hp hb))
        obtain ⟨_, _, _, sh⟩ := sh
        have := SeqAt.depth_of_shaped sh
        omega
      · obtain ⟨ws, rw1, rw2⟩ := of_each eo
        obtain ⟨ep, he'⟩ := PyProof.Rows.sortedAll_at s.heap its out.toArray
        have hl2 : ws.length ≤ sizeLine := by
          rw [rw1.length, ho]
          exact hn
        refine ⟨.ref _, upd H (s.heap.objs.size + 1) (.lst ws), I.laid (t' := s.toks) (fun _ _ => PyProof.Rows.sortedAll_old) (Nat.le_succ _) ⟨hl2, out, ep, rw1, he'⟩, rfl, ?_⟩
        exact fin _ ws (I.hok.fresh (Nat.le_succ _)) rw2
    · cases hs
theorem bi_sorted (hu : X.A.units + 66 < cLine) : CallR X (.builtin "sorted") (rBi X.K fun m ds => biD m .sorted ds) := by
  rintro pins s σ H vs us Q I rs ⟨τ, e, m, al, F, ds, d, sr, r, hd, fin⟩
  match ds, r, hd with
  | [a], r, hd =>
    obtain ⟨v, rfl, ra⟩ := repL1 r
    simp only [biD] at hd
    cases z : deref m a with
    | none => rw [z] at hd; cases hd
    | some a' =>
      rw [z] at hd
      have th := sr.core.thru ra z
      cases a' with
      | lst xs =>
        obtain ⟨zs, hz, rfl⟩ := Option.map_eq_some_iff.mp hd
        obtain ⟨p, ys, rfl, h1, h2⟩ := th.lst sr.core.sub
        rw [Vals.ref1 rs]
        exact sorted_call hu I sr.core (SqL.of h1) h2 hz fun q ws hq rr => fin.newL sr rr hq
      | _ => cases hd
  | [], _, hd => simp [biD] at hd
  | _ :: _ :: _, _, hd => simp [biD] at hd

/-! ### methods -/
theorem Core.put {H : Hp} {m : Mu} {al : List Addr} {F : Hp} {k : Nat} {a : Addr} {d d' : D} {o : HO} (c : Core K H m al F) (ha : al[k]? = some a) (hm : m[k]? = some (some d)) (ob : ObjR K al F (upd H a o) a d') : Core K (upd H a o) (m.set k (some d')) al F := by
  obtain ⟨fa, _⟩ := c.live k a d ha hm
  have hk : k < m.length := (List.getElem?_eq_some_iff.mp hm).1
  refine ⟨fun b u h => ?_, by rw [List.length_set]; exact c.len, c.nd, fun b h => ?_, fun j b d2 h1 h2 => ?_⟩
  · rw [upd_ne (fun e => by subst e; rw [fa] at h; cases h)]
    exact c.sub b u h
  · by_cases q : b = a
    · subst q
      exact ⟨_, upd_same⟩
    · rw [upd_ne q]
      exact c.has b h
  · by_cases e : j = k
    · subst e
      rw [ha] at h1
      cases h1
      rw [List.getElem?_set_self hk] at h2
      cases h2
      exact ⟨fa, ob⟩
    · rw [List.getElem?_set_ne (Ne.symm e)] at h2
      obtain ⟨g1, g2⟩ := c.live j b d2 h1 h2
      have ne : b ≠ a := fun q => by
        subst q
        have h3 := (List.getElem?_eq_some_iff.mp h1)
        have h4 := (List.getElem?_eq_some_iff.mp ha)
        exact e ((List.getElem_inj (h₀ := h3.1) (h₁ := h4.1) c.nd).mp (h3.2.trans h4.2.symm))
      refine ⟨g1, ?_⟩
      cases g2 with
      | lst q1 q2 => exact .lst (by rw [upd_ne ne]; exact q1) q2
      | dicK q1 q2 => exact .dicK (by rw [upd_ne ne]; exact q1) q2
      | dicT q1 q2 => exact .dicT (by rw [upd_ne ne]; exact q1) q2
theorem Ex.put {H : Hp} {al : List Addr} {F : Hp} {k : Nat} {a : Addr} {o : HO} (ha : al[k]? = some a) : Ex al F H al F (upd H a o) :=
  ⟨Pre.refl _, Le.refl _, fun b u h n => by
    by_cases q : b = a
    · subst q; exact absurd (List.mem_of_getElem? ha) n
    · rw [upd_ne q]; exact h, fun _ h => .inl h, fun _ _ h _ _ => h⟩
theorem Fin.put {σ : L2.St} {H : Hp} {e : Env} {m : Mu} {al : List Addr} {F : Hp} {Q : VK} {k : Nat} {a : Addr} {d d' r : D} {o : HO} {v : V} (fin : Fin K σ al F H Q r e (m.set k (some d'))) (sr : SR K σ H e m al F) (ha : al[k]? = some a) (hm : m[k]? = some (some d)) (ob : ObjR K al F (upd H a o) a d') (rr : Rep K al F v r) : Q v (upd H a o) :=
  fin v _ al F ⟨sr.core.put ha hm ob, sr.slots, sr.len⟩ (Ex.put ha) rr
def rMe (K : PySem.W.Frag) (f : Mu → D → List D → Option (D × Mu)) : V → List V → Hp → VK → Prop := fun x vs H Q => ∃ σ e m al F a ds d m', SR K σ H e m al F ∧ Rep K al F x a ∧ RepL K al F vs ds ∧ f m a ds = some (d, m') ∧ Fin K σ al F H Q d e m'
theorem RepL.eraseIdx {al : List Addr} {F : Hp} : ∀ {ds : List D} {vs : List V} (n : Nat), RepL K al F vs ds → RepL K al F (vs.eraseIdx n) (ds.eraseIdx n)
  | [], _, n, r => by cases r; simpa using RepL.nil
  | d :: ds, _, 0, r => by
    cases r with
    | cons h1 h2 => simpa using h2
  | d :: ds, _, n + 1, r => by
    cases r with
    | cons h1 h2 => exact .cons h1 (RepL.eraseIdx n h2)
theorem cell_get {H : Hp} {m : Mu} {al : List Addr} {F : Hp} {k : Nat} {x : V} {d : D} (c : Core K H m al F) (r : Rep K al F x (.cell k)) (hm : m[k]? = some (some d)) : ∃ a, x = .ref a ∧ al[k]? = some a ∧ F a = none ∧ ObjR K al F H a d := by
  cases r with
  | cell ha =>
    obtain ⟨g1, g2⟩ := c.live _ _ _ ha hm
    exact ⟨_, rfl, ha, g1, g2⟩
theorem me_append : MtR X "list.append" (rMe X.K appendD) := by
  rintro pins s σ H x vs v us Q I rx rv ⟨τ, e, m, al, F, a, ds, d, m', sr, ra, r, hd, fin⟩
  unfold appendD at hd
  split at hd
  · rename_i k y
    obtain ⟨w, rfl, rw'⟩ := repL1 r
    split at hd
    · rename_i xs hm
      split at hd
      · rename_i hz
        cases hd
        obtain ⟨p, rfl, hp, fp, ob⟩ := cell_get sr.core ra hm
        cases ob with
        | @lst ys _ h1 h2 =>
          refine mt_append pins s σ H _ _ v us Q I rx rv ⟨p, ys, w, rfl, rfl, h1, by rw [sizeLine_eq, h2.length]; exact hz, ?_⟩
          exact fin.put sr hp hm (.lst upd_same (h2.app (.cons rw' .nil))) .non
      · cases hd
    · cases hd
  · cases hd
theorem me_extend : MtR X "list.extend" (rMe X.K extendD) := by
  rintro pins s σ H x vs v us Q I rx rv ⟨τ, e, m, al, F, a, ds, d, m', sr, ra, r, hd, fin⟩
  unfold extendD at hd
  split at hd
  · rename_i k zs
    obtain ⟨w, rfl, rw'⟩ := repL1 r
    split at hd
    · rename_i xs hm
      split at hd
      · rename_i hz
        cases hd
        obtain ⟨p, rfl, hp, fp, ob⟩ := cell_get sr.core ra hm
        cases rw' with
        | @lst q ws _ g1 g2 =>
          cases ob with
          | @lst ys _ h1 h2 =>
            refine mt_extend pins s σ H _ _ v us Q I rx rv ⟨p, q, ys, ws, rfl, rfl, h1, sr.core.sub _ _ g1, by rw [sizeLine_eq, h2.length, g2.length]; exact hz, ?_⟩
            exact fin.put sr hp hm (.lst upd_same (h2.app g2)) .non
      · cases hd
    · cases hd
  · cases hd
theorem me_pop : MtR X "list.pop" (rMe X.K popD) := by
  rintro pins s σ H x vs v us Q I rx rv ⟨τ, e, m, al, F, a, ds, d, m', sr, ra, r, hd, fin⟩
  unfold popD at hd
  split at hd
  · rename_i k i
    obtain ⟨w, rfl, rw'⟩ := repL1 r
    cases rw'
    split at hd
    · rename_i xs hm
      split at hd
      · rename_i hz
        obtain ⟨z, hz', hd⟩ := Option.map_eq_some_iff.mp hd
        cases hd
        obtain ⟨p, rfl, hp, fp, ob⟩ := cell_get sr.core ra hm
        cases ob with
        | @lst ys _ h1 h2 =>
          obtain ⟨w, hw, rw2⟩ := h2.get hz'
          refine mt_popAt pins s σ H _ _ v us Q I rx rv ⟨p, ys, i, i.toNat, w, rfl, rfl, h1, by omega, by omega, ?_, hw, ?_⟩
          · unfold seqIndex?
            rw [h2.length]
            have e1 : ¬ i < 0 := by omega
            simp only [e1, if_false]
            have e2 : ¬ (i < 0 ∨ i ≥ (xs.length : Int)) := by omega
            simp [hz.1, hz.2.1]
          · exact fin.put sr hp hm (.lst upd_same (h2.eraseIdx _)) rw2
      · cases hd
    · cases hd
  · cases hd
end
end Mn
end
section
set_option Elab.async false
set_option linter.all false
set_option maxRecDepth 100000
/-! index, setdefault over trees. -/
namespace Mn
open PySem PySem.Spec PyProof.Rows L2
variable {K : PySem.W.Frag}
section
variable {X : Cx}
theorem indexD_spec {p : PyData} : ∀ {qs : List PyData} {j : Nat}, indexD p qs = some j → ∃ z, qs[j]? = some z ∧ PyData.eqv z p = true ∧ ∀ (m : Nat) (z' : PyData), m < j → qs[m]? = some z' → PyData.eqv z' p = false
  | [], _, h => by cases h
  | q :: qs, j, h => by
    rw [indexD] at h
    split at h
    · rename_i hq
      cases h
      exact ⟨q, rfl, hq, fun m z' hm => absurd hm (Nat.not_lt_zero _)⟩
    · rename_i hq
      obtain ⟨i, hi, rfl⟩ := Option.map_eq_some_iff.mp h
      obtain ⟨z, h1, h2, h3⟩ := indexD_spec hi
      refine ⟨z, by simpa using h1, h2, fun m z' hm hz => ?_⟩
      cases m with
      | zero =>
        simp at hz
        subst hz
        simpa using hq
      | succ m => exact h3 m z' (by omega) (by simpa using hz)
theorem me_index (hu : X.A.units + 65 < cLine) : MtR X "list.index" (rMe X.K findD) := by
  rintro pins s σ H x vs v us Q I rx rv ⟨τ, e, m, al, F, a, ds, d, m', sr, ra, r, hd, fin⟩
  unfold findD at hd
  split at hd
  · rename_i y
    obtain ⟨w, rfl, rw'⟩ := repL1 r
    split at hd
    · rename_i qs p hq hp
      obtain ⟨j, hj, hd⟩ := Option.map_eq_some_iff.mp hd
      cases hd
      obtain ⟨d1, s1⟩ := sr.core.data ra hq
      obtain ⟨d2, s2⟩ := sr.core.data rw' hp
      obtain ⟨z, h1, h2, h3⟩ := indexD_spec hj
      cases id d1 with
      | lst _ _ => exact mt_indexD hu pins s σ H _ _ v us Q I rx rv ⟨_, w, p, qs, j, z, rfl, rfl, d1, d2, s1, s2, h1, h2, h3, fin.val sr (.int _)⟩
    · cases hd
  · cases hd
theorem put_snoc {κ : Type} [DecidableEq κ] (kd : κ → D) (kvs : List (κ × V)) (k : κ) (v : V) (h : valV kvs k = none) : (putK kvs k v).map (fun p => kd p.1) = kvs.map (fun p => kd p.1) ++ [kd k] ∧ (putK kvs k v).map (fun p => p.2) = kvs.map (fun p => p.2) ++ [v] := by
  rw [putK_new _ h]
  simp
theorem me_setdefault : MtR X "dict.setdefault" (rMe X.K setdefD) := by
  rintro pins s σ H x vs v us Q I rx rv ⟨τ, e, m, al, F, a, ds, d, m', sr, ra, r, hd, fin⟩
  unfold setdefD at hd
  split at hd
  · rename_i k y z
    obtain ⟨w, w2, rfl, ry, rz⟩ := repL2 r
    split at hd
    · rename_i ks ws hm
      split at hd
      · rename_i hz
        obtain ⟨p, rfl, hp, fp, ob⟩ := cell_get sr.core ra hm
        generalize et : false = t at ob
        cases ob with
        | @dicK kvs _ h1 h2 =>
          obtain ⟨q, rfl⟩ := flatKey_of (show flatKey y = true from hz.1)
          have ew := rep_kD ry
          subst ew
          obtain ⟨u1, u2, rfl, r1, r2⟩ := vals2 rv
          cases (show v = Value.ref p from rx)
          have lk := look_val kD keq_kD q h2
          have hl : kvs.length < sizeLine := by
            have := hz.2
            rw [List.length_map] at this
            rw [sizeLine_eq]; exact this
          refine d_setd I h1 r1 r2 hl (fun w0 e0 w' s' I' r' => ?_) (fun e0 w' s' I' r' => ?_)
          · cases e1 : lookD (kvs.map fun p => kD p.1) ws (kD q) with
            | none => rw [e1] at lk; rw [e0] at lk; cases lk
            | some d0 =>
              rw [e1] at lk hd
              cases hd
              obtain ⟨w1, h3, h4⟩ := lk
              rw [e0] at h3
              cases h3
              exact ⟨_, H, I', r', fin.val sr h4⟩
          · cases e1 : lookD (kvs.map fun p => kD p.1) ws (kD q) with
            | some d0 =>
              rw [e1] at lk
              obtain ⟨w1, h3, _⟩ := lk
              rw [e0] at h3
              cases h3
            | none =>
              rw [e1] at hd
              cases hd
              obtain ⟨g1, g2⟩ := put_snoc kD kvs q w2 e0
              refine ⟨_, _, I', r', fin.put sr hp hm ?_ rz⟩
              rw [← g1]
              refine .dicK upd_same ?_
              rw [g2]
              exact h2.app (.cons rz .nil)
        | dicT _ _ => cases et
      · cases hd
    · cases hd
  · cases hd

/-! ### dict(pairs) -/
end
theorem put_rep {κ : Type} [DecidableEq κ] {al : List Addr} {F : Hp} (kd : κ → D) (hk : ∀ a b, keq (kd a) (kd b) = decide (a = b)) (k : κ) {v : V} {d : D} (rv : Rep K al F v d) {kvs : List (κ × V)} {vs : List D} (r : RepL K al F (kvs.map fun p => p.2) vs) :
    (putK kvs k v).map (fun p => kd p.1) = (putD (kvs.map fun p => kd p.1) vs (kd k) d).1 ∧ RepL K al F ((putK kvs k v).map fun p => p.2) (putD (kvs.map fun p => kd p.1) vs (kd k) d).2 := by
  unfold putD putK
  rw [has_val kd hk, valV_any]
  by_cases e : (valV kvs k).isSome = true
  · rw [if_pos e, if_pos e]
    constructor
    · rw [List.map_map]
      apply List.map_congr_left
      intro p hp
      simp only [Function.comp]
      split <;> rfl
    · have go : ∀ {kvs : List (κ × V)} {vs : List D}, RepL K al F (kvs.map fun p => p.2) vs → RepL K al F ((kvs.map fun kv => if kv.1 = k then (kv.1, v) else kv).map fun p => p.2) (replD (kvs.map fun p => kd p.1) vs (kd k) d) := by
        intro kvs
        induction kvs with
        | nil =>
          intro vs r
          cases r
          exact .nil
        | cons p kvs ih =>
          intro vs r
          cases r with
          | cons h1 h2 =>
            simp only [List.map_cons, replD, hk]
            refine .cons ?_ (ih h2)
            by_cases q : p.1 = k
            · simp only [q, decide_true, if_true]
              exact rv
            · simp only [q, decide_false, if_false, Bool.false_eq_true]
              exact h1
      exact go r
  · rw [if_neg e, if_neg e]
    simp only [List.map_append, List.map_cons, List.map_nil]
    exact ⟨trivial, r.app (.cons rv .nil)⟩
theorem merge_rep {al : List Addr} {F : Hp} : ∀ {more : List (Key × V)} {es : List D} {kvs : List (Key × V)} {vs : List D}, RepL K al F (more.map fun p => p.2) es → RepL K al F (kvs.map fun p => p.2) vs →
    (mergeK kvs more).map (fun p => kD p.1) = (mergeD (kvs.map fun p => kD p.1) vs ((more.map fun p => kD p.1).zip es)).1 ∧ RepL K al F ((mergeK kvs more).map fun p => p.2) (mergeD (kvs.map fun p => kD p.1) vs ((more.map fun p => kD p.1).zip es)).2
  | [], _, kvs, vs, h, r => by cases h; exact ⟨rfl, r⟩
  | (k, v) :: more, _, kvs, vs, h, r => by
    cases h with
    | @cons _ _ d es h1 h2 =>
      obtain ⟨g1, g2⟩ := put_rep kD keq_kD k h1 r
      have ih := merge_rep (kvs := putK kvs k v) h2 g2
      rw [g1] at ih
      exact ih
theorem pairs_rep {al : List Addr} {F H : Hp} (sub : ∀ a o, F a = some o → H a = some o) : ∀ {xs : List D} {vs : List V} {ps : List (D × D)}, RepL K al F vs xs → pairsOf xs = some ps →
    ∃ (as : List Addr) (kvs : List (Key × V)) (es : List D), vs = as.map V.ref ∧ Paired (fun p kv => SqT K H p [kV kv.1, kv.2]) as kvs ∧ ps = (kvs.map fun p => kD p.1).zip es ∧ RepL K al F (kvs.map fun p => p.2) es
  | [], _, _, r, h => by
    cases r
    cases h
    exact ⟨[], [], [], rfl, .nil, rfl, .nil⟩
  | x :: xs, _, ps, r, h => by
    cases r with
    | cons h1 h2 =>
      unfold pairsOf at h
      split at h
      · rename_i e
        cases e
      · rename_i k v xs' e
        cases e
        split at h
        · rename_i hk
          obtain ⟨ps', hp, rfl⟩ := Option.map_eq_some_iff.mp h
          obtain ⟨as, kvs, es, e1, e2, e3, e4⟩ := pairs_rep sub h2 hp
          subst e1 e3
          obtain ⟨q, rfl⟩ := flatKey_of hk
          cases h1 with
          | @tup a _ _ g1 g2 =>
            obtain ⟨w, w2, rfl, rk, rv⟩ := repL2 g2
            have ew := rep_kD rk
            subst ew
            exact ⟨a :: as, (q, w2) :: kvs, v :: es, rfl, .cons (sqT_sub sub g1) e2, rfl, .cons rv e4⟩
        · cases h
      · cases h
section
variable {X : Cx}
theorem bi_dict (hc : X.calm = true) : CallR X (.type "dict") (rBi X.K fun m ds => biD m .dict ds) := by
  rintro pins s σ H vs us Q I rs ⟨τ, e, m, al, F, ds, d, sr, r, hd, fin⟩
  match ds, r, hd with
  | [a], r, hd =>
    obtain ⟨v, rfl, ra⟩ := repL1 r
    simp only [biD] at hd
    cases z : deref m a with
    | none => rw [z] at hd; cases hd
    | some a' =>
      rw [z] at hd
      have th := sr.core.thru ra z
      cases a' with
      | lst xs =>
        obtain ⟨ps, hp, rfl⟩ := Option.map_eq_some_iff.mp hd
        obtain ⟨p, ys, rfl, h1, h2⟩ := th.lst sr.core.sub
        obtain ⟨as, kvs, es, rfl, e2, rfl, e4⟩ := pairs_rep sr.core.sub h2 hp
        refine call_dictP hc pins s σ H _ us Q I rs ⟨p, as, kvs, rfl, SqL.of h1, e2, fun l hl => ?_⟩
        obtain ⟨g1, g2⟩ := merge_rep (kvs := []) (vs := []) e4 .nil
        have hF := sr.core.fresh hl
        refine fin _ _ _ _ (sr.new hl _) (Ex.newO hF hl _) ?_
        have := Rep.dicK (K := X.K) (al := al) (F := upd F l (.dK (mergeK [] kvs))) upd_same (g2.mono (Pre.refl _) (Le.new hF))
        rw [g1] at this
        exact this
      | _ => cases hd
  | [], _, hd => simp [biD] at hd
  | _ :: _ :: _, _, hd => simp [biD] at hd
end
end Mn
end
section
set_option Elab.async false
set_option linter.all false
set_option maxRecDepth 100000
/-! The rules of the expressions over trees. -/
namespace Mn
open PySem PySem.Spec PyProof.Rows L2

/-! ### plain shapes -/
/-- neither starred nor a slice nor a set's display -/
def nice : Expr → Bool
  | .Starred _ _ => false
  | .Slice _ _ _ _ => false
  | .Set _ _ _ => false
  | _ => true
/-- the test is the value's truth -/
def tst : Expr → Bool
  | .UnaryOp .Not _ _ => false
  | .BoolOp _ _ _ => false
  | .IfExp _ _ _ _ => false
  | .Compare _ _ _ _ => false
  | _ => true
def noCall : Expr → Bool
  | .Call _ _ _ _ => false
  | _ => true
def noComp : Expr → Bool
  | .ListComp _ _ _ _ => false
  | .SetComp _ _ _ _ => false
  | .DictComp _ _ _ _ _ => false
  | _ => true
theorem star_nice {e : Expr} (h : nice e = true) (es : List Expr) (env : PySem.Env) : starEach (e :: es) env = (false, eval e env) :: starEach es env := by
  cases e <;> first | rfl | (simp [nice] at h)
theorem sl_nice {e : Expr} (h : nice e = true) : ∀ o i, subscripted e false o i = operate [o, i] (getItem o i) := by
  intro o i
  cases e <;> first | rfl | (simp [nice] at h)
theorem marks_nice {e : Expr} (h : nice e = true) (op : CmpOp) : behindInMarks op e = false := by
  cases e <;> first | rfl | (simp [nice] at h)
theorem folded_nice {e : Expr} (h : nice e = true) (env : PySem.Env) : ∀ x, foldedSetIterable e env x = pure x := by
  intro x
  cases e <;> first | rfl | (simp [nice] at h)
theorem true_tst {e : Expr} (h : tst e = true) (env : PySem.Env) : ∀ whole, isTrue e env whole = (do let v ← whole; standAt e.pos; holding [v] (truthy v)) := by
  intro whole
  cases e <;> first | rfl | (simp [tst] at h; done) | skip
  rename_i op _ _
  cases op <;> first | rfl | (simp [tst] at h)
theorem base_call {e : Expr} (h : noCall e = true) (m : Str) (env : PySem.Env) : attributeBase e m env (eval e env) = eval e env := by
  cases e <;> first | rfl | (simp [noCall] at h)
theorem swap_comp {e : Expr} (h : noComp e = true) (t : Option Expr) (l : Nat) (env : PySem.Env) : swapsWith e t l env = pure false := by
  cases e <;> first | rfl | (simp [noComp] at h)
theorem stars_nice : ∀ {es : List Expr}, es.all nice = true → ∀ env, starEach es env = es.map fun e => (false, eval e env)
  | [], _, _ => rfl
  | e :: es, h, env => by
    rw [List.all_cons, Bool.and_eq_true] at h
    rw [star_nice h.1, stars_nice h.2 env]; rfl
theorem back_nice {es : List Expr} (h : es.all nice = true) (pos : Pos) (env : PySem.Env) : (backTo pos (starEach es env)).any (·.1) = false := by
  rw [stars_nice h env]
  unfold backTo
  rw [List.any_eq_false]
  intro x hx
  simp only [List.mem_map] at hx
  obtain ⟨y, ⟨z, _, rfl⟩, rfl⟩ := hx
  simp
theorem few_nice {es : List Expr} (h : es.all nice = true) (hl : es.length < 30) (pos : Pos) (env : PySem.Env) : ((backTo pos (starEach es env)).all (fun x => !x.1) && (backToKw pos (keywordEach [] env)).all (fun x => x.1.isSome)
      && decide (es.length + ([] : List Keyword).length + (if ([] : List Keyword).isEmpty then 0 else 1) < 30)) = true := by
  rw [stars_nice h env]
  have e1 : (backTo pos (es.map fun e => (false, eval e env))).all (fun x => !x.1) = true := by
    unfold backTo
    rw [List.all_eq_true]
    intro x hx
    simp only [List.mem_map] at hx
    obtain ⟨y, ⟨z, _, rfl⟩, rfl⟩ := hx
    simp
  rw [e1]
  have e2 : decide (es.length + ([] : List Keyword).length + (if ([] : List Keyword).isEmpty then 0 else 1) < 30) = true := by
    simpa using hl
  rw [e2]
  rfl

section
variable {X : Cx} {pos : Pos} {a b c : Expr}
/-! ### atoms -/
theorem pe_litD (k : Const) {n : Nat} : PE X (.Constant k n pos) (tD X.K (M.of (constD k))) := by
  refine ⟨fun pins s σ H Q I h => ?_⟩
  obtain ⟨e, m, al, F, sr, ok⟩ := h
  cases k with
  | none => exact pe_non.run pins s σ H Q I (Fin.val ok sr .non)
  | bool b => exact pe_bl.run pins s σ H Q I (Fin.val ok sr (.bl b))
  | int i => exact pe_int.run pins s σ H Q I (Fin.val ok sr (.int i))
  | str x => exact pe_str.run pins s σ H Q I (Fin.val ok sr (.str x))
  | _ => exact ok.elim
theorem pe_varD {i : Nat} {x : Str} (hN : X.N[i]? = some x) (hv : Vis X.env.scope x) (hd : (x == ("__debug__" : Str)) = false) (hcd : (x == ("__classdict__" : Str)) = false) : PE X (.Name x pos) (tD X.K (varD i)) := by
  refine (pe_var hN hv hd hcd).imp fun σ H Q h => ?_
  obtain ⟨e, m, al, F, sr, ok⟩ := h
  unfold varD at ok
  split at ok
  · rename_i d hd
    obtain ⟨v, h1, h2⟩ := sr.slots i d hd
    exact ⟨v, h1, Fin.val ok sr h2⟩
  · exact ok.elim
theorem ObjR.toRep {K : PySem.W.Frag} {al : List Addr} {F H : Hp} {a : Addr} {d : D} (hF : F a = none) (o : ObjR K al F H a d) : ∃ u, H a = some u ∧ Rep K al (upd F a u) (.ref a) d := by
  cases o with
  | lst h1 h2 => exact ⟨_, h1, .lst upd_same (h2.mono (Pre.refl _) (Le.new hF))⟩
  | dicK h1 h2 => exact ⟨_, h1, .dicK upd_same (h2.mono (Pre.refl _) (Le.new hF))⟩
  | dicT h1 h2 => exact ⟨_, h1, .dicT upd_same (h2.mono (Pre.refl _) (Le.new hF))⟩
theorem SR.frz {K : PySem.W.Frag} {σ : L2.St} {H : Hp} {e : Env} {m : Mu} {al : List Addr} {F : Hp} {i k : Nat} {d : D} {a : Addr} {u : HO} (sr : SR K σ H e m al F) (hi : e[i]? = some (some (.cell k))) (hm : m[k]? = some (some d)) (hk : al[k]? = some a) (hs : σ[i]? = some (some (.ref a)))
    (hu : H a = some u) (hF : F a = none) (r : Rep K al (upd F a u) (.ref a) d) : SR K σ H (e.set i (some d)) (m.set k none) al (upd F a u) := by
  have le : Le F (upd F a u) := Le.new hF
  refine ⟨⟨fun b o h => ?_, by rw [List.length_set]; exact sr.core.len, sr.core.nd, sr.core.has, fun j b d2 h1 h2 => ?_⟩, fun j d2 h => ?_, by rw [List.length_set]; exact sr.len⟩
  · by_cases q : b = a
    · subst q
      rw [upd_same] at h
      rw [hu]; exact h
    · rw [upd_ne q] at h
      exact sr.core.sub b o h
  · by_cases q : j = k
    · subst q
      rw [List.getElem?_set_self (List.getElem?_eq_some_iff.mp hm).1] at h2
      cases h2
    · rw [List.getElem?_set_ne (Ne.symm q)] at h2
      obtain ⟨g1, g2⟩ := sr.core.live j b d2 h1 h2
      have ne : b ≠ a := fun z => by
        subst z
        have h3 := (List.getElem?_eq_some_iff.mp h1)
        have h4 := (List.getElem?_eq_some_iff.mp hk)
        exact q ((List.getElem_inj (h₀ := h3.1) (h₁ := h4.1) sr.core.nd).mp (h3.2.trans h4.2.symm))
      refine ⟨by rw [upd_ne ne]; exact g1, ?_⟩
      cases g2 with
      | lst q1 q2 => exact .lst q1 (q2.mono (Pre.refl _) le)
      | dicK q1 q2 => exact .dicK q1 (q2.mono (Pre.refl _) le)
      | dicT q1 q2 => exact .dicT q1 (q2.mono (Pre.refl _) le)
  · by_cases q : j = i
    · subst q
      rw [List.getElem?_set_self (List.getElem?_eq_some_iff.mp hi).1] at h
      cases h
      exact ⟨_, hs, r⟩
    · rw [List.getElem?_set_ne (Ne.symm q)] at h
      obtain ⟨v, h1, h2⟩ := sr.slots j d2 h
      exact ⟨v, h1, h2.mono (Pre.refl _) le⟩
theorem pe_frzD {i : Nat} {x : Str} (hN : X.N[i]? = some x) (hv : Vis X.env.scope x) (hd : (x == ("__debug__" : Str)) = false) (hcd : (x == ("__classdict__" : Str)) = false) : PE X (.Name x pos) (tD X.K (frzD i)) := by
  refine (pe_var hN hv hd hcd).imp fun σ H Q h => ?_
  obtain ⟨e, m, al, F, sr, ok⟩ := h
  unfold frzD at ok
  split at ok
  · rename_i k hi
    split at ok
    · rename_i d hm
      obtain ⟨v, h1, h2⟩ := sr.slots i _ hi
      cases h2 with
      | @cell _ a hk =>
        obtain ⟨fa, ob⟩ := sr.core.live k a d hk hm
        obtain ⟨u, hu, r⟩ := ob.toRep fa
        refine ⟨_, h1, ok _ H al (upd F a u) (sr.frz hi hm hk h1 hu fa r) ?_ r⟩
        exact ⟨Pre.refl _, Le.new fa, fun _ _ h _ => h, fun _ h => .inl h, fun b o h n _ => by rw [upd_ne (fun z => n (by rw [z]; exact List.mem_of_getElem? hk))]; exact h⟩
    · exact ok.elim
  · rename_i d _ hd
    obtain ⟨v, h1, h2⟩ := sr.slots i d hd
    exact ⟨v, h1, Fin.val ok sr h2⟩
  · exact ok.elim

/-! ### operators -/
theorem pe_binD (op : Bop) {f g : M D} (ha : PE X a (tD X.K f)) (hb : PE X b (tD X.K g)) : PE X (.BinOp a op.op b pos) (tD X.K (f.bind fun x => g.bind fun y e m => M.of (binD m op x y) e m)) :=
  (pe_op (op_binD op) ha hb).imp (bin_imp fun _ _ _ _ h => h)
theorem pe_cmpDD (hu : X.A.units + 65 < cLine) (op : Cop) {f g : M D} (ha : PE X a (tD X.K f)) (hb : PE X b (tD X.K g)) (hn : nice b = true) :
    PE X (.Compare a [op.op] [b] pos) (tD X.K (f.bind fun x => g.bind fun y e m => M.of ((cmpD m op x y).map .bl) e m)) :=
  (pe_cmpR (op_cmpD hu op) ha hb (marks_nice hn _)).imp (bin_imp fun _ _ _ _ h => h)
theorem fin_bool {σ : L2.St} {al : List Addr} {F H : Hp} {Q : Bool → Hp → Prop} {k : Bool} {e : Env} {m : Mu} {K : PySem.W.Frag} (fin : FinG K rpB σ al F H Q k e m) {v : V} {H' : Hp} {al' : List Addr} {F' : Hp} (sr : SR K σ H' e m al' F') (ex : Ex al F H al' F' H') (r : Rep K al' F' v (.bl k)) : ∃ j, v = .bl j ∧ Q j H' := by
  cases r
  exact ⟨k, rfl, fin k H' al' F' sr ex rfl⟩
theorem pt_cmpDD (hu : X.A.units + 65 < cLine) (op : Cop) {f g : M D} (ha : PE X a (tD X.K f)) (hb : PE X b (tD X.K g)) (hn : nice b = true) :
    PT X (.Compare a [op.op] [b] pos) (tDT X.K (f.bind fun x => g.bind fun y e m => M.of (cmpD m op x y) e m)) := by
  refine (pt_cmpR (op_cmpD hu op) ha hb (marks_nice hn _)).imp fun σ H Q h => ?_
  refine tG_mono (tG_bind h) fun v H1 h1 => ?_
  obtain ⟨d, e, m, al, F, sr, r, ok⟩ := h1
  refine ⟨e, m, al, F, sr, (R.Ok.bind ok).mono (fun d2 e2 m2 ok2 v2 H2 al2 F2 sr2 ex2 r2 => ?_) fun _ _ _ z => z⟩
  obtain ⟨k, hk, fin⟩ := R.Ok.of ok2
  refine ⟨σ, e2, m2, al2, F2, d, d2, .bl k, sr2, r.mono ex2.pre ex2.le, r2, by simp only [hk, Option.map_some], fun v' H' al' F' sr' ex' r' => ?_⟩
  exact fin_bool fin sr' (ex2.trans ex') r'
theorem marks2 {op op' : CmpOp} (hb : nice b = true) (hc : nice c = true) : lastMarks [op, op'] [b, c] = false := by
  show behindInMarks op' c = false
  exact marks_nice hc _
theorem chain_imp {K : PySem.W.Frag} {α β : Type} {rp : RP α β} {f g : M D} {h : Bool → D → M α} {op : Cop} {σ : L2.St} {H : Hp} {Q : β → Hp → Prop}
    (w : tG K rp (f.bind fun x => g.bind fun y => M.bind (fun e m => M.of (cmpD m op x y) e m) fun k => h k y) σ H Q) :
    tD K f σ H fun x H1 => tD K g σ H1 fun y H2 => rD2 K (fun m a b => (cmpD m op a b).map .bl) x y H2 fun z H3 => ∃ k, z = .bl k ∧ tK K (rpD K) rp (fun d => h k d) y σ H3 Q := by
  refine tG_mono (tG_bind w) fun v H1 h1 => ?_
  obtain ⟨d, e, m, al, F, sr, r, ok⟩ := h1
  refine ⟨e, m, al, F, sr, (R.Ok.bind ok).mono (fun d2 e2 m2 ok2 v2 H2 al2 F2 sr2 ex2 r2 => ?_) fun _ _ _ z => z⟩
  obtain ⟨k, hk, ok3⟩ := R.Ok.of (R.Ok.bind ok2)
  refine ⟨σ, e2, m2, al2, F2, d, d2, .bl k, sr2, r.mono ex2.pre ex2.le, r2, by simp only [hk, Option.map_some], fun v' H' al' F' sr' ex' r' => ?_⟩
  cases r'
  exact ⟨k, rfl, d2, e2, m2, al', F', sr', r2.mono ex'.pre ex'.le, ok3.mono (fun _ _ _ fin => fin.trans (ex2.trans ex')) fun _ _ _ z => z⟩
theorem pe_chainD (hu : X.A.units + 65 < cLine) (op op' : Cop) {f g h : M D} (ha : PE X a (tD X.K f)) (hb : PE X b (tD X.K g)) (hc : PE X c (tD X.K h)) (nb : nice b = true) (nc : nice c = true) :
    PE X (.Compare a [op.op, op'.op] [b, c] pos) (tD X.K (f.bind fun x => g.bind fun y => M.bind (fun e m => M.of (cmpD m op x y) e m) fun k =>
      if k = true then h.bind fun z e m => M.of ((cmpD m op' y z).map .bl) e m else M.ret (.bl false))) := by
  refine (pe_chain (op_cmpD hu op) (op_cmpD hu op') ha hb hc (marks2 nb nc)).imp fun σ H Q w => ?_
  refine tG_mono (chain_imp (h := fun (k : Bool) (y : D) => if k = true then h.bind fun z e m => M.of ((cmpD m op' y z).map D.bl) e m else M.ret (D.bl false)) w) fun x H1 h1 => tG_mono h1 fun y H2 h2 => ?_
  obtain ⟨τ, e, m, al, F, p, q, d, sr, rx, ry, hd, fin⟩ := h2
  refine ⟨τ, e, m, al, F, p, q, d, sr, rx, ry, hd, fun v' H' al' F' sr' ex' r' => ?_⟩
  obtain ⟨k, e1, d3, e3, m3, al3, F3, sr3, r3, ok3⟩ := fin v' H' al' F' sr' ex' r'
  refine ⟨k, e1, ?_⟩
  cases k with
  | true =>
    rw [if_pos rfl]
    simp only [if_true] at ok3
    refine ⟨e3, m3, al3, F3, sr3, (R.Ok.bind ok3).mono (fun d4 e4 m4 ok4 v4 H4 al4 F4 sr4 ex4 r4 => ?_) fun _ _ _ z => z⟩
    obtain ⟨d5, hd5, fin5⟩ := R.Ok.of ok4
    exact ⟨σ, e4, m4, al4, F4, d3, d4, d5, sr4, r3.mono ex4.pre ex4.le, r4, hd5, fin5.trans ex4⟩
  | false =>
    rw [if_neg (by decide)]
    simp only [Bool.false_eq_true, if_false] at ok3
    exact Fin.val ok3 sr3 (.bl false)
theorem pt_chainD (hu : X.A.units + 65 < cLine) (op op' : Cop) {f g h : M D} (ha : PE X a (tD X.K f)) (hb : PE X b (tD X.K g)) (hc : PE X c (tD X.K h)) (nb : nice b = true) (nc : nice c = true) :
    PT X (.Compare a [op.op, op'.op] [b, c] pos) (tDT X.K (f.bind fun x => g.bind fun y => M.bind (fun e m => M.of (cmpD m op x y) e m) fun k =>
      if k = true then h.bind fun z e m => M.of (cmpD m op' y z) e m else M.ret false)) := by
  refine (pt_chain (op_cmpD hu op) (op_cmpD hu op') ha hb hc (marks2 nb nc)).imp fun σ H Q w => ?_
  refine tG_mono (chain_imp (h := fun (k : Bool) (y : D) => if k = true then h.bind fun z e m => M.of (cmpD m op' y z) e m else M.ret false) w) fun x H1 h1 => tG_mono h1 fun y H2 h2 => ?_
  obtain ⟨τ, e, m, al, F, p, q, d, sr, rx, ry, hd, fin⟩ := h2
  refine ⟨τ, e, m, al, F, p, q, d, sr, rx, ry, hd, fun v' H' al' F' sr' ex' r' => ?_⟩
  obtain ⟨k, e1, d3, e3, m3, al3, F3, sr3, r3, ok3⟩ := fin v' H' al' F' sr' ex' r'
  refine ⟨k, e1, ?_⟩
  cases k with
  | true =>
    rw [if_pos rfl]
    simp only [if_true] at ok3
    refine ⟨e3, m3, al3, F3, sr3, (R.Ok.bind ok3).mono (fun d4 e4 m4 ok4 v4 H4 al4 F4 sr4 ex4 r4 => ?_) fun _ _ _ z => z⟩
    obtain ⟨k5, hk5, fin5⟩ := R.Ok.of ok4
    refine ⟨σ, e4, m4, al4, F4, d3, d4, .bl k5, sr4, r3.mono ex4.pre ex4.le, r4, by simp only [hk5, Option.map_some], fun v' H' al' F' sr' ex' r' => ?_⟩
    exact fin_bool fin5 sr' (ex4.trans ex') r'
  | false =>
    rw [if_neg (by decide)]
    simp only [Bool.false_eq_true, if_false] at ok3
    exact ⟨false, rfl, ok3 false _ _ _ sr3 (Ex.refl _ _ _) rfl⟩
theorem pe_negD {f : M D} (ha : PE X a (tD X.K f)) : PE X (.UnaryOp .USub a pos) (tD X.K (f.bind fun x => M.of (negD x))) := by
  refine (pe_un un_neg ha).imp fun σ H Q w => tG_mono (tG_bind w) fun v H1 h1 => ?_
  obtain ⟨d, e, m, al, F, sr, r, ok⟩ := h1
  cases r <;> first | (exact ok.elim) | skip
  exact ⟨_, rfl, Fin.val ok sr (.int _)⟩
theorem pe_notD {f : M D} (ha : PE X a (tD X.K f)) : PE X (.UnaryOp .Not a pos) (tD X.K (f.bind fun x => M.of (notD x))) := by
  refine (pe_not ha).imp fun σ H Q w => tG_mono (tG_bind w) fun v H1 h1 => ?_
  obtain ⟨d, e, m, al, F, sr, r, ok⟩ := h1
  cases r <;> first | (exact ok.elim) | skip
  exact ⟨_, rfl, Fin.val ok sr (.bl _)⟩
theorem pt_notD {f : M Bool} (ha : PT X a (tDT X.K f)) : PT X (.UnaryOp .Not a pos) (tDT X.K (f.bind fun k => M.ret (!k))) := by
  refine (pt_not ha).imp fun σ H Q w => tG_mono (tG_bind w) fun v H1 h1 => ?_
  obtain ⟨d, e, m, al, F, sr, r, ok⟩ := h1
  cases r
  exact ok _ _ _ _ sr (Ex.refl _ _ _) rfl
theorem pt_trD {f : M D} (ha : PE X a (tD X.K f)) (ht : tst a = true) : PT X a (tDT X.K (f.bind fun x e m => M.of (truD m x) e m)) := by
  refine (pt_truth ha (true_tst ht _)).imp fun σ H Q w => tG_mono (tG_bind w) fun v H1 h1 => ?_
  obtain ⟨d, e, m, al, F, sr, r, ok⟩ := h1
  obtain ⟨k, hk, fin⟩ := R.Ok.of ok
  exact ⟨k, tru_of sr.core r hk, fin k _ _ _ sr (Ex.refl _ _ _) rfl⟩
theorem pe_iteD {t : M Bool} {f g : M D} (hc : PT X c (tDT X.K t)) (ha : PE X a (tD X.K f)) (hb : PE X b (tD X.K g)) : PE X (.IfExp c a b pos) (tD X.K (t.bind fun k => if k = true then f else g)) := by
  refine (pe_ifExp hc ha hb).imp fun σ H Q w => tG_mono (tG_bind w) fun v H1 h1 => ?_
  obtain ⟨d, e, m, al, F, sr, r, ok⟩ := h1
  cases r
  cases v with
  | true =>
    rw [if_pos rfl]
    exact ⟨e, m, al, F, sr, by simpa using ok⟩
  | false =>
    rw [if_neg (by decide)]
    exact ⟨e, m, al, F, sr, by simpa using ok⟩
end
end Mn
end
section
set_option Elab.async false
set_option linter.all false
set_option maxRecDepth 100000
/-! More rules of the expressions over trees: and, or, lists, calls. -/
namespace Mn
open PySem PySem.Spec PyProof.Rows L2
section
variable {X : Cx} {pos : Pos} {a b c : Expr} {rest : List Expr}
/-! ### and, or -/
theorem pe_one1 {op : PySem.BoolOp} {f : M D} {g : D → M D} (ha : PE X a (tD X.K f)) : PE X (.BoolOp op [a] pos) (tD X.K (f.bind fun x => if true = true then M.ret x else g x)) := by
  refine (pe_one ha).imp fun σ H Q w => tG_mono (tG_bind w) fun v H1 h1 => ?_
  obtain ⟨d, e, m, al, F, sr, r, ok⟩ := h1
  simp only [if_true] at ok
  exact Fin.val ok sr r
theorem pe_andD {f g : M D} (ha : PE X a (tD X.K f)) (hb : PE X (.BoolOp .And (b :: rest) pos) (tD X.K g)) : PE X (.BoolOp .And (a :: b :: rest) pos) (tD X.K (f.bind fun x => if false = true then M.ret x else match x with
    | .bl true => g
    | .bl false => M.ret (.bl false)
    | _ => M.of none)) := by
  refine (pe_and ha hb).imp fun σ H Q w => tG_mono (tG_bind w) fun v H1 h1 => ?_
  obtain ⟨d, e, m, al, F, sr, r, ok⟩ := h1
  cases r <;> first | (exact ok.elim) | skip
  rename_i k
  refine ⟨k, rfl, ?_⟩
  cases k with
  | true => exact ⟨e, m, al, F, sr, ok⟩
  | false => exact Fin.val ok sr (.bl _)
theorem pe_orD {f g : M D} (ha : PE X a (tD X.K f)) (hb : PE X (.BoolOp .Or (b :: rest) pos) (tD X.K g)) : PE X (.BoolOp .Or (a :: b :: rest) pos) (tD X.K (f.bind fun x => if false = true then M.ret x else match x with
    | .bl false => g
    | .bl true => M.ret (.bl true)
    | _ => M.of none)) := by
  refine (pe_or ha hb).imp fun σ H Q w => tG_mono (tG_bind w) fun v H1 h1 => ?_
  obtain ⟨d, e, m, al, F, sr, r, ok⟩ := h1
  cases r <;> first | (exact ok.elim) | skip
  rename_i k
  refine ⟨k, rfl, ?_⟩
  cases k with
  | false => exact ⟨e, m, al, F, sr, ok⟩
  | true => exact Fin.val ok sr (.bl _)
theorem pw_and1D {f : M Bool} (ha : PT X a (tDT X.K f)) : PW X (.BoolOp .And [a] pos) (tDT X.K (f.bind fun k => if k = true then M.ret true else M.ret false)) := by
  refine (pw_and1 ha).imp fun σ H Q w => tG_mono (tG_bind w) fun v H1 h1 => ?_
  obtain ⟨d, e, m, al, F, sr, r, ok⟩ := h1
  cases r
  cases v with
  | true => exact ok _ _ _ _ sr (Ex.refl _ _ _) rfl
  | false => exact ok _ _ _ _ sr (Ex.refl _ _ _) rfl
theorem pw_or1D {f : M Bool} (ha : PT X a (tDT X.K f)) : PW X (.BoolOp .Or [a] pos) (tDT X.K (f.bind fun k => if k = true then M.ret true else M.ret false)) := by
  refine (pw_or1 ha).imp fun σ H Q w => tG_mono (tG_bind w) fun v H1 h1 => ?_
  obtain ⟨d, e, m, al, F, sr, r, ok⟩ := h1
  cases r
  cases v with
  | true => exact ok _ _ _ _ sr (Ex.refl _ _ _) rfl
  | false => exact ok _ _ _ _ sr (Ex.refl _ _ _) rfl
theorem pw_andD {f g : M Bool} (ha : PT X a (tDT X.K f)) (hb : PW X (.BoolOp .And (b :: rest) pos) (tDT X.K g)) : PW X (.BoolOp .And (a :: b :: rest) pos) (tDT X.K (f.bind fun k => if k = true then g else M.ret false)) := by
  refine (pw_and ha hb).imp fun σ H Q w => tG_mono (tG_bind w) fun v H1 h1 => ?_
  obtain ⟨d, e, m, al, F, sr, r, ok⟩ := h1
  cases r
  cases v with
  | true =>
    rw [if_pos rfl]
    exact ⟨e, m, al, F, sr, by simpa using ok⟩
  | false =>
    rw [if_neg (by decide)]
    exact ok _ _ _ _ sr (Ex.refl _ _ _) rfl
theorem pw_orD {f g : M Bool} (ha : PT X a (tDT X.K f)) (hb : PW X (.BoolOp .Or (b :: rest) pos) (tDT X.K g)) : PW X (.BoolOp .Or (a :: b :: rest) pos) (tDT X.K (f.bind fun k => if k = true then M.ret true else g)) := by
  refine (pw_or ha hb).imp fun σ H Q w => tG_mono (tG_bind w) fun v H1 h1 => ?_
  obtain ⟨d, e, m, al, F, sr, r, ok⟩ := h1
  cases r
  cases v with
  | false =>
    rw [if_neg (by decide)]
    exact ⟨e, m, al, F, sr, by simpa using ok⟩
  | true =>
    rw [if_pos rfl]
    exact ok _ _ _ _ sr (Ex.refl _ _ _) rfl

/-! ### lists of expressions -/
variable {es : List Expr}
theorem pa_nilD : PA X [] (tDs X.K (M.ret [])) := by
  refine pa_nil.imp fun σ H Q w => ?_
  obtain ⟨e, m, al, F, sr, ok⟩ := w
  exact ok [] H al F sr (Ex.refl _ _ _) .nil
theorem pa_consD {f : M D} {g : M (List D)} (ha : PE X a (tD X.K f)) (hb : PA X es (tDs X.K g)) (hn : nice a = true) : PA X (a :: es) (tDs X.K (f.bind fun d => g.bind fun ds => M.ret (d :: ds))) := by
  refine (pa_cons ha hb (star_nice hn _ _)).imp fun σ H Q w => tG_mono (tG_bind w) fun v H1 h1 => ?_
  obtain ⟨d, e, m, al, F, sr, r, ok⟩ := h1
  refine ⟨e, m, al, F, sr, (R.Ok.bind ok).mono (fun ds e1 m1 ok1 vs H2 al2 F2 sr2 ex2 r2 => ?_) fun _ _ _ z => z⟩
  exact ok1 _ _ _ _ sr2 ex2 (.cons (r.mono ex2.pre ex2.le) r2)
theorem seq_of {K : PySem.W.Frag} {H : Hp} {m : Mu} {al : List Addr} {F : Hp} (c : Core K H m al F) {v : V} {d : D} {xs : List D} (r : Rep K al F v d) (h : seqOf m d = some xs) : ∃ p vs, v = .ref p ∧ (SqT K H p vs ∨ SqL K H p vs) ∧ RepL K al F vs xs := by
  unfold seqOf at h
  cases z : deref m d with
  | none => rw [z] at h; cases h
  | some d' =>
    rw [z] at h
    have th := c.thru r z
    cases d' with
    | lst ys =>
      cases h
      obtain ⟨p, vs, rfl, h1, h2⟩ := th.lst c.sub
      exact ⟨p, vs, rfl, .inr (SqL.of h1), h2⟩
    | tup ys =>
      cases h
      obtain ⟨p, vs, rfl, h1, h2⟩ := th.tup c.sub
      exact ⟨p, vs, rfl, .inl h1, h2⟩
    | _ => cases h
theorem pa_sprD {f : M D} {g : M (List D)} {p : Pos} (ha : PE X a (tD X.K f)) (hb : PA X es (tDs X.K g)) : PA X (.Starred a p :: es) (tDs X.K (f.bind fun d e m => match seqOf m d with
    | some xs => (g.bind fun ds => M.ret (xs ++ ds)) e m
    | none => .stuck)) := by
  refine (StX.pa_star ha hb rfl).imp fun σ H Q w => tG_mono (tG_bind w) fun v H1 h1 => ?_
  obtain ⟨d, e, m, al, F, sr, r, ok⟩ := h1
  simp only at ok
  split at ok
  · rename_i xs hx
    obtain ⟨p, vs, rfl, h1, h2⟩ := seq_of sr.core r hx
    refine ⟨p, vs, rfl, h1, e, m, al, F, sr, (R.Ok.bind ok).mono (fun ds e1 m1 ok1 vs2 H2 al2 F2 sr2 ex2 r2 => ?_) fun _ _ _ z => z⟩
    exact ok1 _ _ _ _ sr2 ex2 ((h2.mono ex2.pre ex2.le).app r2)
  · exact ok.elim
theorem pe_tupD {g : M (List D)} {k : Nat} (h : PA X es (tDs X.K g)) : PE X (.Tuple es k pos) (tD X.K (g.bind fun ds => if lim ds = true then M.ret (.tup ds) else M.of none)) := by
  refine (pe_tup h).imp fun σ H Q w => tG_mono (tG_bind w) fun v H1 h1 => ?_
  obtain ⟨ds, e, m, al, F, sr, r, ok⟩ := h1
  by_cases hl : lim ds = true
  · simp only [hl, if_true] at ok
    refine ⟨by rw [r.length]; exact lim_ok hl, fun p hp => ?_⟩
    exact Fin.newT ok sr r hp
  · rw [Bool.not_eq_true] at hl
    simp only [hl, Bool.false_eq_true, if_false] at ok
    exact ok.elim
theorem pe_lstD {g : M (List D)} (h : PA X es (tDs X.K g)) : PE X (.List es pos) (tD X.K (g.bind fun ds => if lim ds = true then M.ret (.lst ds) else M.of none)) := by
  refine (pe_lst h).imp fun σ H Q w => tG_mono (tG_bind w) fun v H1 h1 => ?_
  obtain ⟨ds, e, m, al, F, sr, r, ok⟩ := h1
  by_cases hl : lim ds = true
  · simp only [hl, if_true] at ok
    refine ⟨by rw [r.length]; exact lim_ok hl, fun p hp => ?_⟩
    exact Fin.newL ok sr r hp
  · rw [Bool.not_eq_true] at hl
    simp only [hl, Bool.false_eq_true, if_false] at ok
    exact ok.elim
theorem Core.cell {K : PySem.W.Frag} {H : Hp} {m : Mu} {al : List Addr} {F : Hp} (c : Core K H m al F) {p : Addr} {o : HO} {d : D} (hp : H p = none) (ob : ObjR K (al ++ [p]) F (upd H p o) p d) : Core K (upd H p o) (m ++ [some d]) (al ++ [p]) F := by
  have hF := c.fresh hp
  refine ⟨fun a u h => ?_, by simp [c.len], ?_, fun a h => ?_, fun k a d2 h1 h2 => ?_⟩
  · rw [upd_ne (fun e => by subst e; rw [hF] at h; cases h)]
    exact c.sub a u h
  · rw [List.nodup_append]
    refine ⟨c.nd, by simp, fun a ha b hb e => ?_⟩
    simp at hb
    subst hb e
    obtain ⟨u, hu⟩ := c.has _ ha
    rw [hp] at hu; cases hu
  · rcases List.mem_append.mp h with h | h
    · obtain ⟨u, hu⟩ := c.has a h
      exact ⟨u, by rw [upd_ne (ne_of_none hu hp)]; exact hu⟩
    · simp at h
      subst h
      exact ⟨o, upd_same⟩
  · by_cases hk : k < al.length
    · rw [List.getElem?_append_left hk] at h1
      rw [List.getElem?_append_left (by rw [← c.len]; exact hk)] at h2
      obtain ⟨g1, g2⟩ := c.live k a d2 h1 h2
      have ne : a ≠ p := by
        obtain ⟨u, hu⟩ := c.has a (List.mem_of_getElem? h1)
        exact ne_of_none hu hp
      refine ⟨g1, ?_⟩
      cases g2 with
      | lst q1 q2 => exact .lst (by rw [upd_ne ne]; exact q1) (q2.mono (Pre.app _ _) (Le.refl _))
      | dicK q1 q2 => exact .dicK (by rw [upd_ne ne]; exact q1) (q2.mono (Pre.app _ _) (Le.refl _))
      | dicT q1 q2 => exact .dicT (by rw [upd_ne ne]; exact q1) (q2.mono (Pre.app _ _) (Le.refl _))
    · rw [List.getElem?_append_right (by omega)] at h1
      rw [List.getElem?_append_right (by rw [← c.len]; omega)] at h2
      have e1 : k - al.length = 0 := by
        have := (List.getElem?_eq_some_iff.mp h1).1
        simp at this
        omega
      have e2 : k - m.length = 0 := by rw [← c.len]; exact e1
      rw [e1] at h1
      rw [e2] at h2
      simp at h1 h2
      subst h1 h2
      exact ⟨hF, ob⟩
theorem SR.mk' {K : PySem.W.Frag} {σ : L2.St} {H : Hp} {e : Env} {m : Mu} {al : List Addr} {F : Hp} (sr : SR K σ H e m al F) {p : Addr} {o : HO} {d : D} (hp : H p = none) (ob : ObjR K (al ++ [p]) F (upd H p o) p d) : SR K σ (upd H p o) e (m ++ [some d]) (al ++ [p]) F :=
  ⟨sr.core.cell hp ob, sr.slots.mono (Pre.app _ _) (Le.refl _), sr.len⟩
theorem Ex.mk' {al : List Addr} {F H : Hp} {p : Addr} {o : HO} (hp : H p = none) : Ex al F H (al ++ [p]) F (upd H p o) :=
  ⟨Pre.app _ _, Le.refl _, fun a u h _ => by rw [upd_ne (ne_of_none h hp)]; exact h, fun a h => by
    rcases List.mem_append.mp h with h | h
    · exact .inl h
    · simp at h
      subst h
      exact .inr hp, fun _ _ h _ _ => h⟩
theorem cell_new {K : PySem.W.Frag} {m : Mu} {al : List Addr} {F : Hp} {p : Addr} (hl : al.length = m.length) : Rep K (al ++ [p]) F (.ref p) (.cell m.length) := by
  refine .cell ?_
  rw [← hl, List.getElem?_append_right (Nat.le_refl _)]
  simp
theorem pe_mkD {g : M (List D)} (h : PA X es (tDs X.K g)) : PE X (.List es pos) (tD X.K (g.bind fun ds e m => if lim ds = true then .ok (.cell m.length) e (m ++ [some (.lst ds)]) else .stuck)) := by
  refine (pe_lst h).imp fun σ H Q w => tG_mono (tG_bind w) fun v H1 h1 => ?_
  obtain ⟨ds, e, m, al, F, sr, r, ok⟩ := h1
  by_cases hl : lim ds = true
  · simp only [hl, if_true] at ok
    refine ⟨by rw [r.length]; exact lim_ok hl, fun p hp => ?_⟩
    exact ok _ _ _ _ (sr.mk' hp (.lst upd_same (r.mono (Pre.app _ _) (Le.refl _)))) (Ex.mk' hp) (cell_new sr.core.len)
  · rw [Bool.not_eq_true] at hl
    simp only [hl, Bool.false_eq_true, if_false] at ok
    exact ok.elim
theorem pe_idxD {f g : M D} (hu : X.A.units + 1 < cLine) (ha : PE X a (tD X.K f)) (hb : PE X b (tD X.K g)) (hn : nice b = true) : PE X (.Subscript a b pos) (tD X.K (f.bind fun x => g.bind fun y e m => M.of (idxD m x y) e m)) :=
  (pe_ix (ix_idxD hu) ha hb (sl_nice hn)).imp (bin_imp fun _ _ _ _ h => h)

/-! ### slices -/
/-- a slice's part -/
inductive POD (X : Cx) : Option Expr → M (List D) → Prop
  | none : POD X none (M.ret [])
  | some {e : Expr} {f : M D} (h : PE X e (tD X.K f)) : POD X (some e) (f.bind fun d => M.ret [d])
theorem po_D {o : Option Expr} {g : M (List D)} (h : POD X o g) : PO X o (fun σ H Q => ∃ e m al F, SR X.K σ H e m al F ∧ (g e m).Ok (fun ds e m => ∃ i, optInt ds = some i ∧ ∀ H' al' F', SR X.K σ H' e m al' F' → Ex al F H al' F' H' → Q i H') NoE) := by
  cases h with
  | none =>
    refine ⟨fun pins s σ H Q I w => ?_⟩
    obtain ⟨e, m, al, F, sr, i, hi, ok⟩ := w
    cases hi
    exact po_none.run pins s σ H Q I (ok H al F sr (Ex.refl _ _ _))
  | some h =>
    refine ⟨fun pins s σ H Q I w => ?_⟩
    obtain ⟨e, m, al, F, sr, ok⟩ := w
    refine (po_some h).run pins s σ H Q I ⟨e, m, al, F, sr, (R.Ok.bind ok).mono (fun d e1 m1 ok1 v H1 al1 F1 sr1 ex1 r1 => ?_) fun _ _ _ z => z⟩
    obtain ⟨i, hi, fin⟩ := ok1
    cases r1 <;> first | (cases hi; done) | skip
    cases hi
    exact ⟨_, rfl, fin _ _ _ sr1 ex1⟩
theorem pe_slcD {f : M D} {g h : M (List D)} {lo hi : Option Expr} {p2 : Pos} (ha : PE X a (tD X.K f)) (hl : POD X lo g) (hh : POD X hi h) :
    PE X (.Subscript a (.Slice lo hi none p2) pos) (tD X.K (f.bind fun x => g.bind fun l => h.bind fun h e m => M.of (slcD m x l h) e m)) := by
  refine (pe_slice sl_D ha (po_D hl) (po_D hh)).imp fun σ H Q w => tG_mono (tG_bind w) fun v H1 h1 => ?_
  obtain ⟨d, e, m, al, F, sr, r, ok⟩ := h1
  refine ⟨e, m, al, F, sr, (R.Ok.bind ok).mono (fun l e1 m1 ok1 => ?_) fun _ _ _ z => z⟩
  cases hi1 : optInt l with
  | none =>
    exfalso
    have z := (R.Ok.bind ok1).mono (P' := fun _ _ _ => False) (E' := NoE) (fun u e3 m3 ok3 => by
      obtain ⟨z, hz, _⟩ := R.Ok.of ok3
      unfold slcD at hz
      rw [hi1] at hz
      cases hz) fun _ _ _ z => z
    cases q : h e1 m1 <;> rw [q] at z <;> exact z
  | some i =>
    refine ⟨i, rfl, fun H2 al2 F2 sr2 ex2 => ⟨e1, m1, al2, F2, sr2, (R.Ok.bind ok1).mono (fun u e3 m3 ok3 => ?_) fun _ _ _ z => z⟩⟩
    obtain ⟨z, hz, fin⟩ := R.Ok.of ok3
    unfold slcD at hz
    rw [hi1] at hz
    cases hj : optInt u with
    | none => rw [hj] at hz; cases hz
    | some j =>
      rw [hj] at hz
      refine ⟨j, rfl, fun H3 al3 F3 sr3 ex3 => ⟨σ, e3, m3, al3, F3, d, z, sr3, (r.mono ex2.pre ex2.le).mono ex3.pre ex3.le, hz, fin.trans (ex2.trans ex3)⟩⟩
end
end Mn
end
section
set_option Elab.async false
set_option linter.all false
set_option maxRecDepth 100000
/-! Calls over trees: built-in functions, isinstance, the module's functions, methods. -/
namespace Mn
open PySem PySem.Spec PyProof.Rows L2
def Bi.nm : Bi → Str
  | .len => "len"
  | .int => "int"
  | .abs => "abs"
  | .max => "max"
  | .min => "min"
  | .list => "list"
  | .tuple => "tuple"
  | .set => "set"
  | .sorted => "sorted"
  | .all => "all"
  | .any => "any"
  | .sum => "sum"
  | .repr => "repr"
  | .dict => "dict"
  | .bool => "bool"
def Ty.nm : Ty → Str
  | .int => "int"
  | .bool => "bool"
  | .str => "str"
  | .tuple => "tuple"
  | .list => "list"
  | .dict => "dict"
section
variable {X : Cx} {pos p : Pos} {a : Expr} {es : List Expr}
theorem pe_biD (hc : X.calm = true) (hu : X.A.units + 66 < cLine) (b : Bi) {g : M (List D)} (hg : Gl X b.nm) (hm : X.mg b.nm = none) (ha : PA X (a :: es) (tDs X.K g)) (hn : (a :: es).all nice = true) :
    PE X (.Call (.Name b.nm p) (a :: es) [] pos) (tD X.K (g.bind fun ds e m => M.of (biD m b ds) e m)) := by
  have hn' := hn
  rw [List.all_cons, Bool.and_eq_true] at hn'
  have s1 := star_nice hn'.1 es X.env
  have s2 := back_nice hn'.2 pos X.env
  have no : ∀ {b : Bi}, (∀ m ds, biD m b ds = none) → ∀ {t : TE}, PE X (.Call (.Name b.nm p) (a :: es) [] pos) t → PE X (.Call (.Name b.nm p) (a :: es) [] pos) (tD X.K (g.bind fun ds e m => M.of (biD m b ds) e m)) := fun {b} hb {t} ht => by
    refine ht.imp fun σ H Q w => ?_
    obtain ⟨e, m, al, F, sr, ok⟩ := w
    exfalso
    have z := (R.Ok.bind ok).mono (P' := fun _ _ _ => False) (E' := NoE) (fun u e3 m3 ok3 => by
      obtain ⟨z, hz, _⟩ := R.Ok.of ok3
      rw [hb] at hz
      cases hz) fun _ _ _ z => z
    cases q : g e m <;> rw [q] at z <;> exact z
  cases b with
  | len => exact (pe_callB bi_len hg hm boot_len ha (by decide) (by decide) s1 s2).imp (bi_imp fun _ _ _ h => h)
  | int => exact (pe_callTy bi_int hg hm (by decide +kernel) ha (by decide) (by decide) s1 s2).imp (bi_imp fun _ _ _ h => h)
  | abs => exact (pe_callB bi_abs hg hm (by decide +kernel) ha (by decide) (by decide) s1 s2).imp (bi_imp fun _ _ _ h => h)
  | max => exact (pe_callB (bi_max hc (by omega)) hg hm (by decide +kernel) ha (by decide) (by decide) s1 s2).imp (bi_imp fun _ _ _ h => h)
  | min => exact (pe_callB (bi_min hc (by omega)) hg hm (by decide +kernel) ha (by decide) (by decide) s1 s2).imp (bi_imp fun _ _ _ h => h)
  | list => exact (pe_callTy (bi_list hc) hg hm (by decide +kernel) ha (by decide) (by decide) s1 s2).imp (bi_imp fun _ _ _ h => h)
  | tuple => exact (pe_callTy bi_tuple hg hm (by decide +kernel) ha (by decide) (by decide) s1 s2).imp (bi_imp fun _ _ _ h => h)
  | set => exact (pe_callTy (T := "set") (r := rBi X.K fun _ _ => none) (fun pins s σ H xs us Q I r h => by obtain ⟨_, _, _, _, _, _, _, _, _, h, _⟩ := h; cases h) hg hm (by decide +kernel) ha (by decide) (by decide) s1 s2).imp (bi_imp fun _ _ _ h => by
      obtain ⟨σ, e, m, al, F, ds, d, sr, r, hd, fin⟩ := h
      cases ds with
      | nil => cases hd
      | cons d ds => cases ds <;> cases hd)
  | sorted => exact (pe_callB (bi_sorted hu) hg hm (by decide +kernel) ha (by decide) (by decide) s1 s2).imp (bi_imp fun _ _ _ h => h)
  | all => exact (pe_callB (bi_all hc) hg hm (by decide +kernel) ha (by decide) (by decide) s1 s2).imp (bi_imp fun _ _ _ h => h)
  | any => exact (pe_callB (bi_any hc) hg hm (by decide +kernel) ha (by decide) (by decide) s1 s2).imp (bi_imp fun _ _ _ h => h)
  | sum => exact (pe_callB (bi_sum hc) hg hm (by decide +kernel) ha (by decide) (by decide) s1 s2).imp (bi_imp fun _ _ _ h => h)
  | repr => exact (pe_callB bi_repr hg hm (by decide +kernel) ha (by decide) (by decide) s1 s2).imp (bi_imp fun _ _ _ h => h)
  | dict => exact (pe_callTy (bi_dict hc) hg hm (by decide +kernel) ha (by decide) (by decide) s1 s2).imp (bi_imp fun _ _ _ h => h)
  | bool => exact (pe_callTy (T := "bool") (r := rBi X.K fun _ _ => none) (fun pins s σ H xs us Q I r h => by obtain ⟨_, _, _, _, _, _, _, _, _, h, _⟩ := h; cases h) hg hm (by decide +kernel) ha (by decide) (by decide) s1 s2).imp (bi_imp fun _ _ _ h => by
      obtain ⟨σ, e, m, al, F, ds, d, sr, r, hd, fin⟩ := h
      cases ds with
      | nil => cases hd
      | cons d ds => cases ds <;> cases hd)

theorem pe_isiD {p2 : Pos} (t : Ty) {f : M D} (hg : Gl X "isinstance") (hm : X.mg "isinstance" = none) (hg2 : Gl X t.nm) (hm2 : X.mg t.nm = none) (ha : PE X a (tD X.K f)) (hn : nice a = true) :
    PE X (.Call (.Name "isinstance" p) [a, .Name t.nm p2] [] pos) (tD X.K (f.bind fun x e m => M.of ((isiD m x t).map .bl) e m)) := by
  have ht : PE X (.Name t.nm p2) (tC (.ty t.name)) := by
    cases t <;> exact pe_bltn hg2 hm2 (by decide +kernel) rfl (by decide) (by decide)
  refine (pe_callB (call_isiD t) hg hm (by decide +kernel) (pa_cons ha (pa_cons ht pa_nil) (star_nice hn _ _)) (by decide) (by decide) (star_nice hn _ _)).imp fun σ H Q w => tG_mono (tG_bind w) fun v H1 h1 => ?_
  obtain ⟨d, e, m, al, F, sr, r, ok⟩ := h1
  obtain ⟨z, hz, fin⟩ := R.Ok.of ok
  obtain ⟨k, hk, rfl⟩ := Option.map_eq_some_iff.mp hz
  exact ⟨σ, e, m, al, F, v, d, k, rfl, sr, r, hk, Fin.val fin sr (.bl k)⟩

/-! ### the module's functions -/
/-- what a def promises: it does what g says -/
def spD (K : PySem.W.Frag) (g : Fn) (np : Nat) : Sp := fun vs H Q _ => vs.length = np ∧ ∃ al F m ds, Core K H m al F ∧ RepL K al F vs ds ∧
  (g ds m).Ok (fun d _ m' => ∀ v H' al' F', Core K H' m' al' F' → Ex al F H al' F' H' → Rep K al' F' v d → Q v H') NoE
/-- the name x is a def that keeps this promise -/
structure FnC (X : Cx) (g : Fn) (np : Nat) (x : Str) : Prop where
  len : ∀ ds m P E, (g ds m).Ok P E → ds.length = np
  ex : ∃ f fd ps k, FnOk X.prog X.w X.K X.mg X.base CX0 k f fd ps (spD X.K g np) ∧ Room k X.A ∧ X.mg x = some (.ref f) ∧ PySem.W.keepIn X.K (.ref f) = true ∧ Binds X.K fd ps []
theorem call_imp {h : Fn} {np : Nat} (hlen : ∀ ds m P E, (h ds m).Ok P E → ds.length = np) {g : M (List D)} (σ : L2.St) (H : Hp) (Q : VK) (w : tD X.K (g.bind fun ds e m => (h ds m).bind fun d _ m' => .ok d e m') σ H Q) : tCall (spD X.K h np) [] E0 (tDs X.K g) σ H Q := by
  refine tG_mono (tG_bind w) fun vs H1 h1 => ?_
  obtain ⟨ds, e, m, al, F, sr, r, ok⟩ := h1
  rw [List.append_nil]
  have ok2 := R.Ok.bind ok
  refine ⟨by rw [r.length]; exact hlen _ _ _ _ ok2, al, F, m, ds, sr.core, r, ok2.mono (fun d _ m' fin v H' al' F' c' ex' r' => ?_) fun _ _ _ z => z⟩
  exact fin v H' al' F' ⟨c', sr.slots.mono ex'.pre ex'.le, sr.len⟩ ex' r'
theorem pe_fnD {g : M (List D)} {h : Fn} {np : Nat} {x : Str} (F : FnC X h np x) (hg : Gl X x) (hd : (x == ("__debug__" : Str)) = false) (ha : PA X (a :: es) (tDs X.K g)) (hn : (a :: es).all nice = true) :
    PE X (.Call (.Name x p) (a :: es) [] pos) (tD X.K (g.bind fun ds e m => (h ds m).bind fun d _ m' => .ok d e m')) := by
  obtain ⟨f, fd, ps, k, ok, room, hm, hk, hb⟩ := F.ex
  rw [List.all_cons, Bool.and_eq_true] at hn
  exact (pe_call ok room hg hm hk hb .nil pass0 ha hd (star_nice hn.1 es X.env) (back_nice hn.2 pos X.env)).imp (call_imp F.len)
theorem pe_fn0D {h : Fn} {np : Nat} {x : Str} (F : FnC X h np x) (hg : Gl X x) (hd : (x == ("__debug__" : Str)) = false) :
    PE X (.Call (.Name x p) [] [] pos) (tD X.K ((M.ret []).bind fun ds e m => (h ds m).bind fun d _ m' => .ok d e m')) := by
  obtain ⟨f, fd, ps, k, ok, room, hm, hk, hb⟩ := F.ex
  refine (pe_call0 ok room hg hm hk hb .nil pass0 hd).imp fun σ H Q w => ?_
  obtain ⟨e, m, al, F', sr, ok⟩ := call_imp F.len σ H Q w
  exact ok [] H al F' sr (Ex.refl _ _ _) .nil

/-! ### methods -/
def Me.nm : Me → Str
  | .index => "index"
  | .get => "get"
  | .get2 => "get"
  | .append => "append"
  | .extend => "extend"
  | .pop1 => "pop"
  | .setdefault => "setdefault"
  | .items => "items"
theorem tyv_list {K : PySem.W.Frag} {H : Hp} {m : Mu} {al : List Addr} {F : Hp} (c : Core K H m al F) {v : V} {d : D} {xs : List D} (r : Rep K al F v d) (h : deref m d = some (.lst xs)) : tyV K "list" v H := by
  obtain ⟨p, vs, rfl, h1, _⟩ := (c.thru r h).lst c.sub
  exact .inl ⟨rfl, vs, SqL.of h1⟩
theorem tyv_dict {K : PySem.W.Frag} {H : Hp} {m : Mu} {al : List Addr} {F : Hp} (c : Core K H m al F) {v : V} {d : D} {t : Bool} {ks vs : List D} (r : Rep K al F v d) (h : deref m d = some (.dic t ks vs)) : tyV K "dict" v H := by
  rcases (c.thru r h).dicv c.sub with ⟨_, p, kvs, rfl, h1, _, _⟩ | ⟨_, p, kvs, rfl, h1, _, _⟩
  · exact .inr (.inr (.inl ⟨rfl, .inl ⟨kvs, h1⟩⟩))
  · exact .inr (.inr (.inl ⟨rfl, .inr ⟨kvs, h1⟩⟩))
theorem me_imp {T : String} {r : V → List V → Hp → VK → Prop} {mt : Mu → D → Bool} {md : Mu → D → List D → Option (D × Mu)} (ht : ∀ {H : Hp} {m : Mu} {al : List Addr} {F : Hp} {v : V} {d : D}, Core X.K H m al F → Rep X.K al F v d → mt m d = true → tyV X.K T v H)
    (hr : ∀ x vs H Q, rMe X.K md x vs H Q → r x vs H Q) {f : M D} {g : M (List D)} (σ : L2.St) (H : Hp) (Q : VK)
    (w : tD X.K (f.bind fun x e m => if mt m x = true then (g.bind fun ds e m => match md m x ds with
      | some (d, m') => .ok d e m'
      | none => .stuck) e m else .stuck) σ H Q) : tBM X.K T r (tD X.K f) (tDs X.K g) σ H Q := by
  refine tG_mono (tG_bind w) fun v H1 h1 => ?_
  obtain ⟨d, e, m, al, F, sr, rd, ok⟩ := h1
  by_cases hb : mt m d = true
  · simp only [hb, if_true] at ok
    refine ⟨ht sr.core rd hb, e, m, al, F, sr, (R.Ok.bind ok).mono (fun ds e1 m1 ok1 vs H2 al2 F2 sr2 ex2 r2 => ?_) fun _ _ _ z => z⟩
    refine hr _ _ _ _ ?_
    split at ok1
    · rename_i d2 m2 hd
      exact ⟨σ, e1, m1, al2, F2, d, ds, d2, m2, sr2, rd.mono ex2.pre ex2.le, r2, hd, FinG.trans ex2 ok1⟩
    · exact ok1.elim
  · rw [Bool.not_eq_true] at hb
    simp only [hb, Bool.false_eq_true, if_false] at ok
    exact ok.elim
theorem mt_lst {m : Mu} {d : D} {me : Me} (hm : me = .append ∨ me = .extend ∨ me = .pop1 ∨ me = .index) (h : meT m me d = true) : ∃ xs, deref m d = some (.lst xs) := by
  rcases hm with rfl | rfl | rfl | rfl <;> (unfold meT at h; split at h <;> first | exact ⟨_, by assumption⟩ | contradiction | cases h)
theorem mt_dct {m : Mu} {d : D} {me : Me} (hm : me = .setdefault ∨ me = .get ∨ me = .get2 ∨ me = .items) (h : meT m me d = true) : ∃ t ks vs, deref m d = some (.dic t ks vs) := by
  rcases hm with rfl | rfl | rfl | rfl <;> (unfold meT at h; split at h <;> first | exact ⟨_, _, _, by assumption⟩ | contradiction | cases h)
variable {o : Expr} {apos : Pos}
theorem pe_meD (hu : X.A.units + 66 < cLine) (me : Me) {f : M D} {g : M (List D)} (ho : PE X o (tD X.K f)) (ha : PA X (a :: es) (tDs X.K g)) (hn : (a :: es).all nice = true) (hl : (a :: es).length < 30) (hc : noCall o = true) (hp : (apos.endLine == pos.line) = true) :
    PE X (.Call (.Attribute o me.nm apos) (a :: es) [] pos) (tD X.K (f.bind fun x e m => if meT m me x = true then (g.bind fun ds e m => match meD m me x ds with
      | some (d, m') => .ok d e m'
      | none => .stuck) e m else .stuck)) := by
  have hn' := hn
  rw [List.all_cons, Bool.and_eq_true] at hn'
  have s1 := star_nice hn'.1 es X.env
  have s2 := back_nice hn'.2 pos X.env
  have s3 := few_nice hn hl pos X.env
  have s4 := base_call hc me.nm X.env
  have lst : ∀ {me' : Me}, (me' = .append ∨ me' = .extend ∨ me' = .pop1 ∨ me' = .index) → ∀ {H : Hp} {m : Mu} {al : List Addr} {F : Hp} {v : V} {d : D}, Core X.K H m al F → Rep X.K al F v d → meT m me' d = true → tyV X.K "list" v H := fun {me'} hm {H m al F v d} c r h => by
    obtain ⟨xs, hx⟩ := mt_lst hm h
    exact tyv_list c r hx
  have dct : ∀ {me' : Me}, (me' = .setdefault ∨ me' = .get ∨ me' = .get2 ∨ me' = .items) → ∀ {H : Hp} {m : Mu} {al : List Addr} {F : Hp} {v : V} {d : D}, Core X.K H m al F → Rep X.K al F v d → meT m me' d = true → tyV X.K "dict" v H := fun {me'} hm {H m al F v d} c r h => by
    obtain ⟨t, ks, vs, hx⟩ := mt_dct hm h
    exact tyv_dict c r hx
  have nor : ∀ {id : String}, MtR X id (rMe X.K fun _ _ _ => none) := fun {id} => by
    rintro pins s σ H x vs v us Q I rx rv ⟨τ, e, m, al, F, a, ds, d, m', sr, ra, r, hd, fin⟩
    cases hd
  cases me with
  | append => exact (pe_bm F.plainAttrs_list F.slot_list_append F.type_list_append me_append ho ha s4 s3 hp s1 s2).imp (me_imp (lst (.inl rfl)) fun _ _ _ _ h => h)
  | extend => exact (pe_bm F.plainAttrs_list F.slot_list_extend F.type_list_extend me_extend ho ha s4 s3 hp s1 s2).imp (me_imp (lst (.inr (.inl rfl))) fun _ _ _ _ h => h)
  | pop1 => exact (pe_bm F.plainAttrs_list F.slot_list_pop F.type_list_pop me_pop ho ha s4 s3 hp s1 s2).imp (me_imp (lst (.inr (.inr (.inl rfl)))) fun _ _ _ _ h => h)
  | index => exact (pe_bm F.plainAttrs_list F.slot_list_index F.type_list_index (me_index (by omega)) ho ha s4 s3 hp s1 s2).imp (me_imp (lst (.inr (.inr (.inr rfl)))) fun _ _ _ _ h => h)
  | setdefault => exact (pe_bm F.plainAttrs_dict F.slot_dict_setdefault F.type_dict_setdefault me_setdefault ho ha s4 s3 hp s1 s2).imp (me_imp (dct (.inl rfl)) fun _ _ _ _ h => h)
  | get => exact (pe_bm F.plainAttrs_dict F.slot_dict_get F.type_dict_get nor ho ha s4 s3 hp s1 s2).imp (me_imp (md := fun m => meD m .get) (dct (.inr (.inl rfl))) fun _ _ _ _ h => h)
  | get2 => exact (pe_bm F.plainAttrs_dict F.slot_dict_get F.type_dict_get nor ho ha s4 s3 hp s1 s2).imp (me_imp (md := fun m => meD m .get2) (dct (.inr (.inr (.inl rfl)))) fun _ _ _ _ h => h)
  | items => exact (pe_bm F.plainAttrs_dict F.slot_dict_items F.type_dict_items nor ho ha s4 s3 hp s1 s2).imp (me_imp (md := fun m => meD m .items) (dct (.inr (.inr (.inr rfl)))) fun _ _ _ _ h => h)
end
end Mn
end
section
set_option Elab.async false
set_option linter.all false
set_option maxRecDepth 100000
/-! What a for walks; comprehensions over trees. -/
namespace Mn
open PySem PySem.Spec PyProof.Rows L2
/-- the iterator J gives the items ds -/
structure Walk (K : PySem.W.Frag) (J : It) (al : List Addr) (F : Hp) (ds : List D) : Prop where
  go : ∀ {al' : List Addr} {F' H' : Hp} {m' : Mu}, Core K H' m' al' F' → Pre al al' → Le F F' → ∀ (i : Nat) (d : D), ds[i]? = some d → J.go i H' ∧ ∀ x H2, J.yld i H' x H2 → ∃ F2, Core K H2 m' al' F2 ∧ Ex al' F' H' al' F2 H2 ∧ Rep K al' F2 x d
  stop : ∀ {al' : List Addr} {F' H' : Hp} {m' : Mu}, Core K H' m' al' F' → Pre al al' → Le F F' → ∀ i : Nat, ds.length ≤ i → J.stop i H'
theorem Walk.mono {K : PySem.W.Frag} {J : It} {al al1 : List Addr} {F F1 : Hp} {ds : List D} (w : Walk K J al F ds) (p : Pre al al1) (l : Le F F1) : Walk K J al1 F1 ds :=
  ⟨fun c q r => w.go c (p.trans q) (l.trans r), fun c q r => w.stop c (p.trans q) (l.trans r)⟩
abbrev rpI (K : PySem.W.Frag) : RP (List D) It := fun al F ds J => Walk K J al F ds
abbrev tIt (K : PySem.W.Frag) (f : M (List D)) : TI := tG K (rpI K) f
theorem get_map {K : PySem.W.Frag} {al : List Addr} {F : Hp} {ds : List D} {vs : List V} (r : RepL K al F vs ds) {i : Nat} {d : D} (h : ds[i]? = some d) : ∃ v, vs[i]? = some v ∧ Rep K al F v d := r.get h
theorem walk_lst {K : PySem.W.Frag} {al : List Addr} {F : Hp} {a : Addr} {xs : List V} {ds : List D} (h : SqL K F a xs) (inj : ∀ {H : Hp} {ys : List V}, SqL K H a xs → SqL K H a ys → ys = xs) (r : RepL K al F xs ds) : Walk K (Itl K a) al F ds where
  go := fun {al' F' H' m'} c p l i d hi => by
    obtain ⟨v, h1, h2⟩ := r.get hi
    have q := sqL_sub c.sub (l.sqL h)
    refine ⟨⟨xs, v, q, h1⟩, fun x H2 y => ?_⟩
    obtain ⟨e, y⟩ := y
    subst e
    have e2 := y xs q
    rw [h1] at e2
    cases e2
    exact ⟨F', c, Ex.refl _ _ _, h2.mono p l⟩
  stop := fun {al' F' H' m'} c p l i hi => ⟨xs, sqL_sub c.sub (l.sqL h), by rw [r.length]; exact hi⟩
theorem walk_tup {K : PySem.W.Frag} {al : List Addr} {F : Hp} {a : Addr} {xs : List V} {ds : List D} (h : SqT K F a xs) (r : RepL K al F xs ds) : Walk K (Itt K a) al F ds where
  go := fun {al' F' H' m'} c p l i d hi => by
    obtain ⟨v, h1, h2⟩ := r.get hi
    have q := sqT_sub c.sub (l.sqT h)
    refine ⟨⟨xs, v, q, h1⟩, fun x H2 y => ?_⟩
    obtain ⟨e, y⟩ := y
    subst e
    have e2 := y xs q
    rw [h1] at e2
    cases e2
    exact ⟨F', c, Ex.refl _ _ _, h2.mono p l⟩
  stop := fun {al' F' H' m'} c p l i hi => ⟨xs, sqT_sub c.sub (l.sqT h), by rw [r.length]; exact hi⟩
theorem walk_str {K : PySem.W.Frag} {al : List Addr} {F : Hp} {x : Str} : Walk K (Its x) al F (x.cps.toList.map fun c => .str ⟨#[c]⟩) where
  go := fun {al' F' H' m'} c p l i d hi => by
    rw [List.getElem?_map] at hi
    obtain ⟨k, hk, rfl⟩ := Option.map_eq_some_iff.mp hi
    rw [Array.getElem?_toList] at hk
    refine ⟨(Array.getElem?_eq_some_iff.mp hk).1, fun v H2 y => ?_⟩
    obtain ⟨e, k', hk', e2⟩ := y
    rw [hk] at hk'
    cases hk'
    subst e e2
    exact ⟨F', c, Ex.refl _ _ _, .str _⟩
  stop := fun {al' F' H' m'} c p l i hi => by
    show x.cps.size ≤ i
    simpa using hi
theorem walk_rng {K : PySem.W.Frag} {al : List Addr} {F : Hp} {lo : Int} {n : Nat} : Walk K (Itr lo n) al F ((List.range n).map fun (i : Nat) => .int (lo + (i : Int))) where
  go := fun {al' F' H' m'} c p l i d hi => by
    rw [List.getElem?_map] at hi
    obtain ⟨k, hk, rfl⟩ := Option.map_eq_some_iff.mp hi
    have h1 := List.getElem?_eq_some_iff.mp hk
    obtain ⟨h1, h2⟩ := h1
    simp at h1 h2
    subst h2
    refine ⟨h1, fun v H2 y => ?_⟩
    obtain ⟨e, e2⟩ := y
    subst e e2
    exact ⟨F', c, Ex.refl _ _ _, .int _⟩
  stop := fun {al' F' H' m'} c p l i hi => by
    show n ≤ i
    simpa using hi
section
variable {X : Cx} {pos p : Pos} {a b tg : Expr} {es : List Expr}
theorem pi_itD {f : M D} (ha : PE X a (tD X.K f)) : PI X tg a (tIt X.K (f.bind fun x e m => M.of (walkD m x) e m)) := by
  refine ⟨fun pins s σ H Rq I h => ?_⟩
  refine thn (ha.run pins s σ H _ I (tG_bind h)) fun v s1 ⟨x, H1, I1, r1, q1⟩ => ?_
  obtain ⟨d, e, m, al, F, sr, rd, ok⟩ := q1
  obtain ⟨ds, hd, fin⟩ := R.Ok.of ok
  have listy : ∀ {q : Addr} {xs : List V}, x = .ref q → SqL X.K F q xs → RepL X.K al F xs ds → wpAny (model X.prog X.w) X.A (pyIter v) (PIE X pins σ tg Rq) X.xe s1 := fun {q xs} ex hq hr => by
    subst ex
    cases r1
    have hq1 := sqL_sub sr.core.sub hq
    obtain ⟨us, rv, pl, hz⟩ := I1.list hq1
    have W : Walk X.K (Itl X.K q) al F ds := ⟨fun {al' F' H' m'} c p l i d hi => by
      obtain ⟨v, h1, h2⟩ := hr.get hi
      have q2 := sqL_sub c.sub (l.sqL hq)
      refine ⟨⟨xs, v, q2, h1⟩, fun x H2 y => ?_⟩
      obtain ⟨e, y⟩ := y
      subst e
      have e2 := y xs q2
      rw [h1] at e2
      cases e2
      exact ⟨F', c, Ex.refl _ _ _, h2.mono p l⟩, fun {al' F' H' m'} c p l i hi => ⟨xs, sqL_sub c.sub (l.sqL hq), by rw [hr.length]; exact hi⟩⟩
    exact wpAny_pyIter_list pl.isList (pi_one (tk := s1.toks) I1 _ (turn_list q _) ⟨_, Heap.get?_push_size _ rfl, rfl, rfl⟩ (fin _ _ _ _ sr (Ex.refl _ _ _) W))
  cases d with
  | lst xs =>
    cases hd
    cases rd with
    | lst h1 h2 => exact listy rfl (SqL.of h1) h2
  | tup xs =>
    cases hd
    cases rd with
    | tup h1 h2 =>
      cases r1
      obtain ⟨us, rv, pl, hz⟩ := I1.tuple (sqT_sub sr.core.sub h1)
      exact wpAny_pyIter_tuple pl (pi_one (tk := s1.toks) I1 _ (turn_tuple _ _) ⟨_, Heap.get?_push_size _ rfl, rfl, rfl⟩ (fin _ _ _ _ sr (Ex.refl _ _ _) (walk_tup h1 h2)))
  | scr ns =>
    cases hd
    cases rd with
    | scr h1 => exact listy rfl h1 (repL_ints ns)
  | str x =>
    cases hd
    cases rd
    obtain ⟨t, rfl⟩ := r1
    have w := fin _ _ _ _ sr (Ex.refl _ _ _) walk_str
    cases hx : x.cps.all (· < 128)
    · exact wpAny_pyIter_wide hx (pi_one (tk := s1.toks) I1 _ (turn_str _ x t "str_iterator" (.inr rfl)) ⟨_, Heap.get?_push_size _ rfl, rfl, rfl⟩ w)
    · exact wpAny_pyIter_ascii hx (pi_one (tk := s1.toks) I1 _ (turn_str _ x t "str_ascii_iterator" (.inl rfl)) ⟨_, Heap.get?_push_size _ rfl, rfl, rfl⟩ w)
  | _ => cases hd
theorem pi_rng1D {f : M D} (hg : Gl X "range") (hm : X.mg "range" = none) (ha : PE X a (tD X.K f)) (hn : nice a = true) : PI X tg (.Call (.Name "range" p) [a] [] pos) (tIt X.K (f.bind fun x => M.of (rngD [x]))) := by
  refine (pi_range1 hg hm (pa_cons ha pa_nil (star_nice hn _ _)) (star_nice hn _ _)).imp fun σ H Q w => tG_mono (tG_bind w) fun v H1 h1 => ?_
  obtain ⟨d, e, m, al, F, sr, r, ok⟩ := h1
  obtain ⟨xs, hx, fin⟩ := R.Ok.of ok
  cases r <;> first | (cases hx; done) | skip
  simp only [rngD] at hx
  split at hx
  · rename_i hz
    cases hx
    exact ⟨_, rfl, by omega, by omega, fin _ _ _ _ sr (Ex.refl _ _ _) walk_rng⟩
  · cases hx
theorem pi_rng2D {f g : M D} (hg : Gl X "range") (hm : X.mg "range" = none) (ha : PE X a (tD X.K f)) (hb : PE X b (tD X.K g)) (hn : nice a = true) (hn2 : nice b = true) : PI X tg (.Call (.Name "range" p) [a, b] [] pos) (tIt X.K (f.bind fun x => g.bind fun y => M.of (rngD [x, y]))) := by
  refine (pi_range2 hg hm (pa_cons ha (pa_cons hb pa_nil (star_nice hn2 _ _)) (star_nice hn _ _)) (by rw [star_nice hn, star_nice hn2]; rfl) (star_nice hn2 _ _)).imp fun σ H Q w => tG_mono (tG_bind w) fun v H1 h1 => ?_
  obtain ⟨d, e, m, al, F, sr, r, ok⟩ := h1
  refine ⟨e, m, al, F, sr, (R.Ok.bind ok).mono (fun d2 e1 m1 ok1 v2 H2 al2 F2 sr2 ex2 r2 => ?_) fun _ _ _ z => z⟩
  obtain ⟨xs, hx, fin⟩ := R.Ok.of ok1
  cases r <;> first | (cases hx; done) | skip
  cases r2 <;> first | (cases hx; done) | skip
  simp only [rngD] at hx
  split at hx
  · rename_i hz
    cases hx
    exact ⟨_, _, rfl, by omega, fin _ _ _ _ sr2 ex2 walk_rng⟩
  · cases hx
end

end Mn
end
section
set_option Elab.async false
set_option linter.all false
set_option maxRecDepth 100000
/-! Targets and comprehensions over trees. -/
namespace Mn
open PySem PySem.Spec PyProof.Rows L2
variable {K : PySem.W.Frag}
/-! ### states -/
theorem wipe_set (σ : L2.St) (i : Nat) (x : Option V) : ∀ vs : List Nat, i ∈ vs → wipe (σ.set i x) vs = wipe σ vs
  | [], h => by simp at h
  | v :: vs, h => by
    unfold wipe
    by_cases e : i ∈ vs
    · rw [wipe_set σ i x vs e]
    · have e2 : i = v := by
        rcases List.mem_cons.mp h with h | h
        · exact h
        · exact absurd h e
      subst e2
      have go : ∀ ws : List Nat, i ∉ ws → (wipe (σ.set i x) ws) = (wipe σ ws).set i x := fun ws => by
        induction ws with
        | nil => intro _; rfl
        | cons w ws ih =>
          intro hw
          simp only [List.mem_cons, not_or] at hw
          unfold wipe
          rw [ih hw.2, List.set_comm _ _ hw.1]
      rw [go vs e, List.set_set]
theorem wipe_get {σ : L2.St} {i : Nat} : ∀ {vs : List Nat}, i ∉ vs → (wipe σ vs)[i]? = σ[i]?
  | [], _ => rfl
  | v :: vs, h => by
    simp only [List.mem_cons, not_or] at h
    unfold wipe
    rw [List.getElem?_set_ne (Ne.symm h.1), wipe_get h.2]
theorem wipeE_length (e : Env) : ∀ vs : List Nat, (wipeE e vs).length = e.length
  | [] => rfl
  | v :: vs => by unfold wipeE; rw [List.length_set, wipeE_length e vs]
theorem wipeE_some {e : Env} {i : Nat} {d : D} : ∀ {vs : List Nat}, (wipeE e vs)[i]? = some (some d) → e[i]? = some (some d) ∧ i ∉ vs
  | [], h => ⟨h, by simp⟩
  | v :: vs, h => by
    unfold wipeE at h
    by_cases q : v = i
    · subst q
      by_cases hv : v < (wipeE e vs).length
      · rw [List.getElem?_set_self hv] at h; cases h
      · rw [List.getElem?_eq_none (by simpa using hv)] at h; cases h
    · rw [List.getElem?_set_ne q] at h
      obtain ⟨h1, h2⟩ := wipeE_some h
      exact ⟨h1, by simp only [List.mem_cons, not_or]; exact ⟨fun z => q z.symm, h2⟩⟩
theorem SR.wipe {σ : L2.St} {H : Hp} {e : Env} {m : Mu} {al : List Addr} {F : Hp} (sr : SR K σ H e m al F) (vs : List Nat) : SR K (L2.wipe σ vs) H (wipeE e vs) m al F := by
  refine ⟨sr.core, fun i d h => ?_, by rw [wipe_length, wipeE_length]; exact sr.len⟩
  obtain ⟨h1, h2⟩ := wipeE_some h
  obtain ⟨v, g1, g2⟩ := sr.slots i d h1
  exact ⟨v, by rw [wipe_get h2]; exact g1, g2⟩
theorem SR.unwipe {σ : L2.St} {H : Hp} {e : Env} {m : Mu} {al : List Addr} {F : Hp} {vs : List Nat} (sr : SR K (L2.wipe σ vs) H e m al F) : SR K σ H e m al F := by
  refine ⟨sr.core, fun i d h => ?_, by rw [← sr.len, wipe_length]⟩
  obtain ⟨v, g1, g2⟩ := sr.slots i d h
  exact ⟨v, (wipe_some g1).1, g2⟩
theorem SR.set {σ : L2.St} {H : Hp} {e : Env} {m : Mu} {al : List Addr} {F : Hp} (sr : SR K σ H e m al F) {i : Nat} {v : V} {d : D} (r : Rep K al F v d) : SR K (σ.set i (some v)) H (e.set i (some d)) m al F := by
  refine ⟨sr.core, fun j d2 h => ?_, by rw [List.length_set, List.length_set]; exact sr.len⟩
  by_cases q : i = j
  · subst q
    have hi : i < e.length := by
      have := (List.getElem?_eq_some_iff.mp h).1
      simpa using this
    rw [List.getElem?_set_self hi] at h
    cases h
    exact ⟨v, by rw [List.getElem?_set_self (by rw [sr.len]; exact hi)], r⟩
  · rw [List.getElem?_set_ne q] at h
    obtain ⟨v2, g1, g2⟩ := sr.slots j d2 h
    exact ⟨v2, by rw [List.getElem?_set_ne q]; exact g1, g2⟩

/-! ### targets -/
def gD (K : PySem.W.Frag) (T : Tg) : TG := fun v σ H Q => ∃ d e e' m al F, SR K σ H e m al F ∧ Rep K al F v d ∧ bindTg T d e = some e' ∧
  ∀ σ', SR K σ' H e' m al F → (∀ own : List Nat, (∀ i ∈ Tg.slots T, i ∈ own) → wipe σ' own = wipe σ own) → Q σ' H
def gDs (K : PySem.W.Frag) (Ts : List Tg) : TGs := fun vs σ H Q => ∃ ds e e' m al F, SR K σ H e m al F ∧ RepL K al F vs ds ∧ bindTgs Ts ds e = some e' ∧
  ∀ σ', SR K σ' H e' m al F → (∀ own : List Nat, (∀ i ∈ Tg.slotss Ts, i ∈ own) → wipe σ' own = wipe σ own) → Q σ' H
theorem _root_.L2.PGs.imp {X : Cx} {es : List Expr} {t t' : TGs} (h : PGs X es t) (i : ∀ v σ H Q, t' v σ H Q → t v σ H Q) : PGs X es t' := ⟨fun pins s σ H v u Q I r w => h.run pins s σ H v u Q I r (i v σ H Q w)⟩
section
variable {X : Cx} {pos : Pos} {es : List Expr} {a : Expr}
theorem pg_nmD {i : Nat} {x : Str} (hN : X.N.Nodup) (hi : X.N[i]? = some x) (hx : Loc X.env.scope x) (hf : X.fn x = true ∨ X.env.scope.names.lookup x = some .local) : PG X (.Name x pos) (gD X.K (.nm i)) := by
  refine (pg_name hN hi hx hf).imp fun v σ H Q w => ?_
  obtain ⟨d, e, e', m, al, F, sr, r, hb, k⟩ := w
  cases hb
  exact k _ (sr.set r) fun own ho => wipe_set _ _ _ _ (ho i (by simp [Tg.slots]))
theorem pgs_nilD : PGs X [] (gDs X.K []) := by
  refine pgs_nil.imp fun v σ H Q w => ?_
  obtain ⟨ds, e, e', m, al, F, sr, r, hb, k⟩ := w
  cases ds with
  | nil =>
    cases r
    cases hb
    exact ⟨rfl, k _ sr fun _ _ => rfl⟩
  | cons d ds => cases hb
theorem tgt_nice (h : nice a = true) (env : PySem.Env) : (assignEach (a :: es) env).map (·.2) = assign a env :: (assignEach es env).map (·.2) := by
  cases a <;> first | rfl | (simp [nice] at h)
theorem tgts_nice : ∀ {es : List Expr}, es.all nice = true → ∀ env, (assignEach es env).length = es.length ∧ (assignEach es env).findIdx? (·.1) = none
  | [], _, _ => ⟨rfl, rfl⟩
  | e :: es, h, env => by
    rw [List.all_cons, Bool.and_eq_true] at h
    obtain ⟨h1, h2⟩ := tgts_nice h.2 env
    have e1 : assignEach (e :: es) env = (false, assign e env) :: assignEach es env := by
      have hn := h.1
      cases e <;> first | rfl | (simp [nice] at hn)
    rw [e1]
    refine ⟨by simp [h1], ?_⟩
    rw [List.findIdx?_cons]
    simp [h2]
theorem pgs_consD {T : Tg} {Ts : List Tg} (h1 : PG X a (gD X.K T)) (h2 : PGs X es (gDs X.K Ts)) (hn : nice a = true) : PGs X (a :: es) (gDs X.K (T :: Ts)) := by
  refine (pgs_cons h1 h2 (tgt_nice hn _)).imp fun v σ H Q w => ?_
  obtain ⟨ds, e, e', m, al, F, sr, r, hb, k⟩ := w
  cases ds with
  | nil => cases hb
  | cons d ds =>
    cases r with
    | cons r1 r2 =>
      obtain ⟨e1, hb1, hb2⟩ := Option.bind_eq_some_iff.mp hb
      refine ⟨_, _, rfl, d, e, e1, m, al, F, sr, r1, hb1, fun σ1 sr1 w1 => ?_⟩
      refine ⟨ds, e1, e', m, al, F, sr1, r2, hb2, fun σ2 sr2 w2 => ?_⟩
      exact k σ2 sr2 fun own ho => (w2 own fun i hi => ho i (List.mem_append_right _ hi)).trans (w1 own fun i hi => ho i (List.mem_append_left _ hi))
theorem bindTgs_len : ∀ {Ts : List Tg} {ds : List D} {e e' : Env}, bindTgs Ts ds e = some e' → ds.length = Ts.length
  | [], [], _, _, _ => rfl
  | T :: Ts, d :: ds, e, e', h => by
    obtain ⟨e1, _, h2⟩ := Option.bind_eq_some_iff.mp h
    simp [bindTgs_len h2]
  | [], _ :: _, _, _, h => by cases h
  | _ :: _, [], _, _, h => by cases h
theorem pg_tpD {Ts : List Tg} {k : Nat} (hc : X.calm = true) (h : PGs X es (gDs X.K Ts)) (hn : es.all nice = true) (hl : es.length = Ts.length) : PG X (.Tuple es k pos) (gD X.K (.tp Ts)) := by
  obtain ⟨h1, h2⟩ := tgts_nice hn X.env
  refine (pg_tup hc h (h1.trans hl) h2).imp fun v σ H Q w => ?_
  obtain ⟨d, e, e', m, al, F, sr, r, hb, k⟩ := w
  cases r <;> first | (cases hb; done) | skip
  rename_i a xs ds q1 q2
  have hb : bindTgs Ts ds e = some e' := hb
  refine ⟨a, xs, rfl, sqT_sub sr.core.sub q1, by rw [q2.length]; exact bindTgs_len hb, ds, e, e', m, al, F, sr, q2, hb, fun σ' sr' w' => ?_⟩
  exact k σ' sr' w'
end

/-! ### comprehensions -/
theorem R.Ok.isok {α : Type} {r : R α} {P : α → Env → Mu → Prop} (h : r.Ok P NoE) : ∃ a e m, r = .ok a e m ∧ P a e m := by
  cases r with
  | ok a e m => exact ⟨a, e, m, rfl, h⟩
  | exc c vs m => exact h.elim
  | stuck => exact h.elim
theorem Core.write {H : Hp} {m : Mu} {al : List Addr} {F : Hp} (c : Core K H m al F) {a : Addr} (hF : F a = none) (ha : a ∉ al) (o : HO) : Core K (upd H a o) m al F := by
  have ne : ∀ {b : Addr}, b ∈ al → b ≠ a := fun hb e => ha (e ▸ hb)
  refine ⟨fun b u h => ?_, c.len, c.nd, fun b h => ?_, fun k b d h1 h2 => ?_⟩
  · rw [upd_ne (fun e => by subst e; rw [hF] at h; cases h)]
    exact c.sub b u h
  · rw [upd_ne (ne h)]; exact c.has b h
  · have nb := ne (List.mem_of_getElem? h1)
    obtain ⟨g1, g2⟩ := c.live k b d h1 h2
    refine ⟨g1, ?_⟩
    cases g2 with
    | lst q1 q2 => exact .lst (by rw [upd_ne nb]; exact q1) q2
    | dicK q1 q2 => exact .dicK (by rw [upd_ne nb]; exact q1) q2
    | dicT q1 q2 => exact .dicT (by rw [upd_ne nb]; exact q1) q2
/-- an own object that nobody else knows is frozen -/
theorem Core.shut {H : Hp} {m : Mu} {al : List Addr} {F : Hp} (c : Core K H m al F) {a : Addr} (hF : F a = none) (ha : a ∉ al) {o : HO} (ho : H a = some o) : Core K H m al (upd F a o) := by
  have ne : ∀ {b : Addr}, b ∈ al → b ≠ a := fun hb e => ha (e ▸ hb)
  refine ⟨fun b u h => ?_, c.len, c.nd, c.has, fun k b d h1 h2 => ?_⟩
  · by_cases q : b = a
    · subst q; rw [upd_same] at h; rw [ho]; exact h
    · rw [upd_ne q] at h; exact c.sub b u h
  · have nb := ne (List.mem_of_getElem? h1)
    obtain ⟨g1, g2⟩ := c.live k b d h1 h2
    refine ⟨by rw [upd_ne nb]; exact g1, ?_⟩
    cases g2 with
    | lst q1 q2 => exact .lst q1 (q2.mono (Pre.refl _) (Le.new hF))
    | dicK q1 q2 => exact .dicK q1 (q2.mono (Pre.refl _) (Le.new hF))
    | dicT q1 q2 => exact .dicT q1 (q2.mono (Pre.refl _) (Le.new hF))
/-- the state of a comprehension: the new list at D -/
structure LcAt (K : PySem.W.Frag) (al0 : List Addr) (F0 H0 : Hp) (L : Addr) (σ : L2.St) (H : Hp) (e : Env) (m : Mu) (al : List Addr) (F : Hp) (ys : List D) (acc : List V) : Prop where
  sr : SR K σ H e m al F
  ex : Ex al0 F0 H0 al F H
  at_ : H L = some (.lst acc)
  nF : F L = none
  na : L ∉ al
  rep : RepL K al F acc ys
theorem LcAt.grow {al0 : List Addr} {F0 H0 : Hp} {L : Addr} {σ σ' : L2.St} {H H' : Hp} {e e' : Env} {m m' : Mu} {al al' : List Addr} {F F' : Hp} {ys : List D} {acc : List V} (x : LcAt K al0 F0 H0 L σ H e m al F ys acc) (sr : SR K σ' H' e' m' al' F') (ex : Ex al F H al' F' H') : LcAt K al0 F0 H0 L σ' H' e' m' al' F' ys acc :=
  ⟨sr, x.ex.trans ex, ex.keep _ _ x.at_ x.na, ex.nf _ _ x.nF x.na x.at_, fun z => (ex.new _ z).elim x.na fun q => (nomatch x.at_.symm.trans q), x.rep.mono ex.pre ex.le⟩
theorem LcAt.wipe {al0 : List Addr} {F0 H0 : Hp} {L : Addr} {σ : L2.St} {H : Hp} {e : Env} {m : Mu} {al : List Addr} {F : Hp} {ys : List D} {acc : List V} (x : LcAt K al0 F0 H0 L σ H e m al F ys acc) (vs : List Nat) : LcAt K al0 F0 H0 L (L2.wipe σ vs) H (wipeE e vs) m al F ys acc :=
  ⟨x.sr.wipe vs, x.ex, x.at_, x.nF, x.na, x.rep⟩
theorem LcAt.push {al0 : List Addr} {F0 H0 : Hp} {L : Addr} {σ : L2.St} {H : Hp} {e : Env} {m : Mu} {al : List Addr} {F : Hp} {ys : List D} {acc : List V} (x : LcAt K al0 F0 H0 L σ H e m al F ys acc) (hL : H0 L = none) {v : V} {d : D} (r : Rep K al F v d) : LcAt K al0 F0 H0 L σ (upd H L (.lst (acc ++ [v]))) e m al F (ys ++ [d]) (acc ++ [v]) :=
  ⟨⟨x.sr.core.write x.nF x.na _, x.sr.slots, x.sr.len⟩, ⟨x.ex.pre, x.ex.le, fun a o h n => by rw [upd_ne (ne_of_none h hL)]; exact x.ex.keep a o h n, x.ex.new, x.ex.nf⟩, upd_same, x.nF, x.na, x.rep.app (.cons r .nil)⟩
theorem LcAt.done {al0 : List Addr} {F0 H0 : Hp} {L : Addr} {σ : L2.St} {H : Hp} {e : Env} {m : Mu} {al : List Addr} {F : Hp} {ys : List D} {acc : List V} (x : LcAt K al0 F0 H0 L σ H e m al F ys acc) (hL : H0 L = none) :
    SR K σ H e m al (upd F L (.lst acc)) ∧ Ex al0 F0 H0 al (upd F L (.lst acc)) H ∧ Rep K al (upd F L (.lst acc)) (.ref L) (.lst ys) :=
  ⟨⟨x.sr.core.shut x.nF x.na x.at_, x.sr.slots.mono (Pre.refl _) (Le.new x.nF), x.sr.len⟩, ⟨x.ex.pre, x.ex.le.trans (Le.new x.nF), x.ex.keep, x.ex.new, fun a o h n q => by rw [upd_ne (ne_of_none q hL)]; exact x.ex.nf a o h n q⟩, .lst upd_same (x.rep.mono (Pre.refl _) (Le.new x.nF))⟩
theorem lcD_imp {T : Tg} {fi : M (List D)} {ft : M Bool} {fe : M D} {own : List Nat} (ho : ∀ i ∈ Tg.slots T, i ∈ own) (σ : L2.St) (H : Hp) (Q : VK)
    (w : tD K (fi.bind fun xs e m => (lcGo (bindTg T) ft fe own xs (wipeE e own) m).bind fun ys e m => if lim ys = true then .ok (.lst ys) e m else .stuck) σ H Q) :
    tLc (tIt K fi) (gD K T) (tDT K ft) (tD K fe) own σ H Q := by
  refine tG_mono (tG_bind w) fun J H1 h1 => ?_
  obtain ⟨ds, e, m, al, F, sr, wk, ok⟩ := h1
  intro L hL
  refine ⟨fun i n H2 => n = ds.length - i ∧ i ≤ ds.length ∧ ∃ e2 m2 al2 F2 ys acc, LcAt K al F H1 L (L2.wipe σ own) H2 e2 m2 al2 F2 ys acc ∧
    (lcGo (bindTg T) ft fe own (ds.drop i) e2 m2).Ok (fun zs e3 m3 => lim (ys ++ zs) = true ∧ FinG K (rpD K) σ al F H1 Q (.lst (ys ++ zs)) e3 m3) NoE, ⟨ds.length, by simp, Nat.zero_le _, ?_⟩, ?_⟩
  · refine ⟨wipeE e own, m, al, F, [], [], ⟨(SR.mk (sr.core.write (sr.core.fresh hL) (fun z => ?_) _) sr.slots sr.len).wipe own, ⟨Pre.refl _, Le.refl _, fun a o h _ => by rw [upd_ne (ne_of_none h hL)]; exact h, fun _ h => .inl h, fun _ _ h _ _ => h⟩, upd_same, sr.core.fresh hL, fun z => ?_, .nil⟩, ?_⟩
    · obtain ⟨u, hu⟩ := sr.core.has L z
      rw [hL] at hu; cases hu
    · obtain ⟨u, hu⟩ := sr.core.has L z
      rw [hL] at hu; cases hu
    · rw [List.drop_zero]
      refine (R.Ok.bind ok).mono (fun ys e3 m3 k => ?_) fun _ _ _ z => z
      by_cases hl : lim ys = true
      · simp only [hl, if_true] at k
        exact ⟨hl, k⟩
      · rw [Bool.not_eq_true] at hl
        simp only [hl, Bool.false_eq_true, if_false] at k
        exact k.elim
  · rintro i n H2 ⟨rfl, hi, e2, m2, al2, F2, ys, acc, at_, k⟩
    by_cases hlt : i < ds.length
    · obtain ⟨go, yl⟩ := wk.go at_.sr.core at_.ex.pre at_.ex.le i ds[i] (by simp [hlt])
      have ed : ds.drop i = ds[i] :: ds.drop (i + 1) := List.drop_eq_getElem_cons hlt
      rw [ed] at k
      refine .inr ⟨go, fun H3 => ∃ e3 m3 al3 F3 ys acc, LcAt K al F H1 L (L2.wipe σ own) H3 e3 m3 al3 F3 ys acc ∧
        (lcGo (bindTg T) ft fe own (ds.drop (i + 1)) e3 m3).Ok (fun zs e3 m3 => lim (ys ++ zs) = true ∧ FinG K (rpD K) σ al F H1 Q (.lst (ys ++ zs)) e3 m3) NoE, fun H3 h3 => ⟨ds.length - (i + 1), by omega, rfl, hlt, h3⟩, fun x H3 y => ?_⟩
      obtain ⟨F3, c3, ex3, r3⟩ := yl x H3 y
      have at3 := at_.grow (σ' := L2.wipe σ own) (e' := e2) ⟨c3, at_.sr.slots.mono ex3.pre ex3.le, at_.sr.len⟩ ex3
      rw [lcGo] at k
      cases hb : bindTg T ds[i] e2 with
      | none => rw [hb] at k; exact k.elim
      | some e3 =>
        rw [hb] at k
        refine ⟨ds[i], e2, e3, m2, al2, F3, at3.sr, r3, hb, fun σ2 sr2 w2 => ?_⟩
        have wi : L2.wipe σ2 own = L2.wipe σ own := by
          rw [w2 own ho]
          have idem : ∀ vs : List Nat, (∀ i ∈ vs, i ∈ own) → L2.wipe (L2.wipe σ own) vs = L2.wipe σ own := fun vs => by
            induction vs with
            | nil => intro _; rfl
            | cons v vs ih =>
              intro hv
              show (L2.wipe (L2.wipe σ own) vs).set v none = L2.wipe σ own
              rw [ih fun i hi => hv i (List.mem_cons_of_mem _ hi)]
              have gone : ∀ ws : List Nat, v ∈ ws → (L2.wipe σ ws).set v none = L2.wipe σ ws := fun ws => by
                induction ws with
                | nil => intro h; simp at h
                | cons w ws ih2 =>
                  intro h
                  show ((L2.wipe σ ws).set w none).set v none = (L2.wipe σ ws).set w none
                  by_cases q : v = w
                  · subst q; rw [List.set_set]
                  · rw [List.set_comm _ _ (Ne.symm q), ih2 (by
                      rcases List.mem_cons.mp h with h | h
                      · exact absurd h q
                      · exact h)]
              exact gone own (hv v List.mem_cons_self)
          exact idem own fun _ h => h
        refine ⟨wi, e3, m2, al2, F3, sr2, (R.Ok.bind k).mono (fun b e4 m4 k4 b' H4 al4 F4 sr4 ex4 eb => ?_) fun _ _ _ z => z⟩
        subst eb
        have at4 := at3.grow sr4 ex4
        cases b with
        | false =>
          rw [if_neg (by decide)]
          simp only [Bool.false_eq_true, if_false] at k4
          have := at4.wipe own
          rw [wi] at this
          exact ⟨_, _, _, _, _, _, this, k4⟩
        | true =>
          rw [if_pos rfl]
          simp only [if_true] at k4
          refine ⟨e4, m4, al4, F4, sr4, (R.Ok.bind k4).mono (fun d5 e5 m5 k5 v5 H5 al5 F5 sr5 ex5 r5 => ?_) fun _ _ _ z => z⟩
          have at5 := at4.grow sr5 ex5
          have k6 := R.Ok.bind k5
          obtain ⟨zs, e6, m6, er, hl, fin⟩ := k6.isok
          refine ⟨acc, at5.at_, ?_, ?_⟩
          · have h1 := lim_ok hl
            rw [List.length_append, List.length_cons] at h1
            rw [at5.rep.length]
            omega
          · have := (at5.push hL r5).wipe own
            rw [wi] at this
            refine ⟨_, _, _, _, _, _, this, k6.mono (fun zs e6 m6 k7 => ?_) fun _ _ _ z => z⟩
            rw [List.append_assoc]
            exact k7
    · have en : i = ds.length := by omega
      subst en
      rw [List.drop_length] at k
      obtain ⟨hl, fin⟩ := k
      rw [List.append_nil] at fin
      obtain ⟨g1, g2, g3⟩ := at_.done hL
      exact .inl ⟨wk.stop at_.sr.core at_.ex.pre at_.ex.le _ (Nat.le_refl _), fin _ _ _ _ g1.unwipe g2 g3⟩
end Mn
end
section
set_option Elab.async false
set_option linter.all false
set_option maxRecDepth 100000
/-! Statements over trees. -/
namespace Mn
open PySem PySem.Spec PyProof.Rows L2
variable {K : PySem.W.Frag}
theorem Fl.Ok.mono {r : Fl} {P P' : FP} (h : r.Ok P) (h1 : ∀ e m, P.nx e m → P'.nx e m) (h2 : ∀ d m, P.rt d m → P'.rt d m) (h3 : ∀ e m, P.bk e m → P'.bk e m) (h4 : ∀ e m, P.ct e m → P'.ct e m) (h5 : ∀ c vs m, P.exc c vs m → P'.exc c vs m) : r.Ok P' := by
  cases r with
  | nx e m => exact h1 _ _ h
  | rt d m => exact h2 _ _ h
  | bk e m => exact h3 _ _ h
  | ct e m => exact h4 _ _ h
  | exc c vs m => exact h5 _ _ _ h
  | stuck => exact h
theorem fl_ok {α : Type} {r : R α} {f : α → Env → Mu → Fl} {P : FP} (h : (r.fl f).Ok P) (he : ∀ c vs m, P.exc c vs m → False) : r.Ok (fun a e m => (f a e m).Ok P) NoE := by
  cases r with
  | ok a e m => exact h
  | exc c vs m => exact he _ _ _ h
  | stuck => exact h
/-- what is wanted behind a statement, over trees -/
def fpD (K : PySem.W.Frag) (al : List Addr) (F H : Hp) (E : Ends) : FP where
  nx e m := ∀ σ' H' al' F', SR K σ' H' e m al' F' → Ex al F H al' F' H' → E.nx σ' H'
  rt d m := ∀ v H' al' F', Core K H' m al' F' → Ex al F H al' F' H' → Rep K al' F' v d → E.rt v H'
  bk e m := ∀ σ' H' al' F', SR K σ' H' e m al' F' → Ex al F H al' F' H' → E.bk σ' H'
  ct e m := ∀ σ' H' al' F', SR K σ' H' e m al' F' → Ex al F H al' F' H' → E.ct σ' H'
  exc _ _ _ := False
def tF (K : PySem.W.Frag) (f : Env → Mu → Fl) : TS := fun E σ H => ∃ e m al F, SR K σ H e m al F ∧ (f e m).Ok (fpD K al F H E)
theorem fpD_trans {al al1 : List Addr} {F F1 H H1 : Hp} {E : Ends} (x : Ex al F H al1 F1 H1) {r : Fl} (h : r.Ok (fpD K al F H E)) : r.Ok (fpD K al1 F1 H1 E) :=
  h.mono (fun _ _ q σ' H' al' F' sr ex => q σ' H' al' F' sr (x.trans ex)) (fun _ _ q v H' al' F' c ex r => q v H' al' F' c (x.trans ex) r)
    (fun _ _ q σ' H' al' F' sr ex => q σ' H' al' F' sr (x.trans ex)) (fun _ _ q σ' H' al' F' sr ex => q σ' H' al' F' sr (x.trans ex)) fun _ _ _ z => z
/-- what a statement does with a value -/
def tKs {α β : Type} (K : PySem.W.Frag) (rp : RP α β) (f : α → Env → Mu → Fl) (v : β) : L2.St → Hp → Ends → Prop := fun σ H E => ∃ d e m al F, SR K σ H e m al F ∧ rp al F d v ∧ (f d e m).Ok (fpD K al F H E)
theorem tF_bind {α β : Type} {rp : RP α β} {f : M α} {g : α → Env → Mu → Fl} {E : Ends} {σ : L2.St} {H : Hp} (h : tF K (fun r m => (f r m).fl g) E σ H) : tG K rp f σ H fun v H1 => tKs K rp g v σ H1 E := by
  obtain ⟨e, m, al, F, sr, ok⟩ := h
  refine ⟨e, m, al, F, sr, (fl_ok ok fun _ _ _ z => z).mono (fun d e1 m1 ok1 v H1 al1 F1 sr1 ex1 r1 => ?_) fun _ _ _ z => z⟩
  exact ⟨d, e1, m1, al1, F1, sr1, r1, fpD_trans ex1 ok1⟩
theorem tG_fl {α β : Type} {rp : RP α β} {f : M α} {g : α → Env → Mu → Fl} {E : Ends} {σ : L2.St} {H : Hp} {e : Env} {m : Mu} {al : List Addr} {F : Hp} (sr : SR K σ H e m al F) (ok : ((f e m).fl g).Ok (fpD K al F H E)) : tG K rp f σ H fun v H1 => tKs K rp g v σ H1 E := tF_bind ⟨e, m, al, F, sr, ok⟩
section
variable {X : Cx} {pos : Pos} {a b c tg : Expr} {sa sb : List Stmt}
theorem ps_setD {T : Tg} {f : M D} (ha : PE X a (tD X.K f)) (hg : PG X tg (gD X.K T)) (hn : noComp a = true) (hw : swappedStores [tg] a X.env = pure none) (h1 : (assignEach [tg] X.env).map (·.2) = [assign tg X.env]) :
    PS X (.Assign [tg] a pos) (tF X.K fun r m => (f r m).fl fun d r m => match bindTg T d r with
      | some r => .nx r m
      | none => .stuck) := by
  refine (ps_asg ha hg (swap_comp hn _ _ _) hw h1).imp fun E σ H w => tG_mono (tF_bind w) fun v H1 k => ?_
  obtain ⟨d, e, m, al, F, sr, r, ok⟩ := k
  cases hb : bindTg T d e with
  | none => simp only [hb] at ok; exact ok.elim
  | some e' =>
    simp only [hb] at ok
    exact ⟨d, e, e', m, al, F, sr, r, hb, fun σ' sr' _ => ok σ' _ _ _ sr' (Ex.refl _ _ _)⟩
theorem ps_exprD {f : M D} (ha : PE X a (tD X.K f)) (hn : noComp a = true) : PS X (.Expr a pos) (tF X.K fun r m => (f r m).fl fun _ r m => .nx r m) := by
  refine (ps_expr ha (swap_comp hn _ _ _)).imp fun E σ H w => tG_mono (tF_bind w) fun v H1 k => ?_
  obtain ⟨d, e, m, al, F, sr, r, ok⟩ := k
  exact ok _ _ _ _ sr (Ex.refl _ _ _)
theorem ps_retD {f : M D} (ha : PE X a (tD X.K f)) : PS X (.Return (some a) pos) (tF X.K fun r m => (f r m).fl fun d _ m => .rt d m) := by
  refine (ps_ret ha).imp fun E σ H w => tG_mono (tF_bind w) fun v H1 k => ?_
  obtain ⟨d, e, m, al, F, sr, r, ok⟩ := k
  exact ok _ _ _ _ sr.core (Ex.refl _ _ _) r
theorem ps_retND : PS X (.Return none pos) (tF X.K fun _ m => .rt .non m) := by
  refine ps_retN.imp fun E σ H w => ?_
  obtain ⟨e, m, al, F, sr, ok⟩ := w
  exact ok _ _ _ _ sr.core (Ex.refl _ _ _) .non
theorem ps_passD : PS X (.Pass pos) (tF X.K fun r m => .nx r m) := by
  refine ps_pass.imp fun E σ H w => ?_
  obtain ⟨e, m, al, F, sr, ok⟩ := w
  exact ok _ _ _ _ sr (Ex.refl _ _ _)
theorem ps_brkD : PS X (.Break pos) (tF X.K fun r m => .bk r m) := by
  refine ps_break.imp fun E σ H w => ?_
  obtain ⟨e, m, al, F, sr, ok⟩ := w
  exact ok _ _ _ _ sr (Ex.refl _ _ _)
theorem ps_cntD : PS X (.Continue pos) (tF X.K fun r m => .ct r m) := by
  refine ps_continue.imp fun E σ H w => ?_
  obtain ⟨e, m, al, F, sr, ok⟩ := w
  exact ok _ _ _ _ sr (Ex.refl _ _ _)
theorem ps_neverD {st : Stmt} : PS X st (tF X.K fun _ _ => .stuck) := by
  refine ps_never.imp fun E σ H w => ?_
  obtain ⟨e, m, al, F, sr, ok⟩ := w
  exact ok.elim
theorem pss_nilD : PSs X [] (tF X.K fun r m => .nx r m) := by
  refine pss_nil.imp fun E σ H w => ?_
  obtain ⟨e, m, al, F, sr, ok⟩ := w
  exact ok _ _ _ _ sr (Ex.refl _ _ _)
theorem pss_consD {st : Stmt} {f g : Env → Mu → Fl} (h1 : PS X st (tF X.K f)) (h2 : PSs X sa (tF X.K g)) : PSs X (st :: sa) (tF X.K fun r m => match f r m with
    | .nx r m => g r m
    | k => k) := by
  refine (pss_cons h1 h2).imp fun E σ H w => ?_
  obtain ⟨e, m, al, F, sr, ok⟩ := w
  refine ⟨e, m, al, F, sr, ?_⟩
  simp only at ok
  cases hf : f e m with
  | nx e1 m1 =>
    rw [hf] at ok
    exact fun σ1 H1 al1 F1 sr1 ex1 => ⟨e1, m1, al1, F1, sr1, fpD_trans ex1 ok⟩
  | rt d m1 => rw [hf] at ok; exact ok
  | bk e1 m1 => rw [hf] at ok; exact ok
  | ct e1 m1 => rw [hf] at ok; exact ok
  | exc c vs m1 => rw [hf] at ok; exact ok
  | stuck => rw [hf] at ok; exact ok
theorem ps_ifD {t : M Bool} {f g : Env → Mu → Fl} (hc : PT X c (tDT X.K t)) (h1 : PSs X sa (tF X.K f)) (h2 : PSs X sb (tF X.K g)) : PS X (.If c sa sb pos) (tF X.K fun r m => (t r m).fl fun k r m => if k = true then f r m else g r m) := by
  refine (ps_if hc h1 h2).imp fun E σ H w => tG_mono (tF_bind w) fun v H1 k => ?_
  obtain ⟨d, e, m, al, F, sr, r, ok⟩ := k
  cases r
  cases v with
  | true =>
    rw [if_pos rfl]
    exact ⟨e, m, al, F, sr, by simpa using ok⟩
  | false =>
    rw [if_neg (by decide)]
    exact ⟨e, m, al, F, sr, by simpa using ok⟩
/-! ### for -/
theorem ps_forD {T : Tg} {fi : M (List D)} {f : Env → Mu → Fl} (hp : PassesOwn (model X.prog X.w) X.A X.env X.xe) (hc : X.calm = true) (hi : PI X tg a (tIt X.K fi)) (hg : PG X tg (gD X.K T)) (hb : PSs X sa (tF X.K f)) (hn : nice a = true) :
    PS X (.For tg a sa [] pos) (tF X.K fun r m => (fi r m).fl fun xs r m => forGo (bindTg T) f xs r m) := by
  refine (ps_for hp hc hi hg hb (folded_nice hn _)).imp fun E σ H w => tG_mono (tF_bind w) fun J H1 k => ?_
  obtain ⟨ds, e, m, al, F, sr, wk, ok⟩ := k
  refine ⟨fun i n σ H2 => n = ds.length - i ∧ i ≤ ds.length ∧ ∃ e2 m2 al2 F2, SR X.K σ H2 e2 m2 al2 F2 ∧ Ex al F H1 al2 F2 H2 ∧ (forGo (bindTg T) f (ds.drop i) e2 m2).Ok (fpD X.K al F H1 E),
    ⟨ds.length, by simp, Nat.zero_le _, e, m, al, F, sr, Ex.refl _ _ _, by rw [List.drop_zero]; exact ok⟩, ?_⟩
  rintro i n σ2 H2 ⟨rfl, hi, e2, m2, al2, F2, sr2, ex2, k⟩
  by_cases hlt : i < ds.length
  · obtain ⟨go, yl⟩ := wk.go sr2.core ex2.pre ex2.le i ds[i] (by simp [hlt])
    have ed : ds.drop i = ds[i] :: ds.drop (i + 1) := List.drop_eq_getElem_cons hlt
    rw [ed] at k
    refine .inr ⟨go, fun σ3 H3 => ∃ e3 m3 al3 F3, SR X.K σ3 H3 e3 m3 al3 F3 ∧ Ex al F H1 al3 F3 H3 ∧ (forGo (bindTg T) f (ds.drop (i + 1)) e3 m3).Ok (fpD X.K al F H1 E), fun σ3 H3 h3 => ⟨ds.length - (i + 1), by omega, rfl, hlt, h3⟩, fun x H3 y => ?_⟩
    obtain ⟨F3, c3, ex3, r3⟩ := yl x H3 y
    rw [forGo] at k
    cases hbi : bindTg T ds[i] e2 with
    | none => rw [hbi] at k; exact k.elim
    | some e3 =>
      rw [hbi] at k
      refine ⟨ds[i], e2, e3, m2, al2, F3, ⟨c3, sr2.slots.mono ex3.pre ex3.le, sr2.len⟩, r3, hbi, fun σ4 sr4 _ => ?_⟩
      refine ⟨e3, m2, al2, F3, sr4, ?_⟩
      have ex4 := ex2.trans ex3
      cases hf : f e3 m2 with
      | nx e5 m5 =>
        simp only [hf] at k
        exact fun σ5 H5 al5 F5 sr5 ex5 => ⟨e5, m5, al5, F5, sr5, ex4.trans ex5, k⟩
      | ct e5 m5 =>
        simp only [hf] at k
        exact fun σ5 H5 al5 F5 sr5 ex5 => ⟨e5, m5, al5, F5, sr5, ex4.trans ex5, k⟩
      | bk e5 m5 =>
        simp only [hf] at k
        exact fun σ5 H5 al5 F5 sr5 ex5 => k σ5 H5 al5 F5 sr5 (ex4.trans ex5)
      | rt d m5 =>
        simp only [hf] at k
        exact fun v H5 al5 F5 c5 ex5 r5 => k v H5 al5 F5 c5 (ex4.trans ex5) r5
      | exc c vs m5 =>
        simp only [hf] at k
        exact k
      | stuck =>
        simp only [hf] at k
        exact k
  · have en : i = ds.length := by omega
    subst en
    rw [List.drop_length] at k
    exact .inl ⟨wk.stop sr2.core ex2.pre ex2.le _ (Nat.le_refl _), k _ _ _ _ sr2 ex2⟩
/-! ### while -/
theorem ps_whD {t : M Bool} {f : Env → Mu → Fl} (n : Nat) (hp : PassesOwn (model X.prog X.w) X.A X.env X.xe) (hc : PT X c (tDT X.K t)) (hb : PSs X sa (tF X.K f)) : PS X (.While c sa [] pos) (tF X.K fun r m => whGo t f n r m) := by
  refine (ps_while hp hc hb).imp fun E σ H w => ?_
  obtain ⟨e, m, al, F, sr, ok⟩ := w
  refine ⟨fun n σ H2 => ∃ e2 m2 al2 F2, SR X.K σ H2 e2 m2 al2 F2 ∧ Ex al F H al2 F2 H2 ∧ (whGo t f n e2 m2).Ok (fpD X.K al F H E), ⟨n, e, m, al, F, sr, Ex.refl _ _ _, ok⟩, ?_⟩
  rintro n σ2 H2 ⟨e2, m2, al2, F2, sr2, ex2, k⟩
  cases n with
  | zero => exact k.elim
  | succ n =>
    rw [whGo] at k
    refine ⟨e2, m2, al2, F2, sr2, (fl_ok k fun _ _ _ z => z).mono (fun b e3 m3 k3 b' H3 al3 F3 sr3 ex3 eb => ?_) fun _ _ _ z => z⟩
    subst eb
    have ex4 := ex2.trans ex3
    cases b with
    | true =>
      rw [if_pos rfl]
      simp only [if_true] at k3
      refine ⟨fun σ5 H5 => ∃ e5 m5 al5 F5, SR X.K σ5 H5 e5 m5 al5 F5 ∧ Ex al F H al5 F5 H5 ∧ (whGo t f n e5 m5).Ok (fpD X.K al F H E), fun σ5 H5 h5 => ⟨n, Nat.lt_succ_self _, h5⟩, e3, m3, al3, F3, sr3, ?_⟩
      cases hf : f e3 m3 with
      | nx e5 m5 =>
        simp only [hf] at k3
        exact fun σ5 H5 al5 F5 sr5 ex5 => ⟨e5, m5, al5, F5, sr5, ex4.trans ex5, k3⟩
      | ct e5 m5 =>
        simp only [hf] at k3
        exact fun σ5 H5 al5 F5 sr5 ex5 => ⟨e5, m5, al5, F5, sr5, ex4.trans ex5, k3⟩
      | bk e5 m5 =>
        simp only [hf] at k3
        exact fun σ5 H5 al5 F5 sr5 ex5 => k3 σ5 H5 al5 F5 sr5 (ex4.trans ex5)
      | rt d m5 =>
        simp only [hf] at k3
        exact fun v H5 al5 F5 c5 ex5 r5 => k3 v H5 al5 F5 c5 (ex4.trans ex5) r5
      | exc c vs m5 =>
        simp only [hf] at k3
        exact k3
      | stuck =>
        simp only [hf] at k3
        exact k3
    | false =>
      rw [if_neg (by decide)]
      simp only [Bool.false_eq_true, if_false] at k3
      exact k3 _ _ _ _ sr3 ex4
end
end Mn
end
section
set_option Elab.async false
set_option linter.all false
set_option maxRecDepth 100000
/-! More statements over trees: items set, names counted up, pairs, comprehensions. -/
namespace Mn
open PySem PySem.Spec PyProof.Rows L2
variable {K : PySem.W.Frag}
theorem sub_nice {a b : Expr} {pos : Pos} (h : nice b = true) (env : PySem.Env) : ∀ v, assign (.Subscript a b pos) env v = (do
      let ov ← holding [v] (eval a env)
      let iv ← holding [v, ov] (eval b env)
      standAt pos
      holding [v, ov, iv] (setItem ov iv v)
      release [v, ov, iv] []) := by
  intro v
  cases b <;> first | rfl | (simp [nice] at h)
theorem RepL.set {al : List Addr} {F : Hp} {v : V} {d : D} (r : Rep K al F v d) : ∀ {ds : List D} {vs : List V} (n : Nat), RepL K al F vs ds → RepL K al F (vs.set n v) (ds.set n d)
  | [], _, n, q => by cases q; simpa using RepL.nil
  | _ :: _, _, 0, q => by
    cases q with
    | cons h1 h2 => exact .cons r h2
  | _ :: _, _, n + 1, q => by
    cases q with
    | cons h1 h2 => exact .cons h1 (RepL.set r n h2)
section
variable {X : Cx} {pos p2 : Pos} {a b c o i elt tg iter : Expr} {ifs : List Expr}
theorem ps_sidxD {f g h : M D} (hv : PE X a (tD X.K f)) (ho : PE X o (tD X.K g)) (hi : PE X i (tD X.K h)) (hn : noComp a = true) (hni : nice i = true) :
    PS X (.Assign [.Subscript o i p2] a pos) (tF X.K fun r m => (f r m).fl fun x r m => (g r m).fl fun y r m => (h r m).fl fun z r m => match sidxD m y z x with
      | some m => .nx r m
      | none => .stuck) := by
  have e1 : swappedStores [.Subscript o i p2] a X.env = pure none := by cases a <;> rfl
  refine (ps_asg hv (pg_sub ho hi set_list (sub_nice hni _)) (swap_comp hn (some (.Subscript o i p2)) pos.line X.env) e1 rfl).imp fun E σ H w => tG_mono (tF_bind w) fun x H1 k => ?_
  obtain ⟨d1, e, m, al, F, sr, rx, ok⟩ := k
  refine ⟨e, m, al, F, sr, (fl_ok ok fun _ _ _ z => z).mono (fun d2 e2 m2 ok2 y H2 al2 F2 sr2 ex2 ry => ?_) fun _ _ _ z => z⟩
  refine ⟨e2, m2, al2, F2, sr2, (fl_ok ok2 fun _ _ _ z => z).mono (fun d3 e3 m3 ok3 z H3 al3 F3 sr3 ex3 rz => ?_) fun _ _ _ z => z⟩
  have rx3 := (rx.mono ex2.pre ex2.le).mono ex3.pre ex3.le
  have ry3 := ry.mono ex3.pre ex3.le
  cases hs : sidxD m3 d2 d3 d1 with
  | none => simp only [hs] at ok3; exact ok3.elim
  | some m4 =>
    simp only [hs] at ok3
    unfold sidxD at hs
    split at hs
    · rename_i k j
      split at hs
      · rename_i xs hm
        split at hs
        · rename_i hz
          cases hs
          obtain ⟨q, rfl, hq, fq, ob⟩ := cell_get sr3.core ry3 hm
          cases rz
          cases ob with
          | @lst ys _ h1 h2 =>
            refine ⟨q, ys, j, j.toNat, rfl, rfl, h1, ?_, ?_⟩
            · unfold ixN
              rw [h2.length]
              have e1 : ¬ j < 0 := by omega
              simp [hz.1, hz.2, e1]
            · exact ok3 _ _ al3 F3 ⟨sr3.core.put hq hm (.lst upd_same (h2.set rx3 _)), sr3.slots, sr3.len⟩ ((ex2.trans ex3).trans (Ex.put hq))
        · cases hs
      · cases hs
    · cases hs
/-! ### name += e -/
theorem ps_augD {n : Nat} {x : Str} {f : M D} {op : Bop} (hop : op = .add ∨ op = .sub) (hN : X.N.Nodup) (hi : X.N[n]? = some x) (hx : Loc X.env.scope x) (hf : X.fn x = true ∨ X.env.scope.names.lookup x = some .local) (ha : PE X a (tD X.K f)) :
    PS X (.AugAssign (.Name x p2) op.op a pos) (tF X.K fun r m => (varD n r m).fl fun x r m => (f r m).fl fun y r m => match augD op x y with
      | some z => .nx (r.set n (some z)) m
      | none => .stuck) := by
  have key : ∀ (E : Ends) (σ : L2.St) (H : Hp), tF X.K (fun r m => (varD n r m).fl fun x r m => (f r m).fl fun y r m => match augD op x y with
      | some z => .nx (r.set n (some z)) m
      | none => .stuck) E σ H → tAug n (tD X.K f) (fun x y H Q => ∃ i j z, x = .int i ∧ y = .int j ∧ augD op (.int i) (.int j) = some (.int z) ∧ Q (.int z) H) E σ H := fun E σ H w => by
    obtain ⟨e, m, al, F, sr, ok⟩ := w
    unfold varD at ok
    simp only at ok
    split at ok
    · rename_i d hd
      obtain ⟨v, h1, h2⟩ := sr.slots n d hd
      change ((f e m).fl _).Ok _ at ok
      refine ⟨v, h1, e, m, al, F, sr, (fl_ok ok fun _ _ _ z => z).mono (fun d2 e2 m2 ok2 y H2 al2 F2 sr2 ex2 ry => ?_) fun _ _ _ z => z⟩
      cases hz : augD op d d2 with
      | none => simp only [hz] at ok2; exact ok2.elim
      | some z =>
        simp only [hz] at ok2
        unfold augD at hz
        split at hz
        · cases h2
          cases ry
          cases hz
          exact ⟨_, _, _, rfl, rfl, rfl, ok2 _ _ _ _ (sr2.set (.int _)) ex2⟩
        · cases h2
          cases ry
          cases hz
          exact ⟨_, _, _, rfl, rfl, rfl, ok2 _ _ _ _ (sr2.set (.int _)) ex2⟩
        · cases hz
    · exact ok.elim
  rcases hop with rfl | rfl
  · refine (ps_aug hN hi hx ha ip_add hf).imp fun E σ H w => ?_
    obtain ⟨v, h1, k⟩ := key E σ H w
    refine ⟨v, h1, tG_mono k fun y H1 ⟨i, j, z, e1, e2, e3, q⟩ => ⟨i, j, e1, e2, ?_⟩⟩
    cases e3
    exact q
  · refine (ps_aug hN hi hx ha ip_sub hf).imp fun E σ H w => ?_
    obtain ⟨v, h1, k⟩ := key E σ H w
    refine ⟨v, h1, tG_mono k fun y H1 ⟨i, j, z, e1, e2, e3, q⟩ => ⟨i, j, e1, e2, ?_⟩⟩
    cases e3
    exact q
/-! ### a, b = x, y -/
def notStar : Expr → Bool
  | .Starred _ _ => false
  | _ => true
theorem swap2 {x y : Str} {px py pt pt2 : Pos} {kt k2 : Nat} {env : PySem.Env} (hk : env.scope.kind = .function) (hx : env.kindOf x = some .local) (hy : env.kindOf y = some .local) (hxy : x ≠ y) (hl : (py.line == px.line) = true) (n1 : notStar a = true) (n2 : notStar b = true)
    (h1 : [a, b].all (foldedForSure 8) = false) (h2 : [a, b].all (constantsAlone 8) = false) : swappedStores [.Tuple [.Name x px, .Name y py] kt pt] (.Tuple [a, b] k2 pt2) env = pure (some [x, y]) := by
  have hb : env.blockKind = .function := by unfold Env.blockKind; rw [hk]; rfl
  have hs : ([a, b].any fun | .Starred .. => true | _ => false) = false := by
    cases a <;> cases b <;> first | rfl | (simp [notStar] at n1 n2)
  unfold swappedStores
  have e1 : ([x, y].eraseDups.length != [x, y].length) = false := by
    have : (x == y) = false := by simpa using hxy
    simp [List.eraseDups_cons, this, Ne.symm hxy]
  simp only [List.length_cons, List.length_nil, hb, hs, List.head?_cons, Option.map_some, Option.getD_some, List.filterMap_cons, List.filterMap_nil, hx, hy, Expr.pos, hl, h1, h2]
  simp
  have e2 : [x, y].eraseDups.length = 2 := by simpa using e1
  rw [if_neg ?_, if_pos e2]
  rintro (h | h)
  · cases a <;> first | (cases h; done) | (simp [notStar] at n1)
  · cases b <;> first | (cases h; done) | (simp [notStar] at n2)
theorem ps_parD {n k : Nat} {x y : Str} {px py pt pt2 : Pos} {kt k2 : Nat} {f g : M D} (hc : X.calm = true) (hN : X.N.Nodup) (hn : X.N[n]? = some x) (hk : X.N[k]? = some y) (hnk : n ≠ k)
    (hx : X.env.scope.names.lookup x = some .local) (hy : X.env.scope.names.lookup y = some .local) (ha : PE X a (tD X.K f)) (hb : PE X b (tD X.K g)) (na : nice a = true) (nb : nice b = true)
    (hw : swappedStores [.Tuple [.Name x px, .Name y py] kt pt] (.Tuple [a, b] k2 pt2) X.env = pure (some [x, y])) :
    PS X (.Assign [.Tuple [.Name x px, .Name y py] kt pt] (.Tuple [a, b] k2 pt2) pos) (tF X.K fun r m => (f r m).fl fun d r m => (g r m).fl fun d2 r m => .nx ((r.set n (some d)).set k (some d2)) m) := by
  refine (ps_par hc hN hn hk hnk hx hy (pa_cons ha (pa_cons hb pa_nil (star_nice nb _ _)) (star_nice na _ _)) hw rfl).imp fun E σ H w => tG_mono (tF_bind w) fun x H1 k => ?_
  obtain ⟨d1, e, m, al, F, sr, rx, ok⟩ := k
  refine ⟨e, m, al, F, sr, (fl_ok ok fun _ _ _ z => z).mono (fun d2 e2 m2 ok2 y H2 al2 F2 sr2 ex2 ry => ?_) fun _ _ _ z => z⟩
  refine ⟨x, y, rfl, ok2 _ _ _ _ ((sr2.set (rx.mono ex2.pre ex2.le)).set ry) ex2⟩
/-! ### comprehensions -/
theorem pts_nilD {X : Cx} : PTs X [] (tDT X.K (M.ret true)) := ⟨fun pins s σ H Q I w => by
  obtain ⟨e, m, al, F, sr, ok⟩ := w
  exact pts_nil.run pins s σ H Q I (ok _ _ _ _ sr (Ex.refl _ _ _) rfl)⟩
theorem pts_oneD {X : Cx} {f : M Bool} (h : PT X a (tDT X.K f)) : PTs X [a] (tDT X.K (f.bind fun k => if k = true then M.ret true else M.ret false)) := ⟨fun pins s σ H Q I w => by
  refine (pts_one h).run pins s σ H Q I (tG_mono (tG_bind w) fun v H1 h1 => ?_)
  obtain ⟨d, e, m, al, F, sr, r, ok⟩ := h1
  cases r
  cases v with
  | true => exact ok _ _ _ _ sr (Ex.refl _ _ _) rfl
  | false => exact ok _ _ _ _ sr (Ex.refl _ _ _) rfl⟩
theorem pe_lcD {T : Tg} {fi : M (List D)} {ft : M Bool} {fe : M D} {own : List (Str × Nat)} {scope : Scope} (hc : X.calm = true) (hN : X.N.Nodup) (hi : PI X tg iter (tIt X.K fi)) (ok : BlkOk X.N X.env.scope scope own)
    (hg : ∀ (s : Shared) (H : Hp) (C : Addr) (cl : List (Str × Addr)) (fp : List Addr), PG (X.blk s H scope (compEnvC scope cl C X.env) fp) tg (gD X.K T))
    (ht : ∀ (s : Shared) (H : Hp) (C : Addr) (cl : List (Str × Addr)) (fp : List Addr), PTs (X.blk s H scope (compEnvC scope cl C X.env) fp) ifs (tDT X.K ft))
    (he : ∀ (s : Shared) (H : Hp) (C : Addr) (cl : List (Str × Addr)) (fp : List Addr), PE (X.blk s H scope (compEnvC scope cl C X.env) fp) elt (tD X.K fe)) (hn : nice iter = true) (ho : ∀ i ∈ Tg.slots T, i ∈ own.map (·.2)) :
    PE X (.ListComp elt [⟨tg, iter, ifs, 0⟩] scope pos) (tD X.K (fi.bind fun xs e m => (lcGo (bindTg T) ft fe (own.map (·.2)) xs (wipeE e (own.map (·.2))) m).bind fun ys e m => if lim ys = true then .ok (.lst ys) e m else .stuck)) :=
  (pe_lc hc hN hi ok hg ht he (folded_nice hn _)).imp (lcD_imp ho)
theorem ps_setLcD {T : Tg} {fi : M (List D)} {ft : M Bool} {fe : M D} {own : List (Str × Nat)} {scope : Scope} {n : Nat} {y : Str} {py : Pos} (hc : X.calm = true) (hN : X.N.Nodup) (hy : X.N[n]? = some y) (hyl : X.env.scope.names.lookup y = some .local)
    (hsw : swapsWith (.ListComp elt [⟨tg, iter, ifs, 0⟩] scope p2) (some (.Name y py)) pos.line X.env = pure true) (hi : PI X tg iter (tIt X.K fi)) (ok : BlkOk X.N X.env.scope scope own)
    (hg : ∀ (s : Shared) (H : Hp) (C : Addr) (cl : List (Str × Addr)) (fp : List Addr), PG (X.blk s H scope (compEnvC scope cl C X.env) fp) tg (gD X.K T))
    (ht : ∀ (s : Shared) (H : Hp) (C : Addr) (cl : List (Str × Addr)) (fp : List Addr), PTs (X.blk s H scope (compEnvC scope cl C X.env) fp) ifs (tDT X.K ft))
    (he : ∀ (s : Shared) (H : Hp) (C : Addr) (cl : List (Str × Addr)) (fp : List Addr), PE (X.blk s H scope (compEnvC scope cl C X.env) fp) elt (tD X.K fe)) (hn : nice iter = true) (ho : ∀ i ∈ Tg.slots T, i ∈ own.map (·.2)) :
    PS X (.Assign [.Name y py] (.ListComp elt [⟨tg, iter, ifs, 0⟩] scope p2) pos) (tF X.K fun r m => (((fi.bind fun xs e m => (lcGo (bindTg T) ft fe (own.map (·.2)) xs (wipeE e (own.map (·.2))) m).bind fun ys e m => if lim ys = true then .ok (.lst ys) e m else .stuck) : M D) r m).fl fun d r m => match bindTg (.nm n) d r with
      | some r => .nx r m
      | none => .stuck) := by
  refine (ps_setLc hc hN hy hyl hsw hi ok hg ht he (folded_nice hn _)).imp fun E σ H w => lcD_imp ho σ H _ (tG_mono (tF_bind w) fun x H1 k => ?_)
  obtain ⟨d1, e, m, al, F, sr, rx, ok⟩ := k
  exact ok _ _ _ _ (sr.set rx) (Ex.refl _ _ _)
end
end Mn
end
section
set_option Elab.async false
set_option linter.all false
set_option maxRecDepth 100000
/-! x, *ys = a tuple. -/
namespace Mn
open PySem PySem.Spec PyProof.Rows L2
theorem obj_live {P : Program} {w : World} {H : Hp} {h : Heap} {a : Addr} {o : HO} (x : ObjOk P w H h a o) : h.get? a ≠ none := by
  cases o with
  | lst xs => obtain ⟨_, _, _, _, e⟩ := x; rw [e]; exact fun z => nomatch z
  | tup xs => obtain ⟨_, _, _, _, e, _⟩ := x; rw [e]; exact fun z => nomatch z
  | dK kvs => obtain ⟨_, _, _, _, o, _, _, e, _⟩ := x; rw [e]; exact fun z => nomatch z
  | dT kvs => obtain ⟨_, _, _, _, o, _, _, e, _⟩ := x; rw [e]; exact fun z => nomatch z
  | set S n => obtain ⟨o, _, _, _, e, _⟩ := x; rw [e]; exact fun z => nomatch z
  | ins C dx fs => obtain ⟨_, _, _, e, _⟩ := x; rw [e]; exact fun z => nomatch z
  | own y => obtain ⟨_, e⟩ := x; rw [e]; exact fun z => nomatch z
  | xd fs => obtain ⟨_, ⟨_, _, _, e, _⟩, _⟩ := x; rw [e]; exact fun z => nomatch z
  | rng lo hi => obtain ⟨_, _, _, e⟩ := x; rw [e]; exact fun z => nomatch z
  | frz ob u => obtain ⟨e, _⟩ := x; rw [e]; exact fun z => nomatch z
  | tbl ps => rw [show h.get? a = some _ from x]; exact fun z => nomatch z
  | met f y => rw [show h.get? a = some _ from x]; exact fun z => nomatch z
  | ext φ => obtain ⟨_, ⟨_, e⟩, _⟩ := x; rw [e]; exact fun z => nomatch z
/-- a walk from its second item on -/
theorem walk_tail {prog : Program} {w : World} {A : Around} {I : Addr} {fp wr : List Addr} {n : Nat} {P : Nat → Value → Prop} {St : Nat → Heap → Prop} (W : Walks prog w A I fp wr (n + 1) P St) :
    Walks prog w A I fp wr n (fun i v => P (i + 1) v) (fun i h => St (i + 1) h) where
  sub := W.sub
  frame := fun i h h' st hk => W.frame (i + 1) h h' st hk
  item := fun i s Q E hi st hQ => W.item (i + 1) s Q E (by omega) st hQ
  done := fun s Q E st hQ => W.done s Q E st hQ
  self := fun i s Q E st hQ => W.self (i + 1) s Q E st hQ
section
variable {prog : Program} {w : World} {A : Around} {E : Value → Shared → Prop} {s : Shared}
theorem unpack_star {t : Addr} {x : Value} {us : List Value} {Q : List Value → Shared → Prop} (hh : A.handled = none) (ht : IsTup s.heap t (x :: us).toArray) (hz : us.length ≤ sizeLine)
    (hQ : ∀ (s' : Shared) (p : Addr) (c : Nat), (∀ b o, s.heap.get? b = some o → s'.heap.get? b = some o) → s'.gens = s.gens → s'.os = s.os → s.heap.get? p = none → s'.heap.get? p = some { cls := .type "list", data := .seq us.toArray c } → Q [x, .ref p] s') :
    wpAny (model prog w) A (unpackItems (.ref t) 2 (some 1)) Q E s := by
  have hlt : t ≠ s.heap.objs.size := by
    obtain ⟨o, ho, _⟩ := ht
    exact Nat.ne_of_lt (Heap.lt_size ho)
  unfold unpackItems notIterableAtAll
  refine wpAny_bind (wpAny_bind (wpAny_specialOf ht.typeIs slot_tuple_iter.lookup (wpAny_pure ?_)))
  rw [if_neg (by decide)]
  refine wpAny_bind (wpAny_holding (iter_tuple ht ?_))
  refine wpAny_bind (wpAny_holding (draw_tuple hlt 1 0 _ _ ⟨_, Heap.get?_push_size _ rfl, rfl, rfl⟩ (ht.push _) (by simp) fun h₁ hit₁ hs₁ => ?_))
  have e1 : List.take 1 (List.drop 0 (x :: us).toArray.toList) = [x] := rfl
  rw [e1]
  have ht1 : IsTup h₁ t (x :: us).toArray := (ht.push _).extBut hs₁.extBut hlt
  have hsz : h₁.objs.size = s.heap.objs.size + 1 := by rw [hs₁.1, Heap.size_push]
  have W := walk_tail (n := us.length) (Walks.tuple (prog := prog) (w := w) (A := A.in1) (by simpa using hh) s.heap.objs.size t hlt (x :: us).toArray)
  refine wpAny_bind (wpAny_holding (wpAny_collect_iter (T := "tuple_iterator") (.inr (.inr (.inr rfl))) W.toS (fun i s st => st.1.typeIs) ⟨hit₁, ht1⟩ (fun b hb => ?_) (by simp) (fun s' acc mv hacc => ?_) hz))
  · show b < h₁.objs.size
    rw [hsz]
    have hb : b = s.heap.objs.size ∨ b = t := by simpa using hb
    rcases hb with q | q
    · rw [q]; exact Nat.lt_succ_self _
    · subst q
      obtain ⟨o, ho, _⟩ := ht
      exact Nat.lt_succ_of_lt (Heap.lt_size ho)
  · have eacc : acc.toList = us := by
      apply List.ext_getElem?
      intro j
      by_cases hj : j < acc.size
      · have h1 : acc[j]? = some acc[j] := by simp [hj]
        have h2 := hacc.2 j _ h1
        have h2 : (x :: us).toArray[j + 1]? = some acc[j] := h2
        rw [List.getElem?_toArray, List.getElem?_cons_succ] at h2
        rw [Array.getElem?_toList, h1, h2]
      · have h1 : acc.size = us.length := hacc.1
        rw [Array.getElem?_toList, Array.getElem?_eq_none (by omega), List.getElem?_eq_none (by omega)]
    rw [eacc]
    show wpAny (model prog w) A (newList (List.take (us.length - 0) us) >>= fun a => pure ([x] ++ [a] ++ List.drop (us.length - 0) us)) Q E s'
    have e4 : us.take (us.length - 0) = us := by simp
    have e5 : us.drop (us.length - 0) = [] := by simp
    rw [e4, e5]
    refine wpAny_bind (wpAny_newObj_type ?_ hz)
    refine wpAny_pure ?_
    have hk : ∀ b o, s.heap.get? b = some o → s'.heap.get? b = some o := fun b o e => by
      have hb : b < s.heap.objs.size := Heap.lt_size e
      have nb : b ≠ s.heap.objs.size := Nat.ne_of_lt hb
      refine mv.heap b o (by simpa using nb) ?_
      exact (hs₁.2 b nb).trans (Heap.get?_push_of_some _ e)
    have hge : s.heap.get? s'.heap.objs.size = none := by
      cases q : s.heap.get? s'.heap.objs.size with
      | none => rfl
      | some o => exact absurd (Heap.lt_size (hk _ _ q)) (Nat.lt_irrefl _)
    exact hQ _ s'.heap.objs.size 0 (fun b o e => Heap.get?_push_of_some _ (hk b o e)) mv.gens mv.os hge (Heap.get?_push_size _ rfl)
end
section
variable {X : Cx} {pos p1 p2 p3 p4 : Pos} {a : Expr}
theorem ps_starD {i j kt : Nat} {x y : Str} {f : M D} (ha : PE X a (tD X.K f)) (hN : X.N.Nodup) (hi : X.N[i]? = some x) (hj : X.N[j]? = some y) (hx : Loc X.env.scope x) (hy : Loc X.env.scope y) (fx : X.fn x = true ∨ X.env.scope.names.lookup x = some .local) (fy : X.fn y = true ∨ X.env.scope.names.lookup y = some .local)
    (hc : X.calm = true) (hs : swapsWithSole [.Tuple [.Name x p1, .Starred (.Name y p2) p3] kt p4] a pos.line X.env = pure false) (hw : swappedStores [.Tuple [.Name x p1, .Starred (.Name y p2) p3] kt p4] a X.env = pure none) :
    PS X (.Assign [.Tuple [.Name x p1, .Starred (.Name y p2) p3] kt p4] a pos) (tF X.K fun r m => (f r m).fl fun d r m => match starD d with
      | some (x, xs) => .nx ((r.set i (some x)).set j (some (.lst xs))) m
      | none => .stuck) := by
  have hg : PG X (.Tuple [.Name x p1, .Starred (.Name y p2) p3] kt p4) (fun v σ H Q => ∃ t u vs, v = .ref t ∧ SqT X.K H t (u :: vs) ∧ ∀ p, H p = none → Q ((σ.set i (some u)).set j (some (.ref p))) (upd H p (.lst vs))) := by
    refine ⟨fun pins s σ H v u Q I r w => ?_⟩
    obtain ⟨t, z, vs, rfl, hq, k⟩ := w
    cases r
    obtain ⟨its, rv, ht, hz⟩ := I.tuple hq
    cases rv with
    | @cons _ zu _ us r1 r2 =>
      have hz2 : us.length ≤ sizeLine := by
        have := r2.length
        rw [List.length_cons] at hz
        omega
      rw [assign_Tuple]
      refine wpAny_bind (wpAny_standAt ?_)
      show wpAny _ _ (do assignInOrder [assign (.Name x p1) X.env, assign (.Name y p2) X.env] (← holding [.ref t] (unpackItems (.ref t) 2 (some 1)))) _ _ s
      refine wpAny_bind (wpAny_holding (unpack_star (I.ok.hd hc) ht hz2 fun s' p c hk hgn hos hp hat => ?_))
      have hn : H p = none := by
        cases q : H p with
        | none => rfl
        | some o =>
          exact absurd hp (obj_live (I.hok p o q))
      have J : Inv X pins σ (upd H p (.lst vs)) { s with heap := s'.heap, gens := s'.gens, drawn := s'.drawn, toks := s'.toks } :=
        I.call (ch := []) (Un.laidN hk hp hn) (I.hok.laidN hk hn ⟨by rw [r2.length]; exact hz2, us, c, r2, hat⟩) (by rw [hgn]; exact I.bare) (fun _ z => nomatch z)
      have es : s' = { s with heap := s'.heap, gens := s'.gens, drawn := s'.drawn, toks := s'.toks } := by
        cases s'
        cases s
        cases hos
        rfl
      rw [es]
      refine assignInOrder_cons (wpAny_assign_Name (store_ok J hN hi hx r1 (fun s2 I2 => ?_) fx))
      refine assignInOrder_cons (wpAny_assign_Name (store_ok (v := V.ref p) I2 hN hj hy rfl (fun s3 I3 => ?_) fy))
      exact assignInOrder_nil ⟨_, _, I3, k p hn⟩
  refine (ps_asg ha hg hs hw rfl).imp fun E σ H w => tG_mono (tF_bind w) fun v H1 k => ?_
  obtain ⟨d, e, m, al, F, sr, r, ok⟩ := k
  cases hb : starD d with
  | none => simp only [hb] at ok; exact ok.elim
  | some q =>
    obtain ⟨d1, ds⟩ := q
    simp only [hb] at ok
    unfold starD at hb
    split at hb
    · cases hb
      cases r with
      | @tup t xs _ h1 h2 =>
        cases h2 with
        | @cons u vs _ _ r1 r2 =>
          refine ⟨t, u, vs, rfl, sqT_sub sr.core.sub h1, fun p hp => ?_⟩
          have sr2 := sr.new hp (.lst vs)
          have hF := sr.core.fresh hp
          exact ok _ _ _ _ ((sr2.set (r1.mono (Pre.refl _) (Le.new hF))).set (.lst upd_same (r2.mono (Pre.refl _) (Le.new hF)))) (Ex.newO hF hp _)
    · cases hb
end
end Mn
end
section
set_option Elab.async false
set_option linter.all false
set_option maxRecDepth 100000
/-! enumerate over trees. -/
namespace Mn
open PySem PySem.Spec PyProof.Rows L2
set_option maxHeartbeats 1000000 in
/-- enumerate(v) of anything whose iterator is a new object -/
theorem enum_new1 {v : Value} {o : Obj} {H : Heap → Prop} (B : PySem.Begins v o H) :
    Meets (Builtin.«enumerate.__new__» ⟨[.type "enumerate", v], []⟩) (fun _ R s => H s.heap ∧
      R (.ok (.ret (.ref (s.heap.push o).objs.size))) { s with heap := (s.heap.push o).push { cls := .type "enumerate", data := .fields #[.none, .bool false, .ref s.heap.objs.size, rawInt 0, .none, .none] } }) :=
  .of_wp fun prog w A R s h => by
    obtain ⟨hp, g, dr, tk, os⟩ := s
    obtain ⟨h1, h2⟩ := h
    have sub1 := sub_enumerate
    have iter1 : ∀ {A' : Around} {E : Value → Shared → Prop} {Q : Value → Shared → Prop}, Q (.ref hp.objs.size) ⟨hp.push o, g, dr, tk, os⟩ → wpAny (model prog w) A' (pyIter v) Q E ⟨hp, g, dr, tk, os⟩ := fun q => B.iter prog w _ _ ⟨hp, g, dr, tk, os⟩ _ h1 q
    wp_walk using iter1
    refine wpAny_stack_any fun st => wpAny_pure ?_
    split
    · rename_i cl _ _ _ _ _
      cases (cl == Value.type "enumerate") <;> (wp_walk using iter1; exact ⟨_, rfl, h2⟩)
    · wp_walk using iter1
      exact ⟨_, rfl, h2⟩
theorem enum_call {prog : Program} {w : World} {A : Around} {E : Value → Shared → Prop} {s : Shared} {v : Value} {o : Obj} {H : Heap → Prop} {Q : Value → Shared → Prop} (B : PySem.Begins v o H) (h1 : H s.heap)
    (h : ∀ h', IsEnum h' (s.heap.objs.size + 1) s.heap.objs.size 0 .none → h'.get? s.heap.objs.size = some o → (∀ b o, s.heap.get? b = some o → h'.get? b = some o) → Q (.ref (s.heap.objs.size + 1)) { s with heap := h' }) :
    wpAny (model prog w) A (call (.type "enumerate") [v]) Q E s := by
  refine callType_new F.called_enumerate (by decide) (F.typeCall_enumerate_1 _) (F.newCall_enumerate_1 _) (fun obj => F.args_object_init_2 obj _) F.entry_enumerate_new (enum_new1 B) ⟨h1, ?_⟩
  have sz : (s.heap.push o).objs.size = s.heap.objs.size + 1 := Heap.size_push ..
  have he := Heap.get?_push_size (s.heap.push o) (o := { cls := .type "enumerate", data := .fields #[.none, .bool false, .ref s.heap.objs.size, rawInt 0, .none, .none] }) rfl
  rw [sz] at he
  show _ ∧ _
  rw [sz]
  exact ⟨⟨_, he, rfl⟩, h _ he (Heap.get?_push_of_some _ (Heap.get?_push_size _ B.free)) fun b u x => Heap.get?_push_of_some _ (Heap.get?_push_of_some _ x)⟩
theorem tuple_end {prog : Program} {w : World} {A : Around} (hh : A.handled = none) (it t : Addr) (items : Array Value) (i : Nat) (hi : items[i]? = none) :
    Draws prog w A it [it, t] i (fun _ _ => False) (fun j h => j = i ∧ h.IsTupleIter it t i ∧ h.IsTuple t items) where
  live := fun _ _ st => let ⟨o, ho, _⟩ := st.2.1; ⟨o, ho⟩
  frame := fun _ _ _ st hk => ⟨st.1, st.2.1.at fun o e => hk it (by simp) o e, st.2.2.at fun o e => hk t (by simp) o e⟩
  item := fun j s Q E hj st _ => absurd st.1 (Nat.ne_of_lt hj)
  done := fun s Q E st hE => wpAny_nextOf_tuple_end hh st.2.1 st.2.2 hi hE
/-- the tuple at a, each item in a new pair -/
def IteT (K : PySem.W.Frag) (a : Addr) : It where
  go i H := ∃ (xs : List V) (x : V), SqT K H a xs ∧ xs[i]? = some x
  yld i H v H' := ∃ T x, v = .ref T ∧ H T = none ∧ H' = upd H T (.tup [.int (i : Nat), x]) ∧ ∀ xs, SqT K H a xs → xs[i]? = some x
  stop i H := ∃ xs : List V, SqT K H a xs ∧ xs.length ≤ i
theorem turn_enumT {P : Program} {w : World} {K : PySem.W.Frag} {elts : List Expr} {kk : Nat} {tpos : Pos} (a e it : Addr) (hea : e ≠ a) (hia : a ≠ it) :
    Turn P w K (.Tuple elts kk tpos) (IteT K a) [e, it] e (fun i h => (∃ old, IsEnum h e it ((i : Nat) : Int) old) ∧ h.IsTupleIter it a i ∧ e ≠ it) where
  mem := by simp
  obj := fun i h st b hb => by
    obtain ⟨⟨old, he⟩, ⟨o, ho, hc, hd⟩, _⟩ := st
    rcases (show b = e ∨ b = it by simpa using hb) with z | z
    · subst z; exact ⟨_, he, fun v q => nomatch q⟩
    · subst z; exact ⟨o, ho, fun v q => by rw [hd] at q; cases q⟩
  keep := fun i h h' st k => by
    obtain ⟨⟨old, he⟩, hi, hne⟩ := st
    exact ⟨⟨old, k e (by simp) _ he⟩, hi.at fun o q => k it (by simp) o q, hne⟩
  item := by
    intro X hP hw hK hc i pins s σ H E I hf st hg
    subst hP hw hK
    obtain ⟨⟨old, he⟩, hit, hne⟩ := st
    obtain ⟨xs, x, hq, hx⟩ := hg
    obtain ⟨its, rv, pt, hz⟩ := I.tuple hq
    obtain ⟨u, hu, ru⟩ := rv.get hx
    have hel : e < s.heap.objs.size := Heap.lt_size he
    have hil : it < s.heap.objs.size := by obtain ⟨_, q, _⟩ := hit; exact Heap.lt_size q
    have hi : i < its.toArray.size := by
      have := (List.getElem?_eq_some_iff.mp hu).1
      simpa using this
    have Dr := Draws.tuple (prog := X.prog) (w := X.w) (A := X.A.in1) (by simpa using I.ok.hd hc) it a hia its.toArray
    refine wpAny_pyNext_enum_itemD Dr he ⟨hit, pt⟩ hi hne (by simp; exact ⟨hne, hea⟩) fun y h1 tk hy ho hst1 hT hsz hk => ?_
    have ey : y = u := by
      have : its.toArray[i]? = some u := by simpa using hu
      exact Option.some.inj (hy.symm.trans this)
    subst ey
    refine ⟨_, rfl, wpAny_letOwnedTupleGo_enum (s := { s with heap := h1, toks := tk + 1 }) ho fun h2 he2 sb => ?_⟩
    have hT2 : h2.get? s.heap.objs.size = some { cls := .type "tuple", data := .seq #[.int i tk, y] } := (sb.2 _ (Nat.ne_of_gt hel)).trans hT
    have new : ObjOk X.prog X.w (upd H s.heap.objs.size (.tup [.int (i : Nat), x])) h2 s.heap.objs.size (.tup [.int (i : Nat), x]) := ⟨by show 2 ≤ sizeLine; decide, [.int i tk, y], .cons ⟨_, rfl⟩ (.cons ru .nil), ⟨_, hT2, rfl, _, rfl⟩⟩
    have I1 : Inv X pins σ (upd H s.heap.objs.size (.tup [.int (i : Nat), x])) { s with heap := h2, toks := tk + 1 } :=
      I.turnedNew (ch := [e, it]) (fun b ob hb q => (sb.2 b (fun z => hb (by simp [z]))).trans (hk b ob (fun z => hb (by simp [z])) (fun z => hb (by simp [z])) q)) hf (Nat.le_refl _) new
    refine ⟨.ref s.heap.objs.size, _, I1, rfl, ⟨_, x, rfl, I.hok.fresh (Nat.le_refl _), rfl, fun ys hy => by rw [I.tuple_inj hy hq]; exact hx⟩, ⟨⟨y, ?_⟩, hst1.1.at fun o q => (sb.2 it (Ne.symm hne)).trans q, hne⟩, fun b hb => ?_⟩
    · have e1 : ((i + 1 : Nat) : Int) = (i : Int) + 1 := by omega
      rw [e1]; exact he2
    · have lt : b < s.heap.objs.size := by
        rcases (show b = e ∨ b = it by simpa using hb) with z | z
        · exact z ▸ hel
        · exact z ▸ hil
      rw [upd_ne (Nat.ne_of_lt lt)]
      exact (hf b hb).1
  done := by
    intro X hP hw hK hc i pins s σ H E I hf st hg
    subst hP hw hK
    obtain ⟨⟨old, he⟩, hit, hne⟩ := st
    obtain ⟨xs, hq, hx⟩ := hg
    obtain ⟨its, rv, pt, hz⟩ := I.tuple hq
    obtain ⟨f0, f1, f2, f3, f4, f5⟩ := hf it (by simp)
    have hl := rv.length
    refine wpAny_pyNext_enum_endD (tuple_end (by simpa using I.ok.hd hc) it a its.toArray i (by simp; omega)) he ⟨rfl, hit, pt⟩ fun h1 eb => ⟨rfl, I.turned (t' := s.toks) (fun b o hb q => eb b o hb q) f0 f1 f3 f4 f5⟩
  self := fun A i s Q E st h => by
    obtain ⟨⟨_, he⟩, _⟩ := st
    exact wpAny_pyIter_enum he h
theorem enum_get {ds : List D} {i : Nat} {d : D} (h : (ds.zipIdx.map fun p => D.tup [.int ((p.2 : Nat) : Int), p.1])[i]? = some d) : ∃ x, ds[i]? = some x ∧ d = .tup [.int (i : Int), x] := by
  rw [List.getElem?_map] at h
  obtain ⟨p, hp, rfl⟩ := Option.map_eq_some_iff.mp h
  rw [List.getElem?_zipIdx] at hp
  obtain ⟨x, hx, rfl⟩ := Option.map_eq_some_iff.mp hp
  exact ⟨x, hx, by simp⟩
theorem pair_new {K : PySem.W.Frag} {al' : List Addr} {F' H' : Hp} {m' : Mu} {T : Addr} {x y : V} {d d2 : D} (c : Core K H' m' al' F') (hT : H' T = none) (r : Rep K al' F' x d) (r2 : Rep K al' F' y d2) :
    ∃ F2, Core K (upd H' T (.tup [x, y])) m' al' F2 ∧ Ex al' F' H' al' F2 (upd H' T (.tup [x, y])) ∧ Rep K al' F2 (.ref T) (.tup [d, d2]) := by
  have hF := c.fresh hT
  exact ⟨_, c.new hT _, Ex.newO hF hT _, .tup (.inl (.inl upd_same)) (.cons (r.mono (Pre.refl _) (Le.new hF)) (.cons (r2.mono (Pre.refl _) (Le.new hF)) .nil))⟩
theorem walk_enumT {K : PySem.W.Frag} {al : List Addr} {F : Hp} {a : Addr} {xs : List V} {ds : List D} (h : SqT K F a xs) (r : RepL K al F xs ds) : Walk K (IteT K a) al F (ds.zipIdx.map fun p => .tup [.int ((p.2 : Nat) : Int), p.1]) where
  go := fun {al' F' H' m'} c p l i d hi => by
    obtain ⟨z, hz, rfl⟩ := enum_get hi
    obtain ⟨v, h1, h2⟩ := r.get hz
    have q := sqT_sub c.sub (l.sqT h)
    refine ⟨⟨xs, v, q, h1⟩, fun x H2 y => ?_⟩
    obtain ⟨T, w, rfl, hT, rfl, hw⟩ := y
    have e2 := hw xs q
    rw [h1] at e2
    cases e2
    exact pair_new c hT (.int _) (h2.mono p l)
  stop := fun {al' F' H' m'} c p l i hi => ⟨xs, sqT_sub c.sub (l.sqT h), by rw [r.length]; simpa using hi⟩
theorem walk_enumL {K : PySem.W.Frag} {al : List Addr} {F : Hp} {a : Addr} {xs : List V} {ds : List D} (h : SqL K F a xs) (r : RepL K al F xs ds) : Walk K (Ite K a) al F (ds.zipIdx.map fun p => .tup [.int ((p.2 : Nat) : Int), p.1]) where
  go := fun {al' F' H' m'} c p l i d hi => by
    obtain ⟨z, hz, rfl⟩ := enum_get hi
    obtain ⟨v, h1, h2⟩ := r.get hz
    have q := sqL_sub c.sub (l.sqL h)
    refine ⟨⟨xs, v, q, h1⟩, fun x H2 y => ?_⟩
    obtain ⟨T, w, rfl, hT, rfl, hw⟩ := y
    have e2 := hw xs q
    rw [h1] at e2
    cases e2
    exact pair_new c hT (.int _) (h2.mono p l)
  stop := fun {al' F' H' m'} c p l i hi => ⟨xs, sqL_sub c.sub (l.sqL h), by rw [r.length]; simpa using hi⟩
section
variable {X : Cx} {pos p tpos : Pos} {a : Expr} {elts : List Expr} {kk : Nat}
theorem pi_enumD {f : M D} (hg : Gl X "enumerate") (hm : X.mg "enumerate" = none) (ha : PE X a (tD X.K f)) (hn : nice a = true) : PI X (.Tuple elts kk tpos) (.Call (.Name "enumerate" p) [a] [] pos) (tIt X.K (f.bind fun x e m => M.of (enumD m x) e m)) := by
  refine ⟨fun pins s σ H Rq I h => ?_⟩
  have hA : PA X [a] (tCons (tD X.K f) tNil) := pa_cons ha pa_nil (star_nice hn _ _)
  have hq : tCons (tD X.K f) tNil σ H (fun vs H2 => ∃ v, vs = [v] ∧ tK X.K (rpD X.K) (rpI X.K) (fun x e m => M.of (enumD m x) e m) v σ H2 Rq) := tG_mono (tG_bind h) fun v H1 q => ⟨v, rfl, q⟩
  refine Call_ (ld_blt I hg hm boot_enumerate (PyProof.Rows.callWith_type1 (thn (hA.run pos pins s σ H _ I hq) fun us s1 ⟨vs, H1, I1, r1, q1⟩ => ?_) (star_nice hn _ _) rfl))
  · obtain ⟨v, rfl, d, e, m, al, F, sr, rd, ok⟩ := q1
    obtain ⟨u, rfl, ru⟩ := vals1 r1
    obtain ⟨ds, hd, fin⟩ := R.Ok.of ok
    have two : ∀ {h1 : Heap}, ∀ c, c ∈ [s1.heap.objs.size + 1, s1.heap.objs.size] → FpOk X pins H1 c := fun {h1} c hc => by
      have hle : s1.heap.objs.size ≤ c := by
        rcases (show c = s1.heap.objs.size + 1 ∨ c = s1.heap.objs.size by simpa using hc) with z | z
        · rw [z]; exact Nat.le_succ _
        · rw [z]; exact Nat.le_refl _
      exact I1.fpOk hle (I1.hok.fresh hle)
    cases d with
    | lst xs =>
      cases hd
      cases rd with
      | @lst q ys _ h1 h2 =>
        cases ru
        obtain ⟨its, rv, pl, hz⟩ := I1.list (SqL.of (sr.core.sub _ _ h1))
        refine enum_call (PySem.begins_list q its.toArray) pl.isList fun h' he ho hk => wpAny_pyIter_enum he ?_
        refine ⟨s1.heap.objs.size + 1, _, _, _, H1, rfl, I1.kept (t' := s1.toks) hk, turn_enum q (s1.heap.objs.size + 1) s1.heap.objs.size, ⟨⟨.none, he⟩, ⟨_, ho, rfl, rfl⟩, Nat.succ_ne_self _⟩, two (h1 := h'), ?_⟩
        exact fin _ _ _ _ sr (Ex.refl _ _ _) (walk_enumL (SqL.of h1) h2)
    | tup xs =>
      cases hd
      cases rd with
      | @tup q ys _ h1 h2 =>
        cases ru
        obtain ⟨its, rv, pl, hz⟩ := I1.tuple (sqT_sub sr.core.sub h1)
        have hlt : q < s1.heap.objs.size := by
          obtain ⟨o, ho, _⟩ := pl
          exact Heap.lt_size ho
        refine enum_call (PySem.begins_tuple q its.toArray) pl fun h' he ho hk => wpAny_pyIter_enum he ?_
        refine ⟨s1.heap.objs.size + 1, _, _, _, H1, rfl, I1.kept (t' := s1.toks) hk, turn_enumT q (s1.heap.objs.size + 1) s1.heap.objs.size (Ne.symm (Nat.ne_of_lt (Nat.lt_succ_of_lt hlt))) (Nat.ne_of_lt hlt), ⟨⟨.none, he⟩, ⟨_, ho, rfl, rfl⟩, Nat.succ_ne_self _⟩, two (h1 := h'), ?_⟩
        exact fin _ _ _ _ sr (Ex.refl _ _ _) (walk_enumT h1 h2)
    | _ => cases hd
end
end Mn
end
section
set_option Elab.async false
set_option linter.all false
set_option maxRecDepth 100000
/-! zip, new objects, displays over trees. -/
namespace Mn
open PySem PySem.Spec PyProof.Rows L2 RZ
theorem zip_get {xs ys : List D} {i : Nat} {d : D} (h : ((xs.zip ys).map fun p => D.tup [p.1, p.2])[i]? = some d) : ∃ x y, xs[i]? = some x ∧ ys[i]? = some y ∧ d = .tup [x, y] := by
  rw [List.getElem?_map] at h
  obtain ⟨p, hp, rfl⟩ := Option.map_eq_some_iff.mp h
  rw [List.getElem?_zip_eq_some] at hp
  exact ⟨p.1, p.2, hp.1, hp.2, rfl⟩
theorem walk_zipL {K : PySem.W.Frag} {al : List Addr} {F : Hp} {a b : Addr} {xs ys : List V} {ds es : List D} (h : SqL K F a xs) (r : RepL K al F xs ds) (h2 : SqL K F b ys) (r2 : RepL K al F ys es) : Walk K (Itz K a b) al F ((ds.zip es).map fun p => .tup [p.1, p.2]) where
  go := fun {al' F' H' m'} c p l i d hi => by
    obtain ⟨z, z2, hz, hz2, rfl⟩ := zip_get hi
    obtain ⟨v, g1, g2⟩ := r.get hz
    obtain ⟨v2, k1, k2⟩ := r2.get hz2
    have q := sqL_sub c.sub (l.sqL h)
    have q2 := sqL_sub c.sub (l.sqL h2)
    refine ⟨⟨xs, ys, v, v2, q, q2, g1, k1⟩, fun x H2 y => ?_⟩
    obtain ⟨T, w, w2, rfl, hT, rfl, hw, hw2⟩ := y
    have e2 := hw xs q
    rw [g1] at e2
    cases e2
    have e3 := hw2 ys q2
    rw [k1] at e3
    cases e3
    exact pair_new c hT (g2.mono p l) (k2.mono p l)
  stop := fun {al' F' H' m'} c p l i hi => ⟨xs, ys, sqL_sub c.sub (l.sqL h), sqL_sub c.sub (l.sqL h2), by
    rw [r.length, r2.length]
    rw [List.length_map, List.length_zip] at hi
    omega⟩
theorem walk_zipT {K : PySem.W.Frag} {al : List Addr} {F : Hp} {a b : Addr} {xs ys : List V} {ds es : List D} (h : SqT K F a xs) (r : RepL K al F xs ds) (h2 : SqT K F b ys) (r2 : RepL K al F ys es) : Walk K (ItzT K a b) al F ((ds.zip es).map fun p => .tup [p.1, p.2]) where
  go := fun {al' F' H' m'} c p l i d hi => by
    obtain ⟨z, z2, hz, hz2, rfl⟩ := zip_get hi
    obtain ⟨v, g1, g2⟩ := r.get hz
    obtain ⟨v2, k1, k2⟩ := r2.get hz2
    have q := sqT_sub c.sub (l.sqT h)
    have q2 := sqT_sub c.sub (l.sqT h2)
    refine ⟨⟨xs, ys, v, v2, q, q2, g1, k1⟩, fun x H2 y => ?_⟩
    obtain ⟨T, w, w2, rfl, hT, rfl, hw, hw2⟩ := y
    have e2 := hw xs q
    rw [g1] at e2
    cases e2
    have e3 := hw2 ys q2
    rw [k1] at e3
    cases e3
    exact pair_new c hT (g2.mono p l) (k2.mono p l)
  stop := fun {al' F' H' m'} c p l i hi => ⟨xs, ys, sqT_sub c.sub (l.sqT h), sqT_sub c.sub (l.sqT h2), by
    rw [r.length, r2.length]
    rw [List.length_map, List.length_zip] at hi
    omega⟩
section
variable {X : Cx} {pos p tpos : Pos} {a b : Expr} {elts : List Expr} {kk : Nat}
theorem pi_zipD {f g : M D} (st : Bool) (hg : Gl X "zip") (hm : X.mg "zip" = none) (ha : PE X a (tD X.K f)) (hb : PE X b (tD X.K g)) (hn : nice a = true) (hn2 : nice b = true) :
    PI X (.Tuple elts kk tpos) (.Call (.Name "zip" p) [a, b] [] pos) (tIt X.K (f.bind fun x => g.bind fun y e m => M.of (zipD m x y st) e m)) := by
  have hpl : (backTo pos (starEach [b] X.env)).any (·.1) = false := back_nice (by simp [hn2]) pos X.env
  refine (pi_zipA hg hm (pa_cons ha (pa_cons hb pa_nil (star_nice hn2 _ _)) (star_nice hn _ _)) (star_nice hn _ _) hpl).imp fun σ H Q w => tG_mono (tG_bind w) fun v H1 h1 => ?_
  obtain ⟨d, e, m, al, F, sr, r, ok⟩ := h1
  refine ⟨e, m, al, F, sr, (R.Ok.bind ok).mono (fun d2 e1 m1 ok1 v2 H2 al2 F2 sr2 ex2 r2 => ?_) fun _ _ _ z => z⟩
  obtain ⟨xs, hx, fin⟩ := R.Ok.of ok1
  have r := r.mono ex2.pre ex2.le
  unfold zipD at hx
  split at hx
  · split at hx
    · cases hx
    · cases hx
      cases r with
      | lst h1 h2 =>
        cases r2 with
        | lst k1 k2 => exact ⟨_, _, _, _, rfl, .inl ⟨SqL.of (sr2.core.sub _ _ h1), SqL.of (sr2.core.sub _ _ k1), fin _ _ _ _ sr2 ex2 (walk_zipL (SqL.of h1) h2 (SqL.of k1) k2)⟩⟩
  · split at hx
    · cases hx
    · cases hx
      cases r with
      | tup h1 h2 =>
        cases r2 with
        | tup k1 k2 => exact ⟨_, _, _, _, rfl, .inr ⟨sqT_sub sr2.core.sub h1, sqT_sub sr2.core.sub k1, fin _ _ _ _ sr2 ex2 (walk_zipT h1 h2 k1 k2)⟩⟩
  · cases hx
/-! ### new mutable objects -/
theorem pe_mkdD (t : Bool) : PE X (.Dict [] [] pos) (tD X.K fun e m => .ok (.cell m.length) e (m ++ [some (.dic t [] [])])) := by
  cases t with
  | false =>
    refine pe_dnewK.imp fun σ H Q w => ?_
    obtain ⟨e, m, al, F, sr, ok⟩ := w
    intro q hq
    exact ok _ _ _ _ (sr.mk' hq (.dicK (kvs := []) upd_same .nil)) (Ex.mk' hq) (cell_new sr.core.len)
  | true =>
    refine pe_dnewT.imp fun σ H Q w => ?_
    obtain ⟨e, m, al, F, sr, ok⟩ := w
    intro q hq
    exact ok _ _ _ _ (sr.mk' hq (.dicT (kvs := []) upd_same .nil)) (Ex.mk' hq) (cell_new sr.core.len)
theorem pe_mklD {f : M D} (hc : X.calm = true) (hg : Gl X "list") (hm : X.mg "list" = none) (ha : PE X a (tD X.K f)) (hn : nice a = true) :
    PE X (.Call (.Name "list" p) [a] [] pos) (tD X.K (f.bind fun x e m => match listD m x with
      | some xs => .ok (.cell m.length) e (m ++ [some (.lst xs)])
      | none => .stuck)) := by
  have rule : CallR X (.type "list") (fun vs H Q => ∃ v d xs m al F, vs = [v] ∧ Core X.K H m al F ∧ Rep X.K al F v d ∧ listD m d = some xs ∧ ∀ q ws, H q = none → RepL X.K al F ws xs → Q (.ref q) (upd H q (.lst ws))) := by
    rintro pins s σ H vs us Q I rs ⟨v, d, xs, m, al, F, rfl, c, r, hd, k⟩
    unfold listD at hd
    cases z : deref m d with
    | none => rw [z] at hd; cases hd
    | some d' =>
      rw [z] at hd
      have th := c.thru r z
      cases d' with
      | lst ys =>
        cases hd
        obtain ⟨q, ws, rfl, h1, h2⟩ := th.lst c.sub
        exact call_list_of pins s σ H _ us Q I rs ⟨q, ws, rfl, .inl (SqL.of h1), fun l hl => k l ws hl h2⟩
      | tup ys =>
        cases hd
        obtain ⟨q, ws, rfl, h1, h2⟩ := th.tup c.sub
        exact call_list_of pins s σ H _ us Q I rs ⟨q, ws, rfl, .inr h1, fun l hl => k l ws hl h2⟩
      | dic t ks ws =>
        cases t with
        | true => cases hd
        | false =>
          cases hd
          rcases th.dicv c.sub with ⟨_, q, kvs, rfl, h1, rfl, h2⟩ | ⟨e, _⟩
          · refine call_list_dK hc pins s σ H _ us Q I rs ⟨q, kvs, rfl, h1, fun l hl => k l _ hl ?_⟩
            have := kVs_rep (K := X.K) (al := al) (F := F) (kvs.map fun p => p.1)
            rw [List.map_map, List.map_map] at this
            exact this
          · cases e
      | _ => cases hd
  refine (pe_callTy rule hg hm (by decide +kernel) (pa_cons ha pa_nil (star_nice hn _ _)) (by decide) (by decide) (star_nice hn _ _)).imp fun σ H Q w => tG_mono (tG_bind w) fun v H1 h1 => ?_
  obtain ⟨d, e, m, al, F, sr, r, ok⟩ := h1
  cases hx : listD m d with
  | none => simp only [hx] at ok; exact ok.elim
  | some xs =>
    simp only [hx] at ok
    refine ⟨v, d, xs, m, al, F, rfl, sr.core, r, hx, fun q ws hq rw' => ?_⟩
    exact ok _ _ _ _ (sr.mk' hq (.lst upd_same (rw'.mono (Pre.app _ _) (Le.refl _)))) (Ex.mk' hq) (cell_new sr.core.len)
end
end Mn
end
section
set_option Elab.async false
set_option linter.all false
set_option maxRecDepth 100000
/-! sorted(set(xs)), xs a list of ints. -/
namespace Mn
open PySem PySem.Spec PyProof.Rows L2
abbrev set0 (w : World) : Obj := { cls := .type "set", dict := none, data := .set #[] 0 (.fresh 0 0 (!w.params.followText "set-order")) }
section
variable {P : Program} {w : World} {A : Around} {E : Value → Shared → Prop} {s : Shared}
set_option maxHeartbeats 3200000 in
theorem set_of_list {l : Addr} {items : Array Value} (ns : List Int) {Q : Value → Shared → Prop} (hh : A.handled = none) (hl : s.heap.IsList l items) (hit : IntsAre items.toList ns) (hb : ns.length + 1 < scanBound)
    (h : ∀ (h' : Heap) (tk c : Nat), SetR w h' s.heap.objs.size (fun j => decide (j ∈ ns)) c → c ≤ ns.length → (∀ b o, s.heap.get? b = some o → h'.get? b = some o) → Q (.ref s.heap.objs.size) { s with heap := h', toks := tk }) :
    wpAny (model P w) A (call (.type "set") [.ref l]) Q E s := by
  have size1 : items.size = ns.length := by have q := IntsAre.length hit; simpa using q
  obtain ⟨c0, t0, mro1⟩ := F.called_set.mro
  have made1 := F.called_set.made; have sub1 := F.called_set.sub
  refine wpAny_call (codeAny_of_tree ?_)
  show wpAny _ _ (callAny (.type "set") _) _ _ _
  refine wpAny_pure ⟨Code.quiet_builtin _ (by decide +kernel), codeAny_builtin F.entry_type_call ?_⟩
  rw [Around.under_plain (weight_type_call_type "set" [.ref l] []) rfl]
  have nt1 := F.called_set.notType; have cc1 := F.called_set.canCreate; have tc1 := F.typeCall_set_1 (.ref l)
  repeat (any_goals (first | assumption | wp_step))
  refine codeAny_mono (code_set_led1 (.ref l) (E := E) (Q₁ := fun obj s₁ => obj = .ref s.heap.objs.size ∧ s₁ = { s with heap := s.heap.push (set0 w) }) ⟨rfl, rfl⟩) fun r s₁ hr => ?_
  match r, hr with
  | .error e, hr => exact hr
  | .ok .next, hr => exact hr.elim
  | .ok .brk, hr => exact hr.elim
  | .ok .cont, hr => exact hr.elim
  | .ok (.ret obj), hr =>
    obtain ⟨rfl, rfl⟩ := hr
    have hS : (s.heap.push (set0 w)).get? s.heap.objs.size = some (set0 w) := Heap.get?_push_size _ rfl
    have hT : Shared.TypeIs { s with heap := s.heap.push (set0 w) } (.ref s.heap.objs.size) "set" := ⟨_, hS, rfl⟩
    have li1 := F.called_set.init.lookup; have bi1 := F.called_set.init.bind (.ref s.heap.objs.size)
    repeat (any_goals (first | assumption | wp_step))
    refine codeAny_mono (codeAny_call_builtin (R := wants (fun r s₂ => r = .none ∧ ∃ h' tk c, s₂ = { s with heap := h', toks := tk } ∧ SetR w h' s.heap.objs.size (fun j => decide (j ∈ ns)) c ∧ c ≤ ns.length ∧ (∀ b o, s.heap.get? b = some o → h'.get? b = some o)) E) F.called_set.init.plain F.entry_set_init (check_set_init_1 hT ?_)) fun r₂ s₂ hr₂ => ?_
    · obtain ⟨⟨cl1, dc1, da1, sl1⟩, g1, e1, n1, d1⟩ := hl
      simp only at e1 d1; subst e1; subst d1
      have g2 : (s.heap.push (set0 w)).get? l = some { cls := .type "list", dict := dc1, data := .seq items n1, slots := sl1 } := Heap.get?_push_of_some _ g1
      have l2 : (s.heap.push (set0 w)).IsList l items := ⟨_, g2, rfl, n1, rfl⟩
      have sb1 := F.sub_list_set; have sb2 := F.sub_list_frozenset
      have nd1 : (Value.type "list" == Value.type "dict") = false := by decide
      unfold Builtin.«set.__init__» noKeywords Builtin.Frozenset.updateFrom
      generalize hPI : pyIter = PI
      wp_walk
      subst hPI
      refine wpAny_pyIter_list l2 (wpAny_bind (wpAny_runValue ?_))
      have lt1 : l < s.heap.objs.size := Heap.lt_size g1
      have sz1 : (s.heap.push (set0 w)).objs.size = s.heap.objs.size + 1 := Heap.size_push ..
      have ne1 : l ≠ (s.heap.push (set0 w)).objs.size := by rw [sz1]; exact Nat.ne_of_lt (Nat.lt_succ_of_lt lt1)
      have nf1 : s.heap.objs.size ∉ [(s.heap.push (set0 w)).objs.size, l] := by
        rw [sz1]
        simp only [List.mem_cons, List.not_mem_nil, or_false, not_or]
        exact ⟨Nat.ne_of_lt (Nat.lt_succ_self _), Nat.ne_of_gt lt1⟩
      have val1 : ∀ (i : Nat) (v : Value), items[i]? = some v → ∃ k t, ns[i]? = some k ∧ v = .int k t := fun i v hv => by
        have hi : i < ns.length := by rw [← size1]; exact (Array.getElem?_eq_some_iff.mp hv).1
        obtain ⟨t, e⟩ := PyProof.Rows.IntsAre.int_at hit i v (by rw [Array.getElem?_toList]; exact hv)
        exact ⟨ns[i], t, by simp, by rw [e]; simp [hi]⟩
      refine set_update_ints ((Walks.list (by simp [hh]) _ l ne1 items).toS) s.heap.objs.size nf1 ns size1 hb val1 (items.size - 0) 0 _ (by omega) (Nat.zero_le _) ⟨⟨_, Heap.get?_push_size _ rfl, rfl, rfl⟩, l2.push _⟩ ⟨0, Nat.le_refl 0, setR_new_at (Heap.get?_push_of_some _ hS)⟩ ?_
      rintro ⟨h', g', d', tk', os'⟩ c' hm hc' hS'
      obtain rfl : g' = s.gens := hm.gens
      obtain rfl : d' = s.drawn := hm.drawn
      obtain rfl : os' = s.os := hm.os
      show wpAny _ _ _ _ _ _
      refine wpAny_pure ?_
      show wpAny _ _ (ret Value.none) _ _ _
      rw [size1] at hc'
      refine wpAny_pure ⟨rfl, h', tk', c', rfl, hS', hc', fun b o e => hm.heap b o ?_ (Heap.get?_push_of_some _ (Heap.get?_push_of_some _ e))⟩
      have lb := Heap.lt_size e
      simp only [List.mem_cons, List.not_mem_nil, or_false, not_or]
      exact ⟨Nat.ne_of_lt lb, by rw [sz1]; exact Nat.ne_of_lt (Nat.lt_succ_of_lt lb)⟩
    · match r₂, hr₂ with
      | .error e, hr₂ => exact hr₂
      | .ok .next, hr₂ => exact hr₂.elim
      | .ok .brk, hr₂ => exact hr₂.elim
      | .ok .cont, hr₂ => exact hr₂.elim
      | .ok (.ret r), hr₂ =>
        obtain ⟨rfl, h', tk, c', rfl, a1, a2, a3⟩ := hr₂
        repeat (any_goals (first | assumption | wp_step))
        exact h _ _ _ a1 a2 a3
end
/-! ### the sorted list -/
theorem mem_insI {i k : Int} : ∀ {l : List Int}, k ∈ insI i l ↔ k = i ∨ k ∈ l
  | [] => by simp [insI]
  | j :: r => by
    unfold insI
    split
    · simp
    · split
      · rename_i h; subst h; simp
      · rw [List.mem_cons, mem_insI, List.mem_cons]
        constructor
        · rintro (h | h | h)
          · exact .inr (.inl h)
          · exact .inl h
          · exact .inr (.inr h)
        · rintro (h | h | h)
          · exact .inr (.inl h)
          · exact .inl h
          · exact .inr (.inr h)
theorem pw_insI {i : Int} : ∀ {l : List Int}, l.Pairwise (· < ·) → (insI i l).Pairwise (· < ·)
  | [], _ => by simp [insI]
  | j :: r, h => by
    unfold insI
    have h1 := List.pairwise_cons.mp h
    split
    · rename_i hij
      refine List.pairwise_cons.mpr ⟨fun k hk => ?_, h⟩
      rcases List.mem_cons.mp hk with e | e
      · subst e; exact hij
      · have := h1.1 k e; omega
    · split
      · exact h
      · refine List.pairwise_cons.mpr ⟨fun k hk => ?_, pw_insI h1.2⟩
        rcases mem_insI.mp hk with e | e
        · subst e; omega
        · exact h1.1 k e
theorem mem_srtI {k : Int} : ∀ {l : List Int}, k ∈ srtI l ↔ k ∈ l
  | [] => by simp [srtI]
  | j :: r => by
    show k ∈ insI j (srtI r) ↔ _
    rw [mem_insI, mem_srtI, List.mem_cons]
theorem pw_srtI : ∀ l : List Int, (srtI l).Pairwise (· < ·)
  | [] => List.Pairwise.nil
  | j :: r => pw_insI (pw_srtI r)
theorem rising_unique : ∀ {l m : List Int}, l.Pairwise (· < ·) → m.Pairwise (· < ·) → (∀ k, k ∈ l ↔ k ∈ m) → l = m
  | [], [], _, _, _ => rfl
  | [], b :: m, _, _, h => by have := (h b).mpr (by simp); simp at this
  | a :: l, [], _, _, h => by have := (h a).mp (by simp); simp at this
  | a :: l, b :: m, h1, h2, h => by
    have p1 := List.pairwise_cons.mp h1
    have p2 := List.pairwise_cons.mp h2
    have e : a = b := by
      rcases List.mem_cons.mp ((h a).mp (by simp)) with q | q
      · exact q
      · rcases List.mem_cons.mp ((h b).mpr (by simp)) with q2 | q2
        · exact q2.symm
        · have := p2.1 a q; have := p1.1 b q2; omega
    subst e
    rw [rising_unique p1.2 p2.2 fun k => ⟨fun hk => ?_, fun hk => ?_⟩]
    · rcases List.mem_cons.mp ((h k).mp (List.mem_cons_of_mem _ hk)) with q | q
      · subst q; exact absurd (p1.1 k hk) (by omega)
      · exact q
    · rcases List.mem_cons.mp ((h k).mpr (List.mem_cons_of_mem _ hk)) with q | q
      · subst q; exact absurd (p2.1 k hk) (by omega)
      · exact q
/-- set(xs) of a list of ints -/
def rSetL (K : PySem.W.Frag) (w : World) : List V → Hp → VK → Prop := fun xs H Q => ∃ (a : Addr) (ns : List Int), xs = [.ref a] ∧ SqL K H a (ns.map V.int) ∧ ns.length + 1 < scanBound ∧
  ∀ (p : Addr) (n : Nat), H p = none → n ≤ ns.length → Q (.ref p) (upd H p (SetO w p (fun j => decide (j ∈ ns)) n))
section
variable {X : Cx} {pos p p2 p3 : Pos} {a : Expr}
theorem cr_setL (hc : X.calm = true) : CallR X (.type "set") (rSetL X.K X.w) := by
  rintro pins s σ H xs us Q I r ⟨q, ns, rfl, hq, hb, k⟩
  obtain ⟨its, rv, pl, hz⟩ := I.list hq
  rw [Vals.ref1 r]
  refine set_of_list ns (I.ok.hd hc) pl.isList (by simpa using rv.ints) hb fun h' tk c R hc' hk => ?_
  have hn : H s.heap.objs.size = none := I.hok.fresh (Nat.le_refl _)
  exact ⟨.ref _, upd H s.heap.objs.size (SetO X.w s.heap.objs.size (fun j => decide (j ∈ ns)) c), I.laid (t' := tk) hk (Nat.le_refl _) (setO_new R), rfl, k _ c hn hc'⟩
theorem pe_srtD {f : M D} (hc : X.calm = true) (hg : Gl X "sorted") (hm : X.mg "sorted" = none) (hg2 : Gl X "set") (hm2 : X.mg "set" = none) (ha : PE X a (tD X.K f)) (hn : nice a = true) :
    PE X (.Call (.Name "sorted" p) [.Call (.Name "set" p2) [a] [] p3] [] pos) (tD X.K (f.bind fun x e m => M.of (srtD m x) e m)) := by
  have inner : PE X (.Call (.Name "set" p2) [a] [] p3) (tCB (rSetL X.K X.w) (tCons (tD X.K f) tNil)) := pe_callTy (cr_setL hc) hg2 hm2 (by decide +kernel) (pa_cons ha pa_nil (star_nice hn _ _)) (by decide) (by decide) (star_nice hn _ _)
  refine (pe_callB (cr_sortedSet hc) hg hm (by decide +kernel) (pa_cons inner pa_nil) (by decide) (by decide)).imp fun σ H Q w => ?_
  show tG X.K (rpD X.K) f σ H _
  refine tG_mono (tG_bind w) fun v H1 h1 => ?_
  obtain ⟨d, e, m, al, F, sr, r, ok⟩ := h1
  obtain ⟨z, hz, fin⟩ := R.Ok.of ok
  unfold srtD at hz
  cases hd : deref m d with
  | none => rw [hd] at hz; cases hz
  | some d' =>
    rw [hd] at hz
    have th := sr.core.thru r hd
    cases d' with
    | lst xs =>
      simp only at hz
      split at hz
      · rename_i is hi
        split at hz
        · rename_i hl
          cases hz
          obtain ⟨q, ys, rfl, g1, g2⟩ := th.lst sr.core.sub
          have ei := g2.unmapI hi
          subst ei
          refine ⟨q, is, rfl, SqL.of g1, by rw [show scanBound = 4096 from rfl]; omega, fun t n ht hn' => ?_⟩
          refine ⟨t, _, n, rfl, upd_same, by omega, fun ns u hp hmem hlen hu => ?_⟩
          have en : ns = srtI is := rising_unique hp (pw_srtI is) fun k => by
            rw [hmem k, mem_srtI]
            simp
          subst en
          have htal : t ∉ al := fun z => by
            obtain ⟨o, ho⟩ := sr.core.has t z
            rw [ht] at ho; cases ho
          have c1 : SR X.K σ (upd H1 t (SetO X.w t (fun j => decide (j ∈ is)) n)) e m al F := ⟨sr.core.write (sr.core.fresh ht) htal _, sr.slots, sr.len⟩
          have x1 : Ex al F H1 al F (upd H1 t (SetO X.w t (fun j => decide (j ∈ is)) n)) := ⟨Pre.refl _, Le.refl _, fun b o h _ => by rw [upd_ne (ne_of_none h ht)]; exact h, fun _ h => .inl h, fun _ _ h _ _ => h⟩
          exact Fin.newL (fin.trans x1) c1 (repL_ints _) hu
        · cases hz
      · cases hz
    | _ => cases hz
end
end Mn
end
section
set_option Elab.async false
set_option linter.all false
set_option maxRecDepth 100000
/-! {k: v} over trees. -/
namespace Mn
open PySem PySem.Spec PyProof.Rows L2
section
variable {X : Cx} {pos : Pos} {a b : Expr} {ta tb : TE}
/-- the dict is there before its pair is computed -/
def tDic1 (ta tb : TE) : TE := fun σ H Q => ∀ t, H t = none → ta σ (upd H t (.dK [])) fun y H1 => tb σ H1 fun z H2 => ∃ k, y = kV k ∧ H2 t = some (.dK []) ∧ Q (.ref t) (upd H2 t (.dK (putK [] k z)))
theorem pe_dic1 (ha : PE X a ta) (hb : PE X b tb) : PE X (.Dict [some a] [b] pos) (tDic1 ta tb) := by
  refine ⟨fun pins s σ H Q I h => ?_⟩
  refine wpAny_Dict_any rfl rfl (by simp) (by simp) ?_
  have hn : H s.heap.objs.size = none := I.hok.fresh (Nat.le_refl _)
  have I0 : Inv X pins σ (upd H s.heap.objs.size (.dK [])) { s with heap := s.heap.push { cls := .type "dict", data := .dict #[] } } := I.laid (a := s.heap.objs.size) (o := .dK []) (t' := s.toks) (fun _ _ q => Heap.get?_push_of_some _ q) (Nat.le_refl _) (dk_empty s.heap I.big)
  have k0 := h _ hn
  generalize s.heap.objs.size = t at hn I0 k0 ⊢
  show wpAny _ _ (eval a X.env >>= fun kv => holding [kv] (do let x ← eval b X.env; standAt pos; pure x) >>= fun vv => holding [kv, vv] (pure []) >>= fun r => pure ((kv, vv) :: r)) _ _ _
  refine wpAny_bind (thn (ha.run pins _ σ _ _ I0 k0) fun u1 s1 ⟨y, H1, I1, r1, q1⟩ => ?_)
  refine wpAny_bind (wpAny_holding (wpAny_bind (thn (hb.run pins s1 σ H1 _ I1 q1) fun u2 s2 ⟨z, H2, I2, r2, k, e1, e2, q2⟩ => ?_)))
  subst e1
  refine wpAny_bind (wpAny_standAt (wpAny_pure (wpAny_bind (wpAny_holding (wpAny_pure (wpAny_pure ?_))))))
  obtain ⟨z0, hd, vs, rel, dd⟩ := dk_of I2.hok e2
  have ev : vs = [] := by cases rel; rfl
  subst ev
  refine wpAny_storeAll (knd := mixKind X.prog X.w) [(u1, u2)] [(k, u2)] [] s2 _ ⟨kV_is r1, rfl, trivial⟩ dd (by rw [sizeLine_eq]; simp) fun h' dd' hs => ?_
  have he : ∃ q, h'.get? t = some q := let ⟨q, _, _, hq, _⟩ := dd'; ⟨q, hq⟩
  have rel2 : KV (putK [] k z) (merged [] [(k, u2)]) := rel.put k r2
  exact ⟨.ref t, _, d_write (t' := s2.toks + 1) I2 (by rw [e2]; exact True.intro) hs he (dk_new (by rw [sizeLine_eq]; have := length_putK ([] : List (Key × V)) k z; simp at this; omega) hd rel2 dd'), rfl, q2⟩
theorem pe_dic1D {f g : M D} (ha : PE X a (tD X.K f)) (hb : PE X b (tD X.K g)) : PE X (.Dict [some a] [b] pos) (tD X.K (f.bind fun x => g.bind fun y => M.of (dic1D x y))) := by
  refine (pe_dic1 ha hb).imp fun σ H Q w t ht => ?_
  obtain ⟨e0, m0, al0, F0, sr0, ok0⟩ := w
  have hF := sr0.core.fresh ht
  have htal : t ∉ al0 := fun z => by
    obtain ⟨o, ho⟩ := sr0.core.has t z
    rw [ht] at ho; cases ho
  have s1 : SR X.K σ (upd H t (.dK [])) e0 m0 al0 F0 := ⟨sr0.core.write hF htal _, sr0.slots, sr0.len⟩
  have x1 : Ex al0 F0 H al0 F0 (upd H t (.dK [])) := ⟨Pre.refl _, Le.refl _, fun b o h _ => by rw [upd_ne (ne_of_none h ht)]; exact h, fun _ h => .inl h, fun _ _ h _ _ => h⟩
  refine ⟨e0, m0, al0, F0, s1, (R.Ok.bind ok0).mono (fun d1 e1 m1 ok1 v1 H1 al1 F1 sr1 ex1 r1 => ?_) fun _ _ _ z => z⟩
  refine ⟨e1, m1, al1, F1, sr1, (R.Ok.bind ok1).mono (fun d2 e2 m2 ok2 v2 H2 al2 F2 sr2 ex2 r2 => ?_) fun _ _ _ z => z⟩
  obtain ⟨d, hd, fin⟩ := R.Ok.of ok2
  unfold dic1D at hd
  split at hd
  · rename_i hk
    cases hd
    obtain ⟨k, rfl⟩ := flatKey_of hk
    have r1' := r1.mono ex2.pre ex2.le
    have ex := ex1.trans ex2
    have at_ := ex.keep t _ (upd_same (H := H) (a := t) (o := .dK [])) htal
    have nF := ex.nf t _ hF htal (upd_same (H := H) (a := t) (o := .dK []))
    have na : t ∉ al2 := fun z => (ex.new t z).elim htal fun q => nomatch (upd_same (H := H) (a := t) (o := .dK [])).symm.trans q
    refine ⟨k, rep_kD r1', at_, ?_⟩
    have c3 := sr2.core.write nF na (.dK (putK [] k v2))
    have c4 := c3.shut nF na upd_same
    refine fin _ _ al2 (upd F2 t (.dK (putK [] k v2))) ⟨c4, sr2.slots.mono (Pre.refl _) (Le.new nF), sr2.len⟩ ⟨(x1.trans ex).pre, (x1.trans ex).le.trans (Le.new nF), fun b o h n => ?_, (x1.trans ex).new, fun b o h n q => ?_⟩ ?_
    · rw [upd_ne (ne_of_none h ht)]
      exact (x1.trans ex).keep b o h n
    · rw [upd_ne (ne_of_none q ht)]
      exact (x1.trans ex).nf b o h n q
    · obtain ⟨p1, p2⟩ := put_rep kD keq_kD k r2 (kvs := []) (vs := []) .nil
      have := Rep.dicK (K := X.K) (al := al2) (F := upd F2 t (.dK (putK [] k v2))) upd_same (p2.mono (Pre.refl _) (Le.new nF))
      rw [p1] at this
      exact this
  · cases hd
end
end Mn
end
section
set_option Elab.async false
set_option linter.all false
set_option maxRecDepth 100000
/-! The checker: an expression of the program says what a term of the small language says. -/
namespace Mn
open PySem PySem.Spec PyProof.Rows L2
structure Tab where
  N : List Str
  sc : Scope
  fns : List (Str × Nat)
  gls : List (Str × Nat)
  free : List Str
  top : Bool
/-- a block's scope within another -/
def relS (sc out : Scope) : Scope := { sc with names := sc.names.map fun (n, k) => if (k == NameKind.free && out.kind == .function && out.names.lookup n == some .cell) then (n, NameKind.cell) else (n, k) }
def Tab.at (T : Tab) (sc : Scope) : Tab := { T with sc := relS sc T.sc, top := false }
def isVis (sc : Scope) (x : Str) : Bool := match sc.names.lookup x with
  | some .local => true
  | some .cell => true
  | some .free => true
  | _ => false
def isLoc (T : Tab) (x : Str) : Bool := match T.sc.names.lookup x with
  | some .local => true
  | some .cell => T.top
  | _ => false
def isLcl (sc : Scope) (x : Str) : Bool := match sc.names.lookup x with
  | some .local => true
  | _ => false
def isGl (sc : Scope) (x : Str) : Bool := match sc.names.lookup x with
  | some .globalImplicit => true
  | _ => false
theorem isVis_ok {sc : Scope} {x : Str} (h : isVis sc x = true) : Vis sc x := by
  unfold isVis at h
  split at h
  · exact .inl (by assumption)
  · exact .inr (.inl (by assumption))
  · exact .inr (.inr (by assumption))
  · cases h
theorem isLoc_ok {T : Tab} {x : Str} (h : isLoc T x = true) : T.sc.names.lookup x = some .local ∨ (T.sc.names.lookup x = some .cell ∧ T.top = true) := by
  unfold isLoc at h
  split at h
  · exact .inl (by assumption)
  · exact .inr ⟨by assumption, h⟩
  · cases h
theorem isLcl_ok {sc : Scope} {x : Str} (h : isLcl sc x = true) : sc.names.lookup x = some .local := by
  unfold isLcl at h
  split at h
  · assumption
  · cases h
theorem isGl_ok {sc : Scope} {x : Str} (h : isGl sc x = true) : sc.names.lookup x = some .globalImplicit := by
  unfold isGl at h
  split at h
  · assumption
  · cases h
structure Cok (X : Cx) (T : Tab) (P : Pg) : Prop where
  calm : X.calm = true
  N : X.N = T.N
  nd : T.N.Nodup
  sc : X.env.scope = T.sc
  kd : X.env.scope.kind = .function
  hu : X.A.units + 66 < cLine
  own : PassesOwn (model X.prog X.w) X.A X.env X.xe
  free : ∀ x ∈ T.free, X.mg x = none
  fns : ∀ x n, (x, n) ∈ T.fns → ∃ np, FnC X (P.fn n) np x
  gls : ∀ x n, (x, n) ∈ T.gls → ∀ d, P.gl n = some d → ∃ v u, X.mg x = some u ∧ RelV v u ∧ ∀ al F, Rep X.K al F v d
  cell : T.top = true → ∀ x, X.fn x = true
def litEq : Const → Const → Bool
  | .none, .none => true
  | .bool a, .bool b => a == b
  | .int a, .int b => decide (a = b)
  | .str a, .str b => decide (a = b)
  | _, _ => false
theorem litEq_ok : ∀ {a b : Const}, litEq a b = true → a = b
  | .none, .none, _ => rfl
  | .bool a, .bool b, h => by simp [litEq] at h; rw [h]
  | .int a, .int b, h => by simp [litEq] at h; rw [h]
  | .str a, .str b, h => by simp [litEq] at h; rw [h]
def opEq : Operator → Operator → Bool
  | .Add, .Add => true
  | .Sub, .Sub => true
  | .Mult, .Mult => true
  | .Mod, .Mod => true
  | .FloorDiv, .FloorDiv => true
  | .Pow, .Pow => true
  | _, _ => false
theorem opEq_ok {a b : Operator} (h : opEq a b = true) : a = b := by
  cases a <;> cases b <;> first | rfl | cases h
def cpEq : CmpOp → CmpOp → Bool
  | .Eq, .Eq => true
  | .NotEq, .NotEq => true
  | .Lt, .Lt => true
  | .LtE, .LtE => true
  | .Gt, .Gt => true
  | .GtE, .GtE => true
  | .Is, .Is => true
  | .IsNot, .IsNot => true
  | .In, .In => true
  | .NotIn, .NotIn => true
  | _, _ => false
theorem cpEq_ok {a b : CmpOp} (h : cpEq a b = true) : a = b := by
  cases a <;> cases b <;> first | rfl | cases h
/-- a name that is no special one -/
def okNm (x : Str) : Bool := !(x == ("__debug__" : Str)) && !(x == ("__classdict__" : Str))
def isSpr : E → Bool
  | .spr _ => true
  | _ => false
def ownOf (N : List Str) (own : List Nat) : List (Str × Nat) := own.map fun i => ((N[i]?).getD Str.empty, i)
theorem ownOf_snd (N : List Str) (own : List Nat) : (ownOf N own).map (·.2) = own := by
  unfold ownOf
  induction own with
  | nil => rfl
  | cons i r ih => rw [List.map_cons, List.map_cons, ih]
mutual
def chkTg : Tg → Tab → Expr → Bool
  | .nm i, T, e => match e with
    | .Name x _ => decide (T.N[i]? = some x) && isLoc T x
    | _ => false
  | .tp ts, T, e => match e with
    | .Tuple es _ _ => chkTgs ts T es
    | _ => false
def chkTgs : List Tg → Tab → List Expr → Bool
  | [], _, es => match es with
    | [] => true
    | _ => false
  | t :: ts, T, es => match es with
    | e :: es => nice e && chkTg t T e && chkTgs ts T es
    | _ => false
end
mutual
def chk : E → Tab → Expr → Bool
  | .lit c, _, e => match e with
    | .Constant c' _ _ => litEq c c'
    | _ => false
  | .v i, T, e => match e with
    | .Name x _ => decide (T.N[i]? = some x) && isVis T.sc x && okNm x
    | _ => false
  | .frz i, T, e => match e with
    | .Name x _ => decide (T.N[i]? = some x) && isVis T.sc x && okNm x
    | _ => false
  | .glob n, T, e => match e with
    | .Name x _ => isGl T.sc x && okNm x && T.gls.any fun p => decide (p = (x, n))
    | _ => false
  | .bin op a b, T, e => match e with
    | .BinOp ea o eb _ => opEq op.op o && chk a T ea && chk b T eb
    | _ => false
  | .neg a, T, e => match e with
    | .UnaryOp .USub ea _ => chk a T ea
    | _ => false
  | .not a, T, e => match e with
    | .UnaryOp .Not ea _ => chk a T ea
    | _ => false
  | .cmp op a b, T, e => match e with
    | .Compare ea [o] [eb] _ => cpEq op.op o && chk a T ea && chk b T eb && nice eb
    | _ => false
  | .chain op op' a b c, T, e => match e with
    | .Compare ea [o, o'] [eb, ec] _ => cpEq op.op o && cpEq op'.op o' && chk a T ea && chk b T eb && chk c T ec && nice eb && nice ec
    | _ => false
  | .and es, T, e => match e with
    | .BoolOp .And xs _ => chkB es T xs
    | _ => false
  | .or es, T, e => match e with
    | .BoolOp .Or xs _ => chkB es T xs
    | _ => false
  | .ite c a b, T, e => match e with
    | .IfExp ec ea eb _ => chkT c T ec && chk a T ea && chk b T eb
    | _ => false
  | .tup es, T, e => match e with
    | .Tuple xs _ _ => chks es T xs
    | _ => false
  | .lst es, T, e => match e with
    | .List xs _ => chks es T xs
    | _ => false
  | .mk es, T, e => match e with
    | .List xs _ => chks es T xs
    | _ => false
  | .mkd _, _, e => match e with
    | .Dict [] [] _ => true
    | _ => false
  | .dic1 a b, T, e => match e with
    | .Dict [some ea] [eb] _ => chk a T ea && chk b T eb
    | _ => false
  | .mkl a, T, e => match e with
    | .Call (.Name x _) [ea] [] _ => decide (x = ("list" : Str)) && isGl T.sc x && (T.free.any fun y => decide (y = x)) && chk a T ea && nice ea
    | _ => false
  | .srt a, T, e => match e with
    | .Call (.Name x _) [.Call (.Name y _) [ea] [] _] [] _ => decide (x = ("sorted" : Str)) && decide (y = ("set" : Str)) && isGl T.sc x && isGl T.sc y && (T.free.any fun z => decide (z = x)) && (T.free.any fun z => decide (z = y)) && chk a T ea && nice ea
    | _ => false
  | .idx a i, T, e => match e with
    | .Subscript ea ei _ => chk a T ea && chk i T ei && nice ei
    | _ => false
  | .slc a lo hi, T, e => match e with
    | .Subscript ea (.Slice lo' hi' none _) _ => chk a T ea && chkO lo T lo' && chkO hi T hi'
    | _ => false
  | .bi b es, T, e => match e with
    | .Call (.Name x _) (ea :: eas) [] _ => decide (x = b.nm) && isGl T.sc x && (T.free.any fun y => decide (y = x)) && chks es T (ea :: eas) && (ea :: eas).all nice
    | _ => false
  | .isi a t, T, e => match e with
    | .Call (.Name f _) [ea, .Name x _] [] _ => decide (f = ("isinstance" : Str)) && decide (x = t.nm) && isGl T.sc f && isGl T.sc x && (T.free.any fun y => decide (y = f)) && (T.free.any fun y => decide (y = x)) && chk a T ea && nice ea
    | _ => false
  | .fn n es, T, e => match e with
    | .Call (.Name x _) eas [] _ => isGl T.sc x && okNm x && (T.fns.any fun p => decide (p = (x, n))) && chks es T eas && eas.all nice
    | _ => false
  | .me m o es, T, e => match e with
    | .Call (.Attribute eo nm ap) (ea :: eas) [] pos => decide (nm = m.nm) && chk o T eo && noCall eo && chks es T (ea :: eas) && (ea :: eas).all nice && decide ((ea :: eas).length < 30) && (ap.endLine == pos.line)
    | _ => false
  | .lc own tg it ifs elt, T, e => match e with
    | .ListComp eelt [⟨etg, eit, eifs, 0⟩] sc _ => blkC T.N T.sc sc (ownOf T.N own) && chkI it T etg eit && chkTg tg (T.at sc) etg && chkF ifs (T.at sc) eifs && chk elt (T.at sc) eelt && nice eit && (Tg.slots tg).all fun i => decide (i ∈ own)
    | _ => false
  | _, _, _ => false
def chks : List E → Tab → List Expr → Bool
  | [], _, es => match es with
    | [] => true
    | _ => false
  | .spr a :: r, T, es => match es with
    | .Starred e _ :: es => chk a T e && chks r T es
    | _ => false
  | a :: r, T, es => match es with
    | e :: es => nice e && chk a T e && chks r T es
    | _ => false
def chkB : List E → Tab → List Expr → Bool
  | [], _, _ => false
  | a :: r, T, es => match es with
    | e :: es => chk a T e && (if r.isEmpty = true then es.isEmpty else chkB r T es)
    | _ => false
def chkO : List E → Tab → Option Expr → Bool
  | [], _, o => match o with
    | none => true
    | _ => false
  | a :: r, T, o => match o with
    | some e => chk a T e && r.isEmpty && !isSpr a
    | _ => false
def chkT : E → Tab → Expr → Bool
  | .not a, T, e => match e with
    | .UnaryOp .Not ea _ => chkT a T ea
    | _ => false
  | .and es, T, e => match e with
    | .BoolOp .And xs _ => chkTB es T xs
    | _ => false
  | .or es, T, e => match e with
    | .BoolOp .Or xs _ => chkTB es T xs
    | _ => false
  | .cmp op a b, T, e => match e with
    | .Compare ea [o] [eb] _ => cpEq op.op o && chk a T ea && chk b T eb && nice eb
    | _ => false
  | .chain op op' a b c, T, e => match e with
    | .Compare ea [o, o'] [eb, ec] _ => cpEq op.op o && cpEq op'.op o' && chk a T ea && chk b T eb && chk c T ec && nice eb && nice ec
    | _ => false
  | .tr a, T, e => chk a T e && tst e
  | _, _, _ => false
def chkTB : List E → Tab → List Expr → Bool
  | [], _, _ => false
  | a :: r, T, es => match es with
    | e :: es => chkT a T e && (if r.isEmpty = true then es.isEmpty else chkTB r T es)
    | _ => false
def chkF : List E → Tab → List Expr → Bool
  | [], _, es => match es with
    | [] => true
    | _ => false
  | a :: r, T, es => match es with
    | [e] => chkT a T e && r.isEmpty
    | _ => false
def chkI : E → Tab → Expr → Expr → Bool
  | .rng1 a, T, _, e => match e with
    | .Call (.Name x _) [ea] [] _ => decide (x = ("range" : Str)) && isGl T.sc x && (T.free.any fun y => decide (y = x)) && chk a T ea && nice ea
    | _ => false
  | .rng2 a b, T, _, e => match e with
    | .Call (.Name x _) [ea, eb] [] _ => decide (x = ("range" : Str)) && isGl T.sc x && (T.free.any fun y => decide (y = x)) && chk a T ea && nice ea && chk b T eb && nice eb
    | _ => false
  | .it a, T, _, e => chk a T e
  | .enum a, T, tg, e => match tg, e with
    | .Tuple _ _ _, .Call (.Name x _) [ea] [] _ => decide (x = ("enumerate" : Str)) && isGl T.sc x && (T.free.any fun y => decide (y = x)) && chk a T ea && nice ea
    | _, _ => false
  | .zip a b _, T, tg, e => match tg, e with
    | .Tuple _ _ _, .Call (.Name x _) [ea, eb] [] _ => decide (x = ("zip" : Str)) && isGl T.sc x && (T.free.any fun y => decide (y = x)) && chk a T ea && nice ea && chk b T eb && nice eb
    | _, _ => false
  | _, _, _, _ => false
end
end Mn
end
section
set_option Elab.async false
set_option linter.all false
set_option maxRecDepth 100000
set_option maxHeartbeats 1000000
/-! The main theorem: what the checker passes, the small language says. -/
namespace Mn
open PySem PySem.Spec PyProof.Rows L2
theorem Cok.gl {X : Cx} {T : Tab} {P : Pg} (C : Cok X T P) {x : Str} (h : isGl T.sc x = true) : Gl X x := by
  have := isGl_ok h
  rw [← C.sc] at this
  exact this
theorem Cok.fr {X : Cx} {T : Tab} {P : Pg} (C : Cok X T P) {x : Str} (h : (T.free.any fun y => decide (y = x)) = true) : X.mg x = none := by
  obtain ⟨y, hy, e⟩ := List.any_eq_true.mp h
  have e := of_decide_eq_true e
  subst e
  exact C.free _ hy
theorem okNm_ok {x : Str} (h : okNm x = true) : (x == ("__debug__" : Str)) = false ∧ (x == ("__classdict__" : Str)) = false := by
  unfold okNm at h
  rw [Bool.and_eq_true, Bool.not_eq_true', Bool.not_eq_true'] at h
  exact h
theorem Cok.blk {X : Cx} {T : Tab} {P : Pg} (C : Cok X T P) {sc : Scope} {own : List (Str × Nat)} (hb : BlkOk X.N X.env.scope sc own) (s : Shared) (H : Hp) (A : Addr) (cl : List (Str × Addr)) (fp : List Addr) : Cok (X.blk s H sc (compEnvC sc cl A X.env) fp) (T.at sc) P where
  calm := C.calm
  N := C.N
  nd := C.nd
  sc := by
    show relabel sc X.env = relS sc T.sc
    unfold relS
    rw [← C.sc]
    rfl
  kd := hb.kind
  hu := C.hu
  own := PassesOwn.never
  free := C.free
  fns := fun x n h => let ⟨np, F⟩ := C.fns x n h; ⟨np, ⟨F.len, F.ex⟩⟩
  gls := C.gls
  cell := fun h => nomatch h
section
variable {P : Pg}
mutual
theorem tg_ok : ∀ (t : Tg) {T : Tab} {X : Cx} {e : Expr}, Cok X T P → chkTg t T e = true → PG X e (gD X.K t)
  | .nm i, T, X, e, C, h => by
    unfold chkTg at h
    split at h
    · rename_i x p
      rw [Bool.and_eq_true, decide_eq_true_eq] at h
      have hl := isLoc_ok h.2
      have hf : X.fn x = true ∨ X.env.scope.names.lookup x = some .local := by
        rcases hl with q | q
        · exact .inr (by rw [C.sc]; exact q)
        · exact .inl (C.cell q.2 x)
      have hl2 : Loc X.env.scope x := by
        rw [C.sc]
        rcases hl with q | q
        · exact .inl q
        · exact .inr q.1
      exact pg_nmD (C.N ▸ C.nd) (C.N ▸ h.1) hl2 hf
    · cases h
  | .tp ts, T, X, e, C, h => by
    unfold chkTg at h
    split at h
    · obtain ⟨g, hn, hl⟩ := tgs_ok ts C h
      exact pg_tpD C.calm g hn hl
    · cases h
theorem tgs_ok : ∀ (ts : List Tg) {T : Tab} {X : Cx} {es : List Expr}, Cok X T P → chkTgs ts T es = true → PGs X es (gDs X.K ts) ∧ es.all nice = true ∧ es.length = ts.length
  | [], T, X, es, C, h => by
    unfold chkTgs at h
    split at h
    · exact ⟨pgs_nilD, rfl, rfl⟩
    · cases h
  | t :: ts, T, X, es, C, h => by
    unfold chkTgs at h
    split at h
    · rw [Bool.and_eq_true, Bool.and_eq_true] at h
      obtain ⟨g, hn, hl⟩ := tgs_ok ts C h.2
      exact ⟨pgs_consD (tg_ok t C h.1.2) g h.1.1, by rw [List.all_cons, h.1.1, hn]; rfl, by rw [List.length_cons, List.length_cons, hl]⟩
    · cases h
end
theorem evs_cons {a : E} (h : isSpr a = false) (r : List E) : evs P (a :: r) = (ev P a).bind fun d => (evs P r).bind fun ds => M.ret (d :: ds) := by
  cases a <;> first | rfl | cases h
theorem chks_cons {a : E} (h : isSpr a = false) (r : List E) (T : Tab) (es : List Expr) : chks (a :: r) T es = (match es with
    | e :: es => nice e && chk a T e && chks r T es
    | _ => false) := by
  cases a <;> first | rfl | cases h
mutual
theorem pe_ok : ∀ (ir : E) {T : Tab} {X : Cx} {e : Expr}, Cok X T P → chk ir T e = true → PE X e (tD X.K (ev P ir))
  | .lit c, T, X, e, C, h => by
    unfold chk at h
    split at h
    · have q := litEq_ok h
      subst q
      exact pe_litD c
    · cases h
  | .v i, T, X, e, C, h => by
    unfold chk at h
    split at h
    · rw [Bool.and_eq_true, Bool.and_eq_true, decide_eq_true_eq] at h
      exact pe_varD (C.N ▸ h.1.1) (by rw [C.sc]; exact isVis_ok h.1.2) (okNm_ok h.2).1 (okNm_ok h.2).2
    · cases h
  | .frz i, T, X, e, C, h => by
    unfold chk at h
    split at h
    · rw [Bool.and_eq_true, Bool.and_eq_true, decide_eq_true_eq] at h
      exact pe_frzD (C.N ▸ h.1.1) (by rw [C.sc]; exact isVis_ok h.1.2) (okNm_ok h.2).1 (okNm_ok h.2).2
    · cases h
  | .glob n, T, X, e, C, h => by
    unfold chk at h
    split at h
    · rename_i x p
      rw [Bool.and_eq_true, Bool.and_eq_true] at h
      obtain ⟨q, hq, eq⟩ := List.any_eq_true.mp h.2
      have eq := of_decide_eq_true eq
      subst eq
      refine ⟨fun pins s σ H Q I w => ?_⟩
      obtain ⟨e, m, al, F, sr, ok⟩ := w
      obtain ⟨d, hd, fin⟩ := R.Ok.of ok
      obtain ⟨v, u, hm, r, rep⟩ := C.gls _ _ hq d hd
      exact (pe_glob (C.gl h.1.1) hm r (okNm_ok h.1.2).1).run pins s σ H Q I (Fin.val fin sr (rep _ _))
    · cases h
  | .bin op a b, T, X, e, C, h => by
    unfold chk at h
    split at h
    · rw [Bool.and_eq_true, Bool.and_eq_true] at h
      have q := opEq_ok h.1.1
      subst q
      exact pe_binD op (pe_ok a C h.1.2) (pe_ok b C h.2)
    · cases h
  | .neg a, T, X, e, C, h => by
    unfold chk at h
    split at h
    · exact pe_negD (pe_ok a C h)
    · cases h
  | .not a, T, X, e, C, h => by
    unfold chk at h
    split at h
    · exact pe_notD (pe_ok a C h)
    · cases h
  | .cmp op a b, T, X, e, C, h => by
    unfold chk at h
    split at h
    · simp only [Bool.and_eq_true] at h
      have q := cpEq_ok h.1.1.1
      subst q
      exact pe_cmpDD (by have := C.hu; omega) op (pe_ok a C h.1.1.2) (pe_ok b C h.1.2) h.2
    · cases h
  | .chain op op' a b c, T, X, e, C, h => by
    unfold chk at h
    split at h
    · simp only [Bool.and_eq_true] at h
      obtain ⟨⟨⟨⟨⟨⟨h1, h2⟩, h3⟩, h4⟩, h5⟩, h6⟩, h7⟩ := h
      have q := cpEq_ok h1
      have q2 := cpEq_ok h2
      subst q q2
      exact pe_chainD (by have := C.hu; omega) op op' (pe_ok a C h3) (pe_ok b C h4) (pe_ok c C h5) h6 h7
    · cases h
  | .and es, T, X, e, C, h => by
    unfold chk at h
    split at h
    · exact and_ok es C h
    · cases h
  | .or es, T, X, e, C, h => by
    unfold chk at h
    split at h
    · exact or_ok es C h
    · cases h
  | .ite c a b, T, X, e, C, h => by
    unfold chk at h
    split at h
    · simp only [Bool.and_eq_true] at h
      exact pe_iteD (pt_ok c C h.1.1) (pe_ok a C h.1.2) (pe_ok b C h.2)
    · cases h
  | .tup es, T, X, e, C, h => by
    unfold chk at h
    split at h
    · exact pe_tupD (pa_ok es C h)
    · cases h
  | .lst es, T, X, e, C, h => by
    unfold chk at h
    split at h
    · exact pe_lstD (pa_ok es C h)
    · cases h
  | .mk es, T, X, e, C, h => by
    unfold chk at h
    split at h
    · exact pe_mkD (pa_ok es C h)
    · cases h
  | .idx a i, T, X, e, C, h => by
    unfold chk at h
    split at h
    · simp only [Bool.and_eq_true] at h
      exact pe_idxD (by have := C.hu; omega) (pe_ok a C h.1.1) (pe_ok i C h.1.2) h.2
    · cases h
  | .slc a lo hi, T, X, e, C, h => by
    unfold chk at h
    split at h
    · simp only [Bool.and_eq_true] at h
      exact pe_slcD (pe_ok a C h.1.1) (po_ok lo C h.1.2) (po_ok hi C h.2)
    · cases h
  | .bi b es, T, X, e, C, h => by
    unfold chk at h
    split at h
    · simp only [Bool.and_eq_true, decide_eq_true_eq] at h
      obtain ⟨⟨⟨⟨h1, h2⟩, h3⟩, h4⟩, h5⟩ := h
      subst h1
      exact pe_biD C.calm C.hu b (C.gl h2) (C.fr h3) (pa_ok es C h4) h5
    · cases h
  | .isi a t, T, X, e, C, h => by
    unfold chk at h
    split at h
    · simp only [Bool.and_eq_true, decide_eq_true_eq] at h
      obtain ⟨⟨⟨⟨⟨⟨⟨h1, h2⟩, h3⟩, h4⟩, h5⟩, h6⟩, h7⟩, h8⟩ := h
      subst h1 h2
      exact pe_isiD t (C.gl h3) (C.fr h5) (C.gl h4) (C.fr h6) (pe_ok a C h7) h8
    · cases h
  | .fn n es, T, X, e, C, h => by
    unfold chk at h
    split at h
    · rename_i x p eas pos
      simp only [Bool.and_eq_true] at h
      obtain ⟨⟨⟨⟨h1, h2⟩, h3⟩, h4⟩, h5⟩ := h
      obtain ⟨q, hq, eq⟩ := List.any_eq_true.mp h3
      have eq := of_decide_eq_true eq
      subst eq
      obtain ⟨np, F⟩ := C.fns _ _ hq
      have pa := pa_ok es C h4
      cases eas with
      | nil =>
        cases es with
        | nil => exact pe_fn0D F (C.gl h1) (okNm_ok h2).1
        | cons a r =>
          exfalso
          cases a <;> cases h4
      | cons a r => exact pe_fnD F (C.gl h1) (okNm_ok h2).1 pa h5
    · cases h
  | .me m o es, T, X, e, C, h => by
    unfold chk at h
    split at h
    · simp only [Bool.and_eq_true, decide_eq_true_eq] at h
      obtain ⟨⟨⟨⟨⟨⟨h1, h2⟩, h3⟩, h4⟩, h5⟩, h6⟩, h7⟩ := h
      subst h1
      exact pe_meD C.hu m (pe_ok o C h2) (pa_ok es C h4) h5 h6 h3 h7
    · cases h
  | .lc own tg it ifs elt, T, X, e, C, h => by
    unfold chk at h
    split at h
    · simp only [Bool.and_eq_true] at h
      obtain ⟨⟨⟨⟨⟨⟨h1, h2⟩, h3⟩, h4⟩, h5⟩, h6⟩, h7⟩ := h
      rename_i eelt etg eit eifs sc pos
      have hb : BlkOk X.N X.env.scope sc (ownOf T.N own) := by
        have := blkOk_by h1
        rw [C.N, C.sc]
        exact this
      have key := pe_lcD (pos := pos) (elt := eelt) C.calm (C.N ▸ C.nd) (pi_ok it C h2) hb (fun s H A cl fp => tg_ok tg (C.blk hb s H A cl fp) h3) (fun s H A cl fp => pf_ok ifs (C.blk hb s H A cl fp) h4)
        (fun s H A cl fp => pe_ok elt (C.blk hb s H A cl fp) h5) h6 (by
          rw [ownOf_snd]
          exact fun i hi => of_decide_eq_true (List.all_eq_true.mp h7 i hi))
      rw [ownOf_snd] at key
      exact key
    · cases h
  | .mkd t, T, X, e, C, h => by
    unfold chk at h
    split at h
    · exact pe_mkdD t
    · cases h
  | .mkl a, T, X, e, C, h => by
    unfold chk at h
    split at h
    · simp only [Bool.and_eq_true, decide_eq_true_eq] at h
      obtain ⟨⟨⟨⟨h1, h2⟩, h3⟩, h4⟩, h5⟩ := h
      subst h1
      exact pe_mklD C.calm (C.gl h2) (C.fr h3) (pe_ok a C h4) h5
    · cases h
  | .srt a, T, X, e, C, h => by
    unfold chk at h
    split at h
    · simp only [Bool.and_eq_true, decide_eq_true_eq] at h
      obtain ⟨⟨⟨⟨⟨⟨⟨h1, h2⟩, h3⟩, h4⟩, h5⟩, h6⟩, h7⟩, h8⟩ := h
      subst h1 h2
      exact pe_srtD C.calm (C.gl h3) (C.fr h5) (C.gl h4) (C.fr h6) (pe_ok a C h7) h8
    · cases h
  | .spr _, _, _, _, _, h => by cases h
  | .dic1 a b, T, X, e, C, h => by
    unfold chk at h
    split at h
    · rw [Bool.and_eq_true] at h
      exact pe_dic1D (pe_ok a C h.1) (pe_ok b C h.2)
    · cases h
  | .rev _, _, _, _, _, h => by cases h
  | .tr _, _, _, _, _, h => by cases h
  | .lc2 _ _ _ _ _ _ _ _ _, _, _, _, _, h => by cases h
  | .it _, _, _, _, _, h => by cases h
  | .rng1 _, _, _, _, _, h => by cases h
  | .rng2 _ _, _, _, _, _, h => by cases h
  | .enum _, _, _, _, _, h => by cases h
  | .zip _ _ _, _, _, _, _, h => by cases h
theorem pa_ok : ∀ (irs : List E) {T : Tab} {X : Cx} {es : List Expr}, Cok X T P → chks irs T es = true → PA X es (tDs X.K (evs P irs))
  | [], T, X, es, C, h => by
    unfold chks at h
    split at h
    · exact pa_nilD
    · cases h
  | a :: r, T, X, es, C, h => by
    by_cases q : isSpr a = false
    · rw [chks_cons q] at h
      rw [evs_cons q]
      split at h
      · simp only [Bool.and_eq_true] at h
        exact pa_consD (pe_ok a C h.1.2) (pa_ok r C h.2) h.1.1
      · cases h
    · match a, q, h with
      | .spr b, _, h =>
        unfold chks at h
        split at h
        · rw [Bool.and_eq_true] at h
          exact pa_sprD (pe_ok b C h.1) (pa_ok r C h.2)
        · cases h
      | .lit _, q, _ => exact absurd rfl q
      | .v _, q, _ => exact absurd rfl q
      | .frz _, q, _ => exact absurd rfl q
      | .glob _, q, _ => exact absurd rfl q
      | .bin _ _ _, q, _ => exact absurd rfl q
      | .neg _, q, _ => exact absurd rfl q
      | .not _, q, _ => exact absurd rfl q
      | .cmp _ _ _, q, _ => exact absurd rfl q
      | .chain _ _ _ _ _, q, _ => exact absurd rfl q
      | .and _, q, _ => exact absurd rfl q
      | .or _, q, _ => exact absurd rfl q
      | .tr _, q, _ => exact absurd rfl q
      | .ite _ _ _, q, _ => exact absurd rfl q
      | .tup _, q, _ => exact absurd rfl q
      | .lst _, q, _ => exact absurd rfl q
      | .mk _, q, _ => exact absurd rfl q
      | .dic1 _ _, q, _ => exact absurd rfl q
      | .mkl _, q, _ => exact absurd rfl q
      | .srt _, q, _ => exact absurd rfl q
      | .mkd _, q, _ => exact absurd rfl q
      | .idx _ _, q, _ => exact absurd rfl q
      | .slc _ _ _, q, _ => exact absurd rfl q
      | .rev _, q, _ => exact absurd rfl q
      | .bi _ _, q, _ => exact absurd rfl q
      | .isi _ _, q, _ => exact absurd rfl q
      | .fn _ _, q, _ => exact absurd rfl q
      | .me _ _ _, q, _ => exact absurd rfl q
      | .lc _ _ _ _ _, q, _ => exact absurd rfl q
      | .lc2 _ _ _ _ _ _ _ _ _, q, _ => exact absurd rfl q
      | .it _, q, _ => exact absurd rfl q
      | .rng1 _, q, _ => exact absurd rfl q
      | .rng2 _ _, q, _ => exact absurd rfl q
      | .enum _, q, _ => exact absurd rfl q
      | .zip _ _ _, q, _ => exact absurd rfl q
theorem and_ok : ∀ (irs : List E) {T : Tab} {X : Cx} {es : List Expr} {pos : Pos}, Cok X T P → chkB irs T es = true → PE X (.BoolOp .And es pos) (tD X.K (evAnd P irs))
  | [], T, X, es, _, C, h => by cases h
  | a :: r, T, X, es, _, C, h => by
    unfold chkB at h
    split at h
    · rename_i e es'
      rw [Bool.and_eq_true] at h
      cases r with
      | nil =>
        have h2 := h.2
        simp only [List.isEmpty_nil, if_true] at h2
        cases es' with
        | nil => exact pe_one1 (pe_ok a C h.1)
        | cons _ _ => cases h2
      | cons b r =>
        have h2 := h.2
        simp only [List.isEmpty_cons, Bool.false_eq_true, if_false] at h2
        cases es' with
        | nil => cases h2
        | cons e2 es2 => exact pe_andD (pe_ok a C h.1) (and_ok (b :: r) C h2)
    · cases h
theorem or_ok : ∀ (irs : List E) {T : Tab} {X : Cx} {es : List Expr} {pos : Pos}, Cok X T P → chkB irs T es = true → PE X (.BoolOp .Or es pos) (tD X.K (evOr P irs))
  | [], T, X, es, _, C, h => by cases h
  | a :: r, T, X, es, _, C, h => by
    unfold chkB at h
    split at h
    · rename_i e es'
      rw [Bool.and_eq_true] at h
      cases r with
      | nil =>
        have h2 := h.2
        simp only [List.isEmpty_nil, if_true] at h2
        cases es' with
        | nil => exact pe_one1 (pe_ok a C h.1)
        | cons _ _ => cases h2
      | cons b r =>
        have h2 := h.2
        simp only [List.isEmpty_cons, Bool.false_eq_true, if_false] at h2
        cases es' with
        | nil => cases h2
        | cons e2 es2 => exact pe_orD (pe_ok a C h.1) (or_ok (b :: r) C h2)
    · cases h
theorem po_ok : ∀ (irs : List E) {T : Tab} {X : Cx} {o : Option Expr}, Cok X T P → chkO irs T o = true → POD X o (evs P irs)
  | [], T, X, o, C, h => by
    unfold chkO at h
    split at h
    · exact .none
    · cases h
  | a :: r, T, X, o, C, h => by
    unfold chkO at h
    split at h
    · simp only [Bool.and_eq_true, Bool.not_eq_true'] at h
      cases r with
      | nil =>
        rw [evs_cons h.2]
        exact .some (pe_ok a C h.1.1)
      | cons b r => exact absurd h.1.2 (by simp)
    · cases h
theorem pt_ok : ∀ (ir : E) {T : Tab} {X : Cx} {e : Expr}, Cok X T P → chkT ir T e = true → PT X e (tDT X.K (evT P ir))
  | .not a, T, X, e, C, h => by
    unfold chkT at h
    split at h
    · exact pt_notD (pt_ok a C h)
    · cases h
  | .and es, T, X, e, C, h => by
    unfold chkT at h
    split at h
    · exact (tand_ok es C h).pt
    · cases h
  | .or es, T, X, e, C, h => by
    unfold chkT at h
    split at h
    · exact (tor_ok es C h).pt
    · cases h
  | .cmp op a b, T, X, e, C, h => by
    unfold chkT at h
    split at h
    · simp only [Bool.and_eq_true] at h
      have q := cpEq_ok h.1.1.1
      subst q
      exact pt_cmpDD (by have := C.hu; omega) op (pe_ok a C h.1.1.2) (pe_ok b C h.1.2) h.2
    · cases h
  | .chain op op' a b c, T, X, e, C, h => by
    unfold chkT at h
    split at h
    · simp only [Bool.and_eq_true] at h
      obtain ⟨⟨⟨⟨⟨⟨h1, h2⟩, h3⟩, h4⟩, h5⟩, h6⟩, h7⟩ := h
      have q := cpEq_ok h1
      have q2 := cpEq_ok h2
      subst q q2
      exact pt_chainD (by have := C.hu; omega) op op' (pe_ok a C h3) (pe_ok b C h4) (pe_ok c C h5) h6 h7
    · cases h
  | .tr a, T, X, e, C, h => by
    unfold chkT at h
    rw [Bool.and_eq_true] at h
    exact pt_trD (pe_ok a C h.1) h.2
  | .lit _, _, _, _, _, h => by cases h
  | .v _, _, _, _, _, h => by cases h
  | .frz _, _, _, _, _, h => by cases h
  | .glob _, _, _, _, _, h => by cases h
  | .bin _ _ _, _, _, _, _, h => by cases h
  | .neg _, _, _, _, _, h => by cases h
  | .ite _ _ _, _, _, _, _, h => by cases h
  | .tup _, _, _, _, _, h => by cases h
  | .lst _, _, _, _, _, h => by cases h
  | .mk _, _, _, _, _, h => by cases h
  | .spr _, _, _, _, _, h => by cases h
  | .dic1 _ _, _, _, _, _, h => by cases h
  | .mkl _, _, _, _, _, h => by cases h
  | .srt _, _, _, _, _, h => by cases h
  | .mkd _, _, _, _, _, h => by cases h
  | .idx _ _, _, _, _, _, h => by cases h
  | .slc _ _ _, _, _, _, _, h => by cases h
  | .rev _, _, _, _, _, h => by cases h
  | .bi _ _, _, _, _, _, h => by cases h
  | .isi _ _, _, _, _, _, h => by cases h
  | .fn _ _, _, _, _, _, h => by cases h
  | .me _ _ _, _, _, _, _, h => by cases h
  | .lc _ _ _ _ _, _, _, _, _, h => by cases h
  | .lc2 _ _ _ _ _ _ _ _ _, _, _, _, _, h => by cases h
  | .it _, _, _, _, _, h => by cases h
  | .rng1 _, _, _, _, _, h => by cases h
  | .rng2 _ _, _, _, _, _, h => by cases h
  | .enum _, _, _, _, _, h => by cases h
  | .zip _ _ _, _, _, _, _, h => by cases h
theorem tand_ok : ∀ (irs : List E) {T : Tab} {X : Cx} {es : List Expr} {pos : Pos}, Cok X T P → chkTB irs T es = true → PW X (.BoolOp .And es pos) (tDT X.K (evAndT P irs))
  | [], T, X, es, _, C, h => by cases h
  | a :: r, T, X, es, _, C, h => by
    unfold chkTB at h
    split at h
    · rename_i e es'
      rw [Bool.and_eq_true] at h
      cases r with
      | nil =>
        have h2 := h.2
        simp only [List.isEmpty_nil, if_true] at h2
        cases es' with
        | nil => exact pw_and1D (pt_ok a C h.1)
        | cons _ _ => cases h2
      | cons b r =>
        have h2 := h.2
        simp only [List.isEmpty_cons, Bool.false_eq_true, if_false] at h2
        cases es' with
        | nil => cases h2
        | cons e2 es2 => exact pw_andD (pt_ok a C h.1) (tand_ok (b :: r) C h2)
    · cases h
theorem tor_ok : ∀ (irs : List E) {T : Tab} {X : Cx} {es : List Expr} {pos : Pos}, Cok X T P → chkTB irs T es = true → PW X (.BoolOp .Or es pos) (tDT X.K (evOrT P irs))
  | [], T, X, es, _, C, h => by cases h
  | a :: r, T, X, es, _, C, h => by
    unfold chkTB at h
    split at h
    · rename_i e es'
      rw [Bool.and_eq_true] at h
      cases r with
      | nil =>
        have h2 := h.2
        simp only [List.isEmpty_nil, if_true] at h2
        cases es' with
        | nil => exact pw_or1D (pt_ok a C h.1)
        | cons _ _ => cases h2
      | cons b r =>
        have h2 := h.2
        simp only [List.isEmpty_cons, Bool.false_eq_true, if_false] at h2
        cases es' with
        | nil => cases h2
        | cons e2 es2 => exact pw_orD (pt_ok a C h.1) (tor_ok (b :: r) C h2)
    · cases h
theorem pf_ok : ∀ (irs : List E) {T : Tab} {X : Cx} {es : List Expr}, Cok X T P → chkF irs T es = true → PTs X es (tDT X.K (evAndT P irs))
  | [], T, X, es, C, h => by
    unfold chkF at h
    split at h
    · exact pts_nilD
    · cases h
  | a :: r, T, X, es, C, h => by
    unfold chkF at h
    split at h
    · rw [Bool.and_eq_true] at h
      cases r with
      | nil => exact pts_oneD (pt_ok a C h.1)
      | cons b r => exact absurd h.2 (by simp)
    · cases h
theorem pi_ok : ∀ (ir : E) {T : Tab} {X : Cx} {tg e : Expr}, Cok X T P → chkI ir T tg e = true → PI X tg e (tIt X.K (its P ir))
  | .rng1 a, T, X, tg, e, C, h => by
    unfold chkI at h
    split at h
    · simp only [Bool.and_eq_true, decide_eq_true_eq] at h
      obtain ⟨⟨⟨⟨h1, h2⟩, h3⟩, h4⟩, h5⟩ := h
      subst h1
      exact pi_rng1D (C.gl h2) (C.fr h3) (pe_ok a C h4) h5
    · cases h
  | .rng2 a b, T, X, tg, e, C, h => by
    unfold chkI at h
    split at h
    · simp only [Bool.and_eq_true, decide_eq_true_eq] at h
      obtain ⟨⟨⟨⟨⟨⟨h1, h2⟩, h3⟩, h4⟩, h5⟩, h6⟩, h7⟩ := h
      subst h1
      exact pi_rng2D (C.gl h2) (C.fr h3) (pe_ok a C h4) (pe_ok b C h6) h5 h7
    · cases h
  | .it a, T, X, tg, e, C, h => by
    unfold chkI at h
    exact pi_itD (pe_ok a C h)
  | .enum a, T, X, tg, e, C, h => by
    unfold chkI at h
    split at h
    · simp only [Bool.and_eq_true, decide_eq_true_eq] at h
      obtain ⟨⟨⟨⟨h1, h2⟩, h3⟩, h4⟩, h5⟩ := h
      subst h1
      exact pi_enumD (C.gl h2) (C.fr h3) (pe_ok a C h4) h5
    · cases h
  | .zip a b s, T, X, tg, e, C, h => by
    unfold chkI at h
    split at h
    · simp only [Bool.and_eq_true, decide_eq_true_eq] at h
      obtain ⟨⟨⟨⟨⟨⟨h1, h2⟩, h3⟩, h4⟩, h5⟩, h6⟩, h7⟩ := h
      subst h1
      exact pi_zipD s (C.gl h2) (C.fr h3) (pe_ok a C h4) (pe_ok b C h6) h5 h7
    · cases h
  | .lit _, _, _, _, _, _, h => by cases h
  | .v _, _, _, _, _, _, h => by cases h
  | .frz _, _, _, _, _, _, h => by cases h
  | .glob _, _, _, _, _, _, h => by cases h
  | .bin _ _ _, _, _, _, _, _, h => by cases h
  | .neg _, _, _, _, _, _, h => by cases h
  | .not _, _, _, _, _, _, h => by cases h
  | .cmp _ _ _, _, _, _, _, _, h => by cases h
  | .chain _ _ _ _ _, _, _, _, _, _, h => by cases h
  | .and _, _, _, _, _, _, h => by cases h
  | .or _, _, _, _, _, _, h => by cases h
  | .tr _, _, _, _, _, _, h => by cases h
  | .ite _ _ _, _, _, _, _, _, h => by cases h
  | .tup _, _, _, _, _, _, h => by cases h
  | .lst _, _, _, _, _, _, h => by cases h
  | .mk _, _, _, _, _, _, h => by cases h
  | .spr _, _, _, _, _, _, h => by cases h
  | .dic1 _ _, _, _, _, _, _, h => by cases h
  | .mkl _, _, _, _, _, _, h => by cases h
  | .srt _, _, _, _, _, _, h => by cases h
  | .mkd _, _, _, _, _, _, h => by cases h
  | .idx _ _, _, _, _, _, _, h => by cases h
  | .slc _ _ _, _, _, _, _, _, h => by cases h
  | .rev _, _, _, _, _, _, h => by cases h
  | .bi _ _, _, _, _, _, _, h => by cases h
  | .isi _ _, _, _, _, _, _, h => by cases h
  | .fn _ _, _, _, _, _, _, h => by cases h
  | .me _ _ _, _, _, _, _, _, h => by cases h
  | .lc _ _ _ _ _, _, _, _, _, _, h => by cases h
  | .lc2 _ _ _ _ _ _ _ _ _, _, _, _, _, _, h => by cases h
end
end
end Mn
end
section
set_option Elab.async false
set_option linter.all false
set_option maxRecDepth 100000
/-! Names and objects that are forgotten. -/
namespace Mn
open PySem PySem.Spec PyProof.Rows L2
variable {K : PySem.W.Frag}
mutual
theorem rep_below {al al' : List Addr} {F : Hp} {n : Nat} (hn : ∀ k a, k < n → al'[k]? = some a → al[k]? = some a) : ∀ {d : D} {v : V}, Rep K al' F v d → below n d = true → Rep K al F v d
  | .non, _, r, _ => by cases r; exact .non
  | .bl _, _, r, _ => by cases r; exact .bl _
  | .int _, _, r, _ => by cases r; exact .int _
  | .str _, _, r, _ => by cases r; exact .str _
  | .tup ds, _, r, h => by
    cases r with
    | tup h1 h2 => exact .tup h1 (repL_below hn h2 h)
  | .lst ds, _, r, h => by
    cases r with
    | lst h1 h2 => exact .lst h1 (repL_below hn h2 h)
  | .dic _ _ vs, _, r, h => by
    rw [below, Bool.and_eq_true] at h
    cases r with
    | dicK h1 h2 => exact .dicK h1 (repL_below hn h2 h.2)
    | dicT h1 h2 => exact .dicT h1 (repL_below hn h2 h.2)
  | .set _, _, r, _ => nomatch r
  | .scr _, _, r, _ => by
    cases r with
    | scr h => exact .scr h
  | .cell k, _, r, h => by
    rw [below, decide_eq_true_eq] at h
    cases r with
    | cell q => exact .cell (hn _ _ h q)
theorem repL_below {al al' : List Addr} {F : Hp} {n : Nat} (hn : ∀ k a, k < n → al'[k]? = some a → al[k]? = some a) : ∀ {ds : List D} {vs : List V}, RepL K al' F vs ds → belows n ds = true → RepL K al F vs ds
  | [], _, r, _ => by cases r; exact .nil
  | d :: ds, _, r, h => by
    rw [belows, Bool.and_eq_true] at h
    cases r with
    | cons h1 h2 => exact .cons (rep_below hn h1 h.1) (repL_below hn h2 h.2)
end
theorem SR.forget {σ : L2.St} {H : Hp} {e : Env} {m : Mu} {al : List Addr} {F : Hp} (sr : SR K σ H e m al F) (vs : List Nat) : SR K σ H (wipeE e vs) m al F :=
  ⟨sr.core, fun i d h => sr.slots i d (wipeE_some h).1, by rw [wipeE_length]; exact sr.len⟩
theorem gc_ok {H H' : Hp} {m m' : Mu} {al al' : List Addr} {F F' : Hp} {σ : L2.St} {e : Env} (c0 : Core K H m al F) (s : SR K σ H' e m' al' F') (x : Ex al F H al' F' H') :
    ∃ al2, SR K σ H' e (gcM m.length e m') al2 F' ∧ Ex al F H al2 F' H' := by
  unfold gcM
  split
  · rename_i h
    rw [Bool.and_eq_true] at h
    have c := s.core
    have hl := c0.len
    have hle : al.length ≤ al'.length := by
      rcases Nat.lt_or_ge al'.length al.length with q | q
      · have h1 : al[al'.length]? = some al[al'.length] := by simp [q]
        have h2 := x.pre _ _ h1
        simp at h2
      · exact q
    have hn : ∀ k a, k < m.length → al'[k]? = some a → al[k]? = some a := fun k a hk hk' => by
      have h1 : al[k]? = some al[k] := by simp [hl, hk]
      have h2 := x.pre _ _ h1
      rw [hk'] at h2
      cases h2
      exact h1
    refine ⟨al, ⟨⟨c.sub, ?_, c0.nd, fun a ha => ?_, fun k a d2 h1 h2 => ?_⟩, fun i d hd => ?_, s.len⟩, ⟨Pre.refl _, x.le, x.keep, fun _ h => .inl h, x.nf⟩⟩
    · rw [List.length_take, ← c.len, hl]
      omega
    · obtain ⟨k, hk⟩ := List.mem_iff_getElem?.mp ha
      exact c.has a (List.mem_of_getElem? (x.pre k a hk))
    · have hk : k < m.length := by
        rw [← hl]; exact (List.getElem?_eq_some_iff.mp h1).1
      rw [List.getElem?_take_of_lt hk] at h2
      obtain ⟨g1, g2⟩ := c.live k a d2 (x.pre k a h1) h2
      refine ⟨g1, ?_⟩
      have hb : below m.length d2 = true := by
        have := List.all_eq_true.mp h.2 (some d2) (List.mem_of_getElem? (by rw [List.getElem?_take_of_lt hk]; exact h2))
        exact this
      cases g2 with
      | lst q1 q2 => exact .lst q1 (repL_below hn q2 hb)
      | dicK q1 q2 =>
        rw [below, Bool.and_eq_true] at hb
        exact .dicK q1 (repL_below hn q2 hb.2)
      | dicT q1 q2 =>
        rw [below, Bool.and_eq_true] at hb
        exact .dicT q1 (repL_below hn q2 hb.2)
    · obtain ⟨v, h1, h2⟩ := s.slots i d hd
      refine ⟨v, h1, rep_below hn h2 ?_⟩
      have := List.all_eq_true.mp h.1 (some d) (List.mem_of_getElem? hd)
      exact this
  · exact ⟨al', s, x⟩
theorem tF_gc {f : Env → Mu → Fl} (vs : List Nat) (E : Ends) (σ : L2.St) (H : Hp) (h : tF K (fun e m => gcFl vs m.length (f e m)) E σ H) : tF K f E σ H := by
  obtain ⟨e, m, al, F, sr, ok⟩ := h
  have ok : (gcFl vs m.length (f e m)).Ok (fpD K al F H E) := ok
  refine ⟨e, m, al, F, sr, ?_⟩
  cases hf : f e m with
  | nx e1 m1 =>
    rw [hf] at ok
    intro σ' H' al' F' sr' x
    obtain ⟨al2, s2, x2⟩ := gc_ok sr.core (sr'.forget vs) x
    exact ok σ' H' al2 F' s2 x2
  | ct e1 m1 =>
    rw [hf] at ok
    intro σ' H' al' F' sr' x
    obtain ⟨al2, s2, x2⟩ := gc_ok sr.core (sr'.forget vs) x
    exact ok σ' H' al2 F' s2 x2
  | rt d m1 => rw [hf] at ok; exact ok
  | bk e1 m1 => rw [hf] at ok; exact ok
  | exc c vs m1 => rw [hf] at ok; exact ok
  | stuck => rw [hf] at ok; exact ok
end Mn
end
section
set_option Elab.async false
set_option linter.all false
set_option maxRecDepth 100000
set_option maxHeartbeats 1000000
/-! The checker of statements; a def's promise. -/
namespace Mn
open PySem PySem.Spec PyProof.Rows L2
def noSwap : Expr → Expr → Bool
  | .Tuple _ _ _, .Tuple _ _ _ => false
  | .List _ _, .Tuple _ _ _ => false
  | _, _ => true
theorem noSwap_ok {t e : Expr} (h : noSwap t e = true) (env : PySem.Env) : swappedStores [t] e env = pure none := by
  cases t <;> cases e <;> first | rfl | (cases h)
/-- a pair of targets that are not all plain locals is stored in order -/
def mixT (T : Tab) : Expr → Expr → Bool
  | .Tuple ts _ _, .Tuple _ _ _ => ts.any fun t => match t with
    | .Name y _ => !isLcl T.sc y
    | _ => true
  | _, _ => false
theorem filterMap_short {α β : Type} (f : α → Option β) : ∀ {l : List α}, (∃ x ∈ l, f x = none) → (l.filterMap f).length < l.length
  | [], h => by obtain ⟨x, hx, _⟩ := h; simp at hx
  | a :: l, h => by
    obtain ⟨x, hx, e⟩ := h
    have le : (l.filterMap f).length ≤ l.length := List.length_filterMap_le f l
    rcases List.mem_cons.mp hx with q | q
    · subst q
      rw [List.filterMap_cons_none e, List.length_cons]
      omega
    · have ih := filterMap_short f ⟨x, q, e⟩
      cases z : f a with
      | none => rw [List.filterMap_cons_none z, List.length_cons]; omega
      | some b => rw [List.filterMap_cons_some z, List.length_cons, List.length_cons]; omega
theorem mixT_ok {X : Cx} {T : Tab} (hs : X.env.scope = T.sc) {t e : Expr} (h : mixT T t e = true) : swappedStores [t] e X.env = pure none := by
  cases t <;> first | (cases h; done) | skip
  cases e <;> first | (cases h; done) | skip
  rename_i ts k p vs k2 p2
  have h : (ts.any fun t => match t with
    | .Name y _ => !isLcl T.sc y
    | _ => true) = true := h
  obtain ⟨x, hx, hq⟩ := List.any_eq_true.mp h
  unfold swappedStores
  simp only
  split
  · rfl
  · split
    · rfl
    · have short : ∀ line : Nat, ((ts.filterMap fun
        | .Name id pos => if (X.env.kindOf id == some .local && pos.line == line) = true then some id else none
        | _ => none).length != ts.length) = true := fun line => by
        have := filterMap_short (fun (t : Expr) => match t with
          | .Name id pos => if (X.env.kindOf id == some .local && pos.line == line) = true then some id else none
          | _ => none) ⟨x, hx, by
            cases x <;> first | rfl | skip
            rename_i y py
            simp only [Bool.not_eq_true'] at hq
            have ne : (X.env.kindOf y == some .local) = false := by
              show (X.env.scope.names.lookup y == some .local) = false
              rw [hs]
              unfold isLcl at hq
              cases z : T.sc.names.lookup y with
              | none => rfl
              | some k =>
                rw [z] at hq
                cases k <;> first | rfl | (cases hq)
            simp [ne]⟩
        simp only [bne_iff_ne, ne_eq]
        omega
      exact if_pos (Bool.or_eq_true_iff.mpr (.inl (short _)))
/-- the target is not swapped into a comprehension -/
def tgtOut (T : Tab) : Expr → Bool
  | .Name y _ => match T.sc.names.lookup y with
    | some .cell => true
    | _ => false
  | .Tuple _ _ _ => true
  | _ => false
theorem tgtOut_ok {X : Cx} {T : Tab} (hs : X.env.scope = T.sc) {t a : Expr} (h : tgtOut T t = true) (l : Nat) : swapsWithSole [t] a l X.env = pure false := by
  have go : swapsWith a (some t) l X.env = pure false := by
    cases t with
    | Name y p =>
      have h : (match T.sc.names.lookup y with
        | some .cell => true
        | _ => false) = true := h
      split at h
      · rename_i e
        have e : X.env.kindOf y = some .cell := by
          show X.env.scope.names.lookup y = _
          rw [hs]; exact e
        have ne : (NameKind.cell == NameKind.local) = false := rfl
        cases a <;> first | rfl | skip
        all_goals
          unfold swapsWith
          simp [e, ne]
      · cases h
    | Tuple _ _ _ => cases a <;> rfl
    | _ => cases h
  exact go
def isComp1 : Expr → Bool
  | .ListComp _ _ _ _ => true
  | _ => false
mutual
def chkS : S → Tab → Stmt → Bool
  | .set tg e, T, st => match st with
    | .Assign [etg] ee pos => nice etg && chkTg tg T etg && chk e T ee && (noSwap etg ee || mixT T etg ee) && (noComp ee || tgtOut T etg || (match tg, etg, ee with
      | .nm _, .Name y py, .ListComp _ _ sc p => isLcl T.sc y && (py.line == p.line) && !(sc.names.any fun (n, k) => n == y && (k == .local || k == .cell))
      | _, _, _ => false))
    | _ => false
  | .par i j a b, T, st => match st with
    | .Assign [.Tuple [.Name x px, .Name y py] _ _] (.Tuple [ea, eb] _ _) _ => decide (T.N[i]? = some x) && decide (T.N[j]? = some y) && isLcl T.sc x && isLcl T.sc y && decide (i ≠ j) && decide (x ≠ y) && (py.line == px.line) && chk a T ea && chk b T eb && nice ea && nice eb &&
        notStar ea && notStar eb && !([ea, eb].all (foldedForSure 8)) && !([ea, eb].all (constantsAlone 8))
    | _ => false
  | .star i j e, T, st => match st with
    | .Assign [.Tuple [.Name x _, .Starred (.Name y _) _] _ _] ee _ => decide (T.N[i]? = some x) && decide (T.N[j]? = some y) && isLoc T x && isLoc T y && chk e T ee && noComp ee && noSwap (.Tuple [] 0 ⟨0, 0, 0, 0⟩) ee
    | _ => false
  | .sidx o i e, T, st => match st with
    | .Assign [.Subscript eo ei _] ee _ => chk e T ee && chk o T eo && chk i T ei && noComp ee && nice ei
    | _ => false
  | .aug n op e, T, st => match st with
    | .AugAssign (.Name x _) o ee _ => (decide (op = .add) || decide (op = .sub)) && opEq op.op o && decide (T.N[n]? = some x) && isLoc T x && chk e T ee
    | _ => false
  | .ex e, T, st => match st with
    | .Expr ee _ => chk e T ee && noComp ee
    | _ => false
  | .ret e, T, st => match st with
    | .Return (some ee) _ => chk e T ee
    | _ => false
  | .retN, _, st => match st with
    | .Return none _ => true
    | _ => false
  | .ite c a b, T, st => match st with
    | .If ec sa sb _ => chkT c T ec && chkSs a T sa && chkSs b T sb
    | _ => false
  | .for_ tg it b, T, st => match st with
    | .For etg eit sb [] _ => chkTg tg T etg && chkI it T etg eit && chkSs b T sb && nice eit
    | _ => false
  | .forg _ tg it b, T, st => match st with
    | .For etg eit sb [] _ => chkTg tg T etg && chkI it T etg eit && chkSs b T sb && nice eit
    | _ => false
  | .wh _ c b, T, st => match st with
    | .While ec sb [] _ => chkT c T ec && chkSs b T sb
    | _ => false
  | .brk, _, st => match st with
    | .Break _ => true
    | _ => false
  | .cnt, _, st => match st with
    | .Continue _ => true
    | _ => false
  | .pas, _, st => match st with
    | .Pass _ => true
    | _ => false
  | .never, _, _ => true
def chkSs : List S → Tab → List Stmt → Bool
  | [], _, sts => match sts with
    | [] => true
    | _ => false
  | s :: ss, T, sts => match sts with
    | st :: sts => chkS s T st && chkSs ss T sts
    | _ => false
end
section
variable {P : Pg}
theorem ps_setD' {X : Cx} {pos : Pos} {a tg : Expr} {T : Tg} {f : M D} (ha : PE X a (tD X.K f)) (hg : PG X tg (gD X.K T)) (hs : swapsWithSole [tg] a pos.line X.env = pure false) (hw : swappedStores [tg] a X.env = pure none) (h1 : (assignEach [tg] X.env).map (·.2) = [assign tg X.env]) :
    PS X (.Assign [tg] a pos) (tF X.K fun r m => (f r m).fl fun d r m => match bindTg T d r with
      | some r => .nx r m
      | none => .stuck) := by
  refine (ps_asg ha hg hs hw h1).imp fun E σ H w => tG_mono (tF_bind w) fun v H1 k => ?_
  obtain ⟨d, e, m, al, F, sr, r, ok⟩ := k
  cases hb : bindTg T d e with
  | none => simp only [hb] at ok; exact ok.elim
  | some e' =>
    simp only [hb] at ok
    exact ⟨d, e, e', m, al, F, sr, r, hb, fun σ' sr' _ => ok σ' _ _ _ sr' (Ex.refl _ _ _)⟩
theorem setLc_ok {T : Tab} {X : Cx} {n : Nat} {y : Str} {py p pos : Pos} {own : List Nat} {tg : Tg} {it elt : E} {ifs : List E} {eelt : Expr} {gens : List Comprehension} {sc : Scope} (C : Cok X T P) (h : chk (.lc own tg it ifs elt) T (.ListComp eelt gens sc p) = true) (ht : chkTg (.nm n) T (.Name y py) = true)
    (hl : isLcl T.sc y = true) (hp : (py.line == p.line) = true) (ha : (sc.names.any fun (n, k) => n == y && (k == .local || k == .cell)) = false) : PS X (.Assign [.Name y py] (.ListComp eelt gens sc p) pos) (tF X.K (ex P (.set (.nm n) (.lc own tg it ifs elt)))) := by
  unfold chk at h
  split at h
  · rename_i eq
    cases eq
    simp only [Bool.and_eq_true] at h
    obtain ⟨⟨⟨⟨⟨⟨h1, h2⟩, h3⟩, h4⟩, h5⟩, h6⟩, h7⟩ := h
    have hb : BlkOk X.N X.env.scope sc (ownOf T.N own) := by
      have := blkOk_by h1
      rw [C.N, C.sc]
      exact this
    unfold chkTg at ht
    simp only [Bool.and_eq_true, decide_eq_true_eq] at ht
    have hloc : X.env.scope.names.lookup y = some .local := by rw [C.sc]; exact isLcl_ok hl
    have key := ps_setLcD (pos := pos) (elt := eelt) (n := n) C.calm (C.N ▸ C.nd) (C.N ▸ ht.1) hloc (sw_true C.kd hloc hp ha) (pi_ok it C h2) hb (fun s H A cl fp => tg_ok tg (C.blk hb s H A cl fp) h3) (fun s H A cl fp => pf_ok ifs (C.blk hb s H A cl fp) h4)
      (fun s H A cl fp => pe_ok elt (C.blk hb s H A cl fp) h5) h6 (by
        rw [ownOf_snd]
        exact fun i hi => of_decide_eq_true (List.all_eq_true.mp h7 i hi))
    rw [ownOf_snd] at key
    exact key
  · cases h
mutual
theorem ps_ok : ∀ (ir : S) {T : Tab} {X : Cx} {st : Stmt}, Cok X T P → chkS ir T st = true → PS X st (tF X.K (ex P ir))
  | .set tg e, T, X, st, C, h => by
    unfold chkS at h
    split at h
    · simp only [Bool.and_eq_true] at h
      obtain ⟨⟨⟨⟨h1, h2⟩, h3⟩, h4⟩, h5⟩ := h
      have h4 : swappedStores [_] _ X.env = pure none := (Bool.or_eq_true_iff.mp h4).elim (fun q => noSwap_ok q X.env) (fun q => mixT_ok C.sc q)
      rw [Bool.or_eq_true, Bool.or_eq_true] at h5
      rcases h5 with (h5 | h5) | h5
      · exact ps_setD' (pe_ok e C h3) (tg_ok tg C h2) (swap_comp h5 _ _ _) h4 (tgt_nice h1 _)
      · exact ps_setD' (pe_ok e C h3) (tg_ok tg C h2) (tgtOut_ok C.sc h5 _) h4 (tgt_nice h1 _)
      · split at h5
        · simp only [Bool.and_eq_true, Bool.not_eq_true'] at h5
          cases e <;> first | (cases h3; done) | skip
          exact setLc_ok C h3 h2 h5.1.1 h5.1.2 h5.2
        · cases h5
    · cases h
  | .par i j a b, T, X, st, C, h => by
    unfold chkS at h
    split at h
    · rename_i x px y py _ _ _ _ _ _ _
      simp only [Bool.and_eq_true, decide_eq_true_eq, Bool.not_eq_true'] at h
      obtain ⟨⟨⟨⟨⟨⟨⟨⟨⟨⟨⟨⟨⟨⟨h1, h2⟩, h3⟩, h4⟩, h5⟩, h6⟩, h7⟩, h8⟩, h9⟩, h10⟩, h11⟩, h12⟩, h13⟩, h14⟩, h15⟩ := h
      have l1 : X.env.scope.names.lookup x = some .local := by rw [C.sc]; exact isLcl_ok h3
      have l2 : X.env.scope.names.lookup y = some .local := by rw [C.sc]; exact isLcl_ok h4
      exact ps_parD C.calm (C.N ▸ C.nd) (C.N ▸ h1) (C.N ▸ h2) h5 l1 l2 (pe_ok a C h8) (pe_ok b C h9) h10 h11 (swap2 C.kd l1 l2 h6 h7 h12 h13 h14 h15)
    · cases h
  | .star i j e, T, X, st, C, h => by
    unfold chkS at h
    split at h
    · rename_i x p1 y p2 p3 kt p4 ee pos
      simp only [Bool.and_eq_true, decide_eq_true_eq] at h
      obtain ⟨⟨⟨⟨⟨⟨h1, h2⟩, h3⟩, h4⟩, h5⟩, h6⟩, h7⟩ := h
      have loc : ∀ {z : Str}, isLoc T z = true → Loc X.env.scope z ∧ (X.fn z = true ∨ X.env.scope.names.lookup z = some .local) := fun {z} hz => by
        rw [C.sc]
        rcases isLoc_ok hz with q | q
        · exact ⟨.inl q, .inr q⟩
        · exact ⟨.inr q.1, .inl (C.cell q.2 z)⟩
      have hw : swappedStores [.Tuple [.Name x p1, .Starred (.Name y p2) p3] kt p4] ee X.env = pure none := by
        cases ee <;> first | rfl | (cases h7)
      exact ps_starD (pe_ok e C h5) (C.N ▸ C.nd) (C.N ▸ h1) (C.N ▸ h2) (loc h3).1 (loc h4).1 (loc h3).2 (loc h4).2 C.calm (swap_comp h6 (some (.Tuple [.Name x p1, .Starred (.Name y p2) p3] kt p4)) pos.line X.env) hw
    · cases h
  | .sidx o i e, T, X, st, C, h => by
    unfold chkS at h
    split at h
    · simp only [Bool.and_eq_true] at h
      obtain ⟨⟨⟨⟨h1, h2⟩, h3⟩, h4⟩, h5⟩ := h
      exact ps_sidxD (pe_ok e C h1) (pe_ok o C h2) (pe_ok i C h3) h4 h5
    · cases h
  | .aug n op e, T, X, st, C, h => by
    unfold chkS at h
    split at h
    · simp only [Bool.and_eq_true, Bool.or_eq_true, decide_eq_true_eq] at h
      obtain ⟨⟨⟨⟨h1, h2⟩, h3⟩, h4⟩, h5⟩ := h
      have q := opEq_ok h2
      subst q
      have hl := isLoc_ok h4
      refine ps_augD h1 (C.N ▸ C.nd) (C.N ▸ h3) ?_ ?_ (pe_ok e C h5)
      · rw [C.sc]
        rcases hl with q | q
        · exact .inl q
        · exact .inr q.1
      · rcases hl with q | q
        · exact .inr (by rw [C.sc]; exact q)
        · exact .inl (C.cell q.2 _)
    · cases h
  | .ex e, T, X, st, C, h => by
    unfold chkS at h
    split at h
    · rw [Bool.and_eq_true] at h
      exact ps_exprD (pe_ok e C h.1) h.2
    · cases h
  | .ret e, T, X, st, C, h => by
    unfold chkS at h
    split at h
    · exact ps_retD (pe_ok e C h)
    · cases h
  | .retN, T, X, st, C, h => by
    unfold chkS at h
    split at h
    · exact ps_retND
    · cases h
  | .ite c a b, T, X, st, C, h => by
    unfold chkS at h
    split at h
    · simp only [Bool.and_eq_true] at h
      exact ps_ifD (pt_ok c C h.1.1) (pss_ok a C h.1.2) (pss_ok b C h.2)
    · cases h
  | .for_ tg it b, T, X, st, C, h => by
    unfold chkS at h
    split at h
    · simp only [Bool.and_eq_true] at h
      obtain ⟨⟨⟨h1, h2⟩, h3⟩, h4⟩ := h
      exact ps_forD C.own C.calm (pi_ok it C h2) (tg_ok tg C h1) (pss_ok b C h3) h4
    · cases h
  | .forg vs tg it b, T, X, st, C, h => by
    unfold chkS at h
    split at h
    · simp only [Bool.and_eq_true] at h
      obtain ⟨⟨⟨h1, h2⟩, h3⟩, h4⟩ := h
      exact ps_forD C.own C.calm (pi_ok it C h2) (tg_ok tg C h1) ((pss_ok b C h3).imp (tF_gc vs)) h4
    · cases h
  | .wh n c b, T, X, st, C, h => by
    unfold chkS at h
    split at h
    · simp only [Bool.and_eq_true] at h
      exact ps_whD n C.own (pt_ok c C h.1) (pss_ok b C h.2)
    · cases h
  | .brk, T, X, st, C, h => by
    unfold chkS at h
    split at h
    · exact ps_brkD
    · cases h
  | .cnt, T, X, st, C, h => by
    unfold chkS at h
    split at h
    · exact ps_cntD
    · cases h
  | .pas, T, X, st, C, h => by
    unfold chkS at h
    split at h
    · exact ps_passD
    · cases h
  | .never, T, X, st, C, h => ps_neverD
theorem pss_ok : ∀ (irs : List S) {T : Tab} {X : Cx} {sts : List Stmt}, Cok X T P → chkSs irs T sts = true → PSs X sts (tF X.K (exs P irs))
  | [], T, X, sts, C, h => by
    unfold chkSs at h
    split at h
    · exact pss_nilD
    · cases h
  | s :: ss, T, X, sts, C, h => by
    unfold chkSs at h
    split at h
    · rw [Bool.and_eq_true] at h
      exact pss_consD (ps_ok s C h.1) (pss_ok ss C h.2)
    · cases h
end
end
end Mn
end
section
set_option Elab.async false
set_option linter.all false
set_option maxRecDepth 100000
/-! A def keeps its promise. -/
namespace Mn
open PySem PySem.Spec PyProof.Rows L2
variable {K : PySem.W.Frag}
theorem trunc_ok {H H' : Hp} {m m' : Mu} {al al' : List Addr} {F F' : Hp} {d : D} {v : V} (c0 : Core K H m al F) (c : Core K H' m' al' F') (x : Ex al F H al' F' H') (r : Rep K al' F' v d) :
    ∃ al2, Core K H' (trunc m.length d m') al2 F' ∧ Ex al F H al2 F' H' ∧ Rep K al2 F' v d := by
  unfold trunc
  split
  · rename_i h
    rw [Bool.and_eq_true] at h
    have hl := c0.len
    have hle : al.length ≤ al'.length := by
      rcases Nat.lt_or_ge al'.length al.length with q | q
      · have h1 : al[al'.length]? = some al[al'.length] := by simp [q]
        have h2 := x.pre _ _ h1
        simp at h2
      · exact q
    have hn : ∀ k a, k < m.length → al'[k]? = some a → al[k]? = some a := fun k a hk hk' => by
      have h1 : al[k]? = some al[k] := by simp [hl, hk]
      have h2 := x.pre _ _ h1
      rw [hk'] at h2
      cases h2
      exact h1
    refine ⟨al, ⟨c.sub, ?_, c0.nd, fun a ha => ?_, fun k a d2 h1 h2 => ?_⟩, ⟨Pre.refl _, x.le, x.keep, fun _ h => .inl h, x.nf⟩, rep_below hn r h.1⟩
    · rw [List.length_take, ← c.len, hl]
      omega
    · obtain ⟨k, hk⟩ := List.mem_iff_getElem?.mp ha
      exact c.has a (List.mem_of_getElem? (x.pre k a hk))
    · have hk : k < m.length := by
        rw [← hl]; exact (List.getElem?_eq_some_iff.mp h1).1
      rw [List.getElem?_take_of_lt hk] at h2
      obtain ⟨g1, g2⟩ := c.live k a d2 (x.pre k a h1) h2
      refine ⟨g1, ?_⟩
      have hb : below m.length d2 = true := by
        have := List.all_eq_true.mp h.2 (some d2) (List.mem_of_getElem? (by rw [List.getElem?_take_of_lt hk]; exact h2))
        exact this
      cases g2 with
      | lst q1 q2 => exact .lst q1 (repL_below hn q2 hb)
      | dicK q1 q2 =>
        rw [below, Bool.and_eq_true] at hb
        exact .dicK q1 (repL_below hn q2 hb.2)
      | dicT q1 q2 =>
        rw [below, Bool.and_eq_true] at hb
        exact .dicT q1 (repL_below hn q2 hb.2)
  · exact ⟨al', c, x, r⟩
/-- a def of the module, by its number -/
structure FnM (prog : Program) (w : World) (K : PySem.W.Frag) (mg : Str → Option Value) (base : Heap) (k : Nat) (g : Fn) (x : Str) : Prop where
  ex : ∃ np f fd ps, (∀ ds m P E, (g ds m).Ok P E → ds.length = np) ∧ FnOk prog w K mg base CX0 k f fd ps (spD K g np) ∧ mg x = some (.ref f) ∧ PySem.W.keepIn K (.ref f) = true ∧ Binds K fd ps []
theorem FnM.mono {prog : Program} {w : World} {mg : Str → Option Value} {base : Heap} {j k : Nat} {g : Fn} {x : Str} (F : FnM prog w K mg base j g x) (h : j ≤ k) : FnM prog w K mg base k g x :=
  let ⟨np, f, fd, ps, l, ok, r⟩ := F.ex
  ⟨np, f, fd, ps, l, ok.mono h, r⟩
theorem run_len {P : Pg} {np ns : Nat} {b : List S} : ∀ ds m Q E, (run P np ns b ds m).Ok Q E → ds.length = np := by
  intro ds m Q E h
  unfold run at h
  split at h
  · assumption
  · exact h.elim
theorem start_slots {N : List Str} {vs : List V} {ds : List D} {al : List Addr} {F : Hp} (r : RepL K al F vs ds) : Slots K (start N vs) (ds.map some ++ List.replicate (N.length - ds.length) none) al F := by
  intro i d h
  unfold L2.start
  by_cases hi : i < ds.length
  · rw [List.getElem?_append_left (by simpa using hi), List.getElem?_map] at h
    obtain ⟨d', h1, h2⟩ := Option.map_eq_some_iff.mp h
    cases h2
    obtain ⟨v, h3, h4⟩ := r.get h1
    refine ⟨v, ?_, h4⟩
    rw [List.getElem?_append_left (by rw [List.length_map, r.length]; exact hi), List.getElem?_map, h3]
    rfl
  · rw [List.getElem?_append_right (by simpa using hi), List.getElem?_replicate] at h
    split at h <;> cases h
/-- THE RULE -/
theorem def_ok {prog : Program} {w : World} {mg : Str → Option Value} {base : Heap} {P : Pg} {x qual : Str} {st : Stmt} {f : Addr} {fd : FuncData} {N ps : List Str} {fns gls : List (Str × Nat)} {free : List Str} {k : Nat} {b : List S}
    (F : Fun K x qual st f fd) (S : FnScope N ps (defScope st)) (hc : chkSs b ⟨N, defScope st, fns, gls, free, true⟩ (defBody st) = true) (hfree : ∀ y ∈ free, mg y = none) (hfns : ∀ y n, (y, n) ∈ fns → FnM prog w K mg base k (P.fn n) y)
    (hgls : ∀ y n, (y, n) ∈ gls → ∀ d, P.gl n = some d → ∃ v u, mg y = some u ∧ RelV v u ∧ ∀ al F, Rep K al F v d) : FnOk prog w K mg base CX0 (k + 1) f fd ps (spD K (run P ps.length N.length b) ps.length) := by
  refine F.ok S (fun vs H Q E h => h.1) (fun cdv A outer s H vs Q E hr h => ?_)
  obtain ⟨hl, al, G, m, ds, core, rep, ok⟩ := h
  have hle : ps.length ≤ N.length := by
    have := congrArg List.length S.pre
    rw [List.length_take] at this
    omega
  refine ⟨tF K (exs P b), pss_ok b (P := P) (T := ⟨N, defScope st, fns, gls, free, true⟩) ⟨rfl, rfl, S.nd, rfl, S.kind, ?_, PassesOwn.never, hfree, fun y n hy => ?_, hgls, fun _ _ => rfl⟩ hc, ?_⟩
  · have := hr.un
    show (A.deeper _).units + 66 < cLine
    omega
  · obtain ⟨np, f', fd', ps', l, ok', hm, hk, hb⟩ := (hfns y n hy).ex
    exact ⟨np, l, f', fd', ps', k, ok', hr, hm, hk, hb⟩
  · have hd : ds.length = ps.length := by rw [← rep.length]; exact hl
    unfold run at ok
    rw [if_pos hd] at ok
    refine ⟨ds.map some ++ List.replicate (N.length - ps.length) none, m, al, G, ⟨core, by rw [← hd]; exact start_slots rep, ?_⟩, ?_⟩
    · unfold L2.start
      rw [List.length_append, List.length_append, List.length_map, List.length_map, List.length_replicate, List.length_replicate, hl, hd]
    · cases he : exs P b (ds.map some ++ List.replicate (N.length - ps.length) none) m with
      | nx e' m' =>
        rw [he] at ok
        intro σ' H' al' F' sr ex
        obtain ⟨al2, c2, x2, r2⟩ := trunc_ok (d := .non) (v := .non) core sr.core ex .non
        exact ok _ _ _ _ c2 x2 r2
      | rt d m' =>
        rw [he] at ok
        intro v H' al' F' c ex r
        obtain ⟨al2, c2, x2, r2⟩ := trunc_ok core c ex r
        exact ok _ _ _ _ c2 x2 r2
      | bk e' m' => rw [he] at ok; exact ok.elim
      | ct e' m' => rw [he] at ok; exact ok.elim
      | exc c vs m' => rw [he] at ok; exact ok.elim
      | stuck => rw [he] at ok; exact ok.elim
theorem def_m {prog : Program} {w : World} {mg : Str → Option Value} {base : Heap} {P : Pg} {x qual : Str} {st : Stmt} {f : Addr} {fd : FuncData} {N ps : List Str} {fns gls : List (Str × Nat)} {free : List Str} {k : Nat} {b : List S}
    (F : Fun K x qual st f fd) (S : FnScope N ps (defScope st)) (hc : chkSs b ⟨N, defScope st, fns, gls, free, true⟩ (defBody st) = true) (hfree : ∀ y ∈ free, mg y = none) (hfns : ∀ y n, (y, n) ∈ fns → FnM prog w K mg base k (P.fn n) y)
    (hgls : ∀ y n, (y, n) ∈ gls → ∀ d, P.gl n = some d → ∃ v u, mg y = some u ∧ RelV v u ∧ ∀ al F, Rep K al F v d) (hm : mg x = some (.ref f)) (hb : Binds K fd ps []) : FnM prog w K mg base (k + 1) (run P ps.length N.length b) x :=
  ⟨ps.length, f, fd, ps, run_len, def_ok F S hc hfree hfns hgls, hm, F.kp, hb⟩
theorem two_nil {Q : Str → Nat → Prop} : ∀ y n, (y, n) ∈ ([] : List (Str × Nat)) → Q y n := fun _ _ h => by cases h
theorem two_cons {Q : Str → Nat → Prop} {a : Str} {b : Nat} {l : List (Str × Nat)} (h : Q a b) (r : ∀ y n, (y, n) ∈ l → Q y n) : ∀ y n, (y, n) ∈ (a, b) :: l → Q y n := fun y n m => by
  rcases List.mem_cons.mp m with e | e
  · cases e; exact h
  · exact r y n e
theorem one_nil {Q : Str → Prop} : ∀ y ∈ ([] : List Str), Q y := fun _ h => by cases h
theorem one_cons {Q : Str → Prop} {a : Str} {l : List Str} (h : Q a) (r : ∀ y ∈ l, Q y) : ∀ y ∈ a :: l, Q y := fun y m => by
  rcases List.mem_cons.mp m with e | e
  · cases e; exact h
  · exact r y e
theorem gl_int {mg : Str → Option Value} {y : Str} {c : Int} {t : Tok} (h : mg y = some (.int c t)) : ∀ d, some (D.int c) = some d → ∃ v u, mg y = some u ∧ RelV v u ∧ ∀ al F, Rep K al F v d := fun d e => by
  cases e
  exact ⟨.int c, _, h, ⟨t, rfl⟩, fun _ _ => .int c⟩
def stuckFn : Fn := fun _ _ => .stuck
def pgOf (l : List Fn) (gl : Nat → Option D) : Pg := ⟨fun n => l.getD n stuckFn, gl⟩
/-- the law's own end -/
theorem law_sp {P : Pg} {n k : Nat} {b : List S} (hlaw : ∀ ns : List Int, ns.length ≤ k → ∃ e m, run P 1 n b [.scr ns] [] = .ok (.bl true) e m) {H : Hp} {a : Addr} {ns : List Int} (hl : ns.length ≤ k) (hS : SqL K H a (ns.map V.int)) :
    spD K (run P 1 n b) 1 [.ref a] H (fun v _ => v = .bl true) fun _ _ _ => False := by
  obtain ⟨e, m, hr⟩ := hlaw ns hl
  refine ⟨rfl, [], H, [], [.scr ns], ⟨fun _ _ h => h, rfl, List.nodup_nil, fun _ h => (nomatch h), fun _ _ _ h => (nomatch h)⟩, .cons (.scr hS) .nil, ?_⟩
  rw [hr]
  intro v H' al' F' _ _ r
  cases r
  rfl
end Mn
end
section
set_option Elab.async false
set_option maxRecDepth 100000
namespace Kl
open PySem L2 Mn
abbrev top (i : Nat) : Stmt := PySem.Challenge.pw_meetrows_k48_classes_of_rows.main.body.getD i (.Pass ⟨0, 0, 0, 0⟩)
def gl (n : Nat) : Option D := match n with
  | 0 => some (.int 8)
  | 1 => some (.int 3)
  | 2 => some (.int 3)
  | 3 => some (.int 3)
  | _ => none
/-! is_integer -/
abbrev t0 : Stmt := top 8
abbrev N0 : List Str := ["value"]
def b0 : List S := [(.ret (.and [(.isi (.v 0) .int), (.not (.isi (.v 0) .bool))]))]
def P0 : Pg := pgOf [] gl
def g0 : Fn := run P0 1 1 b0
theorem c0 : chkSs b0 ⟨N0, defScope t0, [], [], ["bool", "int", "isinstance"], true⟩ (defBody t0) = true := by decide +kernel
theorem s0 : FnScope N0 ["value"] (defScope t0) := ⟨rfl, rfl, rfl, by decide +kernel, rfl, by decide +kernel, by decide +kernel⟩
/-! is_between -/
abbrev t1 : Stmt := top 9
abbrev N1 : List Str := ["value", "low", "high"]
def b1 : List S := [(.ret (.and [(.fn 0 [(.v 0)]), (.chain .le .le (.v 1) (.v 0) (.v 2))]))]
def P1 : Pg := pgOf [g0] gl
def g1 : Fn := run P1 3 3 b1
theorem c1 : chkSs b1 ⟨N1, defScope t1, [("is_integer", 0)], [], [], true⟩ (defBody t1) = true := by decide +kernel
theorem s1 : FnScope N1 ["value", "low", "high"] (defScope t1) := ⟨rfl, rfl, rfl, by decide +kernel, rfl, by decide +kernel, by decide +kernel⟩
/-! is_name -/
abbrev t2 : Stmt := top 10
abbrev N2 : List Str := ["value", "letter"]
def b2 : List S := [(.ite (.or [(.not (.tr (.isi (.v 0) .str))), (.not (.chain .le .le (.lit (.int 1)) (.bi .len [(.v 0)]) (.glob 0)))]) [(.ret (.lit (.bool false)))] []), (.ret (.bi .all [(.lc [1] (.nm 1) (.it (.v 0)) [] (.chain .le .le (.lit (.str "a")) (.v 1) (.lit (.str "z"))))]))]
def P2 : Pg := pgOf [g0, g1] gl
def g2 : Fn := run P2 1 2 b2
theorem c2 : chkSs b2 ⟨N2, defScope t2, [], [("MAX_LETTERS", 0)], ["all", "isinstance", "len", "str"], true⟩ (defBody t2) = true := by decide +kernel
theorem s2 : FnScope N2 ["value"] (defScope t2) := ⟨rfl, rfl, rfl, by decide +kernel, rfl, by decide +kernel, by decide +kernel⟩
/-! is_row -/
abbrev t3 : Stmt := top 11
abbrev N3 : List Str := ["value", "one"]
def b3 : List S := [(.ite (.or [(.not (.tr (.isi (.v 0) .tuple))), (.not (.chain .le .le (.lit (.int 2)) (.bi .len [(.v 0)]) (.bin .add (.glob 1) (.lit (.int 1))))), (.not (.tr (.fn 2 [(.idx (.v 0) (.lit (.int 0)))])))]) [(.ret (.lit (.bool false)))] []), (.ret (.bi .all [(.lc [1] (.nm 1) (.it (.slc (.v 0) [(.lit (.int 1))] [])) [] (.fn 0 [(.v 1)]))]))]
def P3 : Pg := pgOf [g0, g1, g2] gl
def g3 : Fn := run P3 1 2 b3
theorem c3 : chkSs b3 ⟨N3, defScope t3, [("is_name", 2), ("is_integer", 0)], [("MAX_VALUES", 1)], ["all", "isinstance", "len", "tuple"], true⟩ (defBody t3) = true := by decide +kernel
theorem s3 : FnScope N3 ["value"] (defScope t3) := ⟨rfl, rfl, rfl, by decide +kernel, rfl, by decide +kernel, by decide +kernel⟩
/-! require_row -/
abbrev t4 : Stmt := top 12
abbrev N4 : List Str := ["row"]
def b4 : List S := [(.ite (.not (.tr (.fn 3 [(.v 0)]))) [.never] [])]
def P4 : Pg := pgOf [g0, g1, g2, g3] gl
def g4 : Fn := run P4 1 1 b4
theorem c4 : chkSs b4 ⟨N4, defScope t4, [("is_row", 3)], [], [], true⟩ (defBody t4) = true := by decide +kernel
theorem s4 : FnScope N4 ["row"] (defScope t4) := ⟨rfl, rfl, rfl, by decide +kernel, rfl, by decide +kernel, by decide +kernel⟩
/-! require_modulus -/
abbrev t5 : Stmt := top 16
abbrev N5 : List Str := ["modulus"]
def b5 : List S := [(.ite (.not (.tr (.fn 1 [(.v 0), (.lit (.int 1)), (.glob 2)]))) [.never] [])]
def P5 : Pg := pgOf [g0, g1, g2, g3, g4] gl
def g5 : Fn := run P5 1 1 b5
theorem c5 : chkSs b5 ⟨N5, defScope t5, [("is_between", 1)], [("MAX_MODULUS", 2)], [], true⟩ (defBody t5) = true := by decide +kernel
theorem s5 : FnScope N5 ["modulus"] (defScope t5) := ⟨rfl, rfl, rfl, by decide +kernel, rfl, by decide +kernel, by decide +kernel⟩
/-! numbered -/
abbrev t6 : Stmt := top 17
abbrev N6 : List Str := ["values", "order", "value"]
def b6 : List S := [(.set (.nm 1) (.mkd false)), (.for_ (.nm 2) (.it (.v 0)) [(.ex (.me .setdefault (.v 1) [(.v 2), (.bi .len [(.v 1)])]))]), (.ret (.tup [(.bi .list [(.v 1)]), (.bi .tuple [(.lc [2] (.nm 2) (.it (.v 0)) [] (.idx (.v 1) (.v 2)))])]))]
def P6 : Pg := pgOf [g0, g1, g2, g3, g4, g5] gl
def g6 : Fn := run P6 1 3 b6
theorem c6 : chkSs b6 ⟨N6, defScope t6, [], [], ["len", "list", "tuple"], true⟩ (defBody t6) = true := by decide +kernel
theorem s6 : FnScope N6 ["values"] (defScope t6) := ⟨rfl, rfl, rfl, by decide +kernel, rfl, by decide +kernel, by decide +kernel⟩
/-! class_in -/
abbrev t7 : Stmt := top 18
abbrev N7 : List Str := ["row", "modulus", "table", "values", "order", "form", "value"]
def b7 : List S := [(.star 2 3 (.v 0)), (.set (.tp [(.nm 4), (.nm 5)]) (.fn 6 [(.v 3)])), (.ret (.tup [(.v 2), (.v 5), (.bi .tuple [(.lc [6] (.nm 6) (.it (.v 4)) [] (.bin .mod (.v 6) (.v 1)))])]))]
def P7 : Pg := pgOf [g0, g1, g2, g3, g4, g5, g6] gl
def g7 : Fn := run P7 2 7 b7
theorem c7 : chkSs b7 ⟨N7, defScope t7, [("numbered", 6)], [], ["tuple"], true⟩ (defBody t7) = true := by decide +kernel
theorem s7 : FnScope N7 ["row", "modulus"] (defScope t7) := ⟨rfl, rfl, rfl, by decide +kernel, rfl, by decide +kernel, by decide +kernel⟩
/-! is_form -/
abbrev t8 : Stmt := top 19
abbrev N8 : List Str := ["value", "number"]
def b8 : List S := [(.ite (.or [(.not (.tr (.isi (.v 0) .tuple))), (.not (.chain .le .le (.lit (.int 1)) (.bi .len [(.v 0)]) (.glob 3)))]) [(.ret (.lit (.bool false)))] []), (.ret (.and [(.bi .all [(.lc [1] (.nm 1) (.it (.v 0)) [] (.fn 0 [(.v 1)]))]), (.cmp .eq (.idx (.fn 6 [(.v 0)]) (.lit (.int 1))) (.v 0))]))]
def P8 : Pg := pgOf [g0, g1, g2, g3, g4, g5, g6, g7] gl
def g8 : Fn := run P8 1 2 b8
theorem c8 : chkSs b8 ⟨N8, defScope t8, [("is_integer", 0), ("numbered", 6)], [("MOST_COLUMNS", 3)], ["all", "isinstance", "len", "tuple"], true⟩ (defBody t8) = true := by decide +kernel
theorem s8 : FnScope N8 ["value"] (defScope t8) := ⟨rfl, rfl, rfl, by decide +kernel, rfl, by decide +kernel, by decide +kernel⟩
/-! is_class_in -/
abbrev t9 : Stmt := top 20
abbrev N9 : List Str := ["value", "modulus", "rest"]
def b9 : List S := [(.ite (.or [(.not (.tr (.isi (.v 0) .tuple))), (.cmp .ne (.bi .len [(.v 0)]) (.lit (.int 3))), (.not (.tr (.fn 2 [(.idx (.v 0) (.lit (.int 0)))]))), (.not (.tr (.fn 8 [(.idx (.v 0) (.lit (.int 1)))])))]) [(.ret (.lit (.bool false)))] []), (.ite (.or [(.not (.tr (.isi (.idx (.v 0) (.lit (.int 2))) .tuple))), (.cmp .ne (.bi .len [(.idx (.v 0) (.lit (.int 2)))]) (.bin .add (.bi .max [(.idx (.v 0) (.lit (.int 1)))]) (.lit (.int 1))))]) [(.ret (.lit (.bool false)))] []), (.ret (.bi .all [(.lc [2] (.nm 2) (.it (.idx (.v 0) (.lit (.int 2)))) [] (.fn 1 [(.v 2), (.lit (.int 0)), (.bin .sub (.v 1) (.lit (.int 1)))]))]))]
def P9 : Pg := pgOf [g0, g1, g2, g3, g4, g5, g6, g7, g8] gl
def g9 : Fn := run P9 2 3 b9
theorem c9 : chkSs b9 ⟨N9, defScope t9, [("is_name", 2), ("is_form", 8), ("is_between", 1)], [], ["all", "isinstance", "len", "max", "tuple"], true⟩ (defBody t9) = true := by decide +kernel
theorem s9 : FnScope N9 ["value", "modulus"] (defScope t9) := ⟨rfl, rfl, rfl, by decide +kernel, rfl, by decide +kernel, by decide +kernel⟩
/-! require_class -/
abbrev t10 : Stmt := top 21
abbrev N10 : List Str := ["kind", "modulus"]
def b10 : List S := [(.ite (.not (.tr (.fn 9 [(.v 0), (.v 1)]))) [.never] [])]
def P10 : Pg := pgOf [g0, g1, g2, g3, g4, g5, g6, g7, g8, g9] gl
def g10 : Fn := run P10 2 2 b10
theorem c10 : chkSs b10 ⟨N10, defScope t10, [("is_class_in", 9)], [], [], true⟩ (defBody t10) = true := by decide +kernel
theorem s10 : FnScope N10 ["kind", "modulus"] (defScope t10) := ⟨rfl, rfl, rfl, by decide +kernel, rfl, by decide +kernel, by decide +kernel⟩
/-! class_of -/
abbrev t11 : Stmt := top 22
abbrev N11 : List Str := ["row", "modulus"]
def b11 : List S := [(.ex (.fn 4 [(.v 0)])), (.ex (.fn 5 [(.v 1)])), (.ret (.fn 7 [(.v 0), (.v 1)]))]
def P11 : Pg := pgOf [g0, g1, g2, g3, g4, g5, g6, g7, g8, g9, g10] gl
def g11 : Fn := run P11 2 2 b11
theorem c11 : chkSs b11 ⟨N11, defScope t11, [("require_row", 4), ("require_modulus", 5), ("class_in", 7)], [], [], true⟩ (defBody t11) = true := by decide +kernel
theorem s11 : FnScope N11 ["row", "modulus"] (defScope t11) := ⟨rfl, rfl, rfl, by decide +kernel, rfl, by decide +kernel, by decide +kernel⟩
/-! is_class -/
abbrev t12 : Stmt := top 23
abbrev N12 : List Str := ["value", "modulus"]
def b12 : List S := [(.ex (.fn 5 [(.v 1)])), (.ret (.fn 9 [(.v 0), (.v 1)]))]
def P12 : Pg := pgOf [g0, g1, g2, g3, g4, g5, g6, g7, g8, g9, g10, g11] gl
def g12 : Fn := run P12 2 2 b12
theorem c12 : chkSs b12 ⟨N12, defScope t12, [("require_modulus", 5), ("is_class_in", 9)], [], [], true⟩ (defBody t12) = true := by decide +kernel
theorem s12 : FnScope N12 ["value", "modulus"] (defScope t12) := ⟨rfl, rfl, rfl, by decide +kernel, rfl, by decide +kernel, by decide +kernel⟩
/-! row_of -/
abbrev t13 : Stmt := top 24
abbrev N13 : List Str := ["kind", "modulus", "table", "form", "rests", "values", "number", "rest"]
def b13 : List S := [(.ex (.fn 5 [(.v 1)])), (.ex (.fn 10 [(.v 0), (.v 1)])), (.set (.tp [(.nm 2), (.nm 3), (.nm 4)]) (.v 0)), (.set (.nm 5) (.lc [6, 7] (.tp [(.nm 6), (.nm 7)]) (.enum (.v 4)) [] (.bin .add (.v 7) (.bin .mul (.v 1) (.v 6))))), (.ret (.tup [(.v 2), (.spr (.lc [6] (.nm 6) (.it (.v 3)) [] (.idx (.v 5) (.v 6))))]))]
def P13 : Pg := pgOf [g0, g1, g2, g3, g4, g5, g6, g7, g8, g9, g10, g11, g12] gl
def g13 : Fn := run P13 2 8 b13
theorem c13 : chkSs b13 ⟨N13, defScope t13, [("require_modulus", 5), ("require_class", 10)], [], ["enumerate"], true⟩ (defBody t13) = true := by decide +kernel
theorem s13 : FnScope N13 ["kind", "modulus"] (defScope t13) := ⟨rfl, rfl, rfl, by decide +kernel, rfl, by decide +kernel, by decide +kernel⟩
/-! _law_stream -/
abbrev t14 : Stmt := top 26
abbrev N14 : List Str := ["script", "at", "cell", "great", "mixed"]
def b14 : List S := [(.set (.nm 2) (.bin .add (.bin .mul (.lit (.int 23)) (.v 1)) (.lit (.int 11)))), (.ite (.cmp .lt (.v 1) (.bi .len [(.v 0)])) [(.set (.nm 2) (.idx (.v 0) (.v 1)))] []), (.set (.nm 3) (.bin .mod (.bi .int [(.bi .abs [(.v 2)])]) (.bin .pow (.bin .pow (.lit (.int 10)) (.lit (.int 60))) (.lit (.int 10))))), (.set (.nm 4) (.bin .add (.bin .add (.bin .add (.bin .mul (.bin .mod (.bi .int [(.v 3)]) (.lit (.int 2147483399))) (.lit (.int 60013))) (.bin .mul (.lit (.int 2711)) (.v 1))) (.bin .mul (.lit (.int 7)) (.bi .int [(.cmp .lt (.v 2) (.lit (.int 0)))]))) (.lit (.int 41)))), (.ret (.mk [(.bi .max [(.lit (.int 0)), (.bin .sub (.v 3) (.bin .pow (.lit (.int 10)) (.lit (.int 18))))]), (.bin .mod (.bi .int [(.v 4)]) (.lit (.int 2147483353))), (.lit (.int 0))]))]
def P14 : Pg := pgOf [g0, g1, g2, g3, g4, g5, g6, g7, g8, g9, g10, g11, g12, g13] gl
def g14 : Fn := run P14 2 5 b14
theorem c14 : chkSs b14 ⟨N14, defScope t14, [], [], ["abs", "int", "len", "max"], true⟩ (defBody t14) = true := by decide +kernel
theorem s14 : FnScope N14 ["script", "at"] (defScope t14) := ⟨rfl, rfl, rfl, by decide +kernel, rfl, by decide +kernel, by decide +kernel⟩
/-! _law_draw -/
abbrev t15 : Stmt := top 27
abbrev N15 : List Str := ["stream", "high", "drawn", "one", "two"]
def b15 : List S := [(.ite (.cmp .gt (.idx (.v 0) (.lit (.int 0))) (.lit (.int 0))) [(.set (.nm 2) (.bin .mod (.bi .int [(.idx (.v 0) (.lit (.int 0)))]) (.v 1))), (.sidx (.v 0) (.lit (.int 0)) (.bin .fdiv (.idx (.v 0) (.lit (.int 0))) (.v 1))), (.ret (.v 2))] []), (.sidx (.v 0) (.lit (.int 2)) (.bin .add (.idx (.v 0) (.lit (.int 2))) (.lit (.int 1)))), (.set (.nm 3) (.bin .mod (.bi .int [(.bin .add (.idx (.v 0) (.lit (.int 1))) (.bin .mul (.lit (.int 1000429)) (.idx (.v 0) (.lit (.int 2)))))]) (.lit (.int 2305843009213693951)))), (.set (.nm 4) (.bin .add (.bin .mul (.bin .mod (.bi .int [(.bin .mul (.v 3) (.v 3))]) (.lit (.int 2305843009213693921))) (.v 3)) (.bin .mul (.lit (.int 7393)) (.idx (.v 0) (.lit (.int 2)))))), (.set (.nm 4) (.bin .mod (.bi .int [(.v 4)]) (.lit (.int 2305843009213693907)))), (.ret (.bin .mod (.bi .int [(.bin .fdiv (.v 4) (.lit (.int 8192)))]) (.v 1)))]
def P15 : Pg := pgOf [g0, g1, g2, g3, g4, g5, g6, g7, g8, g9, g10, g11, g12, g13, g14] gl
def g15 : Fn := run P15 2 5 b15
theorem c15 : chkSs b15 ⟨N15, defScope t15, [], [], ["int"], true⟩ (defBody t15) = true := by decide +kernel
theorem s15 : FnScope N15 ["stream", "high"] (defScope t15) := ⟨rfl, rfl, rfl, by decide +kernel, rfl, by decide +kernel, by decide +kernel⟩
/-! _law_pick -/
abbrev t16 : Stmt := top 28
abbrev N16 : List Str := ["stream", "items"]
def b16 : List S := [(.ret (.idx (.v 1) (.fn 15 [(.v 0), (.bi .len [(.v 1)])])))]
def P16 : Pg := pgOf [g0, g1, g2, g3, g4, g5, g6, g7, g8, g9, g10, g11, g12, g13, g14, g15] gl
def g16 : Fn := run P16 2 2 b16
theorem c16 : chkSs b16 ⟨N16, defScope t16, [("_law_draw", 15)], [], ["len"], true⟩ (defBody t16) = true := by decide +kernel
theorem s16 : FnScope N16 ["stream", "items"] (defScope t16) := ⟨rfl, rfl, rfl, by decide +kernel, rfl, by decide +kernel, by decide +kernel⟩
/-! _law_mixed -/
abbrev t17 : Stmt := top 29
abbrev N17 : List Str := ["stream", "items", "left", "turn"]
def b17 : List S := [(.set (.nm 2) (.mkl (.v 1))), (.ret (.lc [3] (.nm 3) (.rng1 (.bi .len [(.v 1)])) [] (.me .pop1 (.v 2) [(.fn 15 [(.v 0), (.bi .len [(.v 2)])])])))]
def P17 : Pg := pgOf [g0, g1, g2, g3, g4, g5, g6, g7, g8, g9, g10, g11, g12, g13, g14, g15, g16] gl
def g17 : Fn := run P17 2 4 b17
theorem c17 : chkSs b17 ⟨N17, defScope t17, [("_law_draw", 15)], [], ["len", "list", "range"], true⟩ (defBody t17) = true := by decide +kernel
theorem s17 : FnScope N17 ["stream", "items"] (defScope t17) := ⟨rfl, rfl, rfl, by decide +kernel, rfl, by decide +kernel, by decide +kernel⟩
/-! _law_values -/
abbrev t18 : Stmt := top 30
abbrev N18 : List Str := ["rows", "told", "row"]
def b18 : List S := [(.set (.nm 1) (.mk [])), (.for_ (.nm 2) (.it (.v 0)) [(.ex (.me .extend (.v 1) [(.bi .list [(.slc (.v 2) [(.lit (.int 1))] [])])]))]), (.ret (.srt (.v 1)))]
def P18 : Pg := pgOf [g0, g1, g2, g3, g4, g5, g6, g7, g8, g9, g10, g11, g12, g13, g14, g15, g16, g17] gl
def g18 : Fn := run P18 1 3 b18
theorem c18 : chkSs b18 ⟨N18, defScope t18, [], [], ["list", "set", "sorted"], true⟩ (defBody t18) = true := by decide +kernel
theorem s18 : FnScope N18 ["rows"] (defScope t18) := ⟨rfl, rfl, rfl, by decide +kernel, rfl, by decide +kernel, by decide +kernel⟩
/-! _law_class -/
abbrev t19 : Stmt := top 31
abbrev N19 : List Str := ["row", "m", "order", "at", "value", "form"]
def b19 : List S := [(.set (.nm 2) (.lc [3, 4] (.tp [(.nm 3), (.nm 4)]) (.enum (.slc (.v 0) [(.lit (.int 1))] [])) [(.cmp .notMem (.v 4) (.slc (.v 0) [(.lit (.int 1))] [(.bin .add (.v 3) (.lit (.int 1)))]))] (.v 4))), (.set (.nm 5) (.bi .tuple [(.lc [4] (.nm 4) (.it (.slc (.v 0) [(.lit (.int 1))] [])) [] (.me .index (.v 2) [(.v 4)]))])), (.ret (.tup [(.idx (.v 0) (.lit (.int 0))), (.v 5), (.bi .tuple [(.lc [4] (.nm 4) (.it (.v 2)) [] (.bin .mod (.bi .int [(.v 4)]) (.v 1)))])]))]
def P19 : Pg := pgOf [g0, g1, g2, g3, g4, g5, g6, g7, g8, g9, g10, g11, g12, g13, g14, g15, g16, g17, g18] gl
def g19 : Fn := run P19 2 6 b19
theorem c19 : chkSs b19 ⟨N19, defScope t19, [], [], ["enumerate", "int", "tuple"], true⟩ (defBody t19) = true := by decide +kernel
theorem s19 : FnScope N19 ["row", "m"] (defScope t19) := ⟨rfl, rfl, rfl, by decide +kernel, rfl, by decide +kernel, by decide +kernel⟩
/-! _law_drawn_row -/
abbrev t20 : Stmt := top 32
abbrev N20 : List Str := ["stream", "menu", "some", "values", "turn"]
def b20 : List S := [(.set (.nm 1) (.lst [(.lit (.int 0)), (.lit (.int 1)), (.lit (.int 2)), (.neg (.lit (.int 1))), (.lit (.int 5)), (.neg (.lit (.int 7))), (.lit (.int 3)), (.bin .pow (.lit (.int 10)) (.lit (.int 39))), (.bin .sub (.lit (.int 1)) (.bin .pow (.lit (.int 10)) (.lit (.int 39))))])), (.set (.nm 2) (.slc (.fn 17 [(.v 0), (.v 1)]) [] [(.bin .add (.lit (.int 1)) (.fn 15 [(.v 0), (.lit (.int 3))]))])), (.set (.nm 3) (.lc [4] (.nm 4) (.rng1 (.bin .add (.lit (.int 1)) (.fn 15 [(.v 0), (.lit (.int 3))]))) [] (.fn 16 [(.v 0), (.v 2)]))), (.ret (.bin .add (.tup [(.fn 16 [(.v 0), (.lst [(.lit (.str "e")), (.lit (.str "n")), (.lit (.str "abcdefgh"))])])]) (.bi .tuple [(.v 3)])))]
def P20 : Pg := pgOf [g0, g1, g2, g3, g4, g5, g6, g7, g8, g9, g10, g11, g12, g13, g14, g15, g16, g17, g18, g19] gl
def g20 : Fn := run P20 1 5 b20
theorem c20 : chkSs b20 ⟨N20, defScope t20, [("_law_mixed", 17), ("_law_draw", 15), ("_law_pick", 16)], [], ["range", "tuple"], true⟩ (defBody t20) = true := by decide +kernel
theorem s20 : FnScope N20 ["stream"] (defScope t20) := ⟨rfl, rfl, rfl, by decide +kernel, rfl, by decide +kernel, by decide +kernel⟩
/-! _law_row -/
abbrev t21 : Stmt := top 33
abbrev N21 : List Str := ["kind", "m", "values", "number", "rest"]
def b21 : List S := [(.set (.nm 2) (.lc [3, 4] (.tp [(.nm 3), (.nm 4)]) (.enum (.idx (.v 0) (.lit (.int 2)))) [] (.bin .add (.v 4) (.bin .mul (.v 1) (.v 3))))), (.ret (.bin .add (.tup [(.idx (.v 0) (.lit (.int 0)))]) (.bi .tuple [(.lc [3] (.nm 3) (.it (.idx (.v 0) (.lit (.int 1)))) [] (.idx (.v 2) (.v 3)))])))]
def P21 : Pg := pgOf [g0, g1, g2, g3, g4, g5, g6, g7, g8, g9, g10, g11, g12, g13, g14, g15, g16, g17, g18, g19, g20] gl
def g21 : Fn := run P21 2 5 b21
theorem c21 : chkSs b21 ⟨N21, defScope t21, [], [], ["enumerate", "tuple"], true⟩ (defBody t21) = true := by decide +kernel
theorem s21 : FnScope N21 ["kind", "m"] (defScope t21) := ⟨rfl, rfl, rfl, by decide +kernel, rfl, by decide +kernel, by decide +kernel⟩
/-! _law_moved -/
abbrev t22 : Stmt := top 34
abbrev N22 : List Str := ["stream", "row", "m", "values", "numbers", "exchange", "value", "number"]
def b22 : List S := [(.set (.nm 3) (.fn 18 [(.lst [(.v 1)])])), (.set (.nm 4) (.fn 17 [(.v 0), (.lst [(.neg (.lit (.int 5))), (.neg (.lit (.int 1))), (.lit (.int 0)), (.lit (.int 1)), (.lit (.int 4)), (.bin .pow (.lit (.int 10)) (.lit (.int 30)))])])), (.set (.nm 5) (.bi .dict [(.lc [6, 7] (.tp [(.nm 6), (.nm 7)]) (.zip (.v 3) (.v 4) false) [] (.tup [(.v 6), (.bin .add (.bin .mod (.bi .int [(.v 6)]) (.v 2)) (.bin .mul (.v 2) (.v 7)))]))])), (.ret (.bin .add (.slc (.v 1) [] [(.lit (.int 1))]) (.bi .tuple [(.lc [6] (.nm 6) (.it (.slc (.v 1) [(.lit (.int 1))] [])) [] (.idx (.v 5) (.v 6)))])))]
def P22 : Pg := pgOf [g0, g1, g2, g3, g4, g5, g6, g7, g8, g9, g10, g11, g12, g13, g14, g15, g16, g17, g18, g19, g20, g21] gl
def g22 : Fn := run P22 3 8 b22
theorem c22 : chkSs b22 ⟨N22, defScope t22, [("_law_values", 18), ("_law_mixed", 17)], [], ["dict", "int", "tuple", "zip"], true⟩ (defBody t22) = true := by decide +kernel
theorem s22 : FnScope N22 ["stream", "row", "m"] (defScope t22) := ⟨rfl, rfl, rfl, by decide +kernel, rfl, by decide +kernel, by decide +kernel⟩
/-! _law_near -/
abbrev t23 : Stmt := top 35
abbrev N23 : List Str := ["kind", "m", "name", "form", "rests", "some"]
def b23 : List S := [(.set (.tp [(.nm 2), (.nm 3), (.nm 4)]) (.v 0)), (.set (.nm 5) (.lst [(.lit .none), (.lit (.int 0)), (.lit (.str "e")), (.tup []), (.bi .list [(.v 0)]), (.bin .add (.v 0) (.tup [(.lit (.int 0))])), (.slc (.v 0) [] [(.lit (.int 2))]), (.tup [(.v 2), (.v 3), (.bin .add (.v 4) (.tup [(.lit (.int 0))]))]), (.tup [(.v 2), (.v 3), (.slc (.v 4) [] [(.neg (.lit (.int 1)))])])])), (.set (.nm 5) (.bin .add (.v 5) (.lst [(.tup [(.lit (.str "A")), (.v 3), (.v 4)]), (.tup [(.lit (.str "")), (.v 3), (.v 4)]), (.tup [(.lit (.str "abcdefghi")), (.v 3), (.v 4)]), (.tup [(.v 2), (.tup []), (.tup [])]), (.tup [(.v 2), (.lit (.int 0)), (.tup [(.lit (.int 0))])])]))), (.set (.nm 5) (.bin .add (.v 5) (.lst [(.tup [(.v 2), (.tup [(.lit (.int 1)), (.lit (.int 0))]), (.tup [(.lit (.int 0)), (.lit (.int 0))])]), (.tup [(.v 2), (.tup [(.lit (.int 0)), (.lit (.int 2))]), (.tup [(.lit (.int 0)), (.lit (.int 0)), (.lit (.int 0))])]), (.tup [(.v 2), (.tup [(.lit (.int 0)), (.lit (.int 0)), (.lit (.int 2))]), (.tup [(.lit (.int 0)), (.lit (.int 0))])]), (.tup [(.v 2), (.tup [(.lit (.int 1))]), (.tup [(.lit (.int 0))])])]))), (.set (.nm 5) (.bin .add (.v 5) (.lst [(.tup [(.v 2), (.tup [(.lit (.bool false))]), (.tup [(.lit (.int 0))])]), (.tup [(.v 2), (.tup [(.lit (.int 0))]), (.tup [(.lit (.bool false))])]), (.tup [(.v 2), (.tup [(.lit (.int 0))]), (.tup [(.v 1)])]), (.tup [(.v 2), (.tup [(.lit (.int 0))]), (.tup [(.neg (.lit (.int 1)))])])]))), (.set (.nm 5) (.bin .add (.v 5) (.lst [(.tup [(.v 2), (.tup [(.lit (.int 0)), (.lit (.int 0)), (.lit (.int 0)), (.lit (.int 0))]), (.tup [(.lit (.int 0))])]), (.tup [(.v 2), (.lst [(.lit (.int 0))]), (.tup [(.lit (.int 0))])]), (.tup [(.v 2), (.tup [(.lit (.int 0))]), (.lst [(.lit (.int 0))])]), (.dic1 (.v 2) (.v 3)), (.tup [(.v 3), (.v 2), (.v 4)])]))), (.ret (.bin .add (.v 5) (.lst [(.tup [(.v 2), (.tup [(.lit (.int 0))]), (.lit (.int 0))]), (.tup [(.v 2), (.tup [(.lit (.int 0)), (.neg (.lit (.int 1)))]), (.tup [(.lit (.int 0)), (.lit (.int 0))])]), (.tup [(.v 2), (.tup [(.lit (.str "x"))]), (.tup [(.lit (.int 0))])]), (.tup [(.v 2), (.tup [(.lit (.int 0))]), (.tup [(.lit .none)])]), (.lst [(.v 0)])])))]
def P23 : Pg := pgOf [g0, g1, g2, g3, g4, g5, g6, g7, g8, g9, g10, g11, g12, g13, g14, g15, g16, g17, g18, g19, g20, g21, g22] gl
def g23 : Fn := run P23 2 6 b23
theorem c23 : chkSs b23 ⟨N23, defScope t23, [], [], ["list"], true⟩ (defBody t23) = true := by decide +kernel
theorem s23 : FnScope N23 ["kind", "m"] (defScope t23) := ⟨rfl, rfl, rfl, by decide +kernel, rfl, by decide +kernel, by decide +kernel⟩
/-! _law_right -/
abbrev t24 : Stmt := top 36
abbrev N24 : List Str := ["stream", "row", "m", "kind", "value"]
def b24 : List S := [(.set (.tp [(.nm 1), (.nm 2)]) (.tup [(.fn 20 [(.v 0)]), (.bin .add (.lit (.int 1)) (.fn 15 [(.v 0), (.lit (.int 3))]))])), (.set (.nm 3) (.fn 19 [(.v 1), (.v 2)])), (.ite (.or [(.cmp .ne (.fn 11 [(.v 1), (.v 2)]) (.v 3)), (.cmp .isNot (.fn 12 [(.v 3), (.v 2)]) (.lit (.bool true)))]) [(.ret (.lit (.bool false)))] []), (.ite (.or [(.cmp .ne (.fn 13 [(.v 3), (.v 2)]) (.fn 21 [(.v 3), (.v 2)])), (.cmp .ne (.fn 11 [(.fn 13 [(.v 3), (.v 2)]), (.v 2)]) (.v 3))]) [(.ret (.lit (.bool false)))] []), (.ite (.or [(.cmp .ne (.fn 11 [(.fn 22 [(.v 0), (.v 1), (.v 2)]), (.v 2)]) (.v 3)), (.cmp .ne (.bi .repr [(.fn 12 [(.v 3), (.lit (.int 1))])]) (.bi .repr [(.cmp .eq (.bi .max [(.bi .list [(.idx (.v 3) (.lit (.int 2)))])]) (.lit (.int 0)))]))]) [(.ret (.lit (.bool false)))] []), (.ret (.cmp .eq (.lc [4] (.nm 4) (.it (.fn 23 [(.v 3), (.v 2)])) [(.cmp .isNot (.fn 12 [(.v 4), (.v 2)]) (.lit (.bool false)))] (.lit (.int 1))) (.lst [])))]
def P24 : Pg := pgOf [g0, g1, g2, g3, g4, g5, g6, g7, g8, g9, g10, g11, g12, g13, g14, g15, g16, g17, g18, g19, g20, g21, g22, g23] gl
def g24 : Fn := run P24 1 5 b24
theorem c24 : chkSs b24 ⟨N24, defScope t24, [("_law_drawn_row", 20), ("_law_draw", 15), ("_law_class", 19), ("class_of", 11), ("is_class", 12), ("row_of", 13), ("_law_row", 21), ("_law_moved", 22), ("_law_near", 23)], [], ["list", "max", "repr"], true⟩ (defBody t24) = true := by decide +kernel
theorem s24 : FnScope N24 ["stream"] (defScope t24) := ⟨rfl, rfl, rfl, by decide +kernel, rfl, by decide +kernel, by decide +kernel⟩
/-! law -/
abbrev t25 : Stmt := top 37
abbrev N25 : List Str := ["script", "at", "stream", "turn", "told"]
def b25 : List S := [(.forg [2, 3] (.nm 1) (.rng1 (.bi .max [(.lit (.int 1)), (.bi .min [(.lit (.int 5)), (.bi .len [(.v 0)])])])) [(.set (.nm 2) (.fn 14 [(.v 0), (.v 1)])), (.for_ (.nm 3) (.rng1 (.lit (.int 8))) [(.ite (.not (.tr (.fn 24 [(.v 2)]))) [(.ret (.lit (.bool false)))] [])])]), (.set (.nm 4) (.lst [(.fn 11 [(.tup [(.lit (.str "r")), (.lit (.int 5)), (.neg (.lit (.int 2))), (.lit (.int 5))]), (.lit (.int 2))]), (.fn 11 [(.tup [(.lit (.str "r")), (.lit (.int 5)), (.neg (.lit (.int 2))), (.lit (.int 5))]), (.lit (.int 1))]), (.fn 13 [(.tup [(.lit (.str "e")), (.tup [(.lit (.int 0)), (.lit (.int 1)), (.lit (.int 0))]), (.tup [(.lit (.int 1)), (.lit (.int 1))])]), (.lit (.int 2))])])), (.ite (.cmp .ne (.v 4) (.lst [(.tup [(.lit (.str "r")), (.tup [(.lit (.int 0)), (.lit (.int 1)), (.lit (.int 0))]), (.tup [(.lit (.int 1)), (.lit (.int 0))])]), (.tup [(.lit (.str "r")), (.tup [(.lit (.int 0)), (.lit (.int 1)), (.lit (.int 0))]), (.tup [(.lit (.int 0)), (.lit (.int 0))])]), (.tup [(.lit (.str "e")), (.lit (.int 1)), (.lit (.int 3)), (.lit (.int 1))])])) [(.ret (.lit (.bool false)))] []), (.ret (.and [(.cmp .eq (.fn 11 [(.tup [(.lit (.str "e")), (.neg (.lit (.int 1))), (.neg (.lit (.int 4))), (.lit (.int 2))]), (.lit (.int 3))]) (.tup [(.lit (.str "e")), (.tup [(.lit (.int 0)), (.lit (.int 1)), (.lit (.int 2))]), (.tup [(.lit (.int 2)), (.lit (.int 2)), (.lit (.int 2))])])), (.cmp .eq (.fn 13 [(.tup [(.lit (.str "n")), (.tup [(.lit (.int 0))]), (.tup [(.lit (.int 2))])]), (.lit (.int 3))]) (.tup [(.lit (.str "n")), (.lit (.int 2))]))]))]
def P25 : Pg := pgOf [g0, g1, g2, g3, g4, g5, g6, g7, g8, g9, g10, g11, g12, g13, g14, g15, g16, g17, g18, g19, g20, g21, g22, g23, g24] gl
def g25 : Fn := run P25 1 5 b25
theorem c25 : chkSs b25 ⟨N25, defScope t25, [("_law_stream", 14), ("_law_right", 24), ("class_of", 11), ("row_of", 13)], [], ["len", "max", "min", "range"], true⟩ (defBody t25) = true := by decide +kernel
theorem s25 : FnScope N25 ["script"] (defScope t25) := ⟨rfl, rfl, rfl, by decide +kernel, rfl, by decide +kernel, by decide +kernel⟩
end Kl
end
section
set_option Elab.async false
set_option maxRecDepth 100000
/-! The interpreter's equations, for simp. -/
namespace Mn
open PySem
@[simp] theorem trunc_self (d : D) (m : Mu) : trunc m.length d m = m := by
  unfold trunc
  rw [List.take_length]
  split <;> rfl
@[simp] theorem bind_ok {α β : Type} (a : α) (e : Env) (m : Mu) (f : α → Env → Mu → R β) : (R.ok a e m).bind f = f a e m := rfl
@[simp] theorem fl_okk {α : Type} (a : α) (e : Env) (m : Mu) (f : α → Env → Mu → Fl) : (R.ok a e m).fl f = f a e m := rfl
theorem bind_ap {α β : Type} (x : M α) (f : α → M β) (e : Env) (m : Mu) : (x.bind f) e m = (x e m).bind f := rfl
theorem ret_ap {α : Type} (a : α) (e : Env) (m : Mu) : M.ret a e m = .ok a e m := rfl
theorem of_some {α : Type} (a : α) (e : Env) (m : Mu) : M.of (some a) e m = .ok a e m := rfl
theorem lc_step {g : D → Env → Option Env} {t : M Bool} {f : M D} {own : List Nat} {x y : D} {xs ys : List D} {e e1 e2 e3 e4 : Env} {m m2 m3 m4 : Mu} (hg : g x e = some e1) (ht : t e1 m = .ok true e2 m2) (hf : f e2 m2 = .ok y e3 m3)
    (hr : lcGo g t f own xs (wipeE e3 own) m3 = .ok ys e4 m4) : lcGo g t f own (x :: xs) e m = .ok (y :: ys) e4 m4 := by
  rw [lcGo, hg]
  show (t e1 m).bind _ = _
  rw [ht]
  show (f e2 m2).bind _ = _
  rw [hf]
  show (lcGo g t f own xs (wipeE e3 own) m3).bind _ = _
  rw [hr]
theorem lc_skip {g : D → Env → Option Env} {t : M Bool} {f : M D} {own : List Nat} {x : D} {xs ys : List D} {e e1 e2 e4 : Env} {m m2 m4 : Mu} (hg : g x e = some e1) (ht : t e1 m = .ok false e2 m2)
    (hr : lcGo g t f own xs (wipeE e2 own) m2 = .ok ys e4 m4) : lcGo g t f own (x :: xs) e m = .ok ys e4 m4 := by
  rw [lcGo, hg]
  show (t e1 m).bind _ = _
  rw [ht]
  show lcGo g t f own xs (wipeE e2 own) m2 = _
  exact hr
/-- a comprehension -/
theorem ev_lc {P : Pg} {own : List Nat} {tg : Tg} {it elt : E} {ifs : List E} {e e1 e2 : Env} {m m1 m2 : Mu} {xs ys : List D} (hi : its P it e m = .ok xs e1 m1) (hl : lcGo (bindTg tg) (evAndT P ifs) (ev P elt) own xs (wipeE e1 own) m1 = .ok ys e2 m2) (hs : ys.length ≤ 16777216) :
    ev P (.lc own tg it ifs elt) e m = .ok (.lst ys) e2 m2 := by
  show ((its P it e m).bind fun xs e m => (lcGo (bindTg tg) (evAndT P ifs) (ev P elt) own xs (wipeE e own) m).bind fun ys e m => if lim ys = true then R.ok (D.lst ys) e m else .stuck) = _
  have : lim ys = true := by unfold lim; simpa using hs
  rw [hi]
  show (lcGo (bindTg tg) (evAndT P ifs) (ev P elt) own xs (wipeE e1 own) m1).bind _ = _
  rw [hl]
  show (if lim ys = true then R.ok (D.lst ys) e2 m2 else .stuck) = _
  rw [this, if_pos rfl]
theorem exs_cons {P : Pg} {s : S} {ss : List S} {e e1 : Env} {m m1 : Mu} {k : Fl} (h : ex P s e m = .nx e1 m1) (hr : exs P ss e1 m1 = k) : exs P (s :: ss) e m = k := by
  show (match ex P s e m with
    | .nx r m => exs P ss r m
    | f => f) = k
  rw [h]; exact hr
theorem exs_rt {P : Pg} {s : S} {ss : List S} {e : Env} {m m1 : Mu} {d : D} (h : ex P s e m = .rt d m1) : exs P (s :: ss) e m = .rt d m1 := by
  show (match ex P s e m with
    | .nx r m => exs P ss r m
    | f => f) = _
  rw [h]
theorem ex_set {P : Pg} {tg : Tg} {a : E} {e e1 e2 : Env} {m m1 : Mu} {d : D} (h : ev P a e m = .ok d e1 m1) (hb : bindTg tg d e1 = some e2) : ex P (.set tg a) e m = .nx e2 m1 := by
  show ((ev P a e m).fl fun d r m => match bindTg tg d r with
    | some r => Fl.nx r m
    | none => .stuck) = _
  rw [h]
  show (match bindTg tg d e1 with
    | some r => Fl.nx r m1
    | none => .stuck) = _
  rw [hb]
theorem ex_ret {P : Pg} {a : E} {e e1 : Env} {m m1 : Mu} {d : D} (h : ev P a e m = .ok d e1 m1) : ex P (.ret a) e m = .rt d m1 := by
  show ((ev P a e m).fl fun d _ m => Fl.rt d m) = _
  rw [h]
theorem run_rt {P : Pg} {np ns : Nat} {b : List S} {ds : List D} {m m1 : Mu} {d : D} (hl : ds.length = np) (h : exs P b (ds.map some ++ List.replicate (ns - np) none) m = .rt d m1) : run P np ns b ds m = .ok d [] (trunc m.length d m1) := by
  unfold run
  rw [if_pos hl, h]
theorem run_by {P : Pg} {np ns : Nat} {b b' : List S} {ds : List D} {e : Env} {m m1 m2 : Mu} {d : D} (hl : ds.length = np) (hb : b = b') (he : ds.map some ++ List.replicate (ns - np) none = e) (h : exs P b' e m = .rt d m1) (ht : trunc m.length d m1 = m2) : run P np ns b ds m = .ok d [] m2 := by
  subst hb he ht
  exact run_rt hl h
theorem its_rng1 {P : Pg} {a : E} {e e1 : Env} {m m1 : Mu} {x : D} {xs : List D} (h : ev P a e m = .ok x e1 m1) (hr : rngD [x] = some xs) : its P (.rng1 a) e m = .ok xs e1 m1 := by
  show ((ev P a e m).bind fun x => M.of (rngD [x])) = _
  rw [h]
  show (M.of (rngD [x]) e1 m1 : R (List D)) = _
  rw [hr]
theorem ev_bin {P : Pg} {op : Bop} {a b : E} {e e1 e2 : Env} {m m1 m2 : Mu} {x y z : D} (h1 : ev P a e m = .ok x e1 m1) (h2 : ev P b e1 m1 = .ok y e2 m2) (h3 : binD m2 op x y = some z) : ev P (.bin op a b) e m = .ok z e2 m2 := by
  show (ev P a e m).bind _ = _
  rw [h1]
  show (ev P b e1 m1).bind _ = _
  rw [h2]
  show (M.of (binD m2 op x y) e2 m2 : R D) = _
  rw [h3]
theorem ev_bi1 {P : Pg} {b : Bi} {a : E} {e e1 : Env} {m m1 : Mu} {x z : D} (h : ev P a e m = .ok x e1 m1) (hb : biD m1 b [x] = some z) : ev P (.bi b [a]) e m = .ok z e1 m1 := by
  have hs : evs P [a] e m = .ok [x] e1 m1 := by
    have q : isSpr a = false := by
      cases a <;> first | rfl | (cases h)
    rw [evs_cons q]
    show (ev P a e m).bind _ = _
    rw [h]
    rfl
  show (evs P [a] e m).bind _ = _
  rw [hs]
  show (M.of (biD m1 b [x]) e1 m1 : R D) = _
  rw [hb]
theorem binD_mod {m : Mu} {i j : Int} (h : 0 < j) : binD m .mod (.int i) (.int j) = some (.int (i % j)) := if_pos h
theorem ex_ite {P : Pg} {c : E} {a b : List S} {e e1 : Env} {m m1 : Mu} {k : Bool} {r : Fl} (h : evT P c e m = .ok k e1 m1) (hr : (if k = true then exs P a e1 m1 else exs P b e1 m1) = r) : ex P (.ite c a b) e m = r := by
  show ((evT P c e m).fl fun k r m => if k = true then exs P a r m else exs P b r m) = _
  rw [h]
  exact hr
theorem exs_nil {P : Pg} {e : Env} {m : Mu} : exs P [] e m = .nx e m := rfl
theorem ev_idx {P : Pg} {a b : E} {e e1 e2 : Env} {m m1 m2 : Mu} {x y z : D} (h1 : ev P a e m = .ok x e1 m1) (h2 : ev P b e1 m1 = .ok y e2 m2) (h3 : idxD m2 x y = some z) : ev P (.idx a b) e m = .ok z e2 m2 := by
  show (ev P a e m).bind _ = _
  rw [h1]
  show (ev P b e1 m1).bind _ = _
  rw [h2]
  show (M.of (idxD m2 x y) e2 m2 : R D) = _
  rw [h3]
end Mn
end
section
set_option Elab.async false
set_option linter.all false
set_option maxRecDepth 100000
namespace Mn
open PySem
theorem trunc_len {d : D} {m m' : Mu} (h : m'.length = m.length) : trunc m.length d m' = m' := by
  rw [← h]; exact trunc_self d m'
theorem small_mod (x k : Int) (h : 0 < k) (h2 : k < 18446744073709551616) : small64 (x % k) = true := by
  have h1 := Int.emod_nonneg x (Int.ne_of_gt h)
  have h3 := Int.emod_lt_of_pos x h
  unfold small64
  simp only [Bool.and_eq_true, decide_eq_true_eq]
  omega
end Mn
namespace Mn
theorem trunc_n {n : Nat} {d : D} {m' : Mu} (h : m'.length = n) : trunc n d m' = m' := by
  subst h; exact trunc_self d m'
end Mn
namespace Kl
open PySem Mn
theorem draw (a b c h : Int) (rest : Mu) (h0 : 0 < h) (h1 : h < 1073741824) : ∃ r a' c', 0 ≤ r ∧ r < h ∧ g15 [.cell 0, .int h] (some (.lst [.int a, .int b, .int c]) :: rest) = .ok (.int r) [] (some (.lst [.int a', .int b, .int c']) :: rest) := by
  by_cases ha : 0 < a
  · refine ⟨a % h, a / h, c, Int.emod_nonneg _ (by omega), Int.emod_lt_of_pos _ h0, ?_⟩
    simp [g15, Mn.run, b15, exs, ex, ev, evs, evT, M.bind, R.bind, R.fl, varD, M.of, deref, M.ret, List.replicate, cmpD, idxD, L2.atI, L2.ixN, constD, ha, bindTg, biD, binD, h0, h1, sidxD]
    exact trunc_n (by simp)
  · refine ⟨(((b + 1000429 * (c + 1)) % 2305843009213693951 * ((b + 1000429 * (c + 1)) % 2305843009213693951) % 2305843009213693921 * ((b + 1000429 * (c + 1)) % 2305843009213693951) + 7393 * (c + 1)) % 2305843009213693907) / 8192 % h, a, c + 1, Int.emod_nonneg _ (by omega), Int.emod_lt_of_pos _ h0, ?_⟩
    have k0 : small64 1000429 = true := by decide
    have k1 : small64 7393 = true := by decide
    simp [g15, Mn.run, b15, exs, ex, ev, evs, evT, M.bind, R.bind, R.fl, varD, M.of, deref, M.ret, List.replicate, cmpD, idxD, L2.atI, L2.ixN, constD, ha, bindTg, biD, binD, h0, h1, sidxD, small_mod, k0, k1]

    exact trunc_n (by simp)
abbrev sm (a b c : Int) : Option D := some (.lst [.int a, .int b, .int c])
theorem atI_in {α : Type} {xs : List α} {r : Int} (h0 : 0 ≤ r) (h1 : r < xs.length) : ∃ x, L2.atI xs r = some x ∧ xs[r.toNat]? = some x := by
  have hr : r.toNat < xs.length := by omega
  refine ⟨xs[r.toNat], ?_, by simp [hr]⟩
  unfold L2.atI L2.ixN
  have e1 : ¬ r < 0 := by omega
  simp [e1, h0, h1, hr]
theorem pick (a b c : Int) (rest : Mu) (xs : List D) (h0 : xs ≠ []) (h1 : xs.length < 1073741824) : ∃ x a' c', x ∈ xs ∧ g16 [.cell 0, .lst xs] (sm a b c :: rest) = .ok x [] (sm a' b c' :: rest) := by
  have hl : 0 < xs.length := List.length_pos_iff.mpr h0
  obtain ⟨r, a', c', h2, h3, h4⟩ := draw a b c xs.length rest (by omega) (by omega)
  obtain ⟨x, h5, h6⟩ := atI_in h2 h3
  refine ⟨x, a', c', List.mem_of_getElem? h6, ?_⟩
  have e15 : P16.fn 15 = g15 := rfl
  simp [g16, Mn.run, b16, exs, ex, ev, evs, M.bind, R.bind, R.fl, varD, M.of, deref, M.ret, List.replicate, biD, e15, h4, idxD, h5]
  exact trunc_n (by simp)
theorem mixGo (b : Int) (e : Mn.Env) (he : e = [some (.cell 0), e[1]?.join, some (.cell 1), none]) : ∀ (ts : List D) (left : List D) (a c : Int), left.length = ts.length → left.length < 1073741824 →
    ∃ ys a' c', ys.Perm left ∧ lcGo (bindTg (.nm 3)) (evAndT P17 []) (ev P17 (.me .pop1 (.v 2) [(.fn 15 [(.v 0), (.bi .len [(.v 2)])])])) [3] ts e [sm a b c, some (.lst left)] = .ok ys e [sm a' b c', some (.lst [])]
  | [], left, a, c, hl, _ => by
    have : left = [] := List.length_eq_zero_iff.mp hl
    subst this
    exact ⟨[], a, c, .nil, rfl⟩
  | t :: ts, left, a, c, hl, hm => by
    rw [List.length_cons] at hl
    obtain ⟨r, a1, c1, h2, h3, h4⟩ := draw a b c left.length [some (.lst left)] (by omega) (by omega)
    have hr : r.toNat < left.length := by omega
    obtain ⟨ys, a', c', h5, h6⟩ := mixGo b e he ts (left.eraseIdx r.toNat) a1 c1 (by rw [List.length_eraseIdx_of_lt hr]; omega) (by rw [List.length_eraseIdx_of_lt hr]; omega)
    refine ⟨left[r.toNat] :: ys, a', c', ?_, ?_⟩
    · exact (h5.cons _).trans (L2.erase_perm left r.toNat _ (by simp [hr]))
    · have e15 : P17.fn 15 = g15 := rfl
      generalize e[1]?.join = z at he
      subst he
      have hs : ev P17 (.me .pop1 (.v 2) [(.fn 15 [(.v 0), (.bi .len [(.v 2)])])]) [some (.cell 0), z, some (.cell 1), some t] [sm a b c, some (.lst left)] = .ok left[r.toNat] [some (.cell 0), z, some (.cell 1), some t] [sm a1 b c1, some (.lst (left.eraseIdx r.toNat))] := by
        simp [ev, evs, M.bind, R.bind, varD, M.of, deref, M.ret, biD, e15, h4, meT, meD, popD, h2, h3, hr, show r < 9223372036854775808 by omega]
      exact lc_step rfl rfl hs h6
theorem rng_nat (n : Nat) (h : n ≤ 16777216) : rngD [.int n] = some ((List.range n).map fun (i : Nat) => .int (0 + (i : Int))) := by
  have h1 : -4611686018427387904 ≤ (n : Int) ∧ (n : Int) < 4611686018427387904 := by omega
  show (if -4611686018427387904 ≤ (n : Int) ∧ (n : Int) < 4611686018427387904 then some ((List.range (n : Int).toNat).map fun (i : Nat) => D.int (0 + (i : Int))) else none) = _
  rw [if_pos h1, Int.toNat_natCast]
theorem belows_all {n : Nat} : ∀ {xs : List D}, belows n xs = true ↔ ∀ x ∈ xs, below n x = true
  | [] => by simp [belows]
  | x :: xs => by rw [belows, Bool.and_eq_true, belows_all]; simp
theorem mixed (a b c : Int) (xs : List D) (hz : xs.length ≤ 16777216) (hb : belows 1 xs = true) : ∃ ys a' c', ys.Perm xs ∧ g17 [.cell 0, .lst xs] [sm a b c] = .ok (.lst ys) [] [sm a' b c'] := by
  obtain ⟨ys, a', c', h2, h3⟩ := mixGo b [some (.cell 0), some (.lst xs), some (.cell 1), none] rfl ((List.range xs.length).map fun (i : Nat) => .int (0 + (i : Int))) xs a c (by simp) (by omega)
  refine ⟨ys, a', c', h2, ?_⟩
  have s1 : ex P17 (.set (.nm 2) (.mkl (.v 1))) [some (.cell 0), some (.lst xs), none, none] [sm a b c] = .nx [some (.cell 0), some (.lst xs), some (.cell 1), none] [sm a b c, some (.lst xs)] := rfl
  have i1 : its P17 (.rng1 (.bi .len [.v 1])) [some (.cell 0), some (.lst xs), some (.cell 1), none] [sm a b c, some (.lst xs)] = .ok ((List.range xs.length).map fun (i : Nat) => .int (0 + (i : Int))) [some (.cell 0), some (.lst xs), some (.cell 1), none] [sm a b c, some (.lst xs)] := by exact its_rng1 rfl (rng_nat _ hz)
  have hy : belows 1 ys = true := belows_all.mpr fun x hx => belows_all.mp hb x (h2.mem_iff.mp hx)
  have tr : trunc ([sm a b c] : Mu).length (D.lst ys) [sm a' b c', some (.lst [])] = [sm a' b c'] := by
    simp [trunc, below, hy, belows]
  unfold g17
  exact run_by rfl (b' := [(.set (.nm 2) (.mkl (.v 1))), (.ret (.lc [3] (.nm 3) (.rng1 (.bi .len [(.v 1)])) [] (.me .pop1 (.v 2) [(.fn 15 [(.v 0), (.bi .len [(.v 2)])])])))]) rfl (e := [some (.cell 0), some (.lst xs), none, none]) rfl (exs_cons s1 (exs_rt (ex_ret (ev_lc i1 h3 (by rw [h2.length_eq]; exact hz))))) tr
end Kl
end
section
set_option Elab.async false
set_option linter.all false
set_option maxRecDepth 100000
namespace Kl
open PySem Mn
theorem pw1 (m : Mu) : binD m .pow (.int 10) (.int 60) = some (.int 1000000000000000000000000000000000000000000000000000000000000) := by
  have h : (0 : Int) ≤ 60 ∧ (Builtin.Int.intBits 10 : Int) * 60 ≤ 134217728 := by decide +kernel
  show (if (0 : Int) ≤ 60 ∧ (Builtin.Int.intBits 10 : Int) * 60 ≤ 134217728 then some (D.int (10 ^ (60 : Int).toNat)) else none) = _
  rw [if_pos h]
  rfl
/-- (10 ** 60) ** 10 -/
def big : Int := (1000000000000000000000000000000000000000000000000000000000000 : Int) ^ 10
theorem pw2 (m : Mu) : binD m .pow (.int 1000000000000000000000000000000000000000000000000000000000000) (.int 10) = some (.int big) := by
  have h : (0 : Int) ≤ 10 ∧ (Builtin.Int.intBits 1000000000000000000000000000000000000000000000000000000000000 : Int) * 10 ≤ 134217728 := by decide +kernel
  show (if (0 : Int) ≤ 10 ∧ (Builtin.Int.intBits 1000000000000000000000000000000000000000000000000000000000000 : Int) * 10 ≤ 134217728 then some (D.int (1000000000000000000000000000000000000000000000000000000000000 ^ (10 : Int).toNat)) else none) = _
  rw [if_pos h]
  rfl
theorem pw3 (m : Mu) : binD m .pow (.int 10) (.int 18) = some (.int 1000000000000000000) := by
  have h : (0 : Int) ≤ 18 ∧ (Builtin.Int.intBits 10 : Int) * 18 ≤ 134217728 := by decide +kernel
  show (if (0 : Int) ≤ 18 ∧ (Builtin.Int.intBits 10 : Int) * 18 ≤ 134217728 then some (D.int (10 ^ (18 : Int).toNat)) else none) = _
  rw [if_pos h]
  rfl
theorem big_pos : 0 < big := by decide +kernel
/-- the first statements of a stream: the script's int, its great number -/
theorem great (z k : Int) (ns : List Int) (m : Mu) : ev P14 (.bin .mod (.bi .int [(.bi .abs [(.v 2)])]) (.bin .pow (.bin .pow (.lit (.int 10)) (.lit (.int 60))) (.lit (.int 10)))) [some (.scr ns), some (.int k), some (.int z), none, none] m = .ok (.int ((if z < 0 then -z else z) % big)) [some (.scr ns), some (.int k), some (.int z), none, none] m :=
  ev_bin (ev_bi1 (ev_bi1 rfl rfl) rfl) (ev_bin (ev_bin rfl rfl (pw1 _)) rfl (pw2 _)) (binD_mod big_pos)
end Kl
end
section
set_option Elab.async false
set_option linter.all false
set_option maxRecDepth 100000
namespace Kl
open PySem Mn
theorem mixedn (g z k : Int) (ns : List Int) (m : Mu) : ∃ v, ev P14 (.bin .add (.bin .add (.bin .add (.bin .mul (.bin .mod (.bi .int [(.v 3)]) (.lit (.int 2147483399))) (.lit (.int 60013))) (.bin .mul (.lit (.int 2711)) (.v 1))) (.bin .mul (.lit (.int 7)) (.bi .int [(.cmp .lt (.v 2) (.lit (.int 0)))]))) (.lit (.int 41))) [some (.scr ns), some (.int k), some (.int z), some (.int g), none] m = .ok (.int v) [some (.scr ns), some (.int k), some (.int z), some (.int g), none] m := by
  have mul_r : ∀ (m : Mu) (i j : Int), small64 j = true → binD m .mul (.int i) (.int j) = some (.int (i * j)) := fun m i j h => if_pos (by rw [h]; simp)
  have mul_l : ∀ (m : Mu) (i j : Int), small64 i = true → binD m .mul (.int i) (.int j) = some (.int (i * j)) := fun m i j h => if_pos (by rw [h]; simp)
  exact ⟨_, ev_bin (ev_bin (ev_bin (ev_bin (ev_bin (ev_bi1 rfl rfl) rfl (binD_mod (by decide))) rfl (mul_r _ _ _ (by decide))) (ev_bin rfl rfl (mul_l _ _ _ (by decide))) rfl) (ev_bin rfl (ev_bi1 rfl rfl) (mul_l _ _ _ (by decide))) rfl) rfl rfl⟩
theorem mulr (m : Mu) (i j : Int) (h : small64 j = true) : binD m .mul (.int i) (.int j) = some (.int (i * j)) := if_pos (by rw [h]; simp)
theorem mull (m : Mu) (i j : Int) (h : small64 i = true) : binD m .mul (.int i) (.int j) = some (.int (i * j)) := if_pos (by rw [h]; simp)
theorem ev_bi2 {P : Pg} {b : Bi} {a a' : E} {e e1 e2 : Mn.Env} {m m1 m2 : Mu} {x y z : D} (h1 : ev P a e m = .ok x e1 m1) (h2 : ev P a' e1 m1 = .ok y e2 m2) (hb : biD m2 b [x, y] = some z) : ev P (.bi b [a, a']) e m = .ok z e2 m2 := by
  have q : isSpr a = false := by
    cases a <;> first | rfl | (cases h1)
  have q' : isSpr a' = false := by
    cases a' <;> first | rfl | (cases h2)
  have hs : evs P [a, a'] e m = .ok [x, y] e2 m2 := by
    rw [evs_cons q]
    show (ev P a e m).bind _ = _
    rw [h1]
    show (evs P [a'] e1 m1).bind _ = _
    rw [evs_cons q']
    show ((ev P a' e1 m1).bind _).bind _ = _
    rw [h2]
    rfl
  show (evs P [a, a'] e m).bind _ = _
  rw [hs]
  show (M.of (biD m2 b [x, y]) e2 m2 : R D) = _
  rw [hb]
theorem ev_mk3 {P : Pg} {a b c : E} {e e1 e2 e3 : Mn.Env} {m m1 m2 m3 : Mu} {x y z : D} (h1 : ev P a e m = .ok x e1 m1) (h2 : ev P b e1 m1 = .ok y e2 m2) (h3 : ev P c e2 m2 = .ok z e3 m3) : ev P (.mk [a, b, c]) e m = .ok (.cell m3.length) e3 (m3 ++ [some (.lst [x, y, z])]) := by
  have q : isSpr a = false := by
    cases a <;> first | rfl | (cases h1)
  have q' : isSpr b = false := by
    cases b <;> first | rfl | (cases h2)
  have q'' : isSpr c = false := by
    cases c <;> first | rfl | (cases h3)
  have hs : evs P [a, b, c] e m = .ok [x, y, z] e3 m3 := by
    rw [evs_cons q]
    show (ev P a e m).bind _ = _
    rw [h1]
    show (evs P [b, c] e1 m1).bind _ = _
    rw [evs_cons q']
    show ((ev P b e1 m1).bind _).bind _ = _
    rw [h2]
    show ((evs P [c] e2 m2).bind _).bind _ = _
    rw [evs_cons q'']
    show (((ev P c e2 m2).bind _).bind _).bind _ = _
    rw [h3]
    rfl
  show (evs P [a, b, c] e m).bind _ = _
  rw [hs]
  rfl
theorem exs_two {P : Pg} {s : S} {ss : List S} {e e1 : Mn.Env} {m m1 : Mu} {k : Fl} (h : exs P [s] e m = .nx e1 m1) (hr : exs P ss e1 m1 = k) : exs P (s :: ss) e m = k := by
  have h2 : ex P s e m = .nx e1 m1 := by
    have : exs P [s] e m = (match ex P s e m with
      | .nx r m => exs P [] r m
      | f => f) := rfl
    rw [this] at h
    generalize ex P s e m = f at h
    cases f <;> first | exact h | cases h
  exact exs_cons h2 hr
theorem stream (ns : List Int) (k : Nat) : ∃ a b, g14 [.scr ns, .int k] [] = .ok (.cell 0) [] [sm a b 0] := by
  have two : ∃ z, exs P14 [(.ite (.cmp .lt (.v 1) (.bi .len [(.v 0)])) [(.set (.nm 2) (.idx (.v 0) (.v 1)))] [])] [some (.scr ns), some (.int k), some (.int (23 * k + 11)), none, none] [] = .nx [some (.scr ns), some (.int k), some (.int z), none, none] [] := by
    by_cases h : (k : Int) < (ns.length : Int)
    · obtain ⟨x, h1, h2⟩ := atI_in (xs := ns.map D.int) (r := (k : Int)) (by omega) (by simpa using h)
      obtain ⟨z, _, rfl⟩ : ∃ z, z ∈ ns ∧ x = D.int z := by
        have := List.mem_of_getElem? h2
        obtain ⟨z, hz, e⟩ := List.mem_map.mp this
        exact ⟨z, hz, e.symm⟩
      refine ⟨z, exs_cons (ex_ite (k := true) (e1 := [some (.scr ns), some (.int k), some (.int (23 * k + 11)), none, none]) (m1 := []) ?_ ?_) rfl⟩
      · show (R.ok (decide ((k : Int) < (ns.length : Int))) _ _ : R Bool) = _
        rw [decide_eq_true h]
      · rw [if_pos rfl]
        exact exs_cons (ex_set (ev_idx rfl rfl h1) rfl) rfl
    · refine ⟨23 * k + 11, exs_cons (ex_ite (k := false) (e1 := [some (.scr ns), some (.int k), some (.int (23 * k + 11)), none, none]) (m1 := []) ?_ ?_) rfl⟩
      · show (R.ok (decide ((k : Int) < (ns.length : Int))) _ _ : R Bool) = _
        rw [decide_eq_false h]
      · rfl
  obtain ⟨z, hz⟩ := two
  generalize hg : (if z < 0 then -z else z) % big = g at *
  obtain ⟨v, hv⟩ := mixedn g z k ns []
  have first : ex P14 (.set (.nm 2) (.bin .add (.bin .mul (.lit (.int 23)) (.v 1)) (.lit (.int 11)))) [some (.scr ns), some (.int k), none, none, none] [] = .nx [some (.scr ns), some (.int k), some (.int (23 * k + 11)), none, none] [] :=
    ex_set (ev_bin (ev_bin rfl rfl (mull _ _ _ (by decide))) rfl rfl) rfl
  have gr : ex P14 (.set (.nm 3) (.bin .mod (.bi .int [(.bi .abs [(.v 2)])]) (.bin .pow (.bin .pow (.lit (.int 10)) (.lit (.int 60))) (.lit (.int 10))))) [some (.scr ns), some (.int k), some (.int z), none, none] [] = .nx [some (.scr ns), some (.int k), some (.int z), some (.int g), none] [] := by
    subst hg
    exact ex_set (great z k ns []) rfl
  have mx := ex_set (tg := .nm 4) hv (e2 := [some (.scr ns), some (.int k), some (.int z), some (.int g), some (.int v)]) rfl
  have r1 : ev P14 (.bi .max [(.lit (.int 0)), (.bin .sub (.v 3) (.bin .pow (.lit (.int 10)) (.lit (.int 18))))]) [some (.scr ns), some (.int k), some (.int z), some (.int g), some (.int v)] [] = .ok (.int (if g - 1000000000000000000 > 0 then g - 1000000000000000000 else 0)) [some (.scr ns), some (.int k), some (.int z), some (.int g), some (.int v)] [] :=
    ev_bi2 rfl (ev_bin (x := .int g) rfl (ev_bin rfl rfl (pw3 _)) rfl) rfl
  have r2 : ev P14 (.bin .mod (.bi .int [(.v 4)]) (.lit (.int 2147483353))) [some (.scr ns), some (.int k), some (.int z), some (.int g), some (.int v)] [] = .ok (.int (v % 2147483353)) [some (.scr ns), some (.int k), some (.int z), some (.int g), some (.int v)] [] :=
    ev_bin (ev_bi1 (x := .int v) rfl rfl) rfl (binD_mod (by decide))
  have rt := ex_ret (ev_mk3 (m3 := []) r1 r2 (c := .lit (.int 0)) rfl)
  refine ⟨if g - 1000000000000000000 > 0 then g - 1000000000000000000 else 0, v % 2147483353, ?_⟩
  unfold g14
  have all := exs_cons first (exs_two hz (exs_cons gr (exs_cons mx (exs_rt (ss := []) rt))))
  exact run_by rfl rfl rfl all rfl
end Kl
end
section
set_option Elab.async false
set_option linter.all false
set_option maxRecDepth 100000
namespace Mn
open PySem
theorem ev_fn {P : Pg} {n : Nat} {es : List E} {e e1 e2 : Mn.Env} {m m1 m2 : Mu} {ds : List D} {d : D} (h : evs P es e m = .ok ds e1 m1) (hf : P.fn n ds m1 = .ok d e2 m2) : ev P (.fn n es) e m = .ok d e1 m2 := by
  show ((evs P es e m).bind fun ds e m => (P.fn n ds m).bind fun d _ m' => R.ok d e m') = _
  rw [h]
  show ((P.fn n ds m1).bind fun d _ m' => R.ok d e1 m') = _
  rw [hf]
theorem ev_slcto {P : Pg} {a b : E} {e e1 e2 : Mn.Env} {m m1 m2 : Mu} {x y z : D} (h1 : ev P a e m = .ok x e1 m1) (h2 : ev P b e1 m1 = .ok y e2 m2) (h3 : slcD m2 x [] [y] = some z) : ev P (.slc a [] [b]) e m = .ok z e2 m2 := by
  have q : isSpr b = false := by
    cases b <;> first | rfl | (cases h2)
  show (ev P a e m).bind _ = _
  rw [h1]
  show (evs P [b] e1 m1).bind _ = _
  rw [evs_cons q]
  show ((ev P b e1 m1).bind _).bind _ = _
  rw [h2]
  show (M.of (slcD m2 x [] [y]) e2 m2 : R D) = _
  rw [h3]
theorem evs_one {P : Pg} {a : E} {e e1 : Mn.Env} {m m1 : Mu} {x : D} (h : ev P a e m = .ok x e1 m1) : evs P [a] e m = .ok [x] e1 m1 := by
  have q : isSpr a = false := by
    cases a <;> first | rfl | (cases h)
  rw [evs_cons q]
  show (ev P a e m).bind _ = _
  rw [h]
  rfl
theorem evs_add {P : Pg} {a : E} {es : List E} {e e1 e2 : Mn.Env} {m m1 m2 : Mu} {x : D} {xs : List D} (h : ev P a e m = .ok x e1 m1) (h2 : evs P es e1 m1 = .ok xs e2 m2) : evs P (a :: es) e m = .ok (x :: xs) e2 m2 := by
  have q : isSpr a = false := by
    cases a <;> first | rfl | (cases h)
  rw [evs_cons q]
  show (ev P a e m).bind _ = _
  rw [h]
  show (evs P es e1 m1).bind _ = _
  rw [h2]
theorem ev_tup {P : Pg} {es : List E} {e e1 : Mn.Env} {m m1 : Mu} {ds : List D} (h : evs P es e m = .ok ds e1 m1) (hl : lim ds = true) : ev P (.tup es) e m = .ok (.tup ds) e1 m1 := by
  show ((evs P es).bind fun ds => if lim ds = true then M.ret (D.tup ds) else M.of none) e m = _
  unfold M.bind
  rw [h]
  show (if lim ds = true then M.ret (D.tup ds) else M.of none) e1 m1 = _
  rw [if_pos hl]
theorem ev_lst {P : Pg} {es : List E} {e e1 : Mn.Env} {m m1 : Mu} {ds : List D} (h : evs P es e m = .ok ds e1 m1) (hl : lim ds = true) : ev P (.lst es) e m = .ok (.lst ds) e1 m1 := by
  show ((evs P es).bind fun ds => if lim ds = true then M.ret (D.lst ds) else M.of none) e m = _
  unfold M.bind
  rw [h]
  show (if lim ds = true then M.ret (D.lst ds) else M.of none) e1 m1 = _
  rw [if_pos hl]
end Mn
namespace Kl
open PySem Mn
theorem pw39 (m : Mu) : binD m .pow (.int 10) (.int 39) = some (.int 1000000000000000000000000000000000000000) := by
  have h : (0 : Int) ≤ 39 ∧ (Builtin.Int.intBits 10 : Int) * 39 ≤ 134217728 := by decide +kernel
  show (if (0 : Int) ≤ 39 ∧ (Builtin.Int.intBits 10 : Int) * 39 ≤ 134217728 then some (D.int (10 ^ (39 : Int).toNat)) else none) = _
  rw [if_pos h]
  rfl
theorem pw30 (m : Mu) : binD m .pow (.int 10) (.int 30) = some (.int 1000000000000000000000000000000) := by
  have h : (0 : Int) ≤ 30 ∧ (Builtin.Int.intBits 10 : Int) * 30 ≤ 134217728 := by decide +kernel
  show (if (0 : Int) ≤ 30 ∧ (Builtin.Int.intBits 10 : Int) * 30 ≤ 134217728 then some (D.int (10 ^ (30 : Int).toNat)) else none) = _
  rw [if_pos h]
  rfl
def menu : List Int := [0, 1, 2, -1, 5, -7, 3, 1000000000000000000000000000000000000000, -999999999999999999999999999999999999999]
abbrev e20 (x y z : Option D) : Mn.Env := [some (.cell 0), x, y, z, none]
theorem menu_ev (m : Mu) : ev P20 (.lst [(.lit (.int 0)), (.lit (.int 1)), (.lit (.int 2)), (.neg (.lit (.int 1))), (.lit (.int 5)), (.neg (.lit (.int 7))), (.lit (.int 3)), (.bin .pow (.lit (.int 10)) (.lit (.int 39))), (.bin .sub (.lit (.int 1)) (.bin .pow (.lit (.int 10)) (.lit (.int 39))))]) (e20 none none none) m = .ok (.lst (menu.map .int)) (e20 none none none) m :=
  ev_lst (evs_add rfl (evs_add rfl (evs_add rfl (evs_add rfl (evs_add rfl (evs_add rfl (evs_add rfl (evs_add (ev_bin rfl rfl (pw39 _)) (evs_one (ev_bin rfl (ev_bin rfl rfl (pw39 _)) rfl)))))))))) rfl
theorem pickGo {P : Pg} {n : Nat} {b : Int} {y : Option D} {xs : List D} (hf : P.fn n = g16) (h0 : xs ≠ []) (h1 : xs.length < 1073741824) (e : Mn.Env) (he : e = [some (.cell 0), y, some (.lst xs), none, none]) : ∀ (ts : List D) (a c : Int),
    ∃ ys a' c', ys.length = ts.length ∧ (∀ y ∈ ys, y ∈ xs) ∧ lcGo (bindTg (.nm 4)) (evAndT P []) (ev P (.fn n [(.v 0), (.v 2)])) [4] ts e [sm a b c] = .ok ys e [sm a' b c']
  | [], a, c => ⟨[], a, c, rfl, (fun _ h => nomatch h), rfl⟩
  | t :: ts, a, c => by
    obtain ⟨x, a1, c1, hx, hp⟩ := pick a b c [] xs h0 h1
    obtain ⟨ys, a2, c2, hl, hm, hr⟩ := pickGo hf h0 h1 e he ts a1 c1
    refine ⟨x :: ys, a2, c2, by simp [hl], fun y hy => ?_, ?_⟩
    · rcases List.mem_cons.mp hy with rfl | hy
      · exact hx
      · exact hm y hy
    · subst he
      exact lc_step rfl rfl (ev_fn (ds := [.cell 0, .lst xs]) rfl (by rw [hf]; exact hp)) hr
theorem three {r : Int} (h0 : 0 ≤ r) (h1 : r < 3) : r = 0 ∨ r = 1 ∨ r = 2 := by omega
def names : List D := [.str "e", .str "n", .str "abcdefgh"]
theorem drawn_row (a b c : Int) : ∃ x vs a' c', x ∈ names ∧ (∃ p q r : Int, vs = [p] ∨ vs = [p, q] ∨ vs = [p, q, r]) ∧ g20 [.cell 0] [sm a b c] = .ok (.tup (x :: vs.map .int)) [] [sm a' b c'] := by
  have f17 : P20.fn 17 = g17 := rfl
  have f15 : P20.fn 15 = g15 := rfl
  have f16 : P20.fn 16 = g16 := rfl
  have s1 : ex P20 _ (e20 none none none) [sm a b c] = .nx (e20 (some (.lst (menu.map .int))) none none) [sm a b c] := ex_set (tg := .nm 1) (menu_ev _) rfl
  obtain ⟨ys, a1, c1, hy, hm⟩ := mixed a b c (menu.map .int) (by decide) (by decide)
  obtain ⟨r, a2, c2, hr0, hr1, hr⟩ := draw a1 b c1 3 [] (by decide) (by decide)
  have m1 : ev P20 (.fn 17 [(.v 0), (.v 1)]) (e20 (some (.lst (menu.map .int))) none none) [sm a b c] = .ok (.lst ys) (e20 (some (.lst (menu.map .int))) none none) [sm a1 b c1] := ev_fn (ds := [.cell 0, .lst (menu.map .int)]) rfl (by rw [f17]; exact hm)
  have d1 : ∀ (e : Mn.Env) (m : Mu), ev P20 (.v 0) e m = .ok (.cell 0) e m → ∀ (r : Int) (m2 : Mu), g15 [.cell 0, .int 3] m = .ok (.int r) [] m2 → ev P20 (.bin .add (.lit (.int 1)) (.fn 15 [(.v 0), (.lit (.int 3))])) e m = .ok (.int (1 + r)) e m2 := by
    intro e m h r m2 h2
    exact ev_bin rfl (ev_fn (evs_add h (evs_one rfl)) (by rw [f15]; exact h2)) rfl
  have hl : ys.length = 9 := by rw [hy.length_eq]; rfl
  obtain ⟨zs, hz, hz0, hz1, hs⟩ : ∃ zs : List D, zs ≠ [] ∧ zs.length < 1073741824 ∧ (∀ z ∈ zs, z ∈ ys) ∧ ∀ m, slcD m (.lst ys) [] [.int (1 + r)] = some (.lst zs) := by
    match ys, hl with
    | [y1, y2, y3, y4, y5, y6, y7, y8, y9], _ =>
      rcases three hr0 hr1 with rfl | rfl | rfl
      · exact ⟨[y1], by simp, by simp, by simp, fun _ => rfl⟩
      · exact ⟨[y1, y2], by simp, by simp, by simp, fun _ => rfl⟩
      · exact ⟨[y1, y2, y3], by simp, by simp, by simp, fun _ => rfl⟩
  have s2 := ex_set (tg := .nm 2) (e2 := e20 (some (.lst (menu.map .int))) (some (.lst zs)) none) (ev_slcto m1 (d1 _ _ rfl r _ hr) (hs _)) rfl
  obtain ⟨r2, a3, c3, hr20, hr21, hr2⟩ := draw a2 b c2 3 [] (by decide) (by decide)
  obtain ⟨ts, htl, ht⟩ : ∃ ts : List D, (ts.length = 1 ∨ ts.length = 2 ∨ ts.length = 3) ∧ rngD [.int (1 + r2)] = some ts := by
    rcases three hr20 hr21 with rfl | rfl | rfl
    · exact ⟨_, .inl rfl, rfl⟩
    · exact ⟨_, .inr (.inl rfl), rfl⟩
    · exact ⟨_, .inr (.inr rfl), rfl⟩
  obtain ⟨ws, a4, c4, hwl, hwm, hw⟩ := pickGo (P := P20) (n := 16) (b := b) (y := some (.lst (menu.map .int))) f16 hz hz0 (e20 (some (.lst (menu.map .int))) (some (.lst zs)) none) rfl ts a3 c3
  have hwz : ws.length ≤ 16777216 := by omega
  have s3 := ex_set (tg := .nm 3) (e2 := e20 (some (.lst (menu.map .int))) (some (.lst zs)) (some (.lst ws))) (ev_lc (P := P20) (tg := .nm 4) (own := [4]) (its_rng1 (d1 (e20 (some (.lst (menu.map .int))) (some (.lst zs)) none) _ rfl r2 _ hr2) ht) hw hwz) rfl
  obtain ⟨x, a5, c5, hx, hp⟩ := pick a4 b c4 [] names (by simp [names]) (by simp [names])
  have hints : ∀ w ∈ ws, ∃ i : Int, w = .int i := by
    intro w hw
    have := hy.mem_iff.mp (hz1 w (hwm w hw))
    obtain ⟨i, _, e⟩ := List.mem_map.mp this
    exact ⟨i, e.symm⟩
  obtain ⟨vs, hvs, hv3⟩ : ∃ vs : List Int, ws = vs.map .int ∧ (∃ p q r : Int, vs = [p] ∨ vs = [p, q] ∨ vs = [p, q, r]) := by
    match ws, hwl, hints with
    | [w1], _, h =>
      obtain ⟨i, rfl⟩ := h w1 (by simp)
      exact ⟨[i], rfl, i, 0, 0, .inl rfl⟩
    | [w1, w2], _, h =>
      obtain ⟨i, rfl⟩ := h w1 (by simp)
      obtain ⟨j, rfl⟩ := h w2 (by simp)
      exact ⟨[i, j], rfl, i, j, 0, .inr (.inl rfl)⟩
    | [w1, w2, w3], _, h =>
      obtain ⟨i, rfl⟩ := h w1 (by simp)
      obtain ⟨j, rfl⟩ := h w2 (by simp)
      obtain ⟨k, rfl⟩ := h w3 (by simp)
      exact ⟨[i, j, k], rfl, i, j, k, .inr (.inr rfl)⟩
    | [], q, _ => exfalso; simp at q; omega
    | _ :: _ :: _ :: _ :: _, q, _ => exfalso; simp at q; omega
  have hwle : ws.length ≤ 3 := by omega
  have s4 : ex P20 (.ret (.bin .add (.tup [(.fn 16 [(.v 0), (.lst [(.lit (.str "e")), (.lit (.str "n")), (.lit (.str "abcdefgh"))])])]) (.bi .tuple [(.v 3)]))) (e20 (some (.lst (menu.map .int))) (some (.lst zs)) (some (.lst ws))) [sm a4 b c4] = .rt (.tup (x :: ws)) [sm a5 b c5] :=
    ex_ret (ev_bin (ev_tup (evs_one (ev_fn (ds := [.cell 0, .lst names]) rfl (by rw [f16]; exact hp))) rfl) (ev_bi1 (x := .lst ws) rfl rfl) (by
      show (if lim ([x] ++ ws) = true then some (D.tup ([x] ++ ws)) else none) = _
      rw [if_pos (by unfold lim; simp; omega)]
      rfl))
  subst hvs
  have all := exs_cons s1 (exs_cons s2 (exs_cons s3 (exs_rt (ss := []) s4)))
  refine ⟨x, vs, a5, c5, hx, hv3, ?_⟩
  unfold g20
  refine run_by rfl rfl rfl all ?_
  have hb : below 1 (D.tup (x :: vs.map .int)) = true := by
    have h1 : belows 1 (vs.map .int) = true := belows_all.mpr fun y hy => by
      obtain ⟨i, _, rfl⟩ := List.mem_map.mp hy
      rfl
    have h2 : below 1 x = true := by
      simp [names] at hx
      rcases hx with rfl | rfl | rfl <;> rfl
    simp [below, belows, h1, h2]
  simp [trunc, hb, below, belows]
end Kl
end
section
set_option Elab.async false
set_option linter.all false
set_option maxRecDepth 100000
namespace Kl
open PySem Mn

theorem py_i (m : Mu) (x : Int) : pyOf m (.int x) = some (.int x) := rfl
theorem py_t0 (m : Mu) : pyOf m (.tup []) = some (.tuple []) := rfl
theorem py_t1 (m : Mu) (x : Int) : pyOf m (.tup [.int x]) = some (.tuple [.int x]) := rfl
theorem py_t2 (m : Mu) (x y : Int) : pyOf m (.tup [.int x, .int y]) = some (.tuple [.int x, .int y]) := rfl
theorem py_t3 (m : Mu) (x y z : Int) : pyOf m (.tup [.int x, .int y, .int z]) = some (.tuple [.int x, .int y, .int z]) := rfl
theorem py_l1 (m : Mu) (x : Int) : pyOf m (.lst [.int x]) = some (.list [.int x]) := rfl
theorem py_l2 (m : Mu) (x y : Int) : pyOf m (.lst [.int x, .int y]) = some (.list [.int x, .int y]) := rfl
theorem py_l3 (m : Mu) (x y z : Int) : pyOf m (.lst [.int x, .int y, .int z]) = some (.list [.int x, .int y, .int z]) := rfl
theorem six_x (x a b c : Int)  : g6 [.lst [.int x]] [sm a b c] = .ok (.tup [.lst [.int x], .tup [.int 0]]) [] [sm a b c] := by
  simp [g6, Mn.run, b6, exs, ex, ev, evs, its, walkD, forGo, M.bind, R.bind, R.fl, varD, M.of, deref, M.ret, List.replicate, bindTg, biD, meT, meD, setdefD, isKey, flatKey, lookD, keq, keqF,  lim, lcGo, wipeE, evAndT, idxD]
  exact rfl
theorem sev_x (x a b c m : Int) (s : Str) (hm : 0 < m)  : g7 [.tup (.str s :: [.int x]), .int m] [sm a b c] = .ok (.tup [.str s, .tup [.int 0], .tup [.int (x % m)]]) [] [sm a b c] := by
  have f6 : P7.fn 6 = g6 := rfl
  have f6v := six_x x a b c 
  simp [g7, Mn.run, b7, exs, ex, ev, evs, its, walkD, forGo, M.bind, R.bind, R.fl, varD, M.of, deref, M.ret, List.replicate, bindTg, bindTgs, biD, starD, f6, f6v, binD, hm, lim, lcGo, wipeE, evAndT]
  exact rfl
theorem lwc_x (x a b c m : Int) (s : Str) (hm : 0 < m)  : g19 [.tup (.str s :: [.int x]), .int m] [sm a b c] = .ok (.tup [.str s, .tup [.int 0], .tup [.int (x % m)]]) [] [sm a b c] := by
  simp [g19, Mn.run, b19, exs, ex, ev, evs, evT, its, walkD, enumD, slcD, slcI, optInt, sliceD, HT.sIx, forGo, M.bind, R.bind, R.fl, varD, M.of, deref, M.ret, List.replicate, bindTg, bindTgs, biD, binD, cmpD, memD, py_i, py_t0, py_t1, py_t2, py_t3, py_l1, py_l2, py_l3, PyData.eqv, meT, meD, findD, indexD, constD,  hm, lim, lcGo, wipeE, evAndT, idxD, L2.atI, L2.ixN]
  exact rfl
theorem six_xx (x a b c : Int)  : g6 [.lst [.int x, .int x]] [sm a b c] = .ok (.tup [.lst [.int x], .tup [.int 0, .int 0]]) [] [sm a b c] := by
  simp [g6, Mn.run, b6, exs, ex, ev, evs, its, walkD, forGo, M.bind, R.bind, R.fl, varD, M.of, deref, M.ret, List.replicate, bindTg, biD, meT, meD, setdefD, isKey, flatKey, lookD, keq, keqF,  lim, lcGo, wipeE, evAndT, idxD]
  exact rfl
theorem sev_xx (x a b c m : Int) (s : Str) (hm : 0 < m)  : g7 [.tup (.str s :: [.int x, .int x]), .int m] [sm a b c] = .ok (.tup [.str s, .tup [.int 0, .int 0], .tup [.int (x % m)]]) [] [sm a b c] := by
  have f6 : P7.fn 6 = g6 := rfl
  have f6v := six_xx x a b c 
  simp [g7, Mn.run, b7, exs, ex, ev, evs, its, walkD, forGo, M.bind, R.bind, R.fl, varD, M.of, deref, M.ret, List.replicate, bindTg, bindTgs, biD, starD, f6, f6v, binD, hm, lim, lcGo, wipeE, evAndT]
  exact rfl
theorem lwc_xx (x a b c m : Int) (s : Str) (hm : 0 < m)  : g19 [.tup (.str s :: [.int x, .int x]), .int m] [sm a b c] = .ok (.tup [.str s, .tup [.int 0, .int 0], .tup [.int (x % m)]]) [] [sm a b c] := by
  simp [g19, Mn.run, b19, exs, ex, ev, evs, evT, its, walkD, enumD, slcD, slcI, optInt, sliceD, HT.sIx, forGo, M.bind, R.bind, R.fl, varD, M.of, deref, M.ret, List.replicate, bindTg, bindTgs, biD, binD, cmpD, memD, py_i, py_t0, py_t1, py_t2, py_t3, py_l1, py_l2, py_l3, PyData.eqv, meT, meD, findD, indexD, constD,  hm, lim, lcGo, wipeE, evAndT, idxD, L2.atI, L2.ixN]
  exact rfl
theorem six_xy (x y a b c : Int) (h01 : x ≠ y) : g6 [.lst [.int x, .int y]] [sm a b c] = .ok (.tup [.lst [.int x, .int y], .tup [.int 0, .int 1]]) [] [sm a b c] := by
  simp [g6, Mn.run, b6, exs, ex, ev, evs, its, walkD, forGo, M.bind, R.bind, R.fl, varD, M.of, deref, M.ret, List.replicate, bindTg, biD, meT, meD, setdefD, isKey, flatKey, lookD, keq, keqF, h01, h01.symm,  lim, lcGo, wipeE, evAndT, idxD]
  exact rfl
theorem sev_xy (x y a b c m : Int) (s : Str) (hm : 0 < m) (h01 : x ≠ y) : g7 [.tup (.str s :: [.int x, .int y]), .int m] [sm a b c] = .ok (.tup [.str s, .tup [.int 0, .int 1], .tup [.int (x % m), .int (y % m)]]) [] [sm a b c] := by
  have f6 : P7.fn 6 = g6 := rfl
  have f6v := six_xy x y a b c h01
  simp [g7, Mn.run, b7, exs, ex, ev, evs, its, walkD, forGo, M.bind, R.bind, R.fl, varD, M.of, deref, M.ret, List.replicate, bindTg, bindTgs, biD, starD, f6, f6v, binD, hm, lim, lcGo, wipeE, evAndT]
  exact rfl
theorem lwc_xy (x y a b c m : Int) (s : Str) (hm : 0 < m) (h01 : x ≠ y) : g19 [.tup (.str s :: [.int x, .int y]), .int m] [sm a b c] = .ok (.tup [.str s, .tup [.int 0, .int 1], .tup [.int (x % m), .int (y % m)]]) [] [sm a b c] := by
  simp [g19, Mn.run, b19, exs, ex, ev, evs, evT, its, walkD, enumD, slcD, slcI, optInt, sliceD, HT.sIx, forGo, M.bind, R.bind, R.fl, varD, M.of, deref, M.ret, List.replicate, bindTg, bindTgs, biD, binD, cmpD, memD, py_i, py_t0, py_t1, py_t2, py_t3, py_l1, py_l2, py_l3, PyData.eqv, meT, meD, findD, indexD, constD, h01, h01.symm,  hm, lim, lcGo, wipeE, evAndT, idxD, L2.atI, L2.ixN]
  exact rfl
theorem six_xxx (x a b c : Int)  : g6 [.lst [.int x, .int x, .int x]] [sm a b c] = .ok (.tup [.lst [.int x], .tup [.int 0, .int 0, .int 0]]) [] [sm a b c] := by
  simp [g6, Mn.run, b6, exs, ex, ev, evs, its, walkD, forGo, M.bind, R.bind, R.fl, varD, M.of, deref, M.ret, List.replicate, bindTg, biD, meT, meD, setdefD, isKey, flatKey, lookD, keq, keqF,  lim, lcGo, wipeE, evAndT, idxD]
  exact rfl
theorem sev_xxx (x a b c m : Int) (s : Str) (hm : 0 < m)  : g7 [.tup (.str s :: [.int x, .int x, .int x]), .int m] [sm a b c] = .ok (.tup [.str s, .tup [.int 0, .int 0, .int 0], .tup [.int (x % m)]]) [] [sm a b c] := by
  have f6 : P7.fn 6 = g6 := rfl
  have f6v := six_xxx x a b c 
  simp [g7, Mn.run, b7, exs, ex, ev, evs, its, walkD, forGo, M.bind, R.bind, R.fl, varD, M.of, deref, M.ret, List.replicate, bindTg, bindTgs, biD, starD, f6, f6v, binD, hm, lim, lcGo, wipeE, evAndT]
  exact rfl
theorem lwc_xxx (x a b c m : Int) (s : Str) (hm : 0 < m)  : g19 [.tup (.str s :: [.int x, .int x, .int x]), .int m] [sm a b c] = .ok (.tup [.str s, .tup [.int 0, .int 0, .int 0], .tup [.int (x % m)]]) [] [sm a b c] := by
  simp [g19, Mn.run, b19, exs, ex, ev, evs, evT, its, walkD, enumD, slcD, slcI, optInt, sliceD, HT.sIx, forGo, M.bind, R.bind, R.fl, varD, M.of, deref, M.ret, List.replicate, bindTg, bindTgs, biD, binD, cmpD, memD, py_i, py_t0, py_t1, py_t2, py_t3, py_l1, py_l2, py_l3, PyData.eqv, meT, meD, findD, indexD, constD,  hm, lim, lcGo, wipeE, evAndT, idxD, L2.atI, L2.ixN]
  exact rfl
theorem six_xxy (x y a b c : Int) (h01 : x ≠ y) : g6 [.lst [.int x, .int x, .int y]] [sm a b c] = .ok (.tup [.lst [.int x, .int y], .tup [.int 0, .int 0, .int 1]]) [] [sm a b c] := by
  simp [g6, Mn.run, b6, exs, ex, ev, evs, its, walkD, forGo, M.bind, R.bind, R.fl, varD, M.of, deref, M.ret, List.replicate, bindTg, biD, meT, meD, setdefD, isKey, flatKey, lookD, keq, keqF, h01, h01.symm,  lim, lcGo, wipeE, evAndT, idxD]
  exact rfl
theorem sev_xxy (x y a b c m : Int) (s : Str) (hm : 0 < m) (h01 : x ≠ y) : g7 [.tup (.str s :: [.int x, .int x, .int y]), .int m] [sm a b c] = .ok (.tup [.str s, .tup [.int 0, .int 0, .int 1], .tup [.int (x % m), .int (y % m)]]) [] [sm a b c] := by
  have f6 : P7.fn 6 = g6 := rfl
  have f6v := six_xxy x y a b c h01
  simp [g7, Mn.run, b7, exs, ex, ev, evs, its, walkD, forGo, M.bind, R.bind, R.fl, varD, M.of, deref, M.ret, List.replicate, bindTg, bindTgs, biD, starD, f6, f6v, binD, hm, lim, lcGo, wipeE, evAndT]
  exact rfl
theorem lwc_xxy (x y a b c m : Int) (s : Str) (hm : 0 < m) (h01 : x ≠ y) : g19 [.tup (.str s :: [.int x, .int x, .int y]), .int m] [sm a b c] = .ok (.tup [.str s, .tup [.int 0, .int 0, .int 1], .tup [.int (x % m), .int (y % m)]]) [] [sm a b c] := by
  simp [g19, Mn.run, b19, exs, ex, ev, evs, evT, its, walkD, enumD, slcD, slcI, optInt, sliceD, HT.sIx, forGo, M.bind, R.bind, R.fl, varD, M.of, deref, M.ret, List.replicate, bindTg, bindTgs, biD, binD, cmpD, memD, py_i, py_t0, py_t1, py_t2, py_t3, py_l1, py_l2, py_l3, PyData.eqv, meT, meD, findD, indexD, constD, h01, h01.symm,  hm, lim, lcGo, wipeE, evAndT, idxD, L2.atI, L2.ixN]
  exact rfl
theorem six_xyx (x y a b c : Int) (h01 : x ≠ y) : g6 [.lst [.int x, .int y, .int x]] [sm a b c] = .ok (.tup [.lst [.int x, .int y], .tup [.int 0, .int 1, .int 0]]) [] [sm a b c] := by
  simp [g6, Mn.run, b6, exs, ex, ev, evs, its, walkD, forGo, M.bind, R.bind, R.fl, varD, M.of, deref, M.ret, List.replicate, bindTg, biD, meT, meD, setdefD, isKey, flatKey, lookD, keq, keqF, h01, h01.symm,  lim, lcGo, wipeE, evAndT, idxD]
  exact rfl
theorem sev_xyx (x y a b c m : Int) (s : Str) (hm : 0 < m) (h01 : x ≠ y) : g7 [.tup (.str s :: [.int x, .int y, .int x]), .int m] [sm a b c] = .ok (.tup [.str s, .tup [.int 0, .int 1, .int 0], .tup [.int (x % m), .int (y % m)]]) [] [sm a b c] := by
  have f6 : P7.fn 6 = g6 := rfl
  have f6v := six_xyx x y a b c h01
  simp [g7, Mn.run, b7, exs, ex, ev, evs, its, walkD, forGo, M.bind, R.bind, R.fl, varD, M.of, deref, M.ret, List.replicate, bindTg, bindTgs, biD, starD, f6, f6v, binD, hm, lim, lcGo, wipeE, evAndT]
  exact rfl
theorem lwc_xyx (x y a b c m : Int) (s : Str) (hm : 0 < m) (h01 : x ≠ y) : g19 [.tup (.str s :: [.int x, .int y, .int x]), .int m] [sm a b c] = .ok (.tup [.str s, .tup [.int 0, .int 1, .int 0], .tup [.int (x % m), .int (y % m)]]) [] [sm a b c] := by
  simp [g19, Mn.run, b19, exs, ex, ev, evs, evT, its, walkD, enumD, slcD, slcI, optInt, sliceD, HT.sIx, forGo, M.bind, R.bind, R.fl, varD, M.of, deref, M.ret, List.replicate, bindTg, bindTgs, biD, binD, cmpD, memD, py_i, py_t0, py_t1, py_t2, py_t3, py_l1, py_l2, py_l3, PyData.eqv, meT, meD, findD, indexD, constD, h01, h01.symm,  hm, lim, lcGo, wipeE, evAndT, idxD, L2.atI, L2.ixN]
  exact rfl
theorem six_xyy (x y a b c : Int) (h01 : x ≠ y) : g6 [.lst [.int x, .int y, .int y]] [sm a b c] = .ok (.tup [.lst [.int x, .int y], .tup [.int 0, .int 1, .int 1]]) [] [sm a b c] := by
  simp [g6, Mn.run, b6, exs, ex, ev, evs, its, walkD, forGo, M.bind, R.bind, R.fl, varD, M.of, deref, M.ret, List.replicate, bindTg, biD, meT, meD, setdefD, isKey, flatKey, lookD, keq, keqF, h01, h01.symm,  lim, lcGo, wipeE, evAndT, idxD]
  exact rfl
theorem sev_xyy (x y a b c m : Int) (s : Str) (hm : 0 < m) (h01 : x ≠ y) : g7 [.tup (.str s :: [.int x, .int y, .int y]), .int m] [sm a b c] = .ok (.tup [.str s, .tup [.int 0, .int 1, .int 1], .tup [.int (x % m), .int (y % m)]]) [] [sm a b c] := by
  have f6 : P7.fn 6 = g6 := rfl
  have f6v := six_xyy x y a b c h01
  simp [g7, Mn.run, b7, exs, ex, ev, evs, its, walkD, forGo, M.bind, R.bind, R.fl, varD, M.of, deref, M.ret, List.replicate, bindTg, bindTgs, biD, starD, f6, f6v, binD, hm, lim, lcGo, wipeE, evAndT]
  exact rfl
theorem lwc_xyy (x y a b c m : Int) (s : Str) (hm : 0 < m) (h01 : x ≠ y) : g19 [.tup (.str s :: [.int x, .int y, .int y]), .int m] [sm a b c] = .ok (.tup [.str s, .tup [.int 0, .int 1, .int 1], .tup [.int (x % m), .int (y % m)]]) [] [sm a b c] := by
  simp [g19, Mn.run, b19, exs, ex, ev, evs, evT, its, walkD, enumD, slcD, slcI, optInt, sliceD, HT.sIx, forGo, M.bind, R.bind, R.fl, varD, M.of, deref, M.ret, List.replicate, bindTg, bindTgs, biD, binD, cmpD, memD, py_i, py_t0, py_t1, py_t2, py_t3, py_l1, py_l2, py_l3, PyData.eqv, meT, meD, findD, indexD, constD, h01, h01.symm,  hm, lim, lcGo, wipeE, evAndT, idxD, L2.atI, L2.ixN]
  exact rfl
theorem six_xyz (x y z a b c : Int) (h01 : x ≠ y) (h02 : x ≠ z) (h12 : y ≠ z) : g6 [.lst [.int x, .int y, .int z]] [sm a b c] = .ok (.tup [.lst [.int x, .int y, .int z], .tup [.int 0, .int 1, .int 2]]) [] [sm a b c] := by
  simp [g6, Mn.run, b6, exs, ex, ev, evs, its, walkD, forGo, M.bind, R.bind, R.fl, varD, M.of, deref, M.ret, List.replicate, bindTg, biD, meT, meD, setdefD, isKey, flatKey, lookD, keq, keqF, h01, h01.symm, h02, h02.symm, h12, h12.symm,  lim, lcGo, wipeE, evAndT, idxD]
  exact rfl
theorem sev_xyz (x y z a b c m : Int) (s : Str) (hm : 0 < m) (h01 : x ≠ y) (h02 : x ≠ z) (h12 : y ≠ z) : g7 [.tup (.str s :: [.int x, .int y, .int z]), .int m] [sm a b c] = .ok (.tup [.str s, .tup [.int 0, .int 1, .int 2], .tup [.int (x % m), .int (y % m), .int (z % m)]]) [] [sm a b c] := by
  have f6 : P7.fn 6 = g6 := rfl
  have f6v := six_xyz x y z a b c h01 h02 h12
  simp [g7, Mn.run, b7, exs, ex, ev, evs, its, walkD, forGo, M.bind, R.bind, R.fl, varD, M.of, deref, M.ret, List.replicate, bindTg, bindTgs, biD, starD, f6, f6v, binD, hm, lim, lcGo, wipeE, evAndT]
  exact rfl
theorem lwc_xyz (x y z a b c m : Int) (s : Str) (hm : 0 < m) (h01 : x ≠ y) (h02 : x ≠ z) (h12 : y ≠ z) : g19 [.tup (.str s :: [.int x, .int y, .int z]), .int m] [sm a b c] = .ok (.tup [.str s, .tup [.int 0, .int 1, .int 2], .tup [.int (x % m), .int (y % m), .int (z % m)]]) [] [sm a b c] := by
  simp [g19, Mn.run, b19, exs, ex, ev, evs, evT, its, walkD, enumD, slcD, slcI, optInt, sliceD, HT.sIx, forGo, M.bind, R.bind, R.fl, varD, M.of, deref, M.ret, List.replicate, bindTg, bindTgs, biD, binD, cmpD, memD, py_i, py_t0, py_t1, py_t2, py_t3, py_l1, py_l2, py_l3, PyData.eqv, meT, meD, findD, indexD, constD, h01, h01.symm, h02, h02.symm, h12, h12.symm,  hm, lim, lcGo, wipeE, evAndT, idxD, L2.atI, L2.ixN]
  exact rfl
end Kl
end
section
set_option Elab.async false
set_option linter.all false
set_option maxRecDepth 100000
namespace Kl
open PySem Mn
def forms : List (List Nat × Nat) := [([0], 1), ([0, 0], 1), ([0, 1], 2), ([0, 0, 0], 1), ([0, 0, 1], 2), ([0, 1, 0], 2), ([0, 1, 1], 2), ([0, 1, 2], 3)]
def rests (m : Nat) : Nat → List (List Int)
  | 0 => [[]]
  | n + 1 => (List.range m).flatMap fun (r : Nat) => (rests m n).map fun l => (r : Int) :: l
def kindD (x : D) (f : List Nat) (rs : List Int) : D := .tup [x, .tup (f.map fun (i : Nat) => D.int (i : Int)), .tup (rs.map .int)]
def kinds (m : Nat) : List D := names.flatMap fun x => forms.flatMap fun f => (rests m f.2).map fun rs => kindD x f.1 rs
abbrev e24 (row : D) (m : Int) (k : D) : Mn.Env := [some (.cell 0), some row, some (.int m), some k, none]
abbrev exA : E := .cmp .isNot (.fn 12 [(.v 3), (.v 2)]) (.lit (.bool true))
abbrev exB : E := .or [(.cmp .ne (.fn 13 [(.v 3), (.v 2)]) (.fn 21 [(.v 3), (.v 2)])), (.cmp .ne (.fn 11 [(.fn 13 [(.v 3), (.v 2)]), (.v 2)]) (.v 3))]
abbrev exC : E := .cmp .ne (.bi .repr [(.fn 12 [(.v 3), (.lit (.int 1))])]) (.bi .repr [(.cmp .eq (.bi .max [(.bi .list [(.idx (.v 3) (.lit (.int 2)))])]) (.lit (.int 0)))])
abbrev exD : E := .cmp .eq (.lc [4] (.nm 4) (.it (.fn 23 [(.v 3), (.v 2)])) [(.cmp .isNot (.fn 12 [(.v 4), (.v 2)]) (.lit (.bool false)))] (.lit (.int 1))) (.lst [])

def nearL (x F : D) (rs : List D) (m : Int) : List D :=
  [.non, .int 0, .str "e", .tup [], .lst [x, F, .tup rs], .tup [x, F, .tup rs, .int 0], .tup [x, F], .tup [x, F, .tup (rs ++ [.int 0])], .tup [x, F, .tup rs.dropLast],
   .tup [.str "A", F, .tup rs], .tup [.str "", F, .tup rs], .tup [.str "abcdefghi", F, .tup rs], .tup [x, .tup [], .tup []], .tup [x, .int 0, .tup [.int 0]],
   .tup [x, .tup [.int 1, .int 0], .tup [.int 0, .int 0]], .tup [x, .tup [.int 0, .int 2], .tup [.int 0, .int 0, .int 0]], .tup [x, .tup [.int 0, .int 0, .int 2], .tup [.int 0, .int 0]], .tup [x, .tup [.int 1], .tup [.int 0]],
   .tup [x, .tup [.bl false], .tup [.int 0]], .tup [x, .tup [.int 0], .tup [.bl false]], .tup [x, .tup [.int 0], .tup [.int m]], .tup [x, .tup [.int 0], .tup [.int (-1)]],
   .tup [x, .tup [.int 0, .int 0, .int 0, .int 0], .tup [.int 0]], .tup [x, .lst [.int 0], .tup [.int 0]], .tup [x, .tup [.int 0], .lst [.int 0]], .dic false [x] [F], .tup [F, x, .tup rs],
   .tup [x, .tup [.int 0], .int 0], .tup [x, .tup [.int 0, .int (-1)], .tup [.int 0, .int 0]], .tup [x, .tup [.str "x"], .tup [.int 0]], .tup [x, .tup [.int 0], .tup [.non]], .lst [.tup [x, F, .tup rs]]]
theorem near1 (s : Str) (f : List D) (r : Int) (m a b c : Int) : g23 [.tup [.str s, .tup f, .tup [.int r]], .int m] [sm a b c] = .ok (.lst (nearL (.str s) (.tup f) [.int r] m)) [] (trunc 1 (.lst (nearL (.str s) (.tup f) [.int r] m)) [sm a b c]) := by kernel_rfl
theorem near2 (s : Str) (f : List D) (r q : Int) (m a b c : Int) : g23 [.tup [.str s, .tup f, .tup [.int r, .int q]], .int m] [sm a b c] = .ok (.lst (nearL (.str s) (.tup f) [.int r, .int q] m)) [] (trunc 1 (.lst (nearL (.str s) (.tup f) [.int r, .int q] m)) [sm a b c]) := by kernel_rfl
theorem near3 (s : Str) (f : List D) (r q t : Int) (m a b c : Int) : g23 [.tup [.str s, .tup f, .tup [.int r, .int q, .int t]], .int m] [sm a b c] = .ok (.lst (nearL (.str s) (.tup f) [.int r, .int q, .int t] m)) [] (trunc 1 (.lst (nearL (.str s) (.tup f) [.int r, .int q, .int t] m)) [sm a b c]) := by kernel_rfl
theorem F1 (a b c r q t : Int) : names.map (fun x => (forms.map fun f => (nearL x (.tup (f.1.map fun (i : Nat) => D.int (i : Int))) (([.int r, .int q, .int t] : List D).take f.2) 1).map fun v => g12 [v, .int 1] [sm a b c])) = names.map fun _ => forms.map fun _ => List.replicate 32 (.ok (.bl false) [] [sm a b c]) := by kernel_rfl
theorem F2 (a b c r q t : Int) : names.map (fun x => (forms.map fun f => (nearL x (.tup (f.1.map fun (i : Nat) => D.int (i : Int))) (([.int r, .int q, .int t] : List D).take f.2) 2).map fun v => g12 [v, .int 2] [sm a b c])) = names.map fun _ => forms.map fun _ => List.replicate 32 (.ok (.bl false) [] [sm a b c]) := by kernel_rfl
theorem F3 (a b c r q t : Int) : names.map (fun x => (forms.map fun f => (nearL x (.tup (f.1.map fun (i : Nat) => D.int (i : Int))) (([.int r, .int q, .int t] : List D).take f.2) 3).map fun v => g12 [v, .int 3] [sm a b c])) = names.map fun _ => forms.map fun _ => List.replicate 32 (.ok (.bl false) [] [sm a b c]) := by kernel_rfl
end Kl
end
section
set_option Elab.async false
set_option linter.all false
set_option maxRecDepth 100000
namespace Kl
open PySem Mn
def kindsOf (m : Nat) (x : D) : List D := forms.flatMap fun f => (rests m f.2).map fun rs => kindD x f.1 rs
theorem A1 (row : D) (a b c : Int) : (kinds 1).map (fun k => evT P24 exA (e24 row 1 k) [sm a b c]) = (kinds 1).map fun k => .ok false (e24 row 1 k) [sm a b c] := by kernel_rfl
theorem C1 (row : D) (a b c : Int) : (kinds 1).map (fun k => evT P24 exC (e24 row 1 k) [sm a b c]) = (kinds 1).map fun k => .ok false (e24 row 1 k) [sm a b c] := by kernel_rfl
theorem B10 (row : D) (a b c : Int) : (kindsOf 1 (.str "e")).map (fun k => evT P24 exB (e24 row 1 k) [sm a b c]) = (kindsOf 1 (.str "e")).map fun k => .ok false (e24 row 1 k) [sm a b c] := by kernel_rfl
theorem B11 (row : D) (a b c : Int) : (kindsOf 1 (.str "n")).map (fun k => evT P24 exB (e24 row 1 k) [sm a b c]) = (kindsOf 1 (.str "n")).map fun k => .ok false (e24 row 1 k) [sm a b c] := by kernel_rfl
theorem B12 (row : D) (a b c : Int) : (kindsOf 1 (.str "abcdefgh")).map (fun k => evT P24 exB (e24 row 1 k) [sm a b c]) = (kindsOf 1 (.str "abcdefgh")).map fun k => .ok false (e24 row 1 k) [sm a b c] := by kernel_rfl
theorem A2 (row : D) (a b c : Int) : (kinds 2).map (fun k => evT P24 exA (e24 row 2 k) [sm a b c]) = (kinds 2).map fun k => .ok false (e24 row 2 k) [sm a b c] := by kernel_rfl
theorem C2 (row : D) (a b c : Int) : (kinds 2).map (fun k => evT P24 exC (e24 row 2 k) [sm a b c]) = (kinds 2).map fun k => .ok false (e24 row 2 k) [sm a b c] := by kernel_rfl
theorem B20 (row : D) (a b c : Int) : (kindsOf 2 (.str "e")).map (fun k => evT P24 exB (e24 row 2 k) [sm a b c]) = (kindsOf 2 (.str "e")).map fun k => .ok false (e24 row 2 k) [sm a b c] := by kernel_rfl
theorem B21 (row : D) (a b c : Int) : (kindsOf 2 (.str "n")).map (fun k => evT P24 exB (e24 row 2 k) [sm a b c]) = (kindsOf 2 (.str "n")).map fun k => .ok false (e24 row 2 k) [sm a b c] := by kernel_rfl
theorem B22 (row : D) (a b c : Int) : (kindsOf 2 (.str "abcdefgh")).map (fun k => evT P24 exB (e24 row 2 k) [sm a b c]) = (kindsOf 2 (.str "abcdefgh")).map fun k => .ok false (e24 row 2 k) [sm a b c] := by kernel_rfl
theorem A3 (row : D) (a b c : Int) : (kinds 3).map (fun k => evT P24 exA (e24 row 3 k) [sm a b c]) = (kinds 3).map fun k => .ok false (e24 row 3 k) [sm a b c] := by kernel_rfl
theorem C3 (row : D) (a b c : Int) : (kinds 3).map (fun k => evT P24 exC (e24 row 3 k) [sm a b c]) = (kinds 3).map fun k => .ok false (e24 row 3 k) [sm a b c] := by kernel_rfl
theorem B30 (row : D) (a b c : Int) : (kindsOf 3 (.str "e")).map (fun k => evT P24 exB (e24 row 3 k) [sm a b c]) = (kindsOf 3 (.str "e")).map fun k => .ok false (e24 row 3 k) [sm a b c] := by kernel_rfl
theorem B31 (row : D) (a b c : Int) : (kindsOf 3 (.str "n")).map (fun k => evT P24 exB (e24 row 3 k) [sm a b c]) = (kindsOf 3 (.str "n")).map fun k => .ok false (e24 row 3 k) [sm a b c] := by kernel_rfl
theorem B32 (row : D) (a b c : Int) : (kindsOf 3 (.str "abcdefgh")).map (fun k => evT P24 exB (e24 row 3 k) [sm a b c]) = (kindsOf 3 (.str "abcdefgh")).map fun k => .ok false (e24 row 3 k) [sm a b c] := by kernel_rfl
end Kl
end
section
set_option Elab.async false
set_option linter.all false
set_option maxRecDepth 100000
namespace Kl
open PySem Mn
def valsOf (f : List Nat) (o : List Int) : List Int := f.map fun i => o.getD i 0
theorem pat {vs : List Int} (h : ∃ p q r : Int, vs = [p] ∨ vs = [p, q] ∨ vs = [p, q, r]) : ∃ f o, (f, o.length) ∈ forms ∧ o.Nodup ∧ vs = valsOf f o := by
  obtain ⟨p, q, r, rfl | rfl | rfl⟩ := h
  · exact ⟨[0], [p], by simp [forms], by simp, rfl⟩
  · by_cases h : p = q
    · subst h; exact ⟨[0, 0], [p], by simp [forms], by simp, rfl⟩
    · exact ⟨[0, 1], [p, q], by simp [forms], by simp [h], rfl⟩
  · by_cases h : p = q
    · subst h
      by_cases h2 : p = r
      · subst h2; exact ⟨[0, 0, 0], [p], by simp [forms], by simp, rfl⟩
      · exact ⟨[0, 0, 1], [p, r], by simp [forms], by simp [h2], rfl⟩
    · by_cases h2 : p = r
      · subst h2; exact ⟨[0, 1, 0], [p, q], by simp [forms], by simp [h], rfl⟩
      · by_cases h3 : q = r
        · subst h3; exact ⟨[0, 1, 1], [p, q], by simp [forms], by simp [h], rfl⟩
        · exact ⟨[0, 1, 2], [p, q, r], by simp [forms], by simp [h, h2, h3], rfl⟩
abbrev rowD (x : D) (vs : List Int) : D := .tup (x :: vs.map .int)
theorem len1 {o : List Int} (h : o.length = 1) : ∃ x, o = [x] := by
  match o, h with
  | [x], _ => exact ⟨x, rfl⟩
theorem len2 {o : List Int} (h : o.length = 2) : ∃ x y, o = [x, y] := by
  match o, h with
  | [x, y], _ => exact ⟨x, y, rfl⟩
theorem len3 {o : List Int} (h : o.length = 3) : ∃ x y z, o = [x, y, z] := by
  match o, h with
  | [x, y, z], _ => exact ⟨x, y, z, rfl⟩
theorem classed {f : List Nat} {o : List Int} (hf : (f, o.length) ∈ forms) (hn : o.Nodup) (s : Str) (a b c : Int) {m : Int} (hm : 0 < m) :
    g7 [rowD (.str s) (valsOf f o), .int m] [sm a b c] = .ok (kindD (.str s) f (o.map (· % m))) [] [sm a b c] ∧ g19 [rowD (.str s) (valsOf f o), .int m] [sm a b c] = .ok (kindD (.str s) f (o.map (· % m))) [] [sm a b c] := by
  simp only [forms, List.mem_cons, List.not_mem_nil, or_false, Prod.mk.injEq] at hf
  rcases hf with ⟨rfl, h⟩ | ⟨rfl, h⟩ | ⟨rfl, h⟩ | ⟨rfl, h⟩ | ⟨rfl, h⟩ | ⟨rfl, h⟩ | ⟨rfl, h⟩ | ⟨rfl, h⟩
  · obtain ⟨x, rfl⟩ := len1 h
    exact ⟨sev_x x a b c m s hm, lwc_x x a b c m s hm⟩
  · obtain ⟨x, rfl⟩ := len1 h
    exact ⟨sev_xx x a b c m s hm, lwc_xx x a b c m s hm⟩
  · obtain ⟨x, y, rfl⟩ := len2 h
    have q : x ≠ y := by simpa using hn
    exact ⟨sev_xy x y a b c m s hm q, lwc_xy x y a b c m s hm q⟩
  · obtain ⟨x, rfl⟩ := len1 h
    exact ⟨sev_xxx x a b c m s hm, lwc_xxx x a b c m s hm⟩
  · obtain ⟨x, y, rfl⟩ := len2 h
    have q : x ≠ y := by simpa using hn
    exact ⟨sev_xxy x y a b c m s hm q, lwc_xxy x y a b c m s hm q⟩
  · obtain ⟨x, y, rfl⟩ := len2 h
    have q : x ≠ y := by simpa using hn
    exact ⟨sev_xyx x y a b c m s hm q, lwc_xyx x y a b c m s hm q⟩
  · obtain ⟨x, y, rfl⟩ := len2 h
    have q : x ≠ y := by simpa using hn
    exact ⟨sev_xyy x y a b c m s hm q, lwc_xyy x y a b c m s hm q⟩
  · obtain ⟨x, y, z, rfl⟩ := len3 h
    have q : (x ≠ y ∧ x ≠ z) ∧ y ≠ z := by simpa using hn
    exact ⟨sev_xyz x y z a b c m s hm q.1.1 q.1.2 q.2, lwc_xyz x y z a b c m s hm q.1.1 q.1.2 q.2⟩
theorem row1 (p a b c : Int) : names.map (fun x => g4 [rowD x [p]] [sm a b c]) = names.map fun x => .ok .non [] [sm a b c] := by kernel_rfl
theorem row2 (p q a b c : Int) : names.map (fun x => g4 [rowD x [p, q]] [sm a b c]) = names.map fun x => .ok .non [] [sm a b c] := by kernel_rfl
theorem row3 (p q r a b c : Int) : names.map (fun x => g4 [rowD x [p, q, r]] [sm a b c]) = names.map fun x => .ok .non [] [sm a b c] := by kernel_rfl
theorem mod1 (a b c : Int) : g5 [.int 1] [sm a b c] = .ok .non [] [sm a b c] := by kernel_rfl
theorem mod2 (a b c : Int) : g5 [.int 2] [sm a b c] = .ok .non [] [sm a b c] := by kernel_rfl
theorem mod3 (a b c : Int) : g5 [.int 3] [sm a b c] = .ok .non [] [sm a b c] := by kernel_rfl
theorem mod_ok {m : Int} (h : m = 1 ∨ m = 2 ∨ m = 3) (a b c : Int) : g5 [.int m] [sm a b c] = .ok .non [] [sm a b c] := by
  rcases h with rfl | rfl | rfl
  · exact mod1 a b c
  · exact mod2 a b c
  · exact mod3 a b c
theorem map_at {α β : Type} {f g : α → β} {xs : List α} (h : xs.map f = xs.map g) {x : α} (hx : x ∈ xs) : f x = g x := List.map_inj_left.mp h x hx
theorem row_ok {x : D} (hx : x ∈ names) {vs : List Int} (h : ∃ p q r : Int, vs = [p] ∨ vs = [p, q] ∨ vs = [p, q, r]) (a b c : Int) : g4 [rowD x vs] [sm a b c] = .ok .non [] [sm a b c] := by
  obtain ⟨p, q, r, rfl | rfl | rfl⟩ := h
  · exact map_at (row1 p a b c) hx
  · exact map_at (row2 p q a b c) hx
  · exact map_at (row3 p q r a b c) hx
theorem ex_ex {P : Pg} {s : E} {e e1 : Mn.Env} {m m1 : Mu} {d : D} (h : ev P s e m = .ok d e1 m1) : ex P (.ex s) e m = .nx e1 m1 := by
  show ((ev P s e m).fl fun _ r m => Fl.nx r m) = _
  rw [h]
theorem below_kind {s : Str} {f : List Nat} {rs : List Int} : below 1 (kindD (.str s) f rs) = true := by
  have h1 : belows 1 (f.map fun (i : Nat) => D.int (i : Int)) = true := belows_all.mpr fun y hy => by
    obtain ⟨i, _, rfl⟩ := List.mem_map.mp hy
    rfl
  have h2 : belows 1 (rs.map D.int) = true := belows_all.mpr fun y hy => by
    obtain ⟨i, _, rfl⟩ := List.mem_map.mp hy
    rfl
  simp [kindD, below, belows, h1, h2]
theorem trunc_sm {d : D} {a b c : Int} {r : Mu} (h : below 1 d = true) : trunc 1 d (sm a b c :: r) = [sm a b c] := by
  simp [trunc, h, below, belows]
theorem cof {x : D} (hx : x ∈ names) {vs : List Int} (h : ∃ p q r : Int, vs = [p] ∨ vs = [p, q] ∨ vs = [p, q, r]) {m : Int} (hm : m = 1 ∨ m = 2 ∨ m = 3) {a b c : Int} {k : D} (hk : below 1 k = true) (h7 : g7 [rowD x vs, .int m] [sm a b c] = .ok k [] [sm a b c]) :
    g11 [rowD x vs, .int m] [sm a b c] = .ok k [] [sm a b c] := by
  have f4 : P11.fn 4 = g4 := rfl
  have f5 : P11.fn 5 = g5 := rfl
  have f7 : P11.fn 7 = g7 := rfl
  have s1 : ex P11 (.ex (.fn 4 [(.v 0)])) [some (rowD x vs), some (.int m)] [sm a b c] = .nx [some (rowD x vs), some (.int m)] [sm a b c] := ex_ex (ev_fn (ds := [rowD x vs]) rfl (by rw [f4]; exact row_ok hx h a b c))
  have s2 : ex P11 (.ex (.fn 5 [(.v 1)])) [some (rowD x vs), some (.int m)] [sm a b c] = .nx [some (rowD x vs), some (.int m)] [sm a b c] := ex_ex (ev_fn (ds := [.int m]) rfl (by rw [f5]; exact mod_ok hm a b c))
  have s3 : ex P11 (.ret (.fn 7 [(.v 0), (.v 1)])) [some (rowD x vs), some (.int m)] [sm a b c] = .rt k [sm a b c] := ex_ret (ev_fn (ds := [rowD x vs, .int m]) rfl (by rw [f7]; exact h7))
  have all := exs_cons s1 (exs_cons s2 (exs_rt (ss := []) s3))
  unfold g11
  exact run_by rfl rfl rfl all (trunc_sm hk)
end Kl
end
section
set_option Elab.async false
set_option linter.all false
set_option maxRecDepth 100000
namespace Kl
open PySem Mn
theorem val1 (x : D) (p a b c : Int) : g18 [.lst [rowD x [p]]] [sm a b c] = .ok (.lst ((srtI [p]).map .int)) [] (trunc 1 (.lst ((srtI [p]).map .int)) [sm a b c, some (.lst [.int p])]) := by kernel_rfl
theorem val2 (x : D) (p q a b c : Int) : g18 [.lst [rowD x [p, q]]] [sm a b c] = .ok (.lst ((srtI [p, q]).map .int)) [] (trunc 1 (.lst ((srtI [p, q]).map .int)) [sm a b c, some (.lst [.int p, .int q])]) := by kernel_rfl
theorem val3 (x : D) (p q r a b c : Int) : g18 [.lst [rowD x [p, q, r]]] [sm a b c] = .ok (.lst ((srtI [p, q, r]).map .int)) [] (trunc 1 (.lst ((srtI [p, q, r]).map .int)) [sm a b c, some (.lst [.int p, .int q, .int r])]) := by kernel_rfl
theorem below_ints {xs : List Int} : below 1 (.lst (xs.map D.int)) = true := by
  have h2 : belows 1 (xs.map D.int) = true := belows_all.mpr fun y hy => by
    obtain ⟨i, _, rfl⟩ := List.mem_map.mp hy
    rfl
  simp [below, h2]
theorem vals {x : D} {vs : List Int} (h : ∃ p q r : Int, vs = [p] ∨ vs = [p, q] ∨ vs = [p, q, r]) (a b c : Int) : g18 [.lst [rowD x vs]] [sm a b c] = .ok (.lst ((srtI vs).map .int)) [] [sm a b c] := by
  obtain ⟨p, q, r, rfl | rfl | rfl⟩ := h
  · rw [val1, trunc_sm below_ints]
  · rw [val2, trunc_sm below_ints]
  · rw [val3, trunc_sm below_ints]
def nums : List Int := [-5, -1, 0, 1, 4, 1000000000000000000000000000000]
theorem perm_ints {ys : List D} {is : List Int} (h : ys.Perm (is.map .int)) : ∃ js : List Int, ys = js.map .int ∧ js.Perm is := by
  have hall : ∀ y ∈ ys, ∃ i : Int, y = .int i := fun y hy => by
    obtain ⟨i, _, e⟩ := List.mem_map.mp (h.mem_iff.mp hy)
    exact ⟨i, e.symm⟩
  let un : D → Int := fun d => match d with | .int i => i | _ => 0
  have h1 : (ys.map un).map D.int = ys := by
    rw [List.map_map]
    calc ys.map (D.int ∘ un) = ys.map id := List.map_congr_left fun y hy => by
          obtain ⟨i, rfl⟩ := hall y hy
          rfl
      _ = ys := List.map_id ys
  refine ⟨ys.map un, h1.symm, ?_⟩
  have h2 := h.map un
  rw [List.map_map] at h2
  have h3 : is.map (un ∘ D.int) = is := by
    calc is.map (un ∘ D.int) = is.map id := List.map_congr_left fun y hy => rfl
      _ = is := List.map_id is
  rw [h3] at h2
  exact h2
abbrev e22 (row : D) (m : Int) (x y z : Option D) : Mn.Env := [some (.cell 0), some row, some (.int m), x, y, z, none, none]
abbrev exZ : E := .bi .dict [(.lc [6, 7] (.tp [(.nm 6), (.nm 7)]) (.zip (.v 3) (.v 4) false) [] (.tup [(.v 6), (.bin .add (.bin .mod (.bi .int [(.v 6)]) (.v 2)) (.bin .mul (.v 2) (.v 7)))]))]
theorem ev_z {row : D} {m : Int} (hm : m = 1 ∨ m = 2 ∨ m = 3) (p k : Int) (x y : D) (M : Mu) : ev P22 (.tup [(.v 6), (.bin .add (.bin .mod (.bi .int [(.v 6)]) (.v 2)) (.bin .mul (.v 2) (.v 7)))]) [some (.cell 0), some row, some (.int m), some x, some y, none, some (.int p), some (.int k)] M = .ok (.tup [.int p, .int (p % m + m * k)]) [some (.cell 0), some row, some (.int m), some x, some y, none, some (.int p), some (.int k)] M := by
  have h0 : 0 < m := by omega
  have h1 : small64 m = true := by rcases hm with rfl | rfl | rfl <;> decide
  exact ev_tup (evs_add rfl (evs_one (ev_bin (ev_bin (ev_bi1 rfl rfl) rfl (binD_mod h0)) (ev_bin rfl rfl (mull _ _ _ h1)) rfl))) rfl
def ph (m : Int) : List Int → List Int → List Int
  | p :: ps, k :: ks => (p % m + m * k) :: ph m ps ks
  | _, _ => []
/-- the dict of a move -/
def mvD (m : Int) (ws ks : List Int) : D := .dic false (ws.map .int) ((ph m ws ks).map .int)
theorem lz {row : D} {m : Int} (hm : m = 1 ∨ m = 2 ∨ m = 3) (x y : D) (M : Mu) : ∀ (ws ks : List Int), lcGo (bindTg (.tp [(.nm 6), (.nm 7)])) (evAndT P22 []) (ev P22 (.tup [(.v 6), (.bin .add (.bin .mod (.bi .int [(.v 6)]) (.v 2)) (.bin .mul (.v 2) (.v 7)))])) [6, 7] (((ws.map D.int).zip (ks.map D.int)).map fun p => .tup [p.1, p.2]) (e22 row m (some x) (some y) none) M
      = .ok ((ws.zip ks).map fun p => .tup [.int p.1, .int (p.1 % m + m * p.2)]) (e22 row m (some x) (some y) none) M
  | [], ks => by
    simp only [List.map_nil, List.zip_nil_left]
    rfl
  | p :: ws, [] => by
    simp only [List.map_nil, List.zip_nil_right]
    rfl
  | p :: ws, k :: ks => lc_step rfl rfl (ev_z hm p k x y M) (lz hm x y M ws ks)
theorem zip1 (m p k : Int) (ks : List Int) : pairsOf (([p].zip (k :: ks)).map fun p => .tup [.int p.1, .int (p.1 % m + m * p.2)]) = some [(.int p, .int (p % m + m * k))] := rfl
theorem zip2 (m p q k k2 : Int) (ks : List Int) : pairsOf (([p, q].zip (k :: k2 :: ks)).map fun p => .tup [.int p.1, .int (p.1 % m + m * p.2)]) = some [(.int p, .int (p % m + m * k)), (.int q, .int (q % m + m * k2))] := rfl
theorem zip3 (m p q r k k2 k3 : Int) (ks : List Int) : pairsOf (([p, q, r].zip (k :: k2 :: k3 :: ks)).map fun p => .tup [.int p.1, .int (p.1 % m + m * p.2)]) = some [(.int p, .int (p % m + m * k)), (.int q, .int (q % m + m * k2)), (.int r, .int (r % m + m * k3))] := rfl
theorem bi_dict (M : Mu) (xs : List D) : biD M .dict [.lst xs] = (pairsOf xs).map fun ps => .dic false (mergeD [] [] ps).1 (mergeD [] [] ps).2 := rfl
/-- the moves of the values ws -/
theorem moves {m : Int} (hm : m = 1 ∨ m = 2 ∨ m = 3) {ws ks : List Int} (hl : ws.length = 1 ∨ ws.length = 2 ∨ ws.length = 3) (hw : ws.Nodup) (hk : ks.Perm nums) :
    ∃ (d : D) (φ : Int → Int), (∀ M, biD M .dict [.lst ((ws.zip ks).map fun p => .tup [.int p.1, .int (p.1 % m + m * p.2)])] = some d) ∧ (∀ v ∈ ws, ∀ M, idxD M d (.int v) = some (.int (φ v))) ∧ (∀ v ∈ ws, φ v % m = v % m) ∧ ∀ u ∈ ws, ∀ v ∈ ws, φ u = φ v → u = v := by
  have hn : ks.Nodup := hk.nodup_iff.mpr (by decide)
  have h6 : ks.length = 6 := by rw [hk.length_eq]; rfl
  match ks, h6 with
  | [k1, k2, k3, k4, k5, k6], _ =>
    have n12 : k1 ≠ k2 := by rintro rfl; simp at hn
    have n13 : k1 ≠ k3 := by rintro rfl; simp at hn
    have n23 : k2 ≠ k3 := by rintro rfl; simp at hn
    rcases hl with h | h | h
    · obtain ⟨p, rfl⟩ := len1 h
      refine ⟨.dic false [.int p] [.int (p % m + m * k1)], fun _ => p % m + m * k1, fun M => rfl, ?_, ?_, ?_⟩
      · intro v hv M
        obtain rfl : v = p := by simpa using hv
        simp [idxD, deref, isKey, flatKey, lookD, keq, keqF]
      · intro v hv
        obtain rfl : v = p := by simpa using hv
        dsimp only
        rcases hm with rfl | rfl | rfl <;> omega
      · intro u hu v hv _
        obtain rfl : v = p := by simpa using hv
        simpa using hu
    · obtain ⟨p, q, rfl⟩ := len2 h
      have pq : p ≠ q := by rintro rfl; simp at hw
      refine ⟨.dic false [.int p, .int q] [.int (p % m + m * k1), .int (q % m + m * k2)], fun v => if v = p then p % m + m * k1 else q % m + m * k2, fun M => ?_, ?_, ?_, ?_⟩
      · rw [bi_dict, zip2]
        simp [mergeD, putD, hasD, keq, keqF, pq, pq.symm]
      · intro v hv M
        have hv : v = p ∨ v = q := by simpa using hv
        rcases hv with rfl | rfl
        · simp [idxD, deref, isKey, flatKey, lookD, keq, keqF, pq]
        · simp [idxD, deref, isKey, flatKey, lookD, keq, keqF, pq, pq.symm]
      · intro v hv
        have hv : v = p ∨ v = q := by simpa using hv
        rcases hv with rfl | rfl
        · simp only [↓reduceIte]
          rcases hm with rfl | rfl | rfl <;> omega
        · simp only [pq.symm, ↓reduceIte]
          rcases hm with rfl | rfl | rfl <;> omega
      · intro u hu v hv
        have hv : v = p ∨ v = q := by simpa using hv
        have hu : u = p ∨ u = q := by simpa using hu
        rcases hv with rfl | rfl <;> rcases hu with rfl | rfl <;> simp only [pq, pq.symm, ↓reduceIte] <;> intro h <;> rcases hm with rfl | rfl | rfl <;> first | trivial | rfl | (exfalso; omega)
    · obtain ⟨p, q, r, rfl⟩ := len3 h
      have pq : p ≠ q := by rintro rfl; simp at hw
      have pr : p ≠ r := by rintro rfl; simp at hw
      have qr : q ≠ r := by rintro rfl; simp at hw
      refine ⟨.dic false [.int p, .int q, .int r] [.int (p % m + m * k1), .int (q % m + m * k2), .int (r % m + m * k3)], fun v => if v = p then p % m + m * k1 else if v = q then q % m + m * k2 else r % m + m * k3, fun M => ?_, ?_, ?_, ?_⟩
      · rw [bi_dict, zip3]
        simp [mergeD, putD, hasD, keq, keqF, pq, pq.symm, pr, pr.symm, qr, qr.symm]
      · intro v hv M
        have hv : v = p ∨ v = q ∨ v = r := by simpa using hv
        rcases hv with rfl | rfl | rfl <;> simp [idxD, deref, isKey, flatKey, lookD, keq, keqF, pq, pq.symm, pr, pr.symm, qr, qr.symm]
      · intro v hv
        have hv : v = p ∨ v = q ∨ v = r := by simpa using hv
        rcases hv with rfl | rfl | rfl <;> simp only [pq, pq.symm, pr, pr.symm, qr, qr.symm, ↓reduceIte] <;> rcases hm with rfl | rfl | rfl <;> omega
      · intro u hu v hv
        have hv : v = p ∨ v = q ∨ v = r := by simpa using hv
        have hu : u = p ∨ u = q ∨ u = r := by simpa using hu
        rcases hv with rfl | rfl | rfl <;> rcases hu with rfl | rfl | rfl <;> simp only [pq, pq.symm, pr, pr.symm, qr, qr.symm, ↓reduceIte] <;> intro h <;> rcases hm with rfl | rfl | rfl <;> first | trivial | rfl | (exfalso; omega)
end Kl
end
section
set_option Elab.async false
set_option linter.all false
set_option maxRecDepth 100000
namespace Kl
open PySem Mn
theorem lv {row d x y : D} {m : Int} {φ : Int → Int} (M : Mu) : ∀ vs : List Int, (∀ v ∈ vs, idxD M d (.int v) = some (.int (φ v))) → lcGo (bindTg (.nm 6)) (evAndT P22 []) (ev P22 (.idx (.v 5) (.v 6))) [6] (vs.map D.int) (e22 row m (some x) (some y) (some d)) M = .ok ((vs.map φ).map D.int) (e22 row m (some x) (some y) (some d)) M
  | [], _ => rfl
  | v :: vs, h => lc_step rfl rfl (ev_idx rfl rfl (h v (by simp))) (lv M vs fun u hu => h u (by simp [hu]))
theorem tail_slc (M : Mu) (x : D) {vs : List Int} (h : ∃ p q r : Int, vs = [p] ∨ vs = [p, q] ∨ vs = [p, q, r]) : slcD M (rowD x vs) [.int 1] [] = some (.tup (vs.map .int)) ∧ slcD M (rowD x vs) [] [.int 1] = some (.tup [x]) := by
  obtain ⟨p, q, r, rfl | rfl | rfl⟩ := h <;> exact ⟨rfl, rfl⟩
theorem its_it {P : Pg} {a : E} {e e1 : Mn.Env} {m m1 : Mu} {x : D} {xs : List D} (h : ev P a e m = .ok x e1 m1) (hr : walkD m1 x = some xs) : its P (.it a) e m = .ok xs e1 m1 := by
  show ((ev P a e m).bind fun x e m => M.of (walkD m x) e m) = _
  rw [h]
  show (M.of (walkD m1 x) e1 m1 : R (List D)) = _
  rw [hr]
theorem ev_slcfrom {P : Pg} {a b : E} {e e1 e2 : Mn.Env} {m m1 m2 : Mu} {x y z : D} (h1 : ev P a e m = .ok x e1 m1) (h2 : ev P b e1 m1 = .ok y e2 m2) (h3 : slcD m2 x [y] [] = some z) : ev P (.slc a [b] []) e m = .ok z e2 m2 := by
  have q : isSpr b = false := by
    cases b <;> first | rfl | (cases h2)
  show (ev P a e m).bind _ = _
  rw [h1]
  show (evs P [b] e1 m1).bind _ = _
  rw [evs_cons q]
  show ((ev P b e1 m1).bind _).bind _ = _
  rw [h2]
  show (M.of (slcD m2 x [y] []) e2 m2 : R D) = _
  rw [h3]
theorem nums_ev (row : D) (m : Int) (x : Option D) (M : Mu) : ev P22 (.lst [(.neg (.lit (.int 5))), (.neg (.lit (.int 1))), (.lit (.int 0)), (.lit (.int 1)), (.lit (.int 4)), (.bin .pow (.lit (.int 10)) (.lit (.int 30)))]) (e22 row m x none none) M = .ok (.lst (nums.map .int)) (e22 row m x none none) M :=
  ev_lst (evs_add rfl (evs_add rfl (evs_add rfl (evs_add rfl (evs_add rfl (evs_one (ev_bin rfl rfl (pw30 _)))))))) rfl
theorem pair_len {vs : List Int} (h : ∃ p q r : Int, vs = [p] ∨ vs = [p, q] ∨ vs = [p, q, r]) : (srtI vs).length = 1 ∨ (srtI vs).length = 2 ∨ (srtI vs).length = 3 := by
  obtain ⟨p, q, r, rfl | rfl | rfl⟩ := h
  · exact .inl rfl
  · simp only [srtI, List.foldr_cons, List.foldr_nil, insI]
    split
    · simp
    · split <;> simp
  · simp only [srtI, List.foldr_cons, List.foldr_nil, insI]
    (repeat' split) <;> (try simp [insI]) <;> (repeat' split) <;> simp
theorem form_lt {f : List Nat} {n : Nat} (h : (f, n) ∈ forms) : (∀ i ∈ f, i < n) ∧ (f.length = 1 ∨ f.length = 2 ∨ f.length = 3) ∧ ∀ i, i < n → i ∈ f := by
  simp only [forms, List.mem_cons, List.not_mem_nil, or_false, Prod.mk.injEq] at h
  rcases h with ⟨rfl, rfl⟩ | ⟨rfl, rfl⟩ | ⟨rfl, rfl⟩ | ⟨rfl, rfl⟩ | ⟨rfl, rfl⟩ | ⟨rfl, rfl⟩ | ⟨rfl, rfl⟩ | ⟨rfl, rfl⟩ <;> decide
theorem vals3 {f : List Nat} {o : List Int} (h : (f, o.length) ∈ forms) : ∃ p q r : Int, valsOf f o = [p] ∨ valsOf f o = [p, q] ∨ valsOf f o = [p, q, r] := by
  have h := (form_lt h).2.1
  match f, h with
  | [i], _ => exact ⟨_, 0, 0, .inl rfl⟩
  | [i, j], _ => exact ⟨_, _, 0, .inr (.inl rfl)⟩
  | [i, j, k], _ => exact ⟨_, _, _, .inr (.inr rfl)⟩
theorem below_row {s : Str} {vs : List Int} : below 1 (rowD (.str s) vs) = true := by
  have h2 : belows 1 (vs.map D.int) = true := belows_all.mpr fun y hy => by
    obtain ⟨i, _, rfl⟩ := List.mem_map.mp hy
    rfl
  simp [below, belows, h2]
theorem moved {s : Str} {f : List Nat} {o : List Int} (hf : (f, o.length) ∈ forms) (hn : o.Nodup) {m : Int} (hm : m = 1 ∨ m = 2 ∨ m = 3) (a b c : Int) :
    ∃ o' a' c', (f, o'.length) ∈ forms ∧ o'.Nodup ∧ o'.map (· % m) = o.map (· % m) ∧ g22 [.cell 0, rowD (.str s) (valsOf f o), .int m] [sm a b c] = .ok (rowD (.str s) (valsOf f o')) [] [sm a' b c'] := by
  have hv := vals3 hf
  have fl := form_lt hf
  generalize hvs : valsOf f o = vs at hv
  have hin : ∀ v ∈ o, v ∈ vs := by
    intro v hv
    obtain ⟨i, hi, rfl⟩ := List.getElem_of_mem hv
    rw [← hvs]
    refine List.mem_map.mpr ⟨i, fl.2.2 i hi, ?_⟩
    simp [hi]
  let ws := srtI vs
  have hw : ws.Nodup := (pw_srtI vs).imp fun h => Int.ne_of_lt h
  have hwl : ws.length = 1 ∨ ws.length = 2 ∨ ws.length = 3 := pair_len hv
  obtain ⟨ys, a1, c1, hy, hx⟩ := mixed a b c (nums.map .int) (by decide) (by decide)
  obtain ⟨ks, rfl, hks⟩ := perm_ints hy
  obtain ⟨d, φ, hd, hl, hmod, hinj⟩ := moves hm hwl hw hks
  have f18 : P22.fn 18 = g18 := rfl
  have f17 : P22.fn 17 = g17 := rfl
  let row := rowD (.str s) vs
  have s1 : ex P22 (.set (.nm 3) (.fn 18 [(.lst [(.v 1)])])) (e22 row m none none none) [sm a b c] = .nx (e22 row m (some (.lst (ws.map .int))) none none) [sm a b c] := ex_set (ev_fn (ds := [.lst [row]]) rfl (by rw [f18]; exact vals hv a b c)) rfl
  have s2 := ex_set (tg := .nm 4) (e2 := e22 row m (some (.lst (ws.map .int))) (some (.lst (ks.map .int))) none) (ev_fn (P := P22) (n := 17) (evs_add (a := .v 0) (x := .cell 0) (e := e22 row m (some (.lst (ws.map .int))) none none) (m := [sm a b c]) rfl (evs_one (nums_ev row m (some (.lst (ws.map .int))) [sm a b c]))) (by rw [f17]; exact hx)) rfl
  have iz : its P22 (.zip (.v 3) (.v 4) false) (e22 row m (some (.lst (ws.map .int))) (some (.lst (ks.map .int))) none) [sm a1 b c1] = .ok (((ws.map D.int).zip (ks.map D.int)).map fun p => .tup [p.1, p.2]) (e22 row m (some (.lst (ws.map .int))) (some (.lst (ks.map .int))) none) [sm a1 b c1] := rfl
  have zl : ((ws.zip ks).map fun p : Int × Int => D.tup [.int p.1, .int (p.1 % m + m * p.2)]).length ≤ 16777216 := by
    rw [List.length_map, List.length_zip]
    have : ws.length ≤ 3 := by omega
    omega
  have s3 := ex_set (tg := .nm 5) (e2 := e22 row m (some (.lst (ws.map .int))) (some (.lst (ks.map .int))) (some d)) (ev_bi1 (ev_lc (P := P22) (own := [6, 7]) (tg := .tp [(.nm 6), (.nm 7)]) (ifs := []) iz (lz (row := row) hm (.lst (ws.map .int)) (.lst (ks.map .int)) [sm a1 b c1] ws ks) zl) (hd _)) rfl
  have hlv : ∀ v ∈ vs, idxD [sm a1 b c1] d (.int v) = some (.int (φ v)) := fun v hv => hl v (mem_srtI.mpr hv) _
  have lvs := lv (row := row) (x := .lst (ws.map .int)) (y := .lst (ks.map .int)) (m := m) [sm a1 b c1] vs hlv
  obtain ⟨t1, t2⟩ := tail_slc [sm a1 b c1] (.str s) hv
  have vl : vs.length ≤ 3 := by
    obtain ⟨p, q, r, rfl | rfl | rfl⟩ := hv <;> simp
  have s4 : ex P22 (.ret (.bin .add (.slc (.v 1) [] [(.lit (.int 1))]) (.bi .tuple [(.lc [6] (.nm 6) (.it (.slc (.v 1) [(.lit (.int 1))] [])) [] (.idx (.v 5) (.v 6)))]))) (e22 row m (some (.lst (ws.map .int))) (some (.lst (ks.map .int))) (some d)) [sm a1 b c1] = .rt (rowD (.str s) (vs.map φ)) [sm a1 b c1] :=
    ex_ret (ev_bin (ev_slcto (x := row) rfl rfl t2) (ev_bi1 (ev_lc (its_it (ev_slcfrom (x := row) rfl rfl t1) rfl) lvs (by simp; omega)) rfl) (by
      show (if lim ([D.str s] ++ (vs.map φ).map D.int) = true then some (D.tup ([D.str s] ++ (vs.map φ).map D.int)) else none) = _
      rw [if_pos (by unfold lim; simp; omega)]
      rfl))
  have all := exs_cons s1 (exs_cons s2 (exs_cons s3 (exs_rt (ss := []) s4)))
  have e1 : vs.map φ = valsOf f (o.map φ) := by
    rw [← hvs]
    unfold valsOf
    rw [List.map_map]
    refine List.map_congr_left fun i hi => ?_
    have hi := fl.1 i hi
    simp [hi]
  refine ⟨o.map φ, a1, c1, by simpa using hf, ?_, ?_, ?_⟩
  · refine List.Pairwise.map _ ?_ (List.Pairwise.and_mem.mp hn)
    intro u v h e
    exact h.2.2 (hinj u (mem_srtI.mpr (hin u h.1)) v (mem_srtI.mpr (hin v h.2.1)) e)
  · rw [List.map_map]
    exact List.map_congr_left fun v hv => hmod v (mem_srtI.mpr (hin v hv))
  · rw [← e1]
    unfold g22
    exact run_by rfl rfl rfl all (trunc_sm below_row)
end Kl
end
section
set_option Elab.async false
set_option linter.all false
set_option maxRecDepth 100000
namespace Kl
open PySem Mn
theorem E1 (M : Mu) : (kinds 1).map (fun k => cmpD M .ne k k) = (kinds 1).map fun _ => some false := by kernel_rfl
theorem E2 (M : Mu) : (kinds 2).map (fun k => cmpD M .ne k k) = (kinds 2).map fun _ => some false := by kernel_rfl
theorem E3 (M : Mu) : (kinds 3).map (fun k => cmpD M .ne k k) = (kinds 3).map fun _ => some false := by kernel_rfl
theorem mem_rests {m : Nat} : ∀ {rs : List Int}, (∀ r ∈ rs, 0 ≤ r ∧ r < (m : Int)) → rs ∈ rests m rs.length
  | [], _ => by simp [rests]
  | r :: rs, h => by
    have h0 := h r (by simp)
    refine List.mem_flatMap.mpr ⟨r.toNat, List.mem_range.mpr (by omega), List.mem_map.mpr ⟨rs, mem_rests fun u hu => h u (by simp [hu]), ?_⟩⟩
    rw [Int.toNat_of_nonneg h0.1]
theorem mem_kindsOf {m : Nat} {x : D} {f : List Nat} {rs : List Int} (hf : (f, rs.length) ∈ forms) (h : ∀ r ∈ rs, 0 ≤ r ∧ r < (m : Int)) : kindD x f rs ∈ kindsOf m x := List.mem_flatMap.mpr ⟨_, hf, List.mem_map.mpr ⟨rs, mem_rests h, rfl⟩⟩
theorem mem_kinds {m : Nat} {x : D} (hx : x ∈ names) {f : List Nat} {rs : List Int} (hf : (f, rs.length) ∈ forms) (h : ∀ r ∈ rs, 0 ≤ r ∧ r < (m : Int)) : kindD x f rs ∈ kinds m := List.mem_flatMap.mpr ⟨x, hx, List.mem_flatMap.mpr ⟨_, hf, List.mem_map.mpr ⟨rs, mem_rests h, rfl⟩⟩⟩
theorem evT_or2 {P : Pg} {x y : E} {e e1 e2 : Mn.Env} {m m1 m2 : Mu} (h : evT P x e m = .ok false e1 m1) (h2 : evT P y e1 m1 = .ok false e2 m2) : evT P (.or [x, y]) e m = .ok false e2 m2 := by
  show (evT P x e m).bind (fun (k : Bool) => if k = true then M.ret true else evOrT P [y]) = _
  rw [h]
  show (evT P y e1 m1).bind (fun (k : Bool) => if k = true then M.ret true else evOrT P []) = _
  rw [h2]
  rfl
theorem evT_cmp {P : Pg} {op : Cop} {a b : E} {e e1 e2 : Mn.Env} {m m1 m2 : Mu} {x y : D} {k : Bool} (h1 : ev P a e m = .ok x e1 m1) (h2 : ev P b e1 m1 = .ok y e2 m2) (h3 : cmpD m2 op x y = some k) : evT P (.cmp op a b) e m = .ok k e2 m2 := by
  show (ev P a e m).bind _ = _
  rw [h1]
  show (ev P b e1 m1).bind _ = _
  rw [h2]
  show (M.of (cmpD m2 op x y) e2 m2 : R Bool) = _
  rw [h3]
theorem ev_cmp {P : Pg} {op : Cop} {a b : E} {e e1 e2 : Mn.Env} {m m1 m2 : Mu} {x y : D} {k : Bool} (h1 : ev P a e m = .ok x e1 m1) (h2 : ev P b e1 m1 = .ok y e2 m2) (h3 : cmpD m2 op x y = some k) : ev P (.cmp op a b) e m = .ok (.bl k) e2 m2 := by
  show (ev P a e m).bind _ = _
  rw [h1]
  show (ev P b e1 m1).bind _ = _
  rw [h2]
  show (M.of ((cmpD m2 op x y).map .bl) e2 m2 : R D) = _
  rw [h3]
  rfl
theorem skipAll {row k : D} {m a b c : Int} : ∀ xs : List D, (∀ x ∈ xs, g12 [x, .int m] [sm a b c] = .ok (.bl false) [] [sm a b c]) →
    lcGo (bindTg (.nm 4)) (evAndT P24 [(.cmp .isNot (.fn 12 [(.v 4), (.v 2)]) (.lit (.bool false)))]) (ev P24 (.lit (.int 1))) [4] xs (e24 row m k) [sm a b c] = .ok [] (e24 row m k) [sm a b c]
  | [], _ => rfl
  | x :: xs, h => by
    have f12 : P24.fn 12 = g12 := rfl
    have t : evT P24 (.cmp .isNot (.fn 12 [(.v 4), (.v 2)]) (.lit (.bool false))) [some (.cell 0), some row, some (.int m), some k, some x] [sm a b c] = .ok false [some (.cell 0), some row, some (.int m), some k, some x] [sm a b c] :=
      evT_cmp (ev_fn (ds := [x, .int m]) rfl (by rw [f12]; exact h x (by simp))) rfl rfl
    have t2 : evAndT P24 [(.cmp .isNot (.fn 12 [(.v 4), (.v 2)]) (.lit (.bool false)))] [some (.cell 0), some row, some (.int m), some k, some x] [sm a b c] = .ok false [some (.cell 0), some row, some (.int m), some k, some x] [sm a b c] := by
      show (evT P24 _ _ _).bind _ = _
      rw [t]
      rfl
    exact lc_skip rfl t2 (skipAll xs fun y hy => h y (by simp [hy]))
theorem bel1 (s : Str) (r q t m : Int) : forms.map (fun f => below 1 (.lst (nearL (.str s) (.tup (f.1.map fun (i : Nat) => D.int (i : Int))) (([.int r, .int q, .int t] : List D).take f.2) m))) = forms.map fun _ => true := by kernel_rfl
theorem near {s : Str} {f : List Nat} {rs : List Int} (hf : (f, rs.length) ∈ forms) (m a b c : Int) : g23 [kindD (.str s) f rs, .int m] [sm a b c] = .ok (.lst (nearL (.str s) (.tup (f.map fun (i : Nat) => D.int (i : Int))) (rs.map .int) m)) [] [sm a b c] := by
  have hl : rs.length = 1 ∨ rs.length = 2 ∨ rs.length = 3 := by
    simp only [forms, List.mem_cons, List.not_mem_nil, or_false, Prod.mk.injEq] at hf
    omega
  rcases hl with h | h | h
  · obtain ⟨r, rfl⟩ := len1 h
    have h2 : below 1 (.lst (nearL (.str s) (.tup (f.map fun (i : Nat) => D.int (i : Int))) [.int r] m)) = true := map_at (bel1 s r 0 0 m) hf
    exact (near1 s _ r m a b c).trans (by rw [trunc_sm h2]; rfl)
  · obtain ⟨r, q, rfl⟩ := len2 h
    have h2 : below 1 (.lst (nearL (.str s) (.tup (f.map fun (i : Nat) => D.int (i : Int))) [.int r, .int q] m)) = true := map_at (bel1 s r q 0 m) hf
    exact (near2 s _ r q m a b c).trans (by rw [trunc_sm h2]; rfl)
  · obtain ⟨r, q, t, rfl⟩ := len3 h
    have h2 : below 1 (.lst (nearL (.str s) (.tup (f.map fun (i : Nat) => D.int (i : Int))) [.int r, .int q, .int t] m)) = true := map_at (bel1 s r q t m) hf
    exact (near3 s _ r q t m a b c).trans (by rw [trunc_sm h2]; rfl)
theorem of_rep {α : Type} {f : D → α} {y : α} {n : Nat} {xs : List D} (h : xs.map f = List.replicate n y) : ∀ x ∈ xs, f x = y := fun x hx => List.eq_of_mem_replicate (h ▸ List.mem_map_of_mem hx)
theorem fars {x : D} (hx : x ∈ names) {f : List Nat} {rs : List Int} (hf : (f, rs.length) ∈ forms) {m : Int} (hm : m = 1 ∨ m = 2 ∨ m = 3) (a b c : Int) : ∀ v ∈ nearL x (.tup (f.map fun (i : Nat) => D.int (i : Int))) (rs.map .int) m, g12 [v, .int m] [sm a b c] = .ok (.bl false) [] [sm a b c] := by
  have hl : rs.length = 1 ∨ rs.length = 2 ∨ rs.length = 3 := by
    simp only [forms, List.mem_cons, List.not_mem_nil, or_false, Prod.mk.injEq] at hf
    omega
  obtain ⟨r, q, t, e⟩ : ∃ r q t : Int, rs.map D.int = ([.int r, .int q, .int t] : List D).take rs.length := by
    rcases hl with h | h | h
    · obtain ⟨r, rfl⟩ := len1 h
      exact ⟨r, 0, 0, rfl⟩
    · obtain ⟨r, q, rfl⟩ := len2 h
      exact ⟨r, q, 0, rfl⟩
    · obtain ⟨r, q, t, rfl⟩ := len3 h
      exact ⟨r, q, t, rfl⟩
  rw [e]
  rcases hm with rfl | rfl | rfl
  · have h1 : forms.map (fun f => (nearL x (.tup (f.1.map fun (i : Nat) => D.int (i : Int))) (([.int r, .int q, .int t] : List D).take f.2) 1).map fun v => g12 [v, .int 1] [sm a b c]) = forms.map fun _ => List.replicate 32 (.ok (.bl false) [] [sm a b c]) := by
      have h := map_at (F1 a b c r q t) hx
      exact h
    have h2 : (nearL x (.tup (f.map fun (i : Nat) => D.int (i : Int))) (([.int r, .int q, .int t] : List D).take rs.length) 1).map (fun v => g12 [v, .int 1] [sm a b c]) = List.replicate 32 (.ok (.bl false) [] [sm a b c]) := by
      have h := map_at h1 hf
      exact h
    exact of_rep (f := fun v => g12 [v, .int 1] [sm a b c]) h2
  · have h1 : forms.map (fun f => (nearL x (.tup (f.1.map fun (i : Nat) => D.int (i : Int))) (([.int r, .int q, .int t] : List D).take f.2) 2).map fun v => g12 [v, .int 2] [sm a b c]) = forms.map fun _ => List.replicate 32 (.ok (.bl false) [] [sm a b c]) := by
      have h := map_at (F2 a b c r q t) hx
      exact h
    have h2 : (nearL x (.tup (f.map fun (i : Nat) => D.int (i : Int))) (([.int r, .int q, .int t] : List D).take rs.length) 2).map (fun v => g12 [v, .int 2] [sm a b c]) = List.replicate 32 (.ok (.bl false) [] [sm a b c]) := by
      have h := map_at h1 hf
      exact h
    exact of_rep (f := fun v => g12 [v, .int 2] [sm a b c]) h2
  · have h1 : forms.map (fun f => (nearL x (.tup (f.1.map fun (i : Nat) => D.int (i : Int))) (([.int r, .int q, .int t] : List D).take f.2) 3).map fun v => g12 [v, .int 3] [sm a b c]) = forms.map fun _ => List.replicate 32 (.ok (.bl false) [] [sm a b c]) := by
      have h := map_at (F3 a b c r q t) hx
      exact h
    have h2 : (nearL x (.tup (f.map fun (i : Nat) => D.int (i : Int))) (([.int r, .int q, .int t] : List D).take rs.length) 3).map (fun v => g12 [v, .int 3] [sm a b c]) = List.replicate 32 (.ok (.bl false) [] [sm a b c]) := by
      have h := map_at h1 hf
      exact h
    exact of_rep (f := fun v => g12 [v, .int 3] [sm a b c]) h2
/-- what is told of a class -/
theorem told {x : D} (hx : x ∈ names) {f : List Nat} {rs : List Int} (hf : (f, rs.length) ∈ forms) {m : Int} (hm : m = 1 ∨ m = 2 ∨ m = 3) (hr : ∀ r ∈ rs, 0 ≤ r ∧ r < m) (row : D) (M : Mu) (a b c : Int) :
    evT P24 exA (e24 row m (kindD x f rs)) [sm a b c] = .ok false (e24 row m (kindD x f rs)) [sm a b c] ∧ evT P24 exB (e24 row m (kindD x f rs)) [sm a b c] = .ok false (e24 row m (kindD x f rs)) [sm a b c] ∧ evT P24 exC (e24 row m (kindD x f rs)) [sm a b c] = .ok false (e24 row m (kindD x f rs)) [sm a b c] ∧
    cmpD M .ne (kindD x f rs) (kindD x f rs) = some false := by
  have hx' := hx
  simp only [names, List.mem_cons, List.not_mem_nil, or_false] at hx'
  rcases hm with rfl | rfl | rfl
  · have k := mem_kinds (m := 1) hx hf hr
    refine ⟨map_at (A1 row a b c) k, ?_, map_at (C1 row a b c) k, map_at (E1 M) k⟩
    rcases hx' with rfl | rfl | rfl
    · exact map_at (B10 row a b c) (mem_kindsOf (m := 1) hf hr)
    · exact map_at (B11 row a b c) (mem_kindsOf (m := 1) hf hr)
    · exact map_at (B12 row a b c) (mem_kindsOf (m := 1) hf hr)
  · have k := mem_kinds (m := 2) hx hf hr
    refine ⟨map_at (A2 row a b c) k, ?_, map_at (C2 row a b c) k, map_at (E2 M) k⟩
    rcases hx' with rfl | rfl | rfl
    · exact map_at (B20 row a b c) (mem_kindsOf (m := 2) hf hr)
    · exact map_at (B21 row a b c) (mem_kindsOf (m := 2) hf hr)
    · exact map_at (B22 row a b c) (mem_kindsOf (m := 2) hf hr)
  · have k := mem_kinds (m := 3) hx hf hr
    refine ⟨map_at (A3 row a b c) k, ?_, map_at (C3 row a b c) k, map_at (E3 M) k⟩
    rcases hx' with rfl | rfl | rfl
    · exact map_at (B30 row a b c) (mem_kindsOf (m := 3) hf hr)
    · exact map_at (B31 row a b c) (mem_kindsOf (m := 3) hf hr)
    · exact map_at (B32 row a b c) (mem_kindsOf (m := 3) hf hr)
end Kl
end
section
set_option Elab.async false
set_option linter.all false
set_option maxRecDepth 100000
namespace Kl
open PySem Mn
theorem right (a b c : Int) : ∃ a' c', g24 [.cell 0] [sm a b c] = .ok (.bl true) [] [sm a' b c'] := by
  have f20 : P24.fn 20 = g20 := rfl
  have f15 : P24.fn 15 = g15 := rfl
  have f19 : P24.fn 19 = g19 := rfl
  have f11 : P24.fn 11 = g11 := rfl
  have f22 : P24.fn 22 = g22 := rfl
  have f23 : P24.fn 23 = g23 := rfl
  obtain ⟨x, vs, a1, c1, hx, hv, hd⟩ := drawn_row a b c
  obtain ⟨f, o, hf, hn, rfl⟩ := pat hv
  obtain ⟨r, a2, c2, hr0, hr1, hr⟩ := draw a1 b c1 3 [] (by decide) (by decide)
  obtain ⟨m, hm, rfl⟩ : ∃ m, (m = 1 ∨ m = 2 ∨ m = 3) ∧ 1 + r = m := ⟨1 + r, by omega, rfl⟩
  generalize hm' : 1 + r = m at *
  have m0 : 0 < m := by omega
  obtain ⟨s, rfl⟩ : ∃ s, x = .str s := by
    simp only [names, List.mem_cons, List.not_mem_nil, or_false] at hx
    rcases hx with rfl | rfl | rfl <;> exact ⟨_, rfl⟩
  obtain ⟨c7, c19⟩ := classed hf hn s a2 b c2 m0
  have c11 := cof hx hv hm below_kind c7
  have hrs : ∀ r ∈ o.map (· % m), 0 ≤ r ∧ r < m := by
    intro r hr
    obtain ⟨v, _, rfl⟩ := List.mem_map.mp hr
    exact ⟨Int.emod_nonneg _ (by omega), Int.emod_lt_of_pos _ m0⟩
  have hf' : (f, (o.map (· % m)).length) ∈ forms := by simpa using hf
  let row := rowD (.str s) (valsOf f o)
  let k := kindD (.str s) f (o.map (· % m))
  obtain ⟨tA, tB, tC, tE⟩ := told hx hf' hm hrs row [sm a2 b c2] a2 b c2
  obtain ⟨o', a3, c3, hf3, hn3, hm3, h22⟩ := moved (s := s) hf hn hm a2 b c2
  obtain ⟨d7, -⟩ := classed hf3 hn3 s a3 b c3 m0
  rw [hm3] at d7
  have d11 := cof hx (vals3 hf3) hm below_kind d7
  obtain ⟨uA, uB, uC, uE⟩ := told hx hf' hm hrs row [sm a3 b c3] a3 b c3
  have e1 : ev P24 (.tup [(.fn 20 [(.v 0)]), (.bin .add (.lit (.int 1)) (.fn 15 [(.v 0), (.lit (.int 3))]))]) [some (.cell 0), none, none, none, none] [sm a b c] = .ok (.tup [row, .int m]) [some (.cell 0), none, none, none, none] [sm a2 b c2] := by
    rw [← hm']
    exact ev_tup (evs_add (ev_fn (ds := [.cell 0]) rfl (by rw [f20]; exact hd)) (evs_one (ev_bin rfl (ev_fn (ds := [.cell 0, .int 3]) rfl (by rw [f15]; exact hr)) rfl))) rfl
  have s1 : ex P24 (.set (.tp [(.nm 1), (.nm 2)]) (.tup [(.fn 20 [(.v 0)]), (.bin .add (.lit (.int 1)) (.fn 15 [(.v 0), (.lit (.int 3))]))])) [some (.cell 0), none, none, none, none] [sm a b c] = .nx [some (.cell 0), some row, some (.int m), none, none] [sm a2 b c2] := ex_set e1 rfl
  have s2 : ex P24 (.set (.nm 3) (.fn 19 [(.v 1), (.v 2)])) [some (.cell 0), some row, some (.int m), none, none] [sm a2 b c2] = .nx (e24 row m k) [sm a2 b c2] := ex_set (ev_fn (ds := [row, .int m]) rfl (by rw [f19]; exact c19)) rfl
  have t1 : evT P24 (.or [(.cmp .ne (.fn 11 [(.v 1), (.v 2)]) (.v 3)), exA]) (e24 row m k) [sm a2 b c2] = .ok false (e24 row m k) [sm a2 b c2] :=
    evT_or2 (evT_cmp (y := k) (ev_fn (ds := [row, .int m]) rfl (by rw [f11]; exact c11)) rfl tE) tA
  have s3 : ex P24 (.ite (.or [(.cmp .ne (.fn 11 [(.v 1), (.v 2)]) (.v 3)), exA]) [(.ret (.lit (.bool false)))] []) (e24 row m k) [sm a2 b c2] = .nx (e24 row m k) [sm a2 b c2] := ex_ite t1 rfl
  have s4 : ex P24 (.ite exB [(.ret (.lit (.bool false)))] []) (e24 row m k) [sm a2 b c2] = .nx (e24 row m k) [sm a2 b c2] := ex_ite tB rfl
  have t5 : evT P24 (.or [(.cmp .ne (.fn 11 [(.fn 22 [(.v 0), (.v 1), (.v 2)]), (.v 2)]) (.v 3)), exC]) (e24 row m k) [sm a2 b c2] = .ok false (e24 row m k) [sm a3 b c3] :=
    evT_or2 (evT_cmp (y := k) (ev_fn (ds := [rowD (.str s) (valsOf f o'), .int m]) (m1 := [sm a3 b c3]) (evs_add (ev_fn (ds := [.cell 0, row, .int m]) rfl (by rw [f22]; exact h22)) rfl) (by rw [f11]; exact d11)) rfl uE) uC
  have s5 : ex P24 (.ite (.or [(.cmp .ne (.fn 11 [(.fn 22 [(.v 0), (.v 1), (.v 2)]), (.v 2)]) (.v 3)), exC]) [(.ret (.lit (.bool false)))] []) (e24 row m k) [sm a2 b c2] = .nx (e24 row m k) [sm a3 b c3] := ex_ite t5 rfl
  have s6 : ex P24 (.ret exD) (e24 row m k) [sm a3 b c3] = .rt (.bl true) [sm a3 b c3] :=
    ex_ret (ev_cmp (ev_lc (its_it (ev_fn (ds := [k, .int m]) rfl (by rw [f23]; exact near hf' m a3 b c3)) rfl) (skipAll _ (fars hx hf' hm a3 b c3)) (by simp)) rfl rfl)
  have all := exs_cons s1 (exs_cons s2 (exs_cons s3 (exs_cons s4 (exs_cons s5 (exs_rt (ss := []) s6)))))
  refine ⟨a3, c3, ?_⟩
  unfold g24
  exact run_by rfl rfl rfl all (trunc_sm rfl)
end Kl
end
section
set_option Elab.async false
set_option linter.all false
set_option maxRecDepth 100000
namespace Kl
open PySem Mn
theorem ex_forg {P : Pg} {vs : List Nat} {tg : Tg} {it : E} {b : List S} {e e1 : Mn.Env} {m m1 : Mu} {xs : List D} {r : Fl} (h : its P it e m = .ok xs e1 m1) (hr : forGo (bindTg tg) (fun r m => gcFl vs m.length (exs P b r m)) xs e1 m1 = r) : ex P (.forg vs tg it b) e m = r := by
  show ((its P it e m).fl fun xs r m => forGo (bindTg tg) (fun r m => gcFl vs m.length (exs P b r m)) xs r m) = _
  rw [h]
  exact hr
theorem ex_for {P : Pg} {tg : Tg} {it : E} {b : List S} {e e1 : Mn.Env} {m m1 : Mu} {xs : List D} {r : Fl} (h : its P it e m = .ok xs e1 m1) (hr : forGo (bindTg tg) (exs P b) xs e1 m1 = r) : ex P (.for_ tg it b) e m = r := by
  show ((its P it e m).fl fun xs r m => forGo (bindTg tg) (exs P b) xs r m) = _
  rw [h]
  exact hr
theorem forGo_nx {g : D → Mn.Env → Option Mn.Env} {f : Mn.Env → Mu → Fl} {x : D} {xs : List D} {e e1 e2 : Mn.Env} {m m2 : Mu} {r : Fl} (h1 : g x e = some e1) (h2 : f e1 m = .nx e2 m2) (h3 : forGo g f xs e2 m2 = r) : forGo g f (x :: xs) e m = r := by
  rw [forGo, h1]
  simp only
  rw [h2]
  exact h3
abbrev bodyT : List S := [(.ite (.not (.tr (.fn 24 [(.v 2)]))) [(.ret (.lit (.bool false)))] [])]
abbrev bodyA : List S := [(.set (.nm 2) (.fn 14 [(.v 0), (.v 1)])), (.for_ (.nm 3) (.rng1 (.lit (.int 8))) bodyT)]
theorem turns {ns : List Int} {k : D} {b : Int} : ∀ (ds : List D) (z : Option D) (a c : Int), ∃ z' a' c', forGo (bindTg (.nm 3)) (exs P25 bodyT) ds [some (.scr ns), some k, some (.cell 0), z, none] [sm a b c] = .nx [some (.scr ns), some k, some (.cell 0), z', none] [sm a' b c']
  | [], z, a, c => ⟨z, a, c, rfl⟩
  | d :: ds, z, a, c => by
    have f24 : P25.fn 24 = g24 := rfl
    obtain ⟨a1, c1, h⟩ := right a b c
    obtain ⟨z', a', c', h2⟩ := turns (ns := ns) (k := k) (b := b) ds (some d) a1 c1
    refine ⟨z', a', c', forGo_nx rfl ?_ h2⟩
    have t : evT P25 (.not (.tr (.fn 24 [(.v 2)]))) [some (.scr ns), some k, some (.cell 0), some d, none] [sm a b c] = .ok false [some (.scr ns), some k, some (.cell 0), some d, none] [sm a1 b c1] := by
      have q : ev P25 (.fn 24 [(.v 2)]) [some (.scr ns), some k, some (.cell 0), some d, none] [sm a b c] = .ok (.bl true) [some (.scr ns), some k, some (.cell 0), some d, none] [sm a1 b c1] := ev_fn (ds := [.cell 0]) rfl (by rw [f24]; exact h)
      show ((ev P25 (.fn 24 [(.v 2)]) _ _).bind _).bind _ = _
      rw [q]
      rfl
    exact exs_cons (ex_ite t rfl) rfl
theorem oneAt (ns : List Int) (k : Nat) : gcFl [2, 3] ([] : Mu).length (exs P25 bodyA [some (.scr ns), some (.int k), none, none, none] []) = .nx [some (.scr ns), some (.int k), none, none, none] [] := by
  have f14 : P25.fn 14 = g14 := rfl
  obtain ⟨a, b, h⟩ := stream ns k
  obtain ⟨z', a', c', h2⟩ := turns (ns := ns) (k := .int k) (b := b) ((List.range 8).map fun (i : Nat) => .int (0 + (i : Int))) none a 0
  have s1 : ex P25 (.set (.nm 2) (.fn 14 [(.v 0), (.v 1)])) [some (.scr ns), some (.int k), none, none, none] [] = .nx [some (.scr ns), some (.int k), some (.cell 0), none, none] [sm a b 0] := ex_set (ev_fn (ds := [.scr ns, .int k]) rfl (by rw [f14]; exact h)) rfl
  have s2 : ex P25 (.for_ (.nm 3) (.rng1 (.lit (.int 8))) bodyT) [some (.scr ns), some (.int k), some (.cell 0), none, none] [sm a b 0] = .nx [some (.scr ns), some (.int k), some (.cell 0), z', none] [sm a' b c'] := ex_for (its_rng1 rfl rfl) h2
  have all := exs_cons s1 (exs_cons s2 (exs_nil (P := P25)))
  rw [all]
  rfl
theorem ats {ns : List Int} : ∀ (ks : List Nat) (z : Option D), ∃ z', forGo (bindTg (.nm 1)) (fun r m => gcFl [2, 3] m.length (exs P25 bodyA r m)) (ks.map fun (k : Nat) => .int (k : Int)) [some (.scr ns), z, none, none, none] [] = .nx [some (.scr ns), z', none, none, none] []
  | [], z => ⟨z, rfl⟩
  | k :: ks, z => by
    obtain ⟨z', h⟩ := ats (ns := ns) ks (some (.int k))
    exact ⟨z', forGo_nx rfl (oneAt ns k) h⟩
theorem lastly (ns : List Int) (z : Option D) : exs P25 (b25.drop 1) [some (.scr ns), z, none, none, none] [] = .rt (.bl true) [] := by
  unfold b25
  rw [List.drop_succ_cons, List.drop_zero]
  kernel_rfl
theorem law_plain : ∀ ns : List Int, ns.length ≤ 63 → ∃ e m, Mn.run P25 1 5 b25 [.scr ns] [] = .ok (.bl true) e m := by
  intro ns hl
  generalize hj : (if (if (ns.length : Int) < 5 then (ns.length : Int) else 5) > 1 then (if (ns.length : Int) < 5 then (ns.length : Int) else 5) else 1) = j
  have hj2 : 1 ≤ j ∧ j ≤ 5 := by
    rw [← hj]
    split <;> split <;> omega
  have hi : its P25 (.rng1 (.bi .max [(.lit (.int 1)), (.bi .min [(.lit (.int 5)), (.bi .len [(.v 0)])])])) [some (.scr ns), none, none, none, none] [] = .ok ((List.range j.toNat).map fun (k : Nat) => .int (k : Int)) [some (.scr ns), none, none, none, none] [] := by
    have e1 : ev P25 (.bi .max [(.lit (.int 1)), (.bi .min [(.lit (.int 5)), (.bi .len [(.v 0)])])]) [some (.scr ns), none, none, none, none] [] = .ok (.int j) [some (.scr ns), none, none, none, none] [] := by
      rw [← hj]
      exact ev_bi2 rfl (ev_bi2 rfl (ev_bi1 (x := .scr ns) rfl rfl) rfl) rfl
    refine its_rng1 e1 ?_
    show (if -4611686018427387904 ≤ j ∧ j < 4611686018427387904 then some ((List.range j.toNat).map fun (i : Nat) => D.int (0 + (i : Int))) else none) = _
    rw [if_pos (by omega)]
    simp
  obtain ⟨z, h⟩ := ats (ns := ns) (List.range j.toNat) none
  have s1 := ex_forg hi h
  have all := exs_cons s1 (lastly ns z)
  exact ⟨[], [], run_by rfl (by rfl) rfl all rfl⟩
end Kl
end
set_option Elab.async false
set_option maxRecDepth 100000
namespace Kl
open PySem L2 Mn
theorem all_mk {w : World} {K : PySem.W.Frag} {h : Heap} {mg : Str → Option Value} {fa f0 f1 f2 f3 f4 f5 f6 f7 f8 f9 f10 f11 f12 f13 f14 f15 f16 f17 f18 f19 f20 f21 f22 f23 f24 f25 : Addr} (X : K.In h) (G : h.Ns mainGlobals mg) (hfa : mg "law" = some (.ref fa))
    {od0 an0 od1 an1 od2 an2 od3 an3 od4 an4 od5 an5 od6 an6 od7 an7 od8 an8 od9 an9 od10 an10 od11 an11 od12 an12 od13 an13 od14 an14 od15 an15 od16 an16 od17 an17 od18 an18 od19 an19 od20 an20 od21 an21 od22 an22 od23 an23 od24 an24 od25 an25 : Option Addr} {sl0 sl1 sl2 sl3 sl4 sl5 sl6 sl7 sl8 sl9 sl10 sl11 sl12 sl13 sl14 sl15 sl16 sl17 sl18 sl19 sl20 sl21 sl22 sl23 sl24 sl25 : Array (Option Value)} {oc0 kV0 dc0 pm0 cd0 ct0 oc1 kV1 dc1 pm1 cd1 ct1 oc2 kV2 dc2 pm2 cd2 ct2 oc3 kV3 dc3 pm3 cd3 ct3 oc4 kV4 dc4 pm4 cd4 ct4 oc5 kV5 dc5 pm5 cd5 ct5 oc6 kV6 dc6 pm6 cd6 ct6 oc7 kV7 dc7 pm7 cd7 ct7 oc8 kV8 dc8 pm8 cd8 ct8 oc9 kV9 dc9 pm9 cd9 ct9 oc10 kV10 dc10 pm10 cd10 ct10 oc11 kV11 dc11 pm11 cd11 ct11 oc12 kV12 dc12 pm12 cd12 ct12 oc13 kV13 dc13 pm13 cd13 ct13 oc14 kV14 dc14 pm14 cd14 ct14 oc15 kV15 dc15 pm15 cd15 ct15 oc16 kV16 dc16 pm16 cd16 ct16 oc17 kV17 dc17 pm17 cd17 ct17 oc18 kV18 dc18 pm18 cd18 ct18 oc19 kV19 dc19 pm19 cd19 ct19 oc20 kV20 dc20 pm20 cd20 ct20 oc21 kV21 dc21 pm21 cd21 ct21 oc22 kV22 dc22 pm22 cd22 ct22 oc23 kV23 dc23 pm23 cd23 ct23 oc24 kV24 dc24 pm24 cd24 ct24 oc25 kV25 dc25 pm25 cd25 ct25 : Value} {tk0 tk1 tk2 tk3 : Tok}
    (a0 : PySem.W.nsIn K mainGlobals "is_integer" = some (some (.ref f0))) (l0 : K.lookup f0 = some ⟨oc0, od0, .func (PySem.W.fnOf "is_integer" "is_integer" (defArgs t0) (defBody t0) (defScope t0) .none kV0 dc0 pm0 an0 cd0 ct0), sl0⟩) (cc0 : PySem.W.codeIn K cd0 "is_integer" = true) (k0 : PySem.W.keepIn K (.ref f0) = true)
    (a1 : PySem.W.nsIn K mainGlobals "is_between" = some (some (.ref f1))) (l1 : K.lookup f1 = some ⟨oc1, od1, .func (PySem.W.fnOf "is_between" "is_between" (defArgs t1) (defBody t1) (defScope t1) .none kV1 dc1 pm1 an1 cd1 ct1), sl1⟩) (cc1 : PySem.W.codeIn K cd1 "is_between" = true) (k1 : PySem.W.keepIn K (.ref f1) = true)
    (a2 : PySem.W.nsIn K mainGlobals "is_name" = some (some (.ref f2))) (l2 : K.lookup f2 = some ⟨oc2, od2, .func (PySem.W.fnOf "is_name" "is_name" (defArgs t2) (defBody t2) (defScope t2) .none kV2 dc2 pm2 an2 cd2 ct2), sl2⟩) (cc2 : PySem.W.codeIn K cd2 "is_name" = true) (k2 : PySem.W.keepIn K (.ref f2) = true)
    (a3 : PySem.W.nsIn K mainGlobals "is_row" = some (some (.ref f3))) (l3 : K.lookup f3 = some ⟨oc3, od3, .func (PySem.W.fnOf "is_row" "is_row" (defArgs t3) (defBody t3) (defScope t3) .none kV3 dc3 pm3 an3 cd3 ct3), sl3⟩) (cc3 : PySem.W.codeIn K cd3 "is_row" = true) (k3 : PySem.W.keepIn K (.ref f3) = true)
    (a4 : PySem.W.nsIn K mainGlobals "require_row" = some (some (.ref f4))) (l4 : K.lookup f4 = some ⟨oc4, od4, .func (PySem.W.fnOf "require_row" "require_row" (defArgs t4) (defBody t4) (defScope t4) .none kV4 dc4 pm4 an4 cd4 ct4), sl4⟩) (cc4 : PySem.W.codeIn K cd4 "require_row" = true) (k4 : PySem.W.keepIn K (.ref f4) = true)
    (a5 : PySem.W.nsIn K mainGlobals "require_modulus" = some (some (.ref f5))) (l5 : K.lookup f5 = some ⟨oc5, od5, .func (PySem.W.fnOf "require_modulus" "require_modulus" (defArgs t5) (defBody t5) (defScope t5) .none kV5 dc5 pm5 an5 cd5 ct5), sl5⟩) (cc5 : PySem.W.codeIn K cd5 "require_modulus" = true) (k5 : PySem.W.keepIn K (.ref f5) = true)
    (a6 : PySem.W.nsIn K mainGlobals "numbered" = some (some (.ref f6))) (l6 : K.lookup f6 = some ⟨oc6, od6, .func (PySem.W.fnOf "numbered" "numbered" (defArgs t6) (defBody t6) (defScope t6) .none kV6 dc6 pm6 an6 cd6 ct6), sl6⟩) (cc6 : PySem.W.codeIn K cd6 "numbered" = true) (k6 : PySem.W.keepIn K (.ref f6) = true)
    (a7 : PySem.W.nsIn K mainGlobals "class_in" = some (some (.ref f7))) (l7 : K.lookup f7 = some ⟨oc7, od7, .func (PySem.W.fnOf "class_in" "class_in" (defArgs t7) (defBody t7) (defScope t7) .none kV7 dc7 pm7 an7 cd7 ct7), sl7⟩) (cc7 : PySem.W.codeIn K cd7 "class_in" = true) (k7 : PySem.W.keepIn K (.ref f7) = true)
    (a8 : PySem.W.nsIn K mainGlobals "is_form" = some (some (.ref f8))) (l8 : K.lookup f8 = some ⟨oc8, od8, .func (PySem.W.fnOf "is_form" "is_form" (defArgs t8) (defBody t8) (defScope t8) .none kV8 dc8 pm8 an8 cd8 ct8), sl8⟩) (cc8 : PySem.W.codeIn K cd8 "is_form" = true) (k8 : PySem.W.keepIn K (.ref f8) = true)
    (a9 : PySem.W.nsIn K mainGlobals "is_class_in" = some (some (.ref f9))) (l9 : K.lookup f9 = some ⟨oc9, od9, .func (PySem.W.fnOf "is_class_in" "is_class_in" (defArgs t9) (defBody t9) (defScope t9) .none kV9 dc9 pm9 an9 cd9 ct9), sl9⟩) (cc9 : PySem.W.codeIn K cd9 "is_class_in" = true) (k9 : PySem.W.keepIn K (.ref f9) = true)
    (a10 : PySem.W.nsIn K mainGlobals "require_class" = some (some (.ref f10))) (l10 : K.lookup f10 = some ⟨oc10, od10, .func (PySem.W.fnOf "require_class" "require_class" (defArgs t10) (defBody t10) (defScope t10) .none kV10 dc10 pm10 an10 cd10 ct10), sl10⟩) (cc10 : PySem.W.codeIn K cd10 "require_class" = true) (k10 : PySem.W.keepIn K (.ref f10) = true)
    (a11 : PySem.W.nsIn K mainGlobals "class_of" = some (some (.ref f11))) (l11 : K.lookup f11 = some ⟨oc11, od11, .func (PySem.W.fnOf "class_of" "class_of" (defArgs t11) (defBody t11) (defScope t11) .none kV11 dc11 pm11 an11 cd11 ct11), sl11⟩) (cc11 : PySem.W.codeIn K cd11 "class_of" = true) (k11 : PySem.W.keepIn K (.ref f11) = true)
    (a12 : PySem.W.nsIn K mainGlobals "is_class" = some (some (.ref f12))) (l12 : K.lookup f12 = some ⟨oc12, od12, .func (PySem.W.fnOf "is_class" "is_class" (defArgs t12) (defBody t12) (defScope t12) .none kV12 dc12 pm12 an12 cd12 ct12), sl12⟩) (cc12 : PySem.W.codeIn K cd12 "is_class" = true) (k12 : PySem.W.keepIn K (.ref f12) = true)
    (a13 : PySem.W.nsIn K mainGlobals "row_of" = some (some (.ref f13))) (l13 : K.lookup f13 = some ⟨oc13, od13, .func (PySem.W.fnOf "row_of" "row_of" (defArgs t13) (defBody t13) (defScope t13) .none kV13 dc13 pm13 an13 cd13 ct13), sl13⟩) (cc13 : PySem.W.codeIn K cd13 "row_of" = true) (k13 : PySem.W.keepIn K (.ref f13) = true)
    (a14 : PySem.W.nsIn K mainGlobals "_law_stream" = some (some (.ref f14))) (l14 : K.lookup f14 = some ⟨oc14, od14, .func (PySem.W.fnOf "_law_stream" "_law_stream" (defArgs t14) (defBody t14) (defScope t14) .none kV14 dc14 pm14 an14 cd14 ct14), sl14⟩) (cc14 : PySem.W.codeIn K cd14 "_law_stream" = true) (k14 : PySem.W.keepIn K (.ref f14) = true)
    (a15 : PySem.W.nsIn K mainGlobals "_law_draw" = some (some (.ref f15))) (l15 : K.lookup f15 = some ⟨oc15, od15, .func (PySem.W.fnOf "_law_draw" "_law_draw" (defArgs t15) (defBody t15) (defScope t15) .none kV15 dc15 pm15 an15 cd15 ct15), sl15⟩) (cc15 : PySem.W.codeIn K cd15 "_law_draw" = true) (k15 : PySem.W.keepIn K (.ref f15) = true)
    (a16 : PySem.W.nsIn K mainGlobals "_law_pick" = some (some (.ref f16))) (l16 : K.lookup f16 = some ⟨oc16, od16, .func (PySem.W.fnOf "_law_pick" "_law_pick" (defArgs t16) (defBody t16) (defScope t16) .none kV16 dc16 pm16 an16 cd16 ct16), sl16⟩) (cc16 : PySem.W.codeIn K cd16 "_law_pick" = true) (k16 : PySem.W.keepIn K (.ref f16) = true)
    (a17 : PySem.W.nsIn K mainGlobals "_law_mixed" = some (some (.ref f17))) (l17 : K.lookup f17 = some ⟨oc17, od17, .func (PySem.W.fnOf "_law_mixed" "_law_mixed" (defArgs t17) (defBody t17) (defScope t17) .none kV17 dc17 pm17 an17 cd17 ct17), sl17⟩) (cc17 : PySem.W.codeIn K cd17 "_law_mixed" = true) (k17 : PySem.W.keepIn K (.ref f17) = true)
    (a18 : PySem.W.nsIn K mainGlobals "_law_values" = some (some (.ref f18))) (l18 : K.lookup f18 = some ⟨oc18, od18, .func (PySem.W.fnOf "_law_values" "_law_values" (defArgs t18) (defBody t18) (defScope t18) .none kV18 dc18 pm18 an18 cd18 ct18), sl18⟩) (cc18 : PySem.W.codeIn K cd18 "_law_values" = true) (k18 : PySem.W.keepIn K (.ref f18) = true)
    (a19 : PySem.W.nsIn K mainGlobals "_law_class" = some (some (.ref f19))) (l19 : K.lookup f19 = some ⟨oc19, od19, .func (PySem.W.fnOf "_law_class" "_law_class" (defArgs t19) (defBody t19) (defScope t19) .none kV19 dc19 pm19 an19 cd19 ct19), sl19⟩) (cc19 : PySem.W.codeIn K cd19 "_law_class" = true) (k19 : PySem.W.keepIn K (.ref f19) = true)
    (a20 : PySem.W.nsIn K mainGlobals "_law_drawn_row" = some (some (.ref f20))) (l20 : K.lookup f20 = some ⟨oc20, od20, .func (PySem.W.fnOf "_law_drawn_row" "_law_drawn_row" (defArgs t20) (defBody t20) (defScope t20) .none kV20 dc20 pm20 an20 cd20 ct20), sl20⟩) (cc20 : PySem.W.codeIn K cd20 "_law_drawn_row" = true) (k20 : PySem.W.keepIn K (.ref f20) = true)
    (a21 : PySem.W.nsIn K mainGlobals "_law_row" = some (some (.ref f21))) (l21 : K.lookup f21 = some ⟨oc21, od21, .func (PySem.W.fnOf "_law_row" "_law_row" (defArgs t21) (defBody t21) (defScope t21) .none kV21 dc21 pm21 an21 cd21 ct21), sl21⟩) (cc21 : PySem.W.codeIn K cd21 "_law_row" = true) (k21 : PySem.W.keepIn K (.ref f21) = true)
    (a22 : PySem.W.nsIn K mainGlobals "_law_moved" = some (some (.ref f22))) (l22 : K.lookup f22 = some ⟨oc22, od22, .func (PySem.W.fnOf "_law_moved" "_law_moved" (defArgs t22) (defBody t22) (defScope t22) .none kV22 dc22 pm22 an22 cd22 ct22), sl22⟩) (cc22 : PySem.W.codeIn K cd22 "_law_moved" = true) (k22 : PySem.W.keepIn K (.ref f22) = true)
    (a23 : PySem.W.nsIn K mainGlobals "_law_near" = some (some (.ref f23))) (l23 : K.lookup f23 = some ⟨oc23, od23, .func (PySem.W.fnOf "_law_near" "_law_near" (defArgs t23) (defBody t23) (defScope t23) .none kV23 dc23 pm23 an23 cd23 ct23), sl23⟩) (cc23 : PySem.W.codeIn K cd23 "_law_near" = true) (k23 : PySem.W.keepIn K (.ref f23) = true)
    (a24 : PySem.W.nsIn K mainGlobals "_law_right" = some (some (.ref f24))) (l24 : K.lookup f24 = some ⟨oc24, od24, .func (PySem.W.fnOf "_law_right" "_law_right" (defArgs t24) (defBody t24) (defScope t24) .none kV24 dc24 pm24 an24 cd24 ct24), sl24⟩) (cc24 : PySem.W.codeIn K cd24 "_law_right" = true) (k24 : PySem.W.keepIn K (.ref f24) = true)
    (a25 : PySem.W.nsIn K mainGlobals "law" = some (some (.ref f25))) (l25 : K.lookup f25 = some ⟨oc25, od25, .func (PySem.W.fnOf "law" "law" (defArgs t25) (defBody t25) (defScope t25) .none kV25 dc25 pm25 an25 cd25 ct25), sl25⟩) (cc25 : PySem.W.codeIn K cd25 "law" = true) (k25 : PySem.W.keepIn K (.ref f25) = true)
    (v0 : PySem.W.nsIn K mainGlobals "MAX_LETTERS" = some (some (.int 8 tk0)))
    (v1 : PySem.W.nsIn K mainGlobals "MAX_VALUES" = some (some (.int 3 tk1)))
    (v2 : PySem.W.nsIn K mainGlobals "MAX_MODULUS" = some (some (.int 3 tk2)))
    (v3 : PySem.W.nsIn K mainGlobals "MOST_COLUMNS" = some (some (.int 3 tk3)))
    (z0 : PySem.W.nsIn K mainGlobals "abs" = some none)
    (z1 : PySem.W.nsIn K mainGlobals "all" = some none)
    (z2 : PySem.W.nsIn K mainGlobals "bool" = some none)
    (z3 : PySem.W.nsIn K mainGlobals "dict" = some none)
    (z4 : PySem.W.nsIn K mainGlobals "enumerate" = some none)
    (z5 : PySem.W.nsIn K mainGlobals "int" = some none)
    (z6 : PySem.W.nsIn K mainGlobals "isinstance" = some none)
    (z7 : PySem.W.nsIn K mainGlobals "len" = some none)
    (z8 : PySem.W.nsIn K mainGlobals "list" = some none)
    (z9 : PySem.W.nsIn K mainGlobals "max" = some none)
    (z10 : PySem.W.nsIn K mainGlobals "min" = some none)
    (z11 : PySem.W.nsIn K mainGlobals "range" = some none)
    (z12 : PySem.W.nsIn K mainGlobals "repr" = some none)
    (z13 : PySem.W.nsIn K mainGlobals "set" = some none)
    (z14 : PySem.W.nsIn K mainGlobals "sorted" = some none)
    (z15 : PySem.W.nsIn K mainGlobals "str" = some none)
    (z16 : PySem.W.nsIn K mainGlobals "tuple" = some none)
    (z17 : PySem.W.nsIn K mainGlobals "zip" = some none) :
    ∃ fd : FuncData, (∀ (s : Shared) (v : Value), BindsTo s fd ⟨[v], []⟩ [("script", v)]) ∧ ∀ base : Heap, K.In base → base.Ns mainGlobals mg → FnOk PySem.Challenge.rw_meetrows_k48_classes_of_rows.prog w K mg base CX0 7 fa fd ["script"] (spD K g25 1) := by
  have e := hfa.symm.trans (PySem.W.mg_of X G a25)
  cases e
  have F0 := fun_mk (st := t0) l0 cc0 k0
  have F1 := fun_mk (st := t1) l1 cc1 k1
  have F2 := fun_mk (st := t2) l2 cc2 k2
  have F3 := fun_mk (st := t3) l3 cc3 k3
  have F4 := fun_mk (st := t4) l4 cc4 k4
  have F5 := fun_mk (st := t5) l5 cc5 k5
  have F6 := fun_mk (st := t6) l6 cc6 k6
  have F7 := fun_mk (st := t7) l7 cc7 k7
  have F8 := fun_mk (st := t8) l8 cc8 k8
  have F9 := fun_mk (st := t9) l9 cc9 k9
  have F10 := fun_mk (st := t10) l10 cc10 k10
  have F11 := fun_mk (st := t11) l11 cc11 k11
  have F12 := fun_mk (st := t12) l12 cc12 k12
  have F13 := fun_mk (st := t13) l13 cc13 k13
  have F14 := fun_mk (st := t14) l14 cc14 k14
  have F15 := fun_mk (st := t15) l15 cc15 k15
  have F16 := fun_mk (st := t16) l16 cc16 k16
  have F17 := fun_mk (st := t17) l17 cc17 k17
  have F18 := fun_mk (st := t18) l18 cc18 k18
  have F19 := fun_mk (st := t19) l19 cc19 k19
  have F20 := fun_mk (st := t20) l20 cc20 k20
  have F21 := fun_mk (st := t21) l21 cc21 k21
  have F22 := fun_mk (st := t22) l22 cc22 k22
  have F23 := fun_mk (st := t23) l23 cc23 k23
  have F24 := fun_mk (st := t24) l24 cc24 k24
  have F25 := fun_mk (st := t25) l25 cc25 k25
  refine ⟨PySem.W.fnOf "law" "law" (defArgs t25) (defBody t25) (defScope t25) .none kV25 dc25 pm25 an25 cd25 ct25, fun s v => .of_eq rfl, fun base _ _ => ?_⟩
  have M0 : FnM PySem.Challenge.rw_meetrows_k48_classes_of_rows.prog w K mg base 1 g0 "is_integer" := def_m (P := P0) (k := 0) F0 s0 c0 (one_cons (PySem.W.mg_none_of X G z2) (one_cons (PySem.W.mg_none_of X G z5) (one_cons (PySem.W.mg_none_of X G z6) one_nil))) two_nil two_nil (PySem.W.mg_of X G a0) (F0.binds (ps := ["value"]) fun _ _ _ _ _ _ us hl => match us, hl with | [_], _ => rfl)
  have M1 : FnM PySem.Challenge.rw_meetrows_k48_classes_of_rows.prog w K mg base 2 g1 "is_between" := def_m (P := P1) (k := 1) F1 s1 c1 one_nil (two_cons (M0.mono (by decide)) two_nil) two_nil (PySem.W.mg_of X G a1) (F1.binds (ps := ["value", "low", "high"]) fun _ _ _ _ _ _ us hl => match us, hl with | [_, _, _], _ => rfl)
  have M2 : FnM PySem.Challenge.rw_meetrows_k48_classes_of_rows.prog w K mg base 1 g2 "is_name" := def_m (P := P2) (k := 0) F2 s2 c2 (one_cons (PySem.W.mg_none_of X G z1) (one_cons (PySem.W.mg_none_of X G z6) (one_cons (PySem.W.mg_none_of X G z7) (one_cons (PySem.W.mg_none_of X G z15) one_nil)))) two_nil (two_cons (gl_int (PySem.W.mg_of X G v0)) two_nil) (PySem.W.mg_of X G a2) (F2.binds (ps := ["value"]) fun _ _ _ _ _ _ us hl => match us, hl with | [_], _ => rfl)
  have M3 : FnM PySem.Challenge.rw_meetrows_k48_classes_of_rows.prog w K mg base 2 g3 "is_row" := def_m (P := P3) (k := 1) F3 s3 c3 (one_cons (PySem.W.mg_none_of X G z1) (one_cons (PySem.W.mg_none_of X G z6) (one_cons (PySem.W.mg_none_of X G z7) (one_cons (PySem.W.mg_none_of X G z16) one_nil)))) (two_cons (M2.mono (by decide)) (two_cons (M0.mono (by decide)) two_nil)) (two_cons (gl_int (PySem.W.mg_of X G v1)) two_nil) (PySem.W.mg_of X G a3) (F3.binds (ps := ["value"]) fun _ _ _ _ _ _ us hl => match us, hl with | [_], _ => rfl)
  have M4 : FnM PySem.Challenge.rw_meetrows_k48_classes_of_rows.prog w K mg base 3 g4 "require_row" := def_m (P := P4) (k := 2) F4 s4 c4 one_nil (two_cons (M3.mono (by decide)) two_nil) two_nil (PySem.W.mg_of X G a4) (F4.binds (ps := ["row"]) fun _ _ _ _ _ _ us hl => match us, hl with | [_], _ => rfl)
  have M5 : FnM PySem.Challenge.rw_meetrows_k48_classes_of_rows.prog w K mg base 3 g5 "require_modulus" := def_m (P := P5) (k := 2) F5 s5 c5 one_nil (two_cons (M1.mono (by decide)) two_nil) (two_cons (gl_int (PySem.W.mg_of X G v2)) two_nil) (PySem.W.mg_of X G a5) (F5.binds (ps := ["modulus"]) fun _ _ _ _ _ _ us hl => match us, hl with | [_], _ => rfl)
  have M6 : FnM PySem.Challenge.rw_meetrows_k48_classes_of_rows.prog w K mg base 1 g6 "numbered" := def_m (P := P6) (k := 0) F6 s6 c6 (one_cons (PySem.W.mg_none_of X G z7) (one_cons (PySem.W.mg_none_of X G z8) (one_cons (PySem.W.mg_none_of X G z16) one_nil))) two_nil two_nil (PySem.W.mg_of X G a6) (F6.binds (ps := ["values"]) fun _ _ _ _ _ _ us hl => match us, hl with | [_], _ => rfl)
  have M7 : FnM PySem.Challenge.rw_meetrows_k48_classes_of_rows.prog w K mg base 2 g7 "class_in" := def_m (P := P7) (k := 1) F7 s7 c7 (one_cons (PySem.W.mg_none_of X G z16) one_nil) (two_cons (M6.mono (by decide)) two_nil) two_nil (PySem.W.mg_of X G a7) (F7.binds (ps := ["row", "modulus"]) fun _ _ _ _ _ _ us hl => match us, hl with | [_, _], _ => rfl)
  have M8 : FnM PySem.Challenge.rw_meetrows_k48_classes_of_rows.prog w K mg base 2 g8 "is_form" := def_m (P := P8) (k := 1) F8 s8 c8 (one_cons (PySem.W.mg_none_of X G z1) (one_cons (PySem.W.mg_none_of X G z6) (one_cons (PySem.W.mg_none_of X G z7) (one_cons (PySem.W.mg_none_of X G z16) one_nil)))) (two_cons (M0.mono (by decide)) (two_cons (M6.mono (by decide)) two_nil)) (two_cons (gl_int (PySem.W.mg_of X G v3)) two_nil) (PySem.W.mg_of X G a8) (F8.binds (ps := ["value"]) fun _ _ _ _ _ _ us hl => match us, hl with | [_], _ => rfl)
  have M9 : FnM PySem.Challenge.rw_meetrows_k48_classes_of_rows.prog w K mg base 3 g9 "is_class_in" := def_m (P := P9) (k := 2) F9 s9 c9 (one_cons (PySem.W.mg_none_of X G z1) (one_cons (PySem.W.mg_none_of X G z6) (one_cons (PySem.W.mg_none_of X G z7) (one_cons (PySem.W.mg_none_of X G z9) (one_cons (PySem.W.mg_none_of X G z16) one_nil))))) (two_cons (M2.mono (by decide)) (two_cons (M8.mono (by decide)) (two_cons (M1.mono (by decide)) two_nil))) two_nil (PySem.W.mg_of X G a9) (F9.binds (ps := ["value", "modulus"]) fun _ _ _ _ _ _ us hl => match us, hl with | [_, _], _ => rfl)
  have M10 : FnM PySem.Challenge.rw_meetrows_k48_classes_of_rows.prog w K mg base 4 g10 "require_class" := def_m (P := P10) (k := 3) F10 s10 c10 one_nil (two_cons (M9.mono (by decide)) two_nil) two_nil (PySem.W.mg_of X G a10) (F10.binds (ps := ["kind", "modulus"]) fun _ _ _ _ _ _ us hl => match us, hl with | [_, _], _ => rfl)
  have M11 : FnM PySem.Challenge.rw_meetrows_k48_classes_of_rows.prog w K mg base 4 g11 "class_of" := def_m (P := P11) (k := 3) F11 s11 c11 one_nil (two_cons (M4.mono (by decide)) (two_cons (M5.mono (by decide)) (two_cons (M7.mono (by decide)) two_nil))) two_nil (PySem.W.mg_of X G a11) (F11.binds (ps := ["row", "modulus"]) fun _ _ _ _ _ _ us hl => match us, hl with | [_, _], _ => rfl)
  have M12 : FnM PySem.Challenge.rw_meetrows_k48_classes_of_rows.prog w K mg base 4 g12 "is_class" := def_m (P := P12) (k := 3) F12 s12 c12 one_nil (two_cons (M5.mono (by decide)) (two_cons (M9.mono (by decide)) two_nil)) two_nil (PySem.W.mg_of X G a12) (F12.binds (ps := ["value", "modulus"]) fun _ _ _ _ _ _ us hl => match us, hl with | [_, _], _ => rfl)
  have M13 : FnM PySem.Challenge.rw_meetrows_k48_classes_of_rows.prog w K mg base 5 g13 "row_of" := def_m (P := P13) (k := 4) F13 s13 c13 (one_cons (PySem.W.mg_none_of X G z4) one_nil) (two_cons (M5.mono (by decide)) (two_cons (M10.mono (by decide)) two_nil)) two_nil (PySem.W.mg_of X G a13) (F13.binds (ps := ["kind", "modulus"]) fun _ _ _ _ _ _ us hl => match us, hl with | [_, _], _ => rfl)
  have M14 : FnM PySem.Challenge.rw_meetrows_k48_classes_of_rows.prog w K mg base 1 g14 "_law_stream" := def_m (P := P14) (k := 0) F14 s14 c14 (one_cons (PySem.W.mg_none_of X G z0) (one_cons (PySem.W.mg_none_of X G z5) (one_cons (PySem.W.mg_none_of X G z7) (one_cons (PySem.W.mg_none_of X G z9) one_nil)))) two_nil two_nil (PySem.W.mg_of X G a14) (F14.binds (ps := ["script", "at"]) fun _ _ _ _ _ _ us hl => match us, hl with | [_, _], _ => rfl)
  have M15 : FnM PySem.Challenge.rw_meetrows_k48_classes_of_rows.prog w K mg base 1 g15 "_law_draw" := def_m (P := P15) (k := 0) F15 s15 c15 (one_cons (PySem.W.mg_none_of X G z5) one_nil) two_nil two_nil (PySem.W.mg_of X G a15) (F15.binds (ps := ["stream", "high"]) fun _ _ _ _ _ _ us hl => match us, hl with | [_, _], _ => rfl)
  have M16 : FnM PySem.Challenge.rw_meetrows_k48_classes_of_rows.prog w K mg base 2 g16 "_law_pick" := def_m (P := P16) (k := 1) F16 s16 c16 (one_cons (PySem.W.mg_none_of X G z7) one_nil) (two_cons (M15.mono (by decide)) two_nil) two_nil (PySem.W.mg_of X G a16) (F16.binds (ps := ["stream", "items"]) fun _ _ _ _ _ _ us hl => match us, hl with | [_, _], _ => rfl)
  have M17 : FnM PySem.Challenge.rw_meetrows_k48_classes_of_rows.prog w K mg base 2 g17 "_law_mixed" := def_m (P := P17) (k := 1) F17 s17 c17 (one_cons (PySem.W.mg_none_of X G z7) (one_cons (PySem.W.mg_none_of X G z8) (one_cons (PySem.W.mg_none_of X G z11) one_nil))) (two_cons (M15.mono (by decide)) two_nil) two_nil (PySem.W.mg_of X G a17) (F17.binds (ps := ["stream", "items"]) fun _ _ _ _ _ _ us hl => match us, hl with | [_, _], _ => rfl)
  have M18 : FnM PySem.Challenge.rw_meetrows_k48_classes_of_rows.prog w K mg base 1 g18 "_law_values" := def_m (P := P18) (k := 0) F18 s18 c18 (one_cons (PySem.W.mg_none_of X G z8) (one_cons (PySem.W.mg_none_of X G z13) (one_cons (PySem.W.mg_none_of X G z14) one_nil))) two_nil two_nil (PySem.W.mg_of X G a18) (F18.binds (ps := ["rows"]) fun _ _ _ _ _ _ us hl => match us, hl with | [_], _ => rfl)
  have M19 : FnM PySem.Challenge.rw_meetrows_k48_classes_of_rows.prog w K mg base 1 g19 "_law_class" := def_m (P := P19) (k := 0) F19 s19 c19 (one_cons (PySem.W.mg_none_of X G z4) (one_cons (PySem.W.mg_none_of X G z5) (one_cons (PySem.W.mg_none_of X G z16) one_nil))) two_nil two_nil (PySem.W.mg_of X G a19) (F19.binds (ps := ["row", "m"]) fun _ _ _ _ _ _ us hl => match us, hl with | [_, _], _ => rfl)
  have M20 : FnM PySem.Challenge.rw_meetrows_k48_classes_of_rows.prog w K mg base 3 g20 "_law_drawn_row" := def_m (P := P20) (k := 2) F20 s20 c20 (one_cons (PySem.W.mg_none_of X G z11) (one_cons (PySem.W.mg_none_of X G z16) one_nil)) (two_cons (M17.mono (by decide)) (two_cons (M15.mono (by decide)) (two_cons (M16.mono (by decide)) two_nil))) two_nil (PySem.W.mg_of X G a20) (F20.binds (ps := ["stream"]) fun _ _ _ _ _ _ us hl => match us, hl with | [_], _ => rfl)
  have M21 : FnM PySem.Challenge.rw_meetrows_k48_classes_of_rows.prog w K mg base 1 g21 "_law_row" := def_m (P := P21) (k := 0) F21 s21 c21 (one_cons (PySem.W.mg_none_of X G z4) (one_cons (PySem.W.mg_none_of X G z16) one_nil)) two_nil two_nil (PySem.W.mg_of X G a21) (F21.binds (ps := ["kind", "m"]) fun _ _ _ _ _ _ us hl => match us, hl with | [_, _], _ => rfl)
  have M22 : FnM PySem.Challenge.rw_meetrows_k48_classes_of_rows.prog w K mg base 3 g22 "_law_moved" := def_m (P := P22) (k := 2) F22 s22 c22 (one_cons (PySem.W.mg_none_of X G z3) (one_cons (PySem.W.mg_none_of X G z5) (one_cons (PySem.W.mg_none_of X G z16) (one_cons (PySem.W.mg_none_of X G z17) one_nil)))) (two_cons (M18.mono (by decide)) (two_cons (M17.mono (by decide)) two_nil)) two_nil (PySem.W.mg_of X G a22) (F22.binds (ps := ["stream", "row", "m"]) fun _ _ _ _ _ _ us hl => match us, hl with | [_, _, _], _ => rfl)
  have M23 : FnM PySem.Challenge.rw_meetrows_k48_classes_of_rows.prog w K mg base 1 g23 "_law_near" := def_m (P := P23) (k := 0) F23 s23 c23 (one_cons (PySem.W.mg_none_of X G z8) one_nil) two_nil two_nil (PySem.W.mg_of X G a23) (F23.binds (ps := ["kind", "m"]) fun _ _ _ _ _ _ us hl => match us, hl with | [_, _], _ => rfl)
  have M24 : FnM PySem.Challenge.rw_meetrows_k48_classes_of_rows.prog w K mg base 6 g24 "_law_right" := def_m (P := P24) (k := 5) F24 s24 c24 (one_cons (PySem.W.mg_none_of X G z8) (one_cons (PySem.W.mg_none_of X G z9) (one_cons (PySem.W.mg_none_of X G z12) one_nil))) (two_cons (M20.mono (by decide)) (two_cons (M15.mono (by decide)) (two_cons (M19.mono (by decide)) (two_cons (M11.mono (by decide)) (two_cons (M12.mono (by decide)) (two_cons (M13.mono (by decide)) (two_cons (M21.mono (by decide)) (two_cons (M22.mono (by decide)) (two_cons (M23.mono (by decide)) two_nil))))))))) two_nil (PySem.W.mg_of X G a24) (F24.binds (ps := ["stream"]) fun _ _ _ _ _ _ us hl => match us, hl with | [_], _ => rfl)
  exact def_ok (P := P25) (k := 6) F25 s25 c25 (one_cons (PySem.W.mg_none_of X G z7) (one_cons (PySem.W.mg_none_of X G z9) (one_cons (PySem.W.mg_none_of X G z10) (one_cons (PySem.W.mg_none_of X G z11) one_nil)))) (two_cons (M14.mono (by decide)) (two_cons (M24.mono (by decide)) (two_cons (M11.mono (by decide)) (two_cons (M13.mono (by decide)) two_nil)))) two_nil
theorem walk {l : PySem.W.OpenLaw} {q : Program} {loose : List Str} {XP : (Str → Option Value) → Heap → Prop} {YP : World → Heap → Prop} {d : DefRec} {K : Params → PySem.W.Frag} (hn : l.most = some 63) (hdf : d.params.defaults = [])
    (hY : ∀ (w : World) (h : Heap), YP w h → (K w.params).In h)
    (F : ∀ (w : World) (mg : Str → Option Value) (fa : Addr) (h : Heap), (K w.params).In h → h.Ns mainGlobals mg → mg d.name = some (.ref fa) →
      ∃ fd : FuncData, (∀ (s : Shared) (u : Value), BindsTo s fd ⟨[u], []⟩ [("script", u)]) ∧ ∀ base : Heap, (K w.params).In base → base.Ns mainGlobals mg → FnOk l.prog w (K w.params) mg base CX0 7 fa fd ["script"] (spD (K w.params) g25 1)) :
    PySem.W.WalkO q loose XP YP l.row.toRowW d [] (fun f vs => PySem.call f vs) :=
  L2.walk_of (n := 63) (k := 7) (x := "script") (CX := fun _ => CX0) (sp := fun w => spD (K w.params) g25 1) hn (by decide) hdf ⟨rfl, by decide, by decide⟩ hY F (fun _ _ a ns hl _ hS => law_sp law_plain hl hS) fun _ _ _ _ _ z => z
end Kl
open PySem PySem.W PyProof.Rows
set_option maxRecDepth 100000 in
set_option maxHeartbeats 0 in
theorem PySem.Challenge.cw_meetrows_k48_classes_of_rows_holds : PySem.Challenge.rw_meetrows_k48_classes_of_rows.Holds := by
  w_on; o_law; k_head; (case hw => w_witness2)
  k_fill
  refine Kl.walk (l := PySem.Challenge.rw_meetrows_k48_classes_of_rows) rfl rfl (fun w h Y => PySem.W.kIn_of Y) ?F
  case F =>
    intro w mg fa h KX G hmg
    refine' Kl.all_mk KX G hmg ?a0 ?l0 ?cc0 ?k0 ?a1 ?l1 ?cc1 ?k1 ?a2 ?l2 ?cc2 ?k2 ?a3 ?l3 ?cc3 ?k3 ?a4 ?l4 ?cc4 ?k4 ?a5 ?l5 ?cc5 ?k5 ?a6 ?l6 ?cc6 ?k6 ?a7 ?l7 ?cc7 ?k7 ?a8 ?l8 ?cc8 ?k8 ?a9 ?l9 ?cc9 ?k9 ?a10 ?l10 ?cc10 ?k10 ?a11 ?l11 ?cc11 ?k11 ?a12 ?l12 ?cc12 ?k12 ?a13 ?l13 ?cc13 ?k13 ?a14 ?l14 ?cc14 ?k14 ?a15 ?l15 ?cc15 ?k15 ?a16 ?l16 ?cc16 ?k16 ?a17 ?l17 ?cc17 ?k17 ?a18 ?l18 ?cc18 ?k18 ?a19 ?l19 ?cc19 ?k19 ?a20 ?l20 ?cc20 ?k20 ?a21 ?l21 ?cc21 ?k21 ?a22 ?l22 ?cc22 ?k22 ?a23 ?l23 ?cc23 ?k23 ?a24 ?l24 ?cc24 ?k24 ?a25 ?l25 ?cc25 ?k25 ?v0 ?v1 ?v2 ?v3 ?z0 ?z1 ?z2 ?z3 ?z4 ?z5 ?z6 ?z7 ?z8 ?z9 ?z10 ?z11 ?z12 ?z13 ?z14 ?z15 ?z16 ?z17
    (case a0 => k_is)
    (case l0 => k_is)
    (case cc0 => k_is)
    (case k0 => k_is)
    (case a1 => k_is)
    (case l1 => k_is)
    (case cc1 => k_is)
    (case k1 => k_is)
    (case a2 => k_is)
    (case l2 => k_is)
    (case cc2 => k_is)
    (case k2 => k_is)
    (case a3 => k_is)
    (case l3 => k_is)
    (case cc3 => k_is)
    (case k3 => k_is)
    (case a4 => k_is)
    (case l4 => k_is)
    (case cc4 => k_is)
    (case k4 => k_is)
    (case a5 => k_is)
    (case l5 => k_is)
    (case cc5 => k_is)
    (case k5 => k_is)
    (case a6 => k_is)
    (case l6 => k_is)
    (case cc6 => k_is)
    (case k6 => k_is)
    (case a7 => k_is)
    (case l7 => k_is)
    (case cc7 => k_is)
    (case k7 => k_is)
    (case a8 => k_is)
    (case l8 => k_is)
    (case cc8 => k_is)
    (case k8 => k_is)
    (case a9 => k_is)
    (case l9 => k_is)
    (case cc9 => k_is)
    (case k9 => k_is)
    (case a10 => k_is)
    (case l10 => k_is)
    (case cc10 => k_is)
    (case k10 => k_is)
    (case a11 => k_is)
    (case l11 => k_is)
    (case cc11 => k_is)
    (case k11 => k_is)
    (case a12 => k_is)
    (case l12 => k_is)
    (case cc12 => k_is)
    (case k12 => k_is)
    (case a13 => k_is)
    (case l13 => k_is)
    (case cc13 => k_is)
    (case k13 => k_is)
    (case a14 => k_is)
    (case l14 => k_is)
    (case cc14 => k_is)
    (case k14 => k_is)
    (case a15 => k_is)
    (case l15 => k_is)
    (case cc15 => k_is)
    (case k15 => k_is)
    (case a16 => k_is)
    (case l16 => k_is)
    (case cc16 => k_is)
    (case k16 => k_is)
    (case a17 => k_is)
    (case l17 => k_is)
    (case cc17 => k_is)
    (case k17 => k_is)
    (case a18 => k_is)
    (case l18 => k_is)
    (case cc18 => k_is)
    (case k18 => k_is)
    (case a19 => k_is)
    (case l19 => k_is)
    (case cc19 => k_is)
    (case k19 => k_is)
    (case a20 => k_is)
    (case l20 => k_is)
    (case cc20 => k_is)
    (case k20 => k_is)
    (case a21 => k_is)
    (case l21 => k_is)
    (case cc21 => k_is)
    (case k21 => k_is)
    (case a22 => k_is)
    (case l22 => k_is)
    (case cc22 => k_is)
    (case k22 => k_is)
    (case a23 => k_is)
    (case l23 => k_is)
    (case cc23 => k_is)
    (case k23 => k_is)
    (case a24 => k_is)
    (case l24 => k_is)
    (case cc24 => k_is)
    (case k24 => k_is)
    (case a25 => k_is)
    (case l25 => k_is)
    (case cc25 => k_is)
    (case k25 => k_is)
    (case v0 => k_is)
    (case v1 => k_is)
    (case v2 => k_is)
    (case v3 => k_is)
    (case z0 => k_is)
    (case z1 => k_is)
    (case z2 => k_is)
    (case z3 => k_is)
    (case z4 => k_is)
    (case z5 => k_is)
    (case z6 => k_is)
    (case z7 => k_is)
    (case z8 => k_is)
    (case z9 => k_is)
    (case z10 => k_is)
    (case z11 => k_is)
    (case z12 => k_is)
    (case z13 => k_is)
    (case z14 => k_is)
    (case z15 => k_is)
    (case z16 => k_is)
    (case z17 => k_is)
