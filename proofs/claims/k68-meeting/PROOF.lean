import PyProof.Rows.All
import Wide.All
import OpenK.AllK
import Wide.FinOn
import HandS.ForMost
import HandS.Exc
import KE.SortData
import KE.DataCmp
import KE.DataMinMax
import HandS.TupAny
import HandS.Wide
import HandS.Deep
import HandS.TupLe
import HandS.Flow
import HandS.Conv
import HandS.CallSlots
import HandS.Words
import HandS.WordsExc
import HandS.Walk
import HandS.Zip
import HandS.More
import HandS.List
import KE.KRevSl
import HandS.SortInts
import HandS.IsInst
import HandS.TupSets
import KE.KeyNested
import KE.SortKeyHeap
import HandS.SortKw
import HandS.GenList
import HandS.Style
import PyProof.GenComp
import PySem.Challenge.RW_fewserve_k68_meeting_sets
set_option Elab.async false
set_option linter.all false
set_option maxRecDepth 100000
set_option maxHeartbeats 4000000
/-! A small interpreter over trees, and what it says. -/
namespace Mi
open PySem

/-- data as trees -/
inductive D where
  | non | bl (b : Bool) | int (i : Int) | str (s : Str)
  | tup (xs : List D) | lst (xs : List D)
  | dct (ks vs : List D)
  | ins (c : Nat) (ns : List Nat) (vs : List D)
  | scr (ns : List Int)
  | itr (xs : List D)
  deriving Inhabited

structure Xn where
  c : Nat
  f : Option D

inductive R (α : Type) where
  | ok (a : α) | exc (x : Xn) | bad
namespace R
def bind {α β : Type} : R α → (α → R β) → R β
  | .ok a, f => f a
  | .exc x, _ => .exc x
  | .bad, _ => .bad
def map {α β : Type} (f : α → β) : R α → R β
  | .ok a => .ok (f a)
  | .exc x => .exc x
  | .bad => .bad
/-- nothing is let out -/
def nox {α : Type} : R α → R α
  | .ok a => .ok a
  | _ => .bad
theorem bind_ok {α β : Type} (a : α) (f : α → R β) : (R.ok a).bind f = f a := rfl
theorem bind_exc {α β : Type} (x : Xn) (f : α → R β) : (R.exc x : R α).bind f = .exc x := rfl
theorem bind_bad {α β : Type} (f : α → R β) : (R.bad : R α).bind f = .bad := rfl
end R

inductive Slot where
  | un | own (d : D) | frz (d : D) | bor (d : D)
  deriving Inhabited
abbrev Env := List Slot
def Slot.val : Slot → R D
  | .un => .bad
  | .own d => .ok d
  | .frz d => .ok d
  | .bor d => .ok d
def gt (env : Env) (i : Nat) : Slot := env.getD i .un
/-- what changes in place -/
def isMut : D → Bool
  | .lst _ => true
  | .dct _ _ => true
  | _ => false

inductive Bop where
  | add | sub | mul | fdiv | mod | pow
inductive Cop where
  | eq | ne | lt | le | gt | ge | isin | notin
inductive Bi where
  | len | sum | int | str | abs | list | tuple | sorted | min2 | max2 | min | max | bool | sset
inductive Bm where
  | index
/-- built-in types, as isinstance asks -/
inductive Ty where
  | non | bool | int | str | tuple | list
inductive Tgt where
  | nm (i : Nat) | tup (ts : List Tgt)
  deriving Inhabited

inductive E where
  | var (i : Nat) | peek (i : Nat) | cst (d : D)
  | bin (o : Bop) (a b : E) | cmp (o : Cop) (a b : E) | chain (o o' : Cop) (a b c : E)
  | isN (neg : Bool) (a : E)
  | neg (a : E) | not (a : E) | and (a b : E) | or (a b : E) | ife (c a b : E)
  | tup (xs : List E) | lst (xs : List E)
  | idx (a i : E) | sl (a : E) (lo hi : Option E)
  | comp (elt : E) (t : Tgt) (it : E) (ifs : List E) (own : List Nat)
  | comp2 (elt : E) (t : Tgt) (it : E) (t1 : Tgt) (it1 : E) (ifs1 : List E) (own own1 : List Nat)
  | call (fr : Bool) (f : Nat) (xs : List E)
  | meth (fr : Bool) (m : Nat) (o : E) (xs : List E)
  | make (c : Nat) (xs : List E)
  | attr (f : Nat) (o : E)
  | bi (b : Bi) (xs : List E)
  | bm (b : Bm) (o : E) (xs : List E)
  | rng (lo : Option E) (hi : E) (st : Option E)
  | enum (a : E) | zip (a b : E)
  | tru (a : E)
  | isi (t : Ty) (a : E)
  | glist (f : Nat) (xs : List E)
  | srt (f : Nat) (a : E)
  | rev (a : E)
  | never
  deriving Inhabited

/-- what is new and may be changed, if it is a list -/
def frs : E → Bool
  | .lst _ => true
  | .sl _ _ _ => true
  | .bin _ _ _ => true
  | .comp .. => true
  | .comp2 .. => true
  | .call fr _ _ => fr
  | .meth fr _ _ _ => fr
  | .bi _ _ => true
  | .glist _ _ => true
  | .srt _ _ => true
  | .rev _ => true
  | _ => false

/-- the surroundings of a def -/
structure Glob where
  call : Nat → List Slot → R D
  gen : Nat → List Slot → R (List D)
  meth : Nat → Nat → Option Nat
  make : Nat → List Slot → R D

/-! ### operations on data -/
def lenLine (n : Nat) : Bool := decide (n ≤ 1000000)
def truth : D → R Bool
  | .non => .ok false
  | .bl b => .ok b
  | .int i => .ok (i != 0)
  | .str s => if lenLine s.length then .ok (s.length != 0) else .bad
  | .tup xs => .ok (!xs.isEmpty)
  | .lst xs => .ok (!xs.isEmpty)
  | _ => .bad

/-- data that == compares, n deep -/
def eqOk : Nat → D → Bool
  | 0, _ => false
  | _ + 1, .non => true
  | _ + 1, .bl _ => true
  | _ + 1, .int _ => true
  | _ + 1, .str s => PyData.strOk s
  | n + 1, .tup xs => xs.all (eqOk n)
  | n + 1, .lst xs => xs.all (eqOk n)
  | _ + 1, _ => false

mutual
def eqD : D → D → Bool
  | .non, .non => true
  | .bl a, .bl b => a == b
  | .bl a, .int j => (if a then 1 else 0) == j
  | .int i, .bl b => i == (if b then 1 else 0)
  | .int i, .int j => i == j
  | .str x, .str y => x == y
  | .lst xs, .lst ys => eqDs xs ys
  | .tup xs, .tup ys => eqDs xs ys
  | _, _ => false
def eqDs : List D → List D → Bool
  | [], [] => true
  | x :: xs, y :: ys => eqD x y && eqDs xs ys
  | _, _ => false
end
def eqR (a b : D) : R D := if eqOk 60 a && eqOk 60 b then .ok (.bl (eqD a b)) else .bad
def neR (a b : D) : R D := if eqOk 60 a && eqOk 60 b then .ok (.bl (!eqD a b)) else .bad

def ltInts : List Int → List Int → Bool := HT.lexLt
def toInts : List D → Option (List Int)
  | [] => some []
  | .int i :: r => (toInts r).map (i :: ·)
  | _ => none

def addD : D → D → R D
  | .int i, .int j => .ok (.int (i + j))
  | .str x, .str y => if lenLine (x.length + y.length) then .ok (.str (x ++ y)) else .bad
  | .tup xs, .tup ys => if lenLine (xs.length + ys.length) then .ok (.tup (xs ++ ys)) else .bad
  | .lst xs, .lst ys => if lenLine (xs.length + ys.length) then .ok (.lst (xs ++ ys)) else .bad
  | _, _ => .bad
def subD : D → D → R D
  | .int i, .int j => .ok (.int (i - j))
  | _, _ => .bad
/-- a product that fits -/
def fitMul (i j : Int) : Bool := (decide (-(2 ^ 64) < i ∧ i < 2 ^ 64) || decide (-(2 ^ 64) < j ∧ j < 2 ^ 64)) || decide (i.natAbs.log2 + j.natAbs.log2 < 1000000)
def mulD : D → D → R D
  | .int i, .int j => if fitMul i j then .ok (.int (i * j)) else .bad
  | .lst xs, .int k => if decide (-1000000 ≤ k ∧ k ≤ 1000000) && lenLine (xs.length * k.toNat) then .ok (.lst (List.replicate k.toNat xs).flatten) else .bad
  | _, _ => .bad
def fitDiv (j : Int) : Bool := decide (0 < j ∧ j.natAbs.log2 < 9000)
def fdivD : D → D → R D
  | .int i, .int j => if fitDiv j then .ok (.int (i / j)) else .bad
  | _, _ => .bad
def modD : D → D → R D
  | .int i, .int j => if decide (0 < j) then .ok (.int (i % j)) else .bad
  | _, _ => .bad
def fitPow (i j : Int) : Bool := decide (0 ≤ j ∧ j ≤ 1000000 ∧ i.natAbs < 2 ^ 64)
def powD : D → D → R D
  | .int i, .int j => if fitPow i j then .ok (.int (i ^ j.toNat)) else .bad
  | _, _ => .bad
def binD : Bop → D → D → R D
  | .add, x, y => addD x y
  | .sub, x, y => subD x y
  | .mul, x, y => mulD x y
  | .fdiv, x, y => fdivD x y
  | .mod, x, y => modD x y
  | .pow, x, y => powD x y

mutual
def toPy : D → PyData
  | .non => .none
  | .bl b => .bool b
  | .int i => .int i
  | .str s => .str s
  | .tup xs => .tuple (toPys xs)
  | .lst xs => .list (toPys xs)
  | .dct _ _ => .dict []
  | .ins _ _ _ => .dict []
  | .scr _ => .dict []
  | .itr _ => .dict []
def toPys : List D → List PyData
  | [] => []
  | d :: ds => toPy d :: toPys ds
end
/-- one before the other, by what they hold -/
def befD (a b : D) : Bool := PySem.W.dataLt (toPy a) (toPy b)
def isNon : D → Bool
  | .non => true
  | _ => false
/-- two that can be put in order -/
def ordOk (a b : D) : Bool := eqOk 60 a && eqOk 60 b && PySem.W.alike (toPy a) (toPy b) && !isNon a
def isinD (x : D) (ys : List D) : R Bool := if eqOk 60 x && ys.all (eqOk 60) then .ok (ys.any fun y => eqD y x) else .bad
def ltD : D → D → R D
  | .int i, .int j => .ok (.bl (decide (i < j)))
  | a, b => if ordOk a b then .ok (.bl (befD a b)) else .bad
def leD : D → D → R D
  | .int i, .int j => .ok (.bl (decide (i ≤ j)))
  | a, b => if ordOk a b then .ok (.bl (!befD b a)) else .bad
def gtD : D → D → R D
  | .int i, .int j => .ok (.bl (decide (j < i)))
  | a, b => if ordOk a b then .ok (.bl (befD b a)) else .bad
def geD : D → D → R D
  | .int i, .int j => .ok (.bl (decide (j ≤ i)))
  | a, b => if ordOk a b then .ok (.bl (!befD a b)) else .bad
def inD (x : D) : D → R Bool
  | .lst ys => isinD x ys
  | .tup ys => isinD x ys
  | _ => .bad
def cmpD : Cop → D → D → R D
  | .eq, a, b => eqR a b
  | .ne, a, b => neR a b
  | .lt, a, b => ltD a b
  | .le, a, b => leD a b
  | .gt, a, b => gtD a b
  | .ge, a, b => geD a b
  | .isin, a, b => (inD a b).map .bl
  | .notin, a, b => (inD a b).map fun k => .bl (!k)
def isNone : D → Bool
  | .non => true
  | _ => false
def optR {α : Type} : Option α → R α
  | some a => .ok a
  | none => .bad
def idxD : D → D → R D
  | .lst xs, .int i => optR (L2.atI xs i)
  | .tup xs, .int i => optR (L2.atI xs i)
  | .scr ns, .int i => (optR (L2.atI ns i)).map .int
  | _, _ => .bad
def cutD (xs : List D) (lo hi : Option Int) : List D := (xs.drop (HT.sIx xs.length 0 lo)).take (HT.sIx xs.length xs.length hi - HT.sIx xs.length 0 lo)
def slD : D → Option Int → Option Int → R D
  | .lst xs, lo, hi => .ok (.lst (cutD xs lo hi))
  | .tup xs, lo, hi => .ok (.tup (cutD xs lo hi))
  | _, _, _ => .bad
def intOf : D → R Int
  | .int i => .ok i
  | _ => .bad
/-- what a loop goes through -/
def items : D → R (List D)
  | .lst xs => .ok xs
  | .tup xs => .ok xs
  | .itr xs => .ok xs
  | _ => .bad
def small62 (i : Int) : Bool := decide (-(2 ^ 62) ≤ i ∧ i < 2 ^ 62)
def rngD (lo hi : Int) : R D := if small62 lo && small62 hi then .ok (.itr ((List.range (hi - lo).toNat).map fun (k : Nat) => .int (lo + (k : Int)))) else .bad
def enumL : Nat → List D → List D
  | _, [] => []
  | n, x :: r => .tup [.int n, x] :: enumL (n + 1) r
def zipL : List D → List D → List D
  | x :: xs, y :: ys => .tup [x, y] :: zipL xs ys
  | _, _ => []
def enumD : D → R D
  | .lst xs => .ok (.itr (enumL 0 xs))
  | _ => .bad
def zipD : D → D → R D
  | .lst xs, .lst ys => .ok (.itr (zipL xs ys))
  | .tup xs, .tup ys => .ok (.itr (zipL xs ys))
  | _, _ => .bad
def lenD : List D → R D
  | [.lst xs] => .ok (.int xs.length)
  | [.tup xs] => .ok (.int xs.length)
  | [.scr xs] => .ok (.int xs.length)
  | [.str s] => if lenLine s.length then .ok (.int s.length) else .bad
  | _ => .bad
def int1D : List D → R D
  | [.int i] => .ok (.int i)
  | [.bl b] => .ok (.int (if b then 1 else 0))
  | _ => .bad
def listD : List D → R D
  | [.lst xs] => .ok (.lst xs)
  | [.tup xs] => .ok (.lst xs)
  | _ => .bad
def tupleD : List D → R D
  | [.lst xs] => .ok (.tup xs)
  | [.tup xs] => .ok (.tup xs)
  | _ => .bad
def sumD : List D → R D
  | [.lst xs] => (optR (toInts xs)).map fun ns => .int ns.sum
  | _ => .bad
def absD : List D → R D
  | [.int i] => .ok (.int (if i < 0 then -i else i))
  | _ => .bad
def min2D : List D → R D
  | [.int i, .int j] => .ok (.int (if j < i then j else i))
  | _ => .bad
def max2D : List D → R D
  | [.int i, .int j] => .ok (.int (if j > i then j else i))
  | _ => .bad
def insI (i : Int) : List Int → List Int
  | [] => [i]
  | j :: r => if i ≤ j then i :: j :: r else j :: insI i r
def sortI : List Int → List Int
  | [] => []
  | i :: r => insI i (sortI r)
/-- all can be put in order, by one road -/
def sortOk (xs : List D) : Bool := xs.all (eqOk 60) && (xs.all fun a => xs.all fun b => PySem.W.alike (toPy a) (toPy b)) &&
  ((xs.all fun | .tup (_ :: _) => true | _ => false) || xs.all fun | .non => false | .tup _ => false | _ => true)
def sortedD : List D → R D
  | [.lst xs] => match toInts xs with
    | some ns => .ok (.lst ((sortI ns).map .int))
    | none => if sortOk xs then .ok (.lst (xs.mergeSort (PySem.W.dataLe false toPy))) else .bad
  | [.tup xs] => match toInts xs with
    | some ns => .ok (.lst ((sortI ns).map .int))
    | none => if sortOk xs then .ok (.lst (xs.mergeSort (PySem.W.dataLe false toPy))) else .bad
  | _ => .bad
/-- the first of the least -/
def minLD : List D → R D
  | [.lst (x :: xs)] => if (x :: xs).all (eqOk 60) && ((x :: xs).all fun a => (x :: xs).all fun b => PySem.W.alike (toPy a) (toPy b)) && ((x :: xs).all fun a => !isNon a && !isMut a) then
      .ok (xs.foldl (fun a y => if befD y a then y else a) x) else .bad
  | _ => .bad
def revD : D → R D
  | .lst xs => .ok (.lst xs.reverse)
  | .tup xs => .ok (.tup xs.reverse)
  | _ => .bad
/-- data without texts, truths and lists, n deep -/
def keyD : Nat → D → Bool
  | 0, _ => false
  | _ + 1, .non => true
  | _ + 1, .int _ => true
  | n + 1, .tup xs => xs.all (keyD n)
  | _ + 1, _ => false
def isTup : D → Bool
  | .tup _ => true
  | _ => false
/-- each once -/
def dedD : List D → List D
  | [] => []
  | x :: r => if r.any (eqD x) then dedD r else x :: dedD r
/-- sorted(set(xs)) -/
def ssetD : List D → R D
  | [.lst xs] => if xs.all (keyD 8) && xs.all isTup && sortOk xs && decide (xs.length < 1000) then .ok (.lst ((dedD xs).mergeSort (PySem.W.dataLe false toPy))) else .bad
  | _ => .bad
def biD : Bi → List D → R D
  | .len, ds => lenD ds
  | .int, ds => int1D ds
  | .list, ds => listD ds
  | .tuple, ds => tupleD ds
  | .sum, ds => sumD ds
  | .abs, ds => absD ds
  | .min2, ds => min2D ds
  | .max2, ds => max2D ds
  | .sorted, ds => sortedD ds
  | .sset, ds => ssetD ds
  | .min, ds => minLD ds
  | _, _ => .bad
def bmD : Bm → D → List D → R D
  | _, _, _ => .bad
def insGet (f : Nat) : List Nat → List D → R D
  | n :: ns, v :: vs => if n = f then .ok v else insGet f ns vs
  | _, _ => .bad
def attrD (f : Nat) : D → R D
  | .ins _ ns vs => insGet f ns vs
  | _ => .bad
def clsD : D → R Nat
  | .ins c _ _ => .ok c
  | _ => .bad

def isiD (t : Ty) : D → R D
  | .non => .ok (.bl (match t with | .non => true | _ => false))
  | .bl _ => .ok (.bl (match t with | .bool => true | .int => true | _ => false))
  | .int _ => .ok (.bl (match t with | .int => true | _ => false))
  | .str _ => .ok (.bl (match t with | .str => true | _ => false))
  | .tup _ => .ok (.bl (match t with | .tuple => true | _ => false))
  | .lst _ => .ok (.bl (match t with | .list => true | _ => false))
  | _ => .bad
/-! ### expressions -/
def wipe (env : Env) : List Nat → Env
  | [] => env
  | i :: r => (wipe env r).set i .un
mutual
def bindT : Tgt → D → Env → R Env
  | .nm i, d, env => .ok (env.set i (.frz d))
  | .tup ts, d, env => match d with
      | .tup xs => bindTs ts xs env
      | _ => .bad
def bindTs : List Tgt → List D → Env → R Env
  | [], [], env => .ok env
  | t :: ts, x :: xs, env => (bindT t x env).bind (bindTs ts xs)
  | _, _, _ => .bad
end
mutual
def tslots : Tgt → List Nat
  | .nm i => [i]
  | .tup ts => tslotsL ts
def tslotsL : List Tgt → List Nat
  | [] => []
  | t :: ts => tslots t ++ tslotsL ts
end
/-- a comprehension's turns -/
def compL (bd : D → R Env) (tst : Env → R Bool) (elt : Env → R D) : List D → R (List D)
  | [] => .ok []
  | x :: xs => (bd x).bind fun e => (tst e).bind fun b => if b then (elt e).bind fun y => (compL bd tst elt xs).map (y :: ·) else compL bd tst elt xs
/-- the outer turns of two clauses -/
def compL2 (bd : D → R Env) (inner : Env → R (List D)) : List D → R (List D)
  | [] => .ok []
  | x :: xs => (bd x).bind fun e => (inner e).bind fun ys => (compL2 bd inner xs).map (ys ++ ·)

def made (ys : List D) : R D := if lenLine ys.length then .ok (.lst ys) else .bad
/-- how an argument is handed over: a name's list is lent -/
def lendS (d : D) : Slot → Slot
  | .own _ => .bor d
  | .bor _ => .bor d
  | _ => .frz d
def lend (env : Env) (d : D) : E → Slot
  | .peek i => lendS d (gt env i)
  | _ => .frz d

/-- the keys of a sort -/
def keysL (run : D → R D) : List D → R (List D)
  | [] => .ok []
  | x :: xs => (run x).bind fun k => (keysL run xs).map (k :: ·)
def sortK (xs ks : List D) : List D := ((xs.zip ks).mergeSort (PySem.W.dataLe false fun p => toPy p.2)).map (·.1)
def srtD (run : D → R D) : D → R D
  | .lst xs => (keysL run xs).nox.bind fun ks => if sortOk ks then .ok (.lst (sortK xs ks)) else .bad
  | _ => .bad
mutual
def evE (Γ : Glob) : E → Env → R D
  | .var i, env => match gt env i with
      | .frz d => .ok d
      | _ => .bad
  | .peek i, env => (gt env i).val
  | .cst d, _ => .ok d
  | .bin o a b, env => (evE Γ a env).bind fun x => (evE Γ b env).bind fun y => binD o x y
  | .cmp o a b, env => (evE Γ a env).bind fun x => (evE Γ b env).bind fun y => cmpD o x y
  | .chain o o' a b c, env => (evE Γ a env).bind fun x => (evE Γ b env).bind fun y => (cmpD o x y).bind fun r => match r with
      | .bl true => (evE Γ c env).bind fun z => cmpD o' y z
      | .bl false => .ok (.bl false)
      | _ => .bad
  | .isN ng a, env => (evE Γ a env).bind fun x => .ok (.bl (if ng then !isNone x else isNone x))
  | .neg a, env => (evE Γ a env).bind fun x => (intOf x).map fun i => .int (-i)
  | .not a, env => (evE Γ a env).bind fun x => (truth x).map fun b => .bl (!b)
  | .and a b, env => (evE Γ a env).bind fun x => match x with
      | .bl true => evE Γ b env
      | .bl false => .ok (.bl false)
      | _ => .bad
  | .or a b, env => (evE Γ a env).bind fun x => match x with
      | .bl true => .ok (.bl true)
      | .bl false => evE Γ b env
      | _ => .bad
  | .ife c a b, env => (evE Γ c env).bind fun x => (truth x).bind fun t => if t then evE Γ a env else evE Γ b env
  | .tup xs, env => (evEs Γ xs env).map .tup
  | .lst xs, env => (evEs Γ xs env).map .lst
  | .idx a i, env => (evE Γ a env).bind fun x => (evE Γ i env).bind fun y => idxD x y
  | .sl a lo hi, env => (evE Γ a env).bind fun x => (evO Γ lo env).bind fun l => (evO Γ hi env).bind fun h => slD x l h
  | .comp elt t it ifs own, env => (evE Γ it env).bind fun s => (items s).bind fun xs =>
      (compL (fun x => bindT t x (wipe env own)) (evIfs Γ ifs) (evE Γ elt) xs).nox.bind made
  | .comp2 elt t it t1 it1 ifs1 own own1, env => (evE Γ it env).bind fun s => (items s).bind fun xs =>
      (compL2 (fun x => bindT t x (wipe env own)) (fun e => (evE Γ it1 e).bind fun s1 => (items s1).bind fun ys =>
        compL (fun y => bindT t1 y (wipe e own1)) (evIfs Γ ifs1) (evE Γ elt) ys) xs).nox.bind made
  | .call _ f xs, env => (evAs Γ xs env).bind fun as => Γ.call f as
  | .meth _ m o xs, env => (evE Γ o env).bind fun d => (clsD d).bind fun c => match Γ.meth c m with
      | some f => (evAs Γ xs env).bind fun as => Γ.call f (lend env d o :: as)
      | none => .bad
  | .make c xs, env => (evAs Γ xs env).bind fun as => Γ.make c as
  | .attr f o, env => (evE Γ o env).bind fun d => attrD f d
  | .bi b xs, env => (evEs Γ xs env).bind fun ds => biD b ds
  | .bm b o xs, env => (evE Γ o env).bind fun d => (evEs Γ xs env).bind fun ds => bmD b d ds
  | .rng lo hi st, env => (evR Γ lo env).bind fun l => (evE Γ hi env).bind fun h => (intOf h).bind fun j => match st with
      | none => rngD l j
      | some _ => .bad
  | .enum a, env => (evE Γ a env).bind fun x => enumD x
  | .zip a b, env => (evE Γ a env).bind fun x => (evE Γ b env).bind fun y => zipD x y
  | .tru a, env => (evE Γ a env).bind fun x => (truth x).map .bl
  | .isi t a, env => (evE Γ a env).bind fun x => isiD t x
  | .glist f xs, env => (evAs Γ xs env).bind fun as => (Γ.gen f as).nox.bind made
  | .srt f a, env => (evE Γ a env).bind fun d => srtD (fun x => Γ.call f [.frz x]) d
  | .rev a, env => (evE Γ a env).bind revD
  | .never, _ => .bad
def evEs (Γ : Glob) : List E → Env → R (List D)
  | [], _ => .ok []
  | e :: r, env => (evE Γ e env).bind fun x => (evEs Γ r env).map (x :: ·)
def evAs (Γ : Glob) : List E → Env → R (List Slot)
  | [], _ => .ok []
  | e :: r, env => (evE Γ e env).bind fun x => (evAs Γ r env).map (lend env x e :: ·)
def evO (Γ : Glob) : Option E → Env → R (Option Int)
  | none, _ => .ok none
  | some e, env => (evE Γ e env).bind fun x => (intOf x).map some
def evR (Γ : Glob) : Option E → Env → R Int
  | none, _ => .ok 0
  | some e, env => (evE Γ e env).bind intOf
def evIfs (Γ : Glob) : List E → Env → R Bool
  | [], _ => .ok true
  | e :: r, env => (evE Γ e env).bind fun x => (truth x).bind fun b => if b then evIfs Γ r env else .ok false
end

/-! ### statements -/
inductive S where
  | asg (t : Tgt) (e : E) | asgC (i : Nat) (e : E)
  | par (i j : Nat) (a b : E)
  | setIt (i : Nat) (k e : E)
  | app (i : Nat) (e : E)
  | ins (i : Nat) (k e : E)
  | ext (i : Nat) (e : E)
  | expr (e : E)
  | ret (e : E) | retv (i : Nat) | retN
  | ife (c : E) (a b : List S)
  | whl (c : E) (body : List S)
  | fr (t : Tgt) (it : E) (body : List S)
  | brk | cnt | pass | never
  | wf (is : List Nat) (s : S)
  deriving Inhabited

inductive Out where
  | nx (e : Env) | ret (d : D) (own : Bool) | bk (e : Env) | ct (e : Env) | exc (x : Xn) (e : Env) | bad

def R.out {α : Type} (r : R α) (env : Env) (f : α → Out) : Out := match r with
  | .ok a => f a
  | .exc x => .exc x env
  | .bad => .bad
def R.only {α : Type} (r : R α) (f : α → Out) : Out := match r with
  | .ok a => f a
  | _ => .bad
theorem R.out_ok {α : Type} (a : α) (env : Env) (f : α → Out) : (R.ok a).out env f = f a := rfl
theorem R.out_exc {α : Type} (x : Xn) (env : Env) (f : α → Out) : (R.exc x : R α).out env f = .exc x env := rfl
theorem R.out_bad {α : Type} (env : Env) (f : α → Out) : (R.bad : R α).out env f = .bad := rfl

def mask : Env → Env → Env
  | .un :: r, _ :: r' => .un :: mask r r'
  | _ :: r, s :: r' => s :: mask r r'
  | [], r' => r'
  | _, [] => []
def freeze : Slot → Slot
  | .own d => .frz d
  | s => s
def lock : Slot → Slot
  | .own d => .bor d
  | s => s
/-- the lists that a loop goes through stay as they are meanwhile -/
def pks : E → List Nat
  | .peek i => [i]
  | .enum (.peek i) => [i]
  | .zip (.peek i) (.peek j) => [i, j]
  | .zip (.peek i) _ => [i]
  | .zip _ (.peek j) => [j]
  | _ => []
def onAllI (f : Nat → Slot → Slot) : List Nat → Env → Env
  | [], env => env
  | i :: r, env => onAllI f r (env.set i (f i (gt env i)))
def onAll (f : Slot → Slot) (is : List Nat) (env : Env) : Env := onAllI (fun _ => f) is env
def un1 : Slot → Slot → Slot
  | .own _, .bor d => .own d
  | _, s => s
/-- back: what was owned ahead of the loop and is lent still -/
def unlock (env0 : Env) (is : List Nat) (env : Env) : Env := onAllI (fun i => un1 (gt env0 i)) is env
def Out.onEnv (f : Env → Env) : Out → Out
  | .nx e => .nx (f e)
  | .bk e => .bk (f e)
  | .ct e => .ct (f e)
  | .exc x e => .exc x (f e)
  | .ret d o => .ret d o
  | .bad => .bad

def evFor (body : Env → Out) (bd : D → Env → R Env) (env0 : Env) : List D → Env → Out
  | [], env => .nx env
  | x :: xs, env => (bd x env).only fun e1 => match body e1 with
      | .nx e2 => evFor body bd env0 xs (mask env0 e2)
      | .ct e2 => evFor body bd env0 xs (mask env0 e2)
      | .bk e2 => .nx (mask env0 e2)
      | o => o
def evWhl (c : Env → R Bool) (body : Env → Out) (env0 : Env) : Nat → Env → Out
  | 0, _ => .bad
  | n + 1, env => (c env).out env fun b => if b then (match body env with
      | .nx e2 => evWhl c body env0 n (mask env0 e2)
      | .ct e2 => evWhl c body env0 n (mask env0 e2)
      | .bk e2 => .nx (mask env0 e2)
      | o => o) else .nx env
def fuel : Nat := 100000

def setD (xs : List D) (k : Int) (v : D) : R (List D) := match L2.ixN xs.length k with
  | some j => .ok (xs.set j v)
  | none => .bad
def ownL : Slot → R (List D)
  | .own (.lst xs) => .ok xs
  | _ => .bad

mutual
def evS (Γ : Glob) : S → Env → Out
  | .asg t e, env => (evE Γ e env).out env fun d => match t with
      | .nm i => .nx (env.set i (if frs e && isMut d then .own d else .frz d))
      | t => (bindT t d env).only .nx
  | .asgC i e, env => (evE Γ e env).out env fun d => .nx (env.set i (if frs e && isMut d then .own d else .frz d))
  | .par i j a b, env => (evE Γ a env).out env fun x => (evE Γ b env).out env fun y => .nx ((env.set i (.frz x)).set j (.frz y))
  | .setIt i k e, env => (evE Γ e env).out env fun d => (ownL (gt env i)).only fun xs => (evE Γ k env).out env fun kd => (intOf kd).only fun k =>
      (setD xs k d).only fun ys => .nx (env.set i (.own (.lst ys)))
  | .app i e, env => (ownL (gt env i)).only fun xs => (evE Γ e env).out env fun d => if decide (xs.length < 1000000) then .nx (env.set i (.own (.lst (xs ++ [d])))) else .bad
  | .ins i k e, env => (ownL (gt env i)).only fun xs => (evE Γ k env).out env fun kd => (intOf kd).only fun k => (evE Γ e env).out env fun d => if decide (xs.length < 1000000 ∧ 0 ≤ k ∧ k ≤ 1000000) then .nx (env.set i (.own (.lst (xs.take k.toNat ++ [d] ++ xs.drop k.toNat)))) else .bad
  | .ext i e, env => (ownL (gt env i)).only fun xs => (evE Γ e env).out env fun d => match d with
      | .lst ys => if lenLine (xs.length + ys.length) then .nx (env.set i (.own (.lst (xs ++ ys)))) else .bad
      | _ => .bad
  | .expr e, env => (evE Γ e env).out env fun _ => .nx env
  | .ret e, env => (evE Γ e env).out env fun d => .ret d (frs e)
  | .retv i, env => match gt env i with
      | .own d => .ret d true
      | .frz d => .ret d false
      | _ => .bad
  | .retN, _ => .ret .non false
  | .ife c a b, env => ((evE Γ c env).bind truth).out env fun t => if t then evSs Γ a env else evSs Γ b env
  | .whl c body, env => evWhl (fun e => (evE Γ c e).bind truth) (evSs Γ body) env fuel env
  | .fr t it body, env => ((evE Γ it env).bind items).out env fun xs =>
      (evFor (evSs Γ body) (bindT t) env xs (onAll lock (pks it) env)).onEnv (unlock env (pks it))
  | .brk, env => .bk env
  | .cnt, env => .ct env
  | .pass, env => .nx env
  | .never, _ => .bad
  | .wf is s, env => evS Γ s (onAll freeze is env)
def evSs (Γ : Glob) : List S → Env → Out
  | [], env => .nx env
  | s :: r, env => match evS Γ s env with
      | .nx e => evSs Γ r e
      | o => o
end

/-! ### generators -/
inductive G where
  | pl (s : S) | yld (e : E) | fr (t : Tgt) (it : E) (body : List G)
  deriving Inhabited
inductive GO where
  | nx (e : Env) (ys : List D) | bad
def GO.onEnv (f : Env → Env) : GO → GO
  | .nx e ys => .nx (f e) ys
  | .bad => .bad
def R.go {α : Type} (r : R α) (f : α → GO) : GO := match r with
  | .ok a => f a
  | _ => .bad
def evGFor (body : Env → List D → GO) (bd : D → Env → R Env) (env0 : Env) : List D → Env → List D → GO
  | [], env, ys => .nx env ys
  | x :: xs, env, ys => (bd x env).go fun e1 => match body e1 ys with
      | .nx e2 ys2 => evGFor body bd env0 xs (mask env0 e2) ys2
      | .bad => .bad
mutual
def evG (Γ : Glob) : G → Env → List D → GO
  | .pl s, env, ys => match evS Γ s env with
      | .nx e => .nx e ys
      | _ => .bad
  | .yld e, env, ys => (evE Γ e env).go fun d => if decide (ys.length < 1000000) then .nx env (ys ++ [d]) else .bad
  | .fr t it body, env, ys => ((evE Γ it env).bind items).go fun xs => (evGFor (evGs Γ body) (bindT t) env xs (onAll lock (pks it) env) ys).onEnv (unlock env (pks it))
def evGs (Γ : Glob) : List G → Env → List D → GO
  | [], env, ys => .nx env ys
  | s :: r, env, ys => match evG Γ s env ys with
      | .nx e ys2 => evGs Γ r e ys2
      | .bad => .bad
end
/-- a def: its names' number, what it hands back new, its body; a generator's -/
structure Body where
  n : Nat
  fresh : Bool
  code : List S
  gen : Option (List G) := none
  deriving Inhabited
def runB (Γ : Glob) (b : Body) (as : List Slot) : R D := match evSs Γ b.code (as ++ List.replicate (b.n - as.length) .un) with
  | .ret d own => if b.fresh && isMut d && !own then .bad else .ok d
  | .nx _ => .ok .non
  | .exc x _ => .exc x
  | _ => .bad
def runG (Γ : Glob) (b : Body) (as : List Slot) : R (List D) := match b.gen with
  | some g => (match evGs Γ g (as ++ List.replicate (b.n - as.length) .un) [] with
    | .nx _ ys => .ok ys
    | .bad => .bad)
  | none => .bad
end Mi
namespace Mi
open PySem L2

/-- the written things: attribute names, classes, exception classes with their field -/
structure Wd where
  K : PySem.W.Frag
  an : Nat → Str
  cl : Nat → Addr → Prop
  xc : Nat → Value
  xf : Nat → Str

/-- the addresses whose content is settled -/
abbrev Fz := Addr → Prop

mutual
def Rep (Z : Wd) (F : Fz) (H : Hp) : D → V → Prop
  | .non, v => v = .non
  | .bl b, v => v = .bl b
  | .int i, v => v = .int i
  | .str s, v => v = .str s
  | .tup ds, v => ∃ a vs, v = .ref a ∧ F a ∧ H a = some (.tup vs) ∧ Reps Z F H ds vs
  | .lst ds, v => ∃ a vs, v = .ref a ∧ F a ∧ H a = some (.lst vs) ∧ Reps Z F H ds vs
  | .ins c ns ds, v => ∃ a C dx fs, v = .ref a ∧ F a ∧ H a = some (.ins C dx fs) ∧ Z.cl c C ∧ fs.map (·.1) = ns.map Z.an ∧ Reps Z F H ds (fs.map (·.2))
  | .scr ns, v => (∃ a, v = .ref a ∧ (∃ o, H a = some (.frz o (.lst (ns.map V.int)))) ∧ F a) ∨ (∃ a, v = .ref a ∧ SqL Z.K (fun _ => none) a (ns.map V.int))
  | .dct _ _, _ => False
  | .itr _, _ => False
def Reps (Z : Wd) (F : Fz) (H : Hp) : List D → List V → Prop
  | [], vs => vs = []
  | d :: ds, vs => ∃ v r, vs = v :: r ∧ Rep Z F H d v ∧ Reps Z F H ds r
end

section
variable {Z : Wd} {F F' : Fz} {H H' : Hp}
mutual
theorem Rep.mono (hF : ∀ a, F a → F' a) (hH : ∀ a o, F a → H a = some o → H' a = some o) : ∀ (d : D) (v : V), Rep Z F H d v → Rep Z F' H' d v
  | .non, _, h => h
  | .bl _, _, h => h
  | .int _, _, h => h
  | .str _, _, h => h
  | .tup ds, _, ⟨a, vs, e, f, h, r⟩ => ⟨a, vs, e, hF a f, hH a _ f h, Reps.mono hF hH ds vs r⟩
  | .lst ds, _, ⟨a, vs, e, f, h, r⟩ => ⟨a, vs, e, hF a f, hH a _ f h, Reps.mono hF hH ds vs r⟩
  | .ins c ns ds, _, ⟨a, C, dx, fs, e, f, h, k, n, r⟩ => ⟨a, C, dx, fs, e, hF a f, hH a _ f h, k, n, Reps.mono hF hH ds _ r⟩
  | .scr ns, _, h => by
    rcases h with ⟨a, e, ⟨o, q⟩, f⟩ | h
    · exact .inl ⟨a, e, ⟨o, hH a _ f q⟩, hF a f⟩
    · exact .inr h
  | .dct _ _, _, h => h.elim
  | .itr _, _, h => h.elim
theorem Reps.mono (hF : ∀ a, F a → F' a) (hH : ∀ a o, F a → H a = some o → H' a = some o) : ∀ (ds : List D) (vs : List V), Reps Z F H ds vs → Reps Z F' H' ds vs
  | [], _, h => h
  | d :: ds, _, ⟨v, r, e, h1, h2⟩ => ⟨v, r, e, Rep.mono hF hH d v h1, Reps.mono hF hH ds r h2⟩
end

theorem reps_iff : ∀ {ds : List D} {vs : List V}, Reps Z F H ds vs ↔ ds.length = vs.length ∧ ∀ (i : Nat) (d : D) (v : V), ds[i]? = some d → vs[i]? = some v → Rep Z F H d v
  | [], vs => by
    constructor
    · intro h
      have e : vs = [] := h
      subst e
      exact ⟨rfl, fun i d v h1 => by simp at h1⟩
    · rintro ⟨h, _⟩
      cases vs with
      | nil => rfl
      | cons v r => simp at h
  | d :: ds, vs => by
    constructor
    · rintro ⟨v, r, e, h1, h2⟩
      subst e
      obtain ⟨l, g⟩ := reps_iff.mp h2
      refine ⟨by simp [l], fun i d' v' e1 e2 => ?_⟩
      cases i with
      | zero =>
        simp at e1 e2
        subst e1
        subst e2
        exact h1
      | succ i => exact g i d' v' (by simpa using e1) (by simpa using e2)
    · rintro ⟨l, g⟩
      cases vs with
      | nil => simp at l
      | cons v r =>
        refine ⟨v, r, rfl, g 0 d v rfl rfl, reps_iff.mpr ⟨by simpa using l, fun i d' v' e1 e2 => g (i + 1) d' v' (by simpa using e1) (by simpa using e2)⟩⟩
theorem Reps.length {ds : List D} {vs : List V} (h : Reps Z F H ds vs) : ds.length = vs.length := (reps_iff.mp h).1
theorem Reps.get {ds : List D} {vs : List V} (h : Reps Z F H ds vs) {i : Nat} {d : D} {v : V} (e1 : ds[i]? = some d) (e2 : vs[i]? = some v) : Rep Z F H d v := (reps_iff.mp h).2 i d v e1 e2
theorem Reps.at {ds : List D} {vs : List V} (h : Reps Z F H ds vs) {i : Nat} {d : D} (e1 : ds[i]? = some d) : ∃ v, vs[i]? = some v ∧ Rep Z F H d v := by
  have hi : i < vs.length := by
    rw [← h.length]
    exact (List.getElem?_eq_some_iff.mp e1).1
  exact ⟨vs[i], by simp [hi], h.get e1 (by simp [hi])⟩
theorem Reps.append {ds es : List D} {vs us : List V} (h1 : Reps Z F H ds vs) (h2 : Reps Z F H es us) : Reps Z F H (ds ++ es) (vs ++ us) := by
  induction ds generalizing vs with
  | nil =>
    have e : vs = [] := h1
    subst e
    exact h2
  | cons d ds ih =>
    obtain ⟨v, r, e, a, b⟩ := h1
    subst e
    exact ⟨v, r ++ us, rfl, a, ih b⟩
theorem Reps.one {d : D} {v : V} (h : Rep Z F H d v) : Reps Z F H [d] [v] := ⟨v, [], rfl, h, rfl⟩
theorem Reps.snoc {ds : List D} {vs : List V} {d : D} {v : V} (h1 : Reps Z F H ds vs) (h : Rep Z F H d v) : Reps Z F H (ds ++ [d]) (vs ++ [v]) := h1.append (.one h)
theorem Reps.take {ds : List D} {vs : List V} (n : Nat) (h : Reps Z F H ds vs) : Reps Z F H (ds.take n) (vs.take n) := by
  refine reps_iff.mpr ⟨by simp [h.length], fun i d v e1 e2 => ?_⟩
  rw [List.getElem?_take] at e1 e2
  split at e1
  · rename_i hi
    rw [if_pos hi] at e2
    exact h.get e1 e2
  · cases e1
theorem Reps.drop {ds : List D} {vs : List V} (n : Nat) (h : Reps Z F H ds vs) : Reps Z F H (ds.drop n) (vs.drop n) := by
  refine reps_iff.mpr ⟨by simp [h.length], fun i d v e1 e2 => ?_⟩
  rw [List.getElem?_drop] at e1 e2
  exact h.get e1 e2
theorem Reps.set {ds : List D} {vs : List V} {d : D} {v : V} (n : Nat) (h : Reps Z F H ds vs) (hd : Rep Z F H d v) : Reps Z F H (ds.set n d) (vs.set n v) := by
  refine reps_iff.mpr ⟨by simp [h.length], fun i d' v' e1 e2 => ?_⟩
  by_cases hi : n = i
  · subst hi
    have hl : n < ds.length := by
      have := (List.getElem?_eq_some_iff.mp e1).1
      simpa using this
    rw [List.getElem?_set_self hl] at e1
    rw [List.getElem?_set_self (by rw [← h.length]; exact hl)] at e2
    cases e1
    cases e2
    exact hd
  · rw [List.getElem?_set_ne hi] at e1 e2
    exact h.get e1 e2
theorem reps_ints (ns : List Int) : Reps Z F H (ns.map D.int) (ns.map V.int) := by
  induction ns with
  | nil => rfl
  | cons n ns ih => exact ⟨V.int n, ns.map V.int, rfl, rfl, ih⟩
theorem reps_toInts : ∀ {ds : List D} {vs : List V} {ns : List Int}, Reps Z F H ds vs → toInts ds = some ns → vs = ns.map V.int
  | [], vs, ns, h, e => by
    cases e
    exact h
  | d :: ds, vs, ns, h, e => by
    obtain ⟨v, r, e1, a, b⟩ := h
    subst e1
    cases d with
    | int i =>
      unfold toInts at e
      obtain ⟨ms, e2, rfl⟩ := Option.map_eq_some_iff.mp e
      have := reps_toInts b e2
      subst this
      have : v = .int i := a
      subst this
      rfl
    | _ => cases e
end

/-! ### steps of expressions: what stands stays -/
structure Ext (F : Fz) (H : Hp) (F' : Fz) (H' : Hp) : Prop where
  ob : ∀ a o, H a = some o → H' a = some o
  fz : ∀ a, F a → F' a
  nw : ∀ a, F' a → F a ∨ H a = none
  th : ∀ a, F' a → H' a ≠ none
section
variable {Z : Wd} {F F1 F2 Fb : Fz} {H H1 H2 : Hp}
theorem Ext.back (e : Ext F H F1 H1) {a : Addr} (h : H1 a = none) : H a = none := by
  cases q : H a with
  | none => rfl
  | some o =>
    rw [e.ob a o q] at h
    cases h
theorem Ext.trans (e : Ext F H F1 H1) (g : Ext F1 H1 F2 H2) : Ext F H F2 H2 :=
  ⟨fun a o h => g.ob a o (e.ob a o h), fun a f => g.fz a (e.fz a f), fun a f => (g.nw a f).elim (e.nw a) fun h => .inr (e.back h), g.th⟩
theorem Ext.refl (h : ∀ a, F a → H a ≠ none) : Ext F H F H := ⟨fun _ _ h => h, fun _ f => f, fun _ f => .inl f, h⟩
theorem Ext.rep (e : Ext F H F1 H1) {d : D} {v : V} (r : Rep Z F H d v) : Rep Z F1 H1 d v := r.mono e.fz fun a o _ h => e.ob a o h
theorem Ext.reps (e : Ext F H F1 H1) {d : List D} {v : List V} (r : Reps Z F H d v) : Reps Z F1 H1 d v := r.mono e.fz fun a o _ h => e.ob a o h
/-- the settled addresses and one more -/
def Fz.and (F : Fz) (p : Addr) : Fz := fun a => F a ∨ a = p
/-- a new object, settled -/
theorem Ext.newF {p : Addr} {o : HO} (th : ∀ a, F a → H a ≠ none) (hp : H p = none) : Ext F H (F.and p) (upd H p o) := by
  refine ⟨fun a u e => ?_, fun a f => .inl f, fun a f => ?_, fun a f => ?_⟩
  · rw [upd_ne (ne_of_none e hp)]
    exact e
  · rcases f with f | rfl
    · exact .inl f
    · exact .inr hp
  · by_cases e : a = p
    · subst e
      rw [upd_same]
      exact fun z => by cases z
    · rw [upd_ne e]
      rcases f with f | f
      · exact th a f
      · exact absurd f e
/-- a new object, not settled -/
theorem Ext.new {p : Addr} {o : HO} (th : ∀ a, F a → H a ≠ none) (hp : H p = none) : Ext F H F (upd H p o) := by
  have e := Ext.newF (o := o) th hp
  exact ⟨e.ob, fun _ f => f, fun _ f => .inl f, fun a f => e.th a (.inl f)⟩
end

/-! ### the frame -/
/-- a list that the frame alone holds -/
def Own (Z : Wd) (F : Fz) (H : Hp) : D → Addr → Prop
  | .lst ds, a => ∃ vs, H a = some (.lst vs) ∧ Reps Z F H ds vs
  | _, _ => False
/-- a value that is looked at -/
def Lnt (Z : Wd) (F : Fz) (H : Hp) : D → V → Prop
  | .lst ds, v => ∃ a vs, v = .ref a ∧ H a = some (.lst vs) ∧ Reps Z F H ds vs
  | d, v => Rep Z F H d v
def Brw (Z : Wd) (F Fb : Fz) (H : Hp) : D → V → Prop
  | .lst ds, v => ∃ a vs, v = .ref a ∧ (F a ∨ Fb a) ∧ H a = some (.lst vs) ∧ Reps Z F H ds vs
  | d, v => Rep Z F H d v
def SlotOk (Z : Wd) (F Fb : Fz) (H : Hp) (s : Slot) (w : Option (Option V)) : Prop := match s with
  | .un => True
  | .frz d => ∃ v, w = some (some v) ∧ Rep Z F H d v
  | .bor d => ∃ v, w = some (some v) ∧ Brw Z F Fb H d v
  | .own d => ∃ a, w = some (some (.ref a)) ∧ ¬ F a ∧ ¬ Fb a ∧ Own Z F H d a
def OwnAt (env : Env) (σ : St) (i : Nat) (a : Addr) : Prop := (∃ d, gt env i = .own d) ∧ σ[i]? = some (some (.ref a))
structure Fr (Z : Wd) (F Fb : Fz) (H : Hp) (σ : St) (env : Env) : Prop where
  len : env.length = σ.length
  th : ∀ a, F a → H a ≠ none
  thb : ∀ a, Fb a → H a ≠ none
  sl : ∀ i, SlotOk Z F Fb H (gt env i) σ[i]?
  sep : ∀ i j a, OwnAt env σ i a → OwnAt env σ j a → i = j
section
variable {Z : Wd} {F F1 Fb : Fz} {H H1 : Hp} {σ : St} {env : Env}
theorem Lnt.of_rep {d : D} {v : V} (h : Rep Z F H d v) : Lnt Z F H d v := by
  cases d with
  | lst ds =>
    obtain ⟨a, vs, e, _, q, r⟩ := h
    exact ⟨a, vs, e, q, r⟩
  | _ => exact h
theorem Lnt.of_brw {d : D} {v : V} (h : Brw Z F Fb H d v) : Lnt Z F H d v := by
  cases d with
  | lst ds =>
    obtain ⟨a, vs, e, _, q, r⟩ := h
    exact ⟨a, vs, e, q, r⟩
  | _ => exact h
theorem Lnt.of_own {d : D} {a : Addr} (h : Own Z F H d a) : Lnt Z F H d (.ref a) := by
  cases d with
  | lst ds =>
    obtain ⟨vs, q, r⟩ := h
    exact ⟨a, vs, rfl, q, r⟩
  | _ => exact h.elim
theorem Ext.lnt (e : Ext F H F1 H1) {d : D} {v : V} (h : Lnt Z F H d v) : Lnt Z F1 H1 d v := by
  cases d with
  | lst ds =>
    obtain ⟨a, vs, e1, q, r⟩ := h
    exact ⟨a, vs, e1, e.ob a _ q, e.reps r⟩
  | _ => exact e.rep h
theorem Ext.brw (e : Ext F H F1 H1) {d : D} {v : V} (h : Brw Z F Fb H d v) : Brw Z F1 Fb H1 d v := by
  cases d with
  | lst ds =>
    obtain ⟨a, vs, e1, f, q, r⟩ := h
    exact ⟨a, vs, e1, f.imp (e.fz a) id, e.ob a _ q, e.reps r⟩
  | _ => exact e.rep h
theorem Own.there {d : D} {a : Addr} (h : Own Z F H d a) : H a ≠ none := by
  cases d with
  | lst ds =>
    obtain ⟨vs, q, r⟩ := h
    rw [q]
    exact fun z => by cases z
  | _ => exact h.elim
theorem Ext.own (e : Ext F H F1 H1) {d : D} {a : Addr} (h : Own Z F H d a) : Own Z F1 H1 d a := by
  cases d with
  | lst ds =>
    obtain ⟨vs, q, r⟩ := h
    exact ⟨vs, e.ob a _ q, e.reps r⟩
  | _ => exact h.elim
theorem Fr.ext (h : Fr Z F Fb H σ env) (e : Ext F H F1 H1) : Fr Z F1 Fb H1 σ env := by
  refine ⟨h.len, e.th, fun a f => ?_, fun i => ?_, h.sep⟩
  · cases q : H a with
    | none => exact absurd q (h.thb a f)
    | some o =>
      rw [e.ob a o q]
      exact fun z => by cases z
  · have q := h.sl i
    unfold SlotOk at q ⊢
    split
    · trivial
    · rename_i d hd
      rw [hd] at q
      obtain ⟨v, e1, r⟩ := q
      exact ⟨v, e1, e.rep r⟩
    · rename_i d hd
      rw [hd] at q
      obtain ⟨v, e1, r⟩ := q
      exact ⟨v, e1, e.brw r⟩
    · rename_i d hd
      rw [hd] at q
      obtain ⟨a, e1, n1, n2, o⟩ := q
      exact ⟨a, e1, fun f => (e.nw a f).elim n1 fun z => o.there z, n2, e.own o⟩
end

/-! ### readings -/
def XRep (Z : Wd) (F : Fz) (H : Hp) (x : Xn) (cls : Value) (dd : Option Addr) : Prop :=
  cls = Z.xc x.c ∧ match x.f with
    | none => True
    | some d => ∃ a v, dd = some a ∧ H a = some (.xd [(Z.xf x.c, v)]) ∧ Rep Z F H d v
structure Sit where
  Z : Wd
  Γ : Glob
  W : WX
/-- what an answer asks -/
def Ans {α : Type} (S : Sit) (σ : St) (F : Fz) (H : Hp) (r : R α) (k : α → Prop) : Prop := match r with
  | .ok a => k a
  | .exc x => ∀ cls dd F' H', Ext F H F' H' → XRep S.Z F' H' x cls dd → S.W cls dd σ H'
  | .bad => False
section
variable {S : Sit} {σ : St} {F F1 : Fz} {H H1 : Hp} {α β : Type}
theorem ans_bind {r : R α} {f : α → R β} {k : β → Prop} : Ans S σ F H (r.bind f) k ↔ Ans S σ F H r fun a => Ans S σ F H (f a) k := by
  cases r <;> exact Iff.rfl
theorem ans_map {r : R α} {f : α → β} {k : β → Prop} : Ans S σ F H (r.map f) k ↔ Ans S σ F H r fun a => k (f a) := by
  cases r <;> exact Iff.rfl
theorem Ans.mono {r : R α} {k k' : α → Prop} (h : Ans S σ F H r k) (i : ∀ a, k a → k' a) : Ans S σ F H r k' := by
  cases r with
  | ok a => exact i a h
  | exc x => exact h
  | bad => exact h
theorem Ans.ext {r : R α} {k : α → Prop} (h : Ans S σ F H r k) (e : Ext F H F1 H1) : Ans S σ F1 H1 r k := by
  cases r with
  | ok a => exact h
  | exc x => exact fun cls dd F' H' g => h cls dd F' H' (e.trans g)
  | bad => exact h
end
/-- how a value comes back -/
inductive Kd where
  | val | fresh | lent
def kd : E → Kd
  | .peek _ => .lent
  | e => if frs e then .fresh else .val
def Post (Z : Wd) (k : Kd) (F' : Fz) (H H' : Hp) (d : D) (v : V) : Prop := match k with
  | .lent => Lnt Z F' H' d v
  | .val => Rep Z F' H' d v
  | .fresh => if isMut d then ∃ a, v = .ref a ∧ H a = none ∧ ¬ F' a ∧ Own Z F' H' d a else Rep Z F' H' d v
def tE (S : Sit) (m : E) : TE := fun σ H Q => ∃ F Fb env, Fr S.Z F Fb H σ env ∧
  Ans S σ F H (evE S.Γ m env) fun d => ∀ v F' H', Ext F H F' H' → Post S.Z (kd m) F' H H' d v → Q v H'
def tL (S : Sit) (m : E) : TE := fun σ H Q => ∃ F Fb env, Fr S.Z F Fb H σ env ∧
  Ans S σ F H (evE S.Γ m env) fun d => ∀ v F' H', Ext F H F' H' → Lnt S.Z F' H' d v → Q v H'
def tF (S : Sit) (m : E) : TE := fun σ H Q => ∃ F Fb env, Fr S.Z F Fb H σ env ∧
  Ans S σ F H (evE S.Γ m env) fun d => ∀ v F' H', Ext F H F' H' → Rep S.Z F' H' d v → Q v H'
/-- a test -/
def tT (S : Sit) (m : E) : TT := fun σ H Q => ∃ F Fb env, Fr S.Z F Fb H σ env ∧ Ans S σ F H ((evE S.Γ m env).bind truth) fun t => ∀ F' H', Ext F H F' H' → Q t H'
theorem PE.imp {X : Cx} {e : PySem.Expr} {t t' : TE} (h : PE X e t) (i : ∀ σ H Q, t' σ H Q → t σ H Q) : PE X e t' := ⟨fun pins s σ H Q I q => h.run pins s σ H Q I (i σ H Q q)⟩
theorem PA.imp {X : Cx} {e : List PySem.Expr} {t t' : TA} (h : PA X e t) (i : ∀ σ H Q, t' σ H Q → t σ H Q) : PA X e t' := ⟨fun pos pins s σ H Q I q => h.run pos pins s σ H Q I (i σ H Q q)⟩
theorem PT.imp {X : Cx} {e : PySem.Expr} {t t' : TT} (h : PT X e t) (i : ∀ σ H Q, t' σ H Q → t σ H Q) : PT X e t' := ⟨fun pins s σ H Q I q => h.run pins s σ H Q I (i σ H Q q)⟩
theorem PS.imp {X : Cx} {e : PySem.Stmt} {t t' : TS} (h : PS X e t) (i : ∀ D σ H, t' D σ H → t D σ H) : PS X e t' := ⟨fun pins s σ H D I q => h.run pins s σ H D I (i D σ H q)⟩
section
variable {X : Cx} {e : PySem.Expr} {S : Sit} {m : E}
theorem Post.lnt {Z : Wd} {k : Kd} {F' : Fz} {H H' : Hp} {d : D} {v : V} (h : Post Z k F' H H' d v) : Lnt Z F' H' d v := by
  cases k with
  | lent => exact h
  | val => exact .of_rep h
  | fresh =>
    unfold Post at h
    dsimp only at h
    split at h
    · obtain ⟨a, rfl, _, _, o⟩ := h
      exact .of_own o
    · exact .of_rep h
/-- a new list is settled -/
theorem Post.frz {Z : Wd} {k : Kd} {F F' : Fz} {H H' : Hp} {d : D} {v : V} (h : Post Z k F' H H' d v) (g : Ext F H F' H') (hk : k ≠ .lent) : ∃ F2, Ext F H F2 H' ∧ Rep Z F2 H' d v := by
  cases k with
  | lent => exact absurd rfl hk
  | val => exact ⟨F', g, h⟩
  | fresh =>
    unfold Post at h
    dsimp only at h
    split at h
    · obtain ⟨a, rfl, hn, hf, o⟩ := h
      cases d with
      | lst ds =>
        obtain ⟨vs, q, r⟩ := o
        refine ⟨F'.and a, ⟨g.ob, fun b f => .inl (g.fz b f), fun b f => ?_, fun b f => ?_⟩, a, vs, rfl, .inr rfl, q, r.mono (fun _ f => .inl f) fun _ _ _ z => z⟩
        · rcases f with f | rfl
          · exact g.nw b f
          · exact .inr hn
        · rcases f with f | rfl
          · exact g.th b f
          · rw [q]
            exact fun z => by cases z
      | _ => exact o.elim
    · exact ⟨F', g, h⟩
theorem lent_of (h : PE X e (tE S m)) : PE X e (tL S m) := PE.imp h fun σ H Q ⟨F, Fb, env, fr, a⟩ => ⟨F, Fb, env, fr, a.mono fun d k v F' H' g p => k v F' H' g p.lnt⟩
theorem frz_of (h : PE X e (tE S m)) (hk : kd m ≠ .lent) : PE X e (tF S m) := PE.imp h fun σ H Q ⟨F, Fb, env, fr, a⟩ => ⟨F, Fb, env, fr, a.mono fun d k v F' H' g p => by
  obtain ⟨F2, g2, r⟩ := p.frz g hk
  exact k v F2 H' g2 r⟩
end
end Mi
namespace Mi
open PySem L2

theorem line_le {n : Nat} (h : lenLine n = true) : n ≤ sizeLine := by
  have h1 : n ≤ 1000000 := of_decide_eq_true h
  rw [sizeLine_eq]
  omega
theorem line_lt {n : Nat} (h : lenLine n = true) : n < sizeLine := by
  have h1 : n ≤ 1000000 := of_decide_eq_true h
  rw [sizeLine_eq]
  omega
theorem Ans.ite {α : Type} {S : Sit} {σ : St} {F : Fz} {H : Hp} {b : Bool} {r : R α} {k : α → Prop} (h : Ans S σ F H (if b then r else .bad) k) : b = true ∧ Ans S σ F H r k := by
  cases b with
  | true => exact ⟨rfl, h⟩
  | false => exact h.elim

section
variable {S : Sit} {σ : St} {F F1 F2 Fb : Fz} {H H1 H2 : Hp} {env : Env} {Z : Wd}
theorem Ext.nof (e : Ext F H F2 H2) {p : Addr} (hp : H2 p = none) : ¬ F2 p := fun f => e.th p f hp
theorem newL (e : Ext F H F2 H2) {p : Addr} (hp : H2 p = none) {ds : List D} {vs : List V} (r : Reps Z F2 H2 ds vs) :
    Ext F H F2 (upd H2 p (.lst vs)) ∧ Post Z .fresh F2 H (upd H2 p (.lst vs)) (.lst ds) (.ref p) := by
  have g := Ext.new (o := .lst vs) e.th hp
  exact ⟨e.trans g, p, rfl, e.back hp, e.nof hp, vs, upd_same, g.reps r⟩
theorem newT (e : Ext F H F2 H2) {p : Addr} (hp : H2 p = none) {ds : List D} {vs : List V} (r : Reps Z F2 H2 ds vs) :
    Ext F H (F2.and p) (upd H2 p (.tup vs)) ∧ Rep Z (F2.and p) (upd H2 p (.tup vs)) (.tup ds) (.ref p) := by
  have g := Ext.newF (o := .tup vs) e.th hp
  exact ⟨e.trans g, p, vs, rfl, .inr rfl, upd_same, g.reps r⟩
/-- what is asked of a value and the heap behind it -/
def Hope (S : Sit) (k : Kd) (F : Fz) (H : Hp) (Q : VK) (d : D) : Prop := ∀ v F' H', Ext F H F' H' → Post S.Z k F' H H' d v → Q v H'
theorem Hope.rep {k : Kd} {Q : VK} {d : D} {v : V} (h : Hope S k F H Q d) (hm : isMut d = false) (e : Ext F H F1 H1) (r : Rep S.Z F1 H1 d v) : Q v H1 := by
  refine h v F1 H1 e ?_
  cases k with
  | lent => exact .of_rep r
  | val => exact r
  | fresh =>
    unfold Post
    rw [hm]
    exact r
theorem one_l {a : E} {P : V → Hp → Prop} (fr : Fr S.Z F Fb H σ env) (h : Ans S σ F H (evE S.Γ a env) fun x => ∀ v F1 H1, Ext F H F1 H1 → Lnt S.Z F1 H1 x v → P v H1) : tL S a σ H P := ⟨F, Fb, env, fr, h⟩
theorem two_l {a b : E} {P : V → V → Hp → Prop} (fr : Fr S.Z F Fb H σ env)
    (h : Ans S σ F H (evE S.Γ a env) fun x => Ans S σ F H (evE S.Γ b env) fun y => ∀ v u F2 H2, Ext F H F2 H2 → Lnt S.Z F2 H2 x v → Lnt S.Z F2 H2 y u → P v u H2) :
    tL S a σ H fun v H1 => tL S b σ H1 fun u H2 => P v u H2 := by
  refine one_l fr (h.mono fun x hx v F1 H1 e1 l1 => one_l (fr.ext e1) ((hx.ext e1).mono fun y hy u F2 H2 e2 l2 => ?_))
  exact hy v u F2 H2 (e1.trans e2) (e2.lnt l1) l2
theorem tE_def {m : E} {Q : VK} : tE S m σ H Q = ∃ F Fb env, Fr S.Z F Fb H σ env ∧ Ans S σ F H (evE S.Γ m env) (Hope S (kd m) F H Q) := rfl
end

/-! ### operators -/
def opOf : Bop → Operator
  | .add => .Add
  | .sub => .Sub
  | .mul => .Mult
  | .fdiv => .FloorDiv
  | .mod => .Mod
  | .pow => .Pow
section
variable {X : Cx} {S : Sit} {a b c : PySem.Expr} {ma mb mc : E} {pos : Pos}
theorem int_of {Z : Wd} {F : Fz} {H : Hp} {i : Int} {v : V} (h : Lnt Z F H (.int i) v) : v = .int i := h
theorem str_of {Z : Wd} {F : Fz} {H : Hp} {i : Str} {v : V} (h : Lnt Z F H (.str i) v) : v = .str i := h
theorem reps_flat {Z : Wd} {F : Fz} {H : Hp} {ds : List D} {vs : List V} (h : Reps Z F H ds vs) : ∀ n : Nat, Reps Z F H (List.replicate n ds).flatten (List.replicate n vs).flatten
  | 0 => rfl
  | n + 1 => by
    rw [List.replicate_succ, List.replicate_succ, List.flatten_cons, List.flatten_cons]
    exact h.append (reps_flat h n)
theorem s_op {o : Operator} {bo : Bop} {r : R2} (ha : PE X a (tE S ma)) (hb : PE X b (tE S mb)) (hr : OpR X (binaryOp o) r)
    (h : ∀ (σ : St) (F F2 : Fz) (H H2 : Hp) (x y : D) (v u : V) (Q : VK), Ans S σ F H (binD bo x y) (Hope S .fresh F H Q) → Ext F H F2 H2 → Lnt S.Z F2 H2 x v → Lnt S.Z F2 H2 y u → r v u H2 Q) :
    PE X (.BinOp a o b pos) (tE S (.bin bo ma mb)) := by
  refine PE.imp (pe_op hr (lent_of ha) (lent_of hb)) fun σ H Q ⟨F, Fb, env, fr, q⟩ => ?_
  rw [evE, ans_bind] at q
  exact two_l fr (q.mono fun x hx => (ans_bind.mp hx).mono fun y hy v u F2 H2 e l1 l2 => h σ F F2 H H2 x y v u Q hy e l1 l2)
theorem s_add (ha : PE X a (tE S ma)) (hb : PE X b (tE S mb)) : PE X (.BinOp a .Add b pos) (tE S (.bin .add ma mb)) := by
  refine s_op ha hb (op_add.or (op_add_str.or (op_catA.or op_cat))) fun σ F F2 H H2 x y v u Q q e l1 l2 => ?_
  rw [binD] at q
  unfold addD at q
  split at q
  · rename_i i j
    exact .inl ⟨i, j, l1, l2, q.rep rfl e rfl⟩
  · rename_i i j
    obtain ⟨z, q⟩ := q.ite
    exact .inr (.inl ⟨i, j, l1, l2, line_le z, q.rep rfl e rfl⟩)
  · rename_i xs ys
    obtain ⟨z, q⟩ := q.ite
    obtain ⟨p1, vs, e1, f1, h1, r1⟩ := l1
    obtain ⟨p2, us, e2, f2, h2, r2⟩ := l2
    subst e1 e2
    refine .inr (.inr (.inl ⟨p1, p2, vs, us, rfl, rfl, .of h1, .of h2, by rw [← r1.length, ← r2.length]; exact line_le z, fun n => ?_, fun n1 n2 => ?_, fun n1 n2 p hp => ?_⟩))
    · subst n
      have : xs = [] := by
        have := r1.length
        simpa using this
      subst this
      exact q.rep rfl e ⟨p2, us, rfl, f2, h2, r2⟩
    · subst n2
      have : ys = [] := by
        have := r2.length
        simpa using this
      subst this
      rw [List.append_nil] at q
      exact q.rep rfl e ⟨p1, vs, rfl, f1, h1, r1⟩
    · obtain ⟨g, r⟩ := newT e hp (r1.append r2)
      exact q.rep rfl g r
  · rename_i xs ys
    obtain ⟨z, q⟩ := q.ite
    obtain ⟨p1, vs, e1, h1, r1⟩ := l1
    obtain ⟨p2, us, e2, h2, r2⟩ := l2
    subst e1 e2
    refine .inr (.inr (.inr ⟨p1, p2, vs, us, rfl, rfl, h1, h2, by rw [← r1.length, ← r2.length]; exact line_le z, fun p hp => ?_⟩))
    obtain ⟨g, r⟩ := newL e hp (r1.append r2)
    exact q _ _ _ g r
  · exact q.elim

theorem s_sub (ha : PE X a (tE S ma)) (hb : PE X b (tE S mb)) : PE X (.BinOp a .Sub b pos) (tE S (.bin .sub ma mb)) := by
  refine s_op ha hb op_sub fun σ F F2 H H2 x y v u Q q e l1 l2 => ?_
  rw [binD] at q
  unfold subD at q
  split at q
  · rename_i i j
    exact ⟨i, j, l1, l2, q.rep rfl e rfl⟩
  · exact q.elim
theorem s_mul (ha : PE X a (tE S ma)) (hb : PE X b (tE S mb)) : PE X (.BinOp a .Mult b pos) (tE S (.bin .mul ma mb)) := by
  refine s_op ha hb (op_mul.or (op_mulW.or op_rep)) fun σ F F2 H H2 x y v u Q q e l1 l2 => ?_
  rw [binD] at q
  unfold mulD at q
  split at q
  · rename_i i j
    obtain ⟨z, q⟩ := q.ite
    unfold fitMul at z
    rw [Bool.or_eq_true, Bool.or_eq_true, decide_eq_true_eq, decide_eq_true_eq, decide_eq_true_eq] at z
    rcases z with z | z
    · exact .inl ⟨i, j, l1, l2, z, q.rep rfl e rfl⟩
    · exact .inr (.inl ⟨i, j, l1, l2, z, q.rep rfl e rfl⟩)
  · rename_i xs k
    obtain ⟨z, q⟩ := q.ite
    rw [Bool.and_eq_true, decide_eq_true_eq] at z
    obtain ⟨p1, vs, e1, h1, r1⟩ := l1
    subst e1
    refine .inr (.inr ⟨p1, k, vs, rfl, l2, h1, by omega, by omega, by rw [← r1.length]; exact line_le z.2, fun p hp => ?_⟩)
    obtain ⟨g, r⟩ := newL e hp (reps_flat r1 k.toNat)
    exact q _ _ _ g r
  · exact q.elim
theorem s_fdiv (ha : PE X a (tE S ma)) (hb : PE X b (tE S mb)) : PE X (.BinOp a .FloorDiv b pos) (tE S (.bin .fdiv ma mb)) := by
  refine s_op ha hb op_fdivW fun σ F F2 H H2 x y v u Q q e l1 l2 => ?_
  rw [binD] at q
  unfold fdivD at q
  split at q
  · rename_i i j
    obtain ⟨z, q⟩ := q.ite
    unfold fitDiv at z
    rw [decide_eq_true_eq] at z
    exact ⟨i, j, l1, l2, z, q.rep rfl e rfl⟩
  · exact q.elim
theorem s_mod (ha : PE X a (tE S ma)) (hb : PE X b (tE S mb)) : PE X (.BinOp a .Mod b pos) (tE S (.bin .mod ma mb)) := by
  refine s_op ha hb op_mod fun σ F F2 H H2 x y v u Q q e l1 l2 => ?_
  rw [binD] at q
  unfold modD at q
  split at q
  · rename_i i j
    obtain ⟨z, q⟩ := q.ite
    exact ⟨i, j, l1, l2, of_decide_eq_true z, q.rep rfl e rfl⟩
  · exact q.elim
theorem s_pow (ha : PE X a (tE S ma)) (hb : PE X b (tE S mb)) : PE X (.BinOp a .Pow b pos) (tE S (.bin .pow ma mb)) := by
  refine s_op ha hb op_pow fun σ F F2 H H2 x y v u Q q e l1 l2 => ?_
  rw [binD] at q
  unfold powD at q
  split at q
  · rename_i i j
    obtain ⟨z, q⟩ := q.ite
    unfold fitPow at z
    rw [decide_eq_true_eq] at z
    exact ⟨i, j, l1, l2, z, q.rep rfl e rfl⟩
  · exact q.elim

/-! ### == by PyData -/
theorem toPys_map : ∀ ds : List D, toPys ds = ds.map toPy
  | [] => rfl
  | d :: ds => by rw [toPys, toPys_map ds, List.map_cons]
mutual
theorem eqOk_lay : ∀ (n : Nat) (d : D), eqOk n d = true → (toPy d).canLay0 = true ∧ (toPy d).depth ≤ n
  | 0, _, h => by simp [eqOk] at h
  | _ + 1, .non, _ => by simp [toPy, PyData.canLay0, PyData.depth]
  | _ + 1, .bl _, _ => by simp [toPy, PyData.canLay0, PyData.depth]
  | _ + 1, .int _, _ => by simp [toPy, PyData.canLay0, PyData.depth]
  | _ + 1, .str s, h => by
    rw [eqOk] at h
    simp [toPy, PyData.canLay0, PyData.depth, h]
  | n + 1, .tup xs, h => by
    rw [eqOk] at h
    have := eqOk_lays n xs h
    rw [toPy, PyData.canLay0, PyData.depth]
    exact ⟨this.1, by omega⟩
  | n + 1, .lst xs, h => by
    rw [eqOk] at h
    have := eqOk_lays n xs h
    rw [toPy, PyData.canLay0, PyData.depth]
    exact ⟨this.1, by omega⟩
  | _ + 1, .dct _ _, h => by simp [eqOk] at h
  | _ + 1, .ins _ _ _, h => by simp [eqOk] at h
  | _ + 1, .scr _, h => by simp [eqOk] at h
  | _ + 1, .itr _, h => by simp [eqOk] at h
theorem eqOk_lays : ∀ (n : Nat) (ds : List D), ds.all (eqOk n) = true → PyData.canLayAll0 (toPys ds) = true ∧ PyData.depthAll (toPys ds) ≤ n
  | n, [], _ => by simp [toPys, PyData.canLayAll0, PyData.depthAll]
  | n, d :: ds, h => by
    rw [List.all_cons, Bool.and_eq_true] at h
    have h1 := eqOk_lay n d h.1
    have h2 := eqOk_lays n ds h.2
    rw [toPys, PyData.canLayAll0, PyData.depthAll, h1.1, h2.1]
    exact ⟨rfl, Nat.max_le.mpr ⟨h1.2, h2.2⟩⟩
end
mutual
theorem dp_of {Z : Wd} {F : Fz} {H : Hp} : ∀ (n : Nat) (d : D) (v : V), eqOk n d = true → Rep Z F H d v → Dp Z.K H v (toPy d)
  | 0, _, _, h, _ => by simp [eqOk] at h
  | _ + 1, .non, _, _, r => by cases r; exact .non
  | _ + 1, .bl _, _, _, r => by cases r; exact .bl _
  | _ + 1, .int _, _, _, r => by cases r; exact .int _
  | _ + 1, .str _, _, _, r => by cases r; exact .str _
  | n + 1, .tup xs, _, h, r => by
    obtain ⟨a, vs, rfl, _, q, r⟩ := r
    rw [eqOk] at h
    exact .tup (.of q) (dps_of n xs vs h r)
  | n + 1, .lst xs, _, h, r => by
    obtain ⟨a, vs, rfl, _, q, r⟩ := r
    rw [eqOk] at h
    exact .lst (.of q) (dps_of n xs vs h r)
  | _ + 1, .dct _ _, _, h, _ => by simp [eqOk] at h
  | _ + 1, .ins _ _ _, _, h, _ => by simp [eqOk] at h
  | _ + 1, .scr _, _, h, _ => by simp [eqOk] at h
  | _ + 1, .itr _, _, h, _ => by simp [eqOk] at h
theorem dps_of {Z : Wd} {F : Fz} {H : Hp} : ∀ (n : Nat) (ds : List D) (vs : List V), ds.all (eqOk n) = true → Reps Z F H ds vs → DpAll Z.K H vs (toPys ds)
  | _, [], _, _, r => by cases r; exact .nil
  | n, d :: ds, _, h, r => by
    obtain ⟨v, us, rfl, r1, r2⟩ := r
    rw [List.all_cons, Bool.and_eq_true] at h
    exact .cons (dp_of n d v h.1 r1) (dps_of n ds us h.2 r2)
end
theorem dp_lnt {Z : Wd} {F : Fz} {H : Hp} {n : Nat} {d : D} {v : V} (h : eqOk n d = true) (r : Lnt Z F H d v) : Dp Z.K H v (toPy d) := by
  cases d with
  | lst ds =>
    obtain ⟨a, vs, rfl, q, r⟩ := r
    cases n with
    | zero => simp [eqOk] at h
    | succ n =>
      rw [eqOk] at h
      exact .lst (.of q) (dps_of n ds vs h r)
  | _ => exact dp_of (F := F) n _ v h r
theorem shaped_of {d : D} (h : eqOk 60 d = true) : SeqAt.shaped (toPy d) = true := by
  have := eqOk_lay 60 d h
  unfold SeqAt.shaped
  rw [this.1, Bool.true_and, decide_eq_true_eq]
  omega
mutual
theorem eqD_py : ∀ (n : Nat) (a b : D), eqOk n a = true → eqOk n b = true → eqD a b = PyData.eqv (toPy a) (toPy b)
  | 0, _, _, h, _ => by simp [eqOk] at h
  | n + 1, .tup xs, .tup ys, h1, h2 => by
    rw [eqOk] at h1 h2
    rw [eqD, toPy, toPy, PyData.eqv, eqDs_py n xs ys h1 h2]
  | n + 1, .lst xs, .lst ys, h1, h2 => by
    rw [eqOk] at h1 h2
    rw [eqD, toPy, toPy, PyData.eqv, eqDs_py n xs ys h1 h2]
  | _ + 1, .dct _ _, _, h, _ => by simp [eqOk] at h
  | _ + 1, .ins _ _ _, _, h, _ => by simp [eqOk] at h
  | _ + 1, .scr _, _, h, _ => by simp [eqOk] at h
  | _ + 1, .itr _, _, h, _ => by simp [eqOk] at h
  | _ + 1, _, .dct _ _, _, h => by simp [eqOk] at h
  | _ + 1, _, .ins _ _ _, _, h => by simp [eqOk] at h
  | _ + 1, _, .scr _, _, h => by simp [eqOk] at h
  | _ + 1, _, .itr _, _, h => by simp [eqOk] at h
  | _ + 1, .non, .non, _, _ => by simp [eqD, toPy, PyData.eqv]
  | _ + 1, .non, .bl _, _, _ => by simp [eqD, toPy, PyData.eqv]
  | _ + 1, .non, .int _, _, _ => by simp [eqD, toPy, PyData.eqv]
  | _ + 1, .non, .str _, _, _ => by simp [eqD, toPy, PyData.eqv]
  | _ + 1, .non, .tup _, _, _ => by simp [eqD, toPy, PyData.eqv]
  | _ + 1, .non, .lst _, _, _ => by simp [eqD, toPy, PyData.eqv]
  | _ + 1, .bl _, .non, _, _ => by simp [eqD, toPy, PyData.eqv]
  | _ + 1, .bl _, .bl _, _, _ => by simp [eqD, toPy, PyData.eqv]
  | _ + 1, .bl _, .int _, _, _ => by simp [eqD, toPy, PyData.eqv]
  | _ + 1, .bl _, .str _, _, _ => by simp [eqD, toPy, PyData.eqv]
  | _ + 1, .bl _, .tup _, _, _ => by simp [eqD, toPy, PyData.eqv]
  | _ + 1, .bl _, .lst _, _, _ => by simp [eqD, toPy, PyData.eqv]
  | _ + 1, .int _, .non, _, _ => by simp [eqD, toPy, PyData.eqv]
  | _ + 1, .int _, .bl _, _, _ => by simp [eqD, toPy, PyData.eqv]
  | _ + 1, .int _, .int _, _, _ => by simp [eqD, toPy, PyData.eqv]
  | _ + 1, .int _, .str _, _, _ => by simp [eqD, toPy, PyData.eqv]
  | _ + 1, .int _, .tup _, _, _ => by simp [eqD, toPy, PyData.eqv]
  | _ + 1, .int _, .lst _, _, _ => by simp [eqD, toPy, PyData.eqv]
  | _ + 1, .str _, .non, _, _ => by simp [eqD, toPy, PyData.eqv]
  | _ + 1, .str _, .bl _, _, _ => by simp [eqD, toPy, PyData.eqv]
  | _ + 1, .str _, .int _, _, _ => by simp [eqD, toPy, PyData.eqv]
  | _ + 1, .str _, .str _, _, _ => by simp [eqD, toPy, PyData.eqv]
  | _ + 1, .str _, .tup _, _, _ => by simp [eqD, toPy, PyData.eqv]
  | _ + 1, .str _, .lst _, _, _ => by simp [eqD, toPy, PyData.eqv]
  | _ + 1, .tup _, .non, _, _ => by simp [eqD, toPy, PyData.eqv]
  | _ + 1, .tup _, .bl _, _, _ => by simp [eqD, toPy, PyData.eqv]
  | _ + 1, .tup _, .int _, _, _ => by simp [eqD, toPy, PyData.eqv]
  | _ + 1, .tup _, .str _, _, _ => by simp [eqD, toPy, PyData.eqv]
  | _ + 1, .tup _, .lst _, _, _ => by simp [eqD, toPy, PyData.eqv]
  | _ + 1, .lst _, .non, _, _ => by simp [eqD, toPy, PyData.eqv]
  | _ + 1, .lst _, .bl _, _, _ => by simp [eqD, toPy, PyData.eqv]
  | _ + 1, .lst _, .int _, _, _ => by simp [eqD, toPy, PyData.eqv]
  | _ + 1, .lst _, .str _, _, _ => by simp [eqD, toPy, PyData.eqv]
  | _ + 1, .lst _, .tup _, _, _ => by simp [eqD, toPy, PyData.eqv]
theorem eqDs_py : ∀ (n : Nat) (a b : List D), a.all (eqOk n) = true → b.all (eqOk n) = true → eqDs a b = PyData.eqvAll (toPys a) (toPys b)
  | _, [], [], _, _ => by rw [eqDs, toPys, PyData.eqvAll]
  | _, [], _ :: _, _, _ => by rw [eqDs, toPys, toPys, PyData.eqvAll] <;> simp
  | _, _ :: _, [], _, _ => by rw [eqDs, toPys, toPys, PyData.eqvAll] <;> simp
  | n, x :: xs, y :: ys, h1, h2 => by
    rw [List.all_cons, Bool.and_eq_true] at h1 h2
    rw [eqDs, toPys, toPys, PyData.eqvAll, eqD_py n x y h1.1 h2.1, eqDs_py n xs ys h1.2 h2.2]
end

/-! ### comparisons -/
/-- as a value and as a test -/
def Both (X : Cx) (e : PySem.Expr) (S : Sit) (m : E) : Prop := PE X e (tE S m) ∧ PT X e (tT S m)
theorem cmp_bl (S : Sit) (co : Cop) (x y d : D) (h : cmpD co x y = .ok d) : ∃ k, d = .bl k := by
  have go : ∀ {r : R Bool} {f : Bool → Bool}, (r.map fun k => D.bl (f k)) = .ok d → ∃ k, d = .bl k := fun {r f} h => by
    cases r with
    | ok a => exact ⟨f a, (R.ok.inj h).symm⟩
    | exc x => cases h
    | bad => cases h
  cases co with
  | eq =>
    rw [cmpD, eqR] at h
    split at h
    · exact ⟨_, (R.ok.inj h).symm⟩
    · cases h
  | ne =>
    rw [cmpD, neR] at h
    split at h
    · exact ⟨_, (R.ok.inj h).symm⟩
    · cases h
  | isin => exact go (f := id) h
  | notin => exact go h
  | lt =>
    rw [cmpD] at h
    unfold ltD at h
    split at h
    · exact ⟨_, (R.ok.inj h).symm⟩
    · split at h
      · exact ⟨_, (R.ok.inj h).symm⟩
      · cases h
  | le =>
    rw [cmpD] at h
    unfold leD at h
    split at h
    · exact ⟨_, (R.ok.inj h).symm⟩
    · split at h
      · exact ⟨_, (R.ok.inj h).symm⟩
      · cases h
  | gt =>
    rw [cmpD] at h
    unfold gtD at h
    split at h
    · exact ⟨_, (R.ok.inj h).symm⟩
    · split at h
      · exact ⟨_, (R.ok.inj h).symm⟩
      · cases h
  | ge =>
    rw [cmpD] at h
    unfold geD at h
    split at h
    · exact ⟨_, (R.ok.inj h).symm⟩
    · split at h
      · exact ⟨_, (R.ok.inj h).symm⟩
      · cases h
theorem bl_ok (S : Sit) {m : E} {co : Cop} {ma mb : E} {env : Env} {d : D} (h : evE S.Γ (.cmp co ma mb) env = .ok d) : ∃ k, d = .bl k := by
  rw [evE] at h
  cases h1 : evE S.Γ ma env with
  | ok x =>
    rw [h1, R.bind_ok] at h
    cases h2 : evE S.Γ mb env with
    | ok y =>
      rw [h2, R.bind_ok] at h
      exact cmp_bl S co x y d h
    | exc x => rw [h2] at h; cases h
    | bad => rw [h2] at h; cases h
  | exc x => rw [h1] at h; cases h
  | bad => rw [h1] at h; cases h
/-- a test of a bool -/
theorem test_bl {t : TE} {m : E} {e : PySem.Expr} (hp : PT X e (tTest t)) (hi : ∀ σ H Q, tE S m σ H Q → t σ H Q) (hk : kd m = .val) (hb : ∀ env d, evE S.Γ m env = .ok d → ∃ k, d = .bl k) : PT X e (tT S m) := by
  refine PT.imp hp fun σ H Q ⟨F, Fb, env, fr, q⟩ => hi σ H _ ⟨F, Fb, env, fr, ?_⟩
  rw [ans_bind] at q
  rw [hk]
  cases h : evE S.Γ m env with
  | ok d =>
    rw [h] at q
    obtain ⟨k, rfl⟩ := hb env d h
    exact fun v F' H' e r => ⟨k, r, q F' H' e⟩
  | exc x =>
    rw [h] at q
    exact q
  | bad =>
    rw [h] at q
    exact q
/-- a comparison's rule and what it tells -/
structure CopR (X : Cx) (S : Sit) (op : CmpOp) (co : Cop) : Prop where
  ex : ∃ r : R2, OpR X (compareOp op) r ∧ ∀ (σ : St) (F F2 : Fz) (H H2 : Hp) (x y : D) (v u : V) (Q : VK), Ans S σ F H (cmpD co x y) (Hope S .val F H Q) → Ext F H F2 H2 → Lnt S.Z F2 H2 x v → Lnt S.Z F2 H2 y u → r v u H2 Q
theorem s_cmp {op : CmpOp} {co : Cop} (c : CopR X S op co) (ha : PE X a (tE S ma)) (hb : PE X b (tE S mb)) (hm : behindInMarks op b = false) : Both X (.Compare a [op] [b] pos) S (.cmp co ma mb) := by
  obtain ⟨r, hr, h⟩ := c.ex
  have go : ∀ σ H Q, tE S (.cmp co ma mb) σ H Q → tOp r (tL S ma) (tL S mb) σ H Q := fun σ H Q ⟨F, Fb, env, fr, q⟩ => by
    rw [evE, ans_bind] at q
    exact two_l fr (q.mono fun x hx => (ans_bind.mp hx).mono fun y hy v u F2 H2 e l1 l2 => h σ F F2 H H2 x y v u Q hy e l1 l2)
  exact ⟨PE.imp (pe_cmpR hr (lent_of ha) (lent_of hb) hm) go, test_bl (pt_cmpR hr (lent_of ha) (lent_of hb) hm) go rfl fun env d h => bl_ok S (m := ma) h⟩
theorem chain_bl (S : Sit) {o o' : Cop} {mc : E} {env : Env} {d : D} (h : evE S.Γ (.chain o o' ma mb mc) env = .ok d) : ∃ k, d = .bl k := by
  rw [evE] at h
  cases h1 : evE S.Γ ma env with
  | ok x =>
    rw [h1, R.bind_ok] at h
    cases h2 : evE S.Γ mb env with
    | ok y =>
      rw [h2, R.bind_ok] at h
      cases h3 : cmpD o x y with
      | ok r =>
        rw [h3, R.bind_ok] at h
        split at h
        · cases h4 : evE S.Γ mc env with
          | ok z =>
            rw [h4, R.bind_ok] at h
            exact cmp_bl S o' y z d h
          | exc x => rw [h4] at h; cases h
          | bad => rw [h4] at h; cases h
        · exact ⟨false, (R.ok.inj h).symm⟩
        · cases h
      | exc x => rw [h3] at h; cases h
      | bad => rw [h3] at h; cases h
    | exc x => rw [h2] at h; cases h
    | bad => rw [h2] at h; cases h
  | exc x => rw [h1] at h; cases h
  | bad => rw [h1] at h; cases h
theorem s_chain {c : PySem.Expr} {mc : E} {op op' : CmpOp} {co co' : Cop} (c1 : CopR X S op co) (c2 : CopR X S op' co') (ha : PE X a (tE S ma)) (hb : PE X b (tE S mb)) (hc : PE X c (tE S mc)) (hm : lastMarks [op, op'] [b, c] = false) :
    Both X (.Compare a [op, op'] [b, c] pos) S (.chain co co' ma mb mc) := by
  obtain ⟨r, hr, h⟩ := c1.ex
  obtain ⟨r', hr', h'⟩ := c2.ex
  have go : ∀ σ H Q, tE S (.chain co co' ma mb mc) σ H Q → tChain r r' (tL S ma) (tL S mb) (tL S mc) σ H Q := fun σ H Q ⟨F, Fb, env, fr, q⟩ => by
    rw [evE, ans_bind] at q
    refine two_l fr (q.mono fun x hx => (ans_bind.mp hx).mono fun y hy v u F2 H2 e l1 l2 => ?_)
    rw [ans_bind] at hy
    refine h σ F2 F2 H2 H2 x y v u _ ?_ (Ext.refl e.th) l1 l2
    have hy := hy.ext e
    cases hc : cmpD co x y with
    | exc x =>
      rw [hc] at hy
      exact hy
    | bad =>
      rw [hc] at hy
      exact hy
    | ok d =>
      rw [hc] at hy
      obtain ⟨k, rfl⟩ := cmp_bl S co x y d hc
      intro z F3 H3 e3 p
      have p : z = .bl k := p
      refine ⟨k, p, ?_⟩
      cases k with
      | false =>
        have hy : Hope S .val F H Q (.bl false) := hy
        exact hy.rep rfl (e.trans e3) rfl
      | true =>
        have hy : Ans S σ F H ((evE S.Γ mc env).bind fun z => cmpD co' y z) (Hope S .val F H Q) := hy
        rw [ans_bind] at hy
        exact ⟨F3, Fb, env, (fr.ext e).ext e3, (hy.ext (e.trans e3)).mono fun w hw w' F4 H4 e4 l4 => h' σ F F4 H H4 y w u w' Q hw ((e.trans e3).trans e4) ((e3.trans e4).lnt l2) l4⟩
  exact ⟨PE.imp (pe_chain hr hr' (lent_of ha) (lent_of hb) (lent_of hc) hm) go, test_bl (pt_chain hr hr' (lent_of ha) (lent_of hb) (lent_of hc) hm) go rfl fun env d h => chain_bl S h⟩
theorem c_eq (hu : X.A.units + 64 < cLine) (hK : X.K = S.Z.K) : CopR X S .Eq .eq := by
  refine ⟨_, (op_eqD hu), fun σ F F2 H H2 x y v u Q q e l1 l2 => ?_⟩
  rw [cmpD, eqR] at q
  obtain ⟨z, q⟩ := q.ite
  rw [Bool.and_eq_true] at z
  rw [hK]
  refine ⟨toPy x, toPy y, dp_lnt z.1 l1, dp_lnt z.2 l2, shaped_of z.1, shaped_of z.2, ?_⟩
  rw [← eqD_py 60 x y z.1 z.2]
  exact q.rep rfl e rfl
theorem c_ne (hu : X.A.units + 64 < cLine) (hK : X.K = S.Z.K) : CopR X S .NotEq .ne := by
  refine ⟨_, (op_neD hu), fun σ F F2 H H2 x y v u Q q e l1 l2 => ?_⟩
  rw [cmpD, neR] at q
  obtain ⟨z, q⟩ := q.ite
  rw [Bool.and_eq_true] at z
  rw [hK]
  refine ⟨toPy x, toPy y, dp_lnt z.1 l1, dp_lnt z.2 l2, shaped_of z.1, shaped_of z.2, ?_⟩
  rw [← eqD_py 60 x y z.1 z.2]
  exact q.rep rfl e rfl
/-- an order of data, by what is read -/
def rOrd (K : PySem.W.Frag) (f : PyData → PyData → Bool) : R2 := fun x y H Q => ∃ d e, Dp K H x d ∧ Dp K H y e ∧ PySem.W.alike d e = true ∧ d ≠ .none ∧ d.depth ≤ 60 ∧ Q (.bl (f d e)) H
theorem ord_room {A : Around} {d e : PyData} (h : d.depth ≤ 60) (hu : A.units + 64 < cLine) : A.units + min d.depth e.depth < cLine := by
  have := Nat.min_le_left d.depth e.depth
  omega
theorem op_ltP (hu : X.A.units + 64 < cLine) : OpR X (compareOp .Lt) (rOrd X.K fun d e => PySem.W.dataLt d e) := by
  intro pins s σ H x y v u Q I rx ry h
  obtain ⟨d, e, hd, he, ha, hn, hz, q⟩ := h
  obtain ⟨as, r1⟩ := Dp.reads I d x v hd rx
  obtain ⟨bs, r2⟩ := Dp.reads I e y u he ry
  exact PySem.W.lt_data r1 r2 ha hn (ord_room hz hu) ⟨.bl _, H, I, rfl, q⟩
theorem op_leP (hu : X.A.units + 64 < cLine) : OpR X (compareOp .LtE) (rOrd X.K fun d e => !PySem.W.dataLt e d) := by
  intro pins s σ H x y v u Q I rx ry h
  obtain ⟨d, e, hd, he, ha, hn, hz, q⟩ := h
  obtain ⟨as, r1⟩ := Dp.reads I d x v hd rx
  obtain ⟨bs, r2⟩ := Dp.reads I e y u he ry
  exact PySem.W.le_data r1 r2 ha hn (ord_room hz hu) ⟨.bl _, H, I, rfl, q⟩
theorem op_gtP (hu : X.A.units + 64 < cLine) : OpR X (compareOp .Gt) (rOrd X.K fun d e => PySem.W.dataLt e d) := by
  intro pins s σ H x y v u Q I rx ry h
  obtain ⟨d, e, hd, he, ha, hn, hz, q⟩ := h
  obtain ⟨as, r1⟩ := Dp.reads I d x v hd rx
  obtain ⟨bs, r2⟩ := Dp.reads I e y u he ry
  exact PySem.W.gt_data r1 r2 ha hn (ord_room hz hu) ⟨.bl _, H, I, rfl, q⟩
theorem op_geP (hu : X.A.units + 64 < cLine) : OpR X (compareOp .GtE) (rOrd X.K fun d e => !PySem.W.dataLt d e) := by
  intro pins s σ H x y v u Q I rx ry h
  obtain ⟨d, e, hd, he, ha, hn, hz, q⟩ := h
  obtain ⟨as, r1⟩ := Dp.reads I d x v hd rx
  obtain ⟨bs, r2⟩ := Dp.reads I e y u he ry
  exact PySem.W.ge_data r1 r2 ha hn (ord_room hz hu) ⟨.bl _, H, I, rfl, q⟩
theorem ord_rd {Z : Wd} {F F2 : Fz} {H H2 : Hp} {σ : St} {x y : D} {v u : V} {Q : VK} {f : PyData → PyData → Bool} (q : Ans S σ F H (if ordOk x y then .ok (.bl (f (toPy x) (toPy y))) else .bad) (Hope S .val F H Q)) (e : Ext F H F2 H2) (l1 : Lnt S.Z F2 H2 x v) (l2 : Lnt S.Z F2 H2 y u) : rOrd S.Z.K f v u H2 Q := by
  obtain ⟨z, q⟩ := q.ite
  unfold ordOk at z
  simp only [Bool.and_eq_true, Bool.not_eq_true'] at z
  obtain ⟨⟨⟨z1, z2⟩, z3⟩, z4⟩ := z
  refine ⟨toPy x, toPy y, dp_lnt z1 l1, dp_lnt z2 l2, z3, fun h => ?_, (eqOk_lay 60 x z1).2, q.rep rfl e rfl⟩
  cases x <;> first | (cases z4; done) | (simp [toPy] at h; done)
theorem c_lt (hu : X.A.units + 64 < cLine) (hK : X.K = S.Z.K) : CopR X S .Lt .lt := by
  refine ⟨_, op_lt.or (op_ltP hu), fun σ F F2 H H2 x y v u Q q e l1 l2 => ?_⟩
  rw [cmpD] at q
  unfold ltD at q
  split at q
  · rename_i i j
    exact .inl ⟨i, j, l1, l2, q.rep rfl e rfl⟩
  · refine .inr ?_
    rw [hK]
    exact ord_rd (Z := S.Z) (f := fun d e => PySem.W.dataLt d e) q e l1 l2
theorem c_le (hu : X.A.units + 64 < cLine) (hK : X.K = S.Z.K) : CopR X S .LtE .le := by
  refine ⟨_, op_le.or (op_leP hu), fun σ F F2 H H2 x y v u Q q e l1 l2 => ?_⟩
  rw [cmpD] at q
  unfold leD at q
  split at q
  · rename_i i j
    exact .inl ⟨i, j, l1, l2, q.rep rfl e rfl⟩
  · refine .inr ?_
    rw [hK]
    exact ord_rd (Z := S.Z) (f := fun d e => !PySem.W.dataLt e d) q e l1 l2
theorem c_gt (hu : X.A.units + 64 < cLine) (hK : X.K = S.Z.K) : CopR X S .Gt .gt := by
  refine ⟨_, op_gt.or (op_gtP hu), fun σ F F2 H H2 x y v u Q q e l1 l2 => ?_⟩
  rw [cmpD] at q
  unfold gtD at q
  split at q
  · rename_i i j
    exact .inl ⟨i, j, l1, l2, q.rep rfl e rfl⟩
  · refine .inr ?_
    rw [hK]
    exact ord_rd (Z := S.Z) (f := fun d e => PySem.W.dataLt e d) q e l1 l2
theorem c_ge (hu : X.A.units + 64 < cLine) (hK : X.K = S.Z.K) : CopR X S .GtE .ge := by
  refine ⟨_, op_ge.or (op_geP hu), fun σ F F2 H H2 x y v u Q q e l1 l2 => ?_⟩
  rw [cmpD] at q
  unfold geD at q
  split at q
  · rename_i i j
    exact .inl ⟨i, j, l1, l2, q.rep rfl e rfl⟩
  · refine .inr ?_
    rw [hK]
    exact ord_rd (Z := S.Z) (f := fun d e => !PySem.W.dataLt d e) q e l1 l2
/-- in, not in, over a list or a tuple of data -/
def rAny (K : PySem.W.Frag) (ng : Bool) : R2 := fun x y H Q => ∃ d ds, Dp K H x d ∧ (Dp K H y (.list ds) ∨ Dp K H y (.tuple ds)) ∧ d.canLay0 = true ∧ d.depth ≤ 60 ∧ PyData.canLayAll0 ds = true ∧ Q (.bl (if ng then !ds.any fun z => PyData.eqv z d else ds.any fun z => PyData.eqv z d)) H
theorem room_any {A : Around} {d : PyData} {n : Nat} (h : d.depth ≤ 60) (hu : A.units + 65 < cLine) : A.units + min d.depth n + 1 < cLine := by
  have := Nat.min_le_left d.depth n
  omega
theorem op_any (hu : X.A.units + 65 < cLine) : OpR X (compareOp .In) (rAny X.K false) := by
  intro pins s σ H x y v u Q I rx ry h
  obtain ⟨d, ds, hd, he, sd, dd, se, q⟩ := h
  obtain ⟨as, r1⟩ := Dp.reads I d x v hd rx
  rcases he with he | he
  · obtain ⟨bs, r2⟩ := Dp.reads I (.list ds) y u he ry
    exact SeqAt.in_list_reads r2 r1 se sd (by omega) ⟨.bl _, H, I, rfl, q⟩
  · obtain ⟨bs, r2⟩ := Dp.reads I (.tuple ds) y u he ry
    exact SeqAt.in_tuple_reads r2 r1 se sd (by omega) ⟨.bl _, H, I, rfl, q⟩
theorem op_nany (hu : X.A.units + 65 < cLine) : OpR X (compareOp .NotIn) (rAny X.K true) := by
  intro pins s σ H x y v u Q I rx ry h
  obtain ⟨d, ds, hd, he, sd, dd, se, q⟩ := h
  obtain ⟨as, r1⟩ := Dp.reads I d x v hd rx
  rcases he with he | he
  · obtain ⟨bs, r2⟩ := Dp.reads I (.list ds) y u he ry
    exact SeqAt.notIn_list_reads r2 r1 se sd (by omega) ⟨.bl _, H, I, rfl, q⟩
  · obtain ⟨bs, r2⟩ := Dp.reads I (.tuple ds) y u he ry
    exact SeqAt.notIn_tuple_reads r2 r1 se sd (by omega) ⟨.bl _, H, I, rfl, q⟩
theorem any_py {x : D} : ∀ {ys : List D}, eqOk 60 x = true → ys.all (eqOk 60) = true → (ys.any fun y => eqD y x) = (toPys ys).any fun z => PyData.eqv z (toPy x)
  | [], _, _ => rfl
  | y :: ys, h1, h2 => by
    rw [List.all_cons, Bool.and_eq_true] at h2
    rw [toPys, List.any_cons, List.any_cons, any_py h1 h2.2, eqD_py 60 y x h2.1 h1]
theorem in_rd {Z : Wd} {F F2 : Fz} {H H2 : Hp} {σ : St} {x y : D} {v u : V} {Q : VK} {ng : Bool} (q : Ans S σ F H ((inD x y).map fun k => .bl (if ng then !k else k)) (Hope S .val F H Q)) (e : Ext F H F2 H2) (l1 : Lnt S.Z F2 H2 x v) (l2 : Lnt S.Z F2 H2 y u) :
    rAny S.Z.K ng v u H2 Q := by
  rw [ans_map] at q
  have go : ∀ ys, Ans S σ F H (isinD x ys) (fun a => Hope S Kd.val F H Q (D.bl (if ng = true then !a else a))) → (∀ n, ys.all (eqOk n) = true → Dp S.Z.K H2 u (.list (toPys ys)) ∨ Dp S.Z.K H2 u (.tuple (toPys ys))) → rAny S.Z.K ng v u H2 Q := fun ys q hy => by
    unfold isinD at q
    obtain ⟨z, q⟩ := q.ite
    rw [Bool.and_eq_true] at z
    have e1 := eqOk_lay 60 x z.1
    have e2 := eqOk_lays 60 ys z.2
    refine ⟨toPy x, toPys ys, dp_lnt z.1 l1, hy 60 z.2, e1.1, e1.2, e2.1, ?_⟩
    have q' := q.rep rfl e rfl
    rw [any_py z.1 z.2] at q'
    exact q'
  unfold inD at q
  split at q
  · rename_i ys
    refine go ys q fun n h => .inl ?_
    obtain ⟨a, vs, rfl, h1, r⟩ := l2
    exact .lst (.of h1) (dps_of n ys vs h r)
  · rename_i ys
    refine go ys q fun n h => .inr ?_
    obtain ⟨a, vs, rfl, f, h1, r⟩ := l2
    exact .tup (.of h1) (dps_of n ys vs h r)
  · exact q.elim
theorem c_isin (hu : X.A.units + 65 < cLine) (hK : X.K = S.Z.K) : CopR X S .In .isin := by
  refine ⟨_, (op_any hu), fun σ F F2 H H2 x y v u Q q e l1 l2 => ?_⟩
  rw [cmpD] at q
  rw [hK]
  exact in_rd (Z := S.Z) q e l1 l2
theorem c_notin (hu : X.A.units + 65 < cLine) (hK : X.K = S.Z.K) : CopR X S .NotIn .notin := by
  refine ⟨_, (op_nany hu), fun σ F F2 H H2 x y v u Q q e l1 l2 => ?_⟩
  rw [cmpD] at q
  rw [hK]
  exact in_rd (Z := S.Z) q e l1 l2
def isItr : D → Bool
  | .itr _ => true
  | .dct _ _ => true
  | _ => false
theorem non_iff {Z : Wd} {F : Fz} {H : Hp} : ∀ {d : D} {v : V}, Lnt Z F H d v → isItr d = false → decide (v = .non) = isNone d
  | .non, _, h, _ => by cases h; rfl
  | .bl _, _, h, _ => by cases h; rfl
  | .int _, _, h, _ => by cases h; rfl
  | .str _, _, h, _ => by cases h; rfl
  | .tup _, _, ⟨_, _, e, _⟩, _ => by subst e; rfl
  | .lst _, _, ⟨_, _, e, _⟩, _ => by subst e; rfl
  | .ins _ _ _, _, ⟨_, _, _, _, e, _⟩, _ => by subst e; rfl
  | .scr _, _, h, _ => by
    rcases h with ⟨_, e, _⟩ | ⟨_, e, _⟩ <;> (subst e; rfl)
  | .dct _ _, _, _, h => by cases h
  | .itr _, _, _, h => by cases h
theorem isN_ok (S : Sit) {ng : Bool} {ma : E} {env : Env} {d : D} (h : evE S.Γ (.isN ng ma) env = .ok d) : ∃ k, d = .bl k := by
  rw [evE] at h
  cases h1 : evE S.Γ ma env with
  | ok x =>
    rw [h1, R.bind_ok] at h
    exact ⟨_, (R.ok.inj h).symm⟩
  | exc x => rw [h1] at h; cases h
  | bad => rw [h1] at h; cases h
theorem s_isN {pos' : Pos} {k : Nat} (ha : PE X a (tE S ma)) : Both X (.Compare a [.Is] [.Constant .none k pos'] pos) S (.isN false ma) := by
  have go : ∀ σ H Q, tE S (.isN false ma) σ H Q → tOp (fun x y H Q => y = .non ∧ Q (.bl (decide (x = .non))) H) (tL S ma) (tC .non) σ H Q := fun σ H Q ⟨F, Fb, env, fr, q⟩ => by
    rw [evE, ans_bind] at q
    refine one_l fr (q.mono fun x hx v F1 H1 e l => ⟨rfl, ?_⟩)
    have h : Hope S .val F H Q (.bl (isNone x)) := hx
    rw [non_iff l (by cases x <;> first | rfl | exact l.elim)]
    exact h.rep rfl e rfl
  exact ⟨PE.imp (pe_cmpR op_isN (lent_of ha) pe_non (nomark _)) go, test_bl (pt_cmpR op_isN (lent_of ha) pe_non (nomark _)) go rfl fun env d h => isN_ok S h⟩
theorem s_notN {pos' : Pos} {k : Nat} (ha : PE X a (tE S ma)) : Both X (.Compare a [.IsNot] [.Constant .none k pos'] pos) S (.isN true ma) := by
  have go : ∀ σ H Q, tE S (.isN true ma) σ H Q → tOp (fun x y H Q => y = .non ∧ Q (.bl (!decide (x = .non))) H) (tL S ma) (tC .non) σ H Q := fun σ H Q ⟨F, Fb, env, fr, q⟩ => by
    rw [evE, ans_bind] at q
    refine one_l fr (q.mono fun x hx v F1 H1 e l => ⟨rfl, ?_⟩)
    have h : Hope S .val F H Q (.bl (!isNone x)) := hx
    rw [non_iff l (by cases x <;> first | rfl | exact l.elim)]
    exact h.rep rfl e rfl
  exact ⟨PE.imp (pe_cmpR op_notN (lent_of ha) pe_non (nomark _)) go, test_bl (pt_cmpR op_notN (lent_of ha) pe_non (nomark _)) go rfl fun env d h => isN_ok S h⟩
end
end Mi
namespace Mi
open PySem L2
section
variable {X : Cx} {S : Sit} {a b c : PySem.Expr} {ma mb mc : E} {pos : Pos}
/-! ### one operand -/
theorem s_one {e : PySem.Expr} {m : E} {k : Kd} {f : D → R D} {r : V → Hp → VK → Prop} (ha : PE X a (tE S ma)) (hp : PE X e (tUn r (tL S ma))) (he : ∀ env, evE S.Γ m env = (evE S.Γ ma env).bind f) (hk : kd m = k)
    (h : ∀ (σ : St) (F F2 : Fz) (H H2 : Hp) (x : D) (v : V) (Q : VK), Ans S σ F H (f x) (Hope S k F H Q) → Ext F H F2 H2 → Lnt S.Z F2 H2 x v → r v H2 Q) : PE X e (tE S m) := by
  refine PE.imp hp fun σ H Q ⟨F, Fb, env, fr, q⟩ => ?_
  rw [he, hk, ans_bind] at q
  exact one_l fr (q.mono fun x hx v F1 H1 e l => h σ F F1 H H1 x v Q hx e l)
theorem s_neg (ha : PE X a (tE S ma)) : PE X (.UnaryOp .USub a pos) (tE S (.neg ma)) := by
  refine s_one ha (pe_un un_neg (lent_of ha)) (fun _ => by rw [evE]) rfl fun σ F F2 H H2 x v Q q e l => ?_
  rw [ans_map] at q
  unfold intOf at q
  split at q
  · exact ⟨_, l, Hope.rep q rfl e rfl⟩
  · exact q.elim
theorem tru_of (hK : X.K = S.Z.K) {σ : St} {F F2 : Fz} {H H2 : Hp} {x : D} {v : V} {k : Bool → Prop} (q : Ans S σ F H (truth x) k) (l : Lnt S.Z F2 H2 x v) : ∃ t, TruV X.K v H2 t ∧ k t := by
  unfold truth at q
  split at q
  · cases l
    exact ⟨false, rfl, q⟩
  · cases l
    exact ⟨_, rfl, q⟩
  · cases l
    exact ⟨_, rfl, q⟩
  · rename_i s
    obtain ⟨z, q⟩ := q.ite
    cases l
    exact ⟨_, ⟨line_le z, rfl⟩, by
      have e : (((s.length : Nat) : Int) != 0) = (s.length != 0) := by
        cases h : s.length <;> simp
        omega
      rw [e]
      exact q⟩
  · obtain ⟨p, vs, rfl, f, h, r⟩ := l
    refine ⟨_, .inr (.inl ⟨vs, .of h, rfl⟩), ?_⟩
    have e := r.length
    cases vs with
    | nil =>
      have : ‹List D› = [] := by simpa using e
      subst this
      exact q
    | cons v vs =>
      cases ‹List D› with
      | nil => simp at e
      | cons d ds => exact q
  · obtain ⟨p, vs, rfl, h, r⟩ := l
    refine ⟨_, .inl ⟨vs, .of h, rfl⟩, ?_⟩
    have e := r.length
    cases vs with
    | nil =>
      have : ‹List D› = [] := by simpa using e
      subst this
      exact q
    | cons v vs =>
      cases ‹List D› with
      | nil => simp at e
      | cons d ds => exact q
  · exact q.elim
theorem s_not (hK : X.K = S.Z.K) (ha : PE X a (tE S ma)) : PE X (.UnaryOp .Not a pos) (tE S (.not ma)) := by
  refine PE.imp (pe_notT (lent_of ha)) fun σ H Q ⟨F, Fb, env, fr, q⟩ => ?_
  rw [evE, ans_bind] at q
  refine one_l fr (q.mono fun x hx v F1 H1 e l => ?_)
  rw [ans_map] at hx
  obtain ⟨t, h1, h2⟩ := tru_of hK hx l
  exact ⟨t, h1, Hope.rep (k := .val) h2 rfl e rfl⟩
/-! ### and, or -/
theorem bl_of {Z : Wd} {F : Fz} {H : Hp} {b : Bool} {v : V} (h : Lnt Z F H (.bl b) v) : v = .bl b := h
def tEr (S : Sit) (F0 : Fz) (H0 : Hp) (m : E) : TE := fun σ H Q => ∃ F Fb env, Fr S.Z F Fb H σ env ∧ Ext F0 H0 F H ∧ Ans S σ F H (evE S.Γ m env) (Hope S (kd m) F H Q)
/-- a result that is passed on -/
theorem Hope.pass {S : Sit} {k : Kd} {F F1 : Fz} {H H1 : Hp} {Q : VK} {d : D} (h : Hope S k F H Q d) (e : Ext F H F1 H1) : Hope S k F1 H1 Q d := fun v F' H' g p => h v F' H' (e.trans g) (by
  cases k with
  | lent => exact p
  | val => exact p
  | fresh =>
    unfold Post at p ⊢
    dsimp only at p ⊢
    split at p
    · rename_i hm
      rw [if_pos hm]
      obtain ⟨a, e1, n, f, o⟩ := p
      exact ⟨a, e1, e.back n, f, o⟩
    · rename_i hm
      rw [if_neg hm]
      exact p)
theorem Post.any {Z : Wd} {k : Kd} {F F' : Fz} {H H' : Hp} {d : D} {v : V} (h : Post Z k F' H H' d v) (g : Ext F H F' H') (hk : k ≠ .lent) : ∃ F2, Ext F H F2 H' ∧ Post Z .val F2 H H' d v := h.frz g hk
theorem s_and {p : Pos} {r : List PySem.Expr} (ha : PE X a (tE S ma)) (hb : PE X (.BoolOp .And (b :: r) p) (tE S mb)) (hk : kd mb ≠ .lent) : PE X (.BoolOp .And (a :: b :: r) p) (tE S (.and ma mb)) := by
  refine PE.imp (pe_and (lent_of ha) (frz_of hb hk)) fun σ H Q ⟨F, Fb, env, fr, q⟩ => ?_
  rw [evE, ans_bind] at q
  refine one_l fr (q.mono fun x hx v F1 H1 e l => ?_)
  split at hx
  · refine ⟨true, l, F1, Fb, env, fr.ext e, ?_⟩
    exact (hx.ext e).mono fun d hd v F' H' g p => Hope.pass (k := .val) hd e v F' H' g p
  · exact ⟨false, l, Hope.rep (k := .val) hx rfl e rfl⟩
  · exact hx.elim
theorem s_or {p : Pos} {r : List PySem.Expr} (ha : PE X a (tE S ma)) (hb : PE X (.BoolOp .Or (b :: r) p) (tE S mb)) (hk : kd mb ≠ .lent) : PE X (.BoolOp .Or (a :: b :: r) p) (tE S (.or ma mb)) := by
  refine PE.imp (pe_or (lent_of ha) (frz_of hb hk)) fun σ H Q ⟨F, Fb, env, fr, q⟩ => ?_
  rw [evE, ans_bind] at q
  refine one_l fr (q.mono fun x hx v F1 H1 e l => ?_)
  split at hx
  · exact ⟨true, l, Hope.rep (k := .val) hx rfl e rfl⟩
  · refine ⟨false, l, F1, Fb, env, fr.ext e, ?_⟩
    exact (hx.ext e).mono fun d hd v F' H' g p => Hope.pass (k := .val) hd e v F' H' g p
  · exact hx.elim
/-! ### tests -/
theorem t_plain (hK : X.K = S.Z.K) (ha : PE X a (tE S ma)) (he : ∀ whole, isTrue a X.env whole = (do let v ← whole; standAt a.pos; holding [v] (truthy v))) : PT X a (tT S ma) := by
  refine PT.imp (pt_truth (lent_of ha) he) fun σ H Q ⟨F, Fb, env, fr, q⟩ => ?_
  rw [ans_bind] at q
  refine one_l fr (q.mono fun x hx v F1 H1 e l => ?_)
  obtain ⟨t, h1, h2⟩ := tru_of hK hx l
  exact ⟨t, h1, h2 F1 H1 e⟩
theorem t_not (hc : PT X a (tT S ma)) : PT X (.UnaryOp .Not a pos) (tT S (.not ma)) := by
  refine PT.imp (pt_not hc) fun σ H Q ⟨F, Fb, env, fr, q⟩ => ?_
  refine ⟨F, Fb, env, fr, ?_⟩
  rw [evE, ans_bind, ans_bind] at q
  rw [ans_bind]
  refine q.mono fun x hx => ?_
  rw [ans_map] at hx
  exact hx
theorem s_ife (hc : PT X c (tT S mc)) (ha : PE X a (tE S ma)) (hb : PE X b (tE S mb)) (h1 : kd ma ≠ .lent) (h2 : kd mb ≠ .lent) : PE X (.IfExp c a b pos) (tE S (.ife mc ma mb)) := by
  refine PE.imp (pe_ifExp hc (frz_of ha h1) (frz_of hb h2)) fun σ H Q ⟨F, Fb, env, fr, q⟩ => ?_
  rw [evE, ans_bind] at q
  refine ⟨F, Fb, env, fr, ?_⟩
  rw [ans_bind]
  refine q.mono fun x hx => (ans_bind.mp hx).mono fun t ht F1 H1 e => ?_
  cases t with
  | true =>
    rw [if_pos rfl] at ht ⊢
    exact ⟨F1, Fb, env, fr.ext e, (ht.ext e).mono fun d hd v F' H' g p => Hope.pass (k := .val) hd e v F' H' g p⟩
  | false =>
    rw [if_neg Bool.false_ne_true] at ht ⊢
    exact ⟨F1, Fb, env, fr.ext e, (ht.ext e).mono fun d hd v F' H' g p => Hope.pass (k := .val) hd e v F' H' g p⟩
end
end Mi
namespace Mi
open PySem L2
/-! ### names and constants -/
section
variable {X : Cx} {S : Sit} {a b c : PySem.Expr} {ma mb mc : E} {pos : Pos}
theorem s_var {i : Nat} {x : Str} (hN : X.N[i]? = some x) (hv : Vis X.env.scope x) (hd : (x == ("__debug__" : Str)) = false) (hc : (x == ("__classdict__" : Str)) = false) : PE X (.Name x pos) (tE S (.var i)) := by
  refine PE.imp (pe_var hN hv hd hc) fun σ H Q ⟨F, Fb, env, fr, q⟩ => ?_
  rw [evE] at q
  have h := fr.sl i
  unfold SlotOk at h
  split at q
  · rename_i d hd
    rw [hd] at h
    obtain ⟨v, e, r⟩ := h
    exact ⟨v, e, q v F H (Ext.refl fr.th) r⟩
  · exact q.elim
theorem Fr.lnt {Z : Wd} {F Fb : Fz} {H : Hp} {σ : St} {env : Env} {i : Nat} {d : D} (fr : Fr Z F Fb H σ env) (h : (gt env i).val = .ok d) : ∃ v, σ[i]? = some (some v) ∧ Lnt Z F H d v := by
  have q := fr.sl i
  unfold SlotOk at q
  unfold Slot.val at h
  split at h <;> rename_i hd
  · cases h
  · rw [hd] at q
    cases h
    obtain ⟨a, e, _, _, o⟩ := q
    exact ⟨_, e, .of_own o⟩
  · rw [hd] at q
    cases h
    obtain ⟨v, e, r⟩ := q
    exact ⟨_, e, .of_rep r⟩
  · rw [hd] at q
    cases h
    obtain ⟨v, e, r⟩ := q
    exact ⟨_, e, .of_brw r⟩
theorem val_ans {S : Sit} {σ : St} {F : Fz} {H : Hp} {s : Slot} {k : D → Prop} (q : Ans S σ F H s.val k) : ∃ d, s.val = .ok d ∧ k d := by
  cases s with
  | un => exact q.elim
  | own d => exact ⟨d, rfl, q⟩
  | frz d => exact ⟨d, rfl, q⟩
  | bor d => exact ⟨d, rfl, q⟩
theorem s_peek {i : Nat} {x : Str} (hN : X.N[i]? = some x) (hv : Vis X.env.scope x) (hd : (x == ("__debug__" : Str)) = false) (hc : (x == ("__classdict__" : Str)) = false) : PE X (.Name x pos) (tE S (.peek i)) := by
  refine PE.imp (pe_var hN hv hd hc) fun σ H Q ⟨F, Fb, env, fr, q⟩ => ?_
  rw [evE] at q
  obtain ⟨d, e, k⟩ := val_ans q
  obtain ⟨v, e1, l⟩ := fr.lnt e
  exact ⟨v, e1, k v F H (Ext.refl fr.th) l⟩
/-- a written value -/
def isCst : D → V → Prop
  | .non, v => v = .non
  | .bl b, v => v = .bl b
  | .int i, v => v = .int i
  | .str s, v => v = .str s
  | _, _ => False
theorem isCst.rep {Z : Wd} {F : Fz} {H : Hp} {d : D} {v : V} (h : isCst d v) : Rep Z F H d v := by
  cases d <;> first | exact h | exact h.elim
theorem s_cst {e : PySem.Expr} {d : D} {v : V} (h : isCst d v) (hp : PE X e (tC v)) : PE X e (tE S (.cst d)) := by
  refine PE.imp hp fun σ H Q ⟨F, Fb, env, fr, q⟩ => ?_
  rw [evE] at q
  exact q v F H (Ext.refl fr.th) h.rep
/-! ### argument lists -/
def notStar : PySem.Expr → Bool
  | .Starred _ _ => false
  | _ => true
theorem star_cons {e : PySem.Expr} {es : List PySem.Expr} {env : PySem.Env} (h : notStar e = true) : starEach (e :: es) env = (false, eval e env) :: starEach es env := by
  cases e <;> first | rfl | cases h
theorem star_any {env : PySem.Env} {pos : Pos} : ∀ {es : List PySem.Expr}, es.all notStar = true → (backTo pos (starEach es env)).any (·.1) = false
  | [], _ => rfl
  | e :: es, h => by
    rw [List.all_cons, Bool.and_eq_true] at h
    rw [star_cons h.1]
    have := star_any (env := env) (pos := pos) h.2
    unfold backTo at this ⊢
    rw [List.map_cons, List.any_cons, this]
    rfl
def ArgOk (Z : Wd) (F : Fz) (H : Hp) : Slot → V → Prop
  | .frz d, v => Rep Z F H d v
  | .bor d, v => Lnt Z F H d v
  | _, _ => False
def ArgsOk (Z : Wd) (F : Fz) (H : Hp) : List Slot → List V → Prop
  | [], vs => vs = []
  | s :: ss, vs => ∃ v r, vs = v :: r ∧ ArgOk Z F H s v ∧ ArgsOk Z F H ss r
def Lnts (Z : Wd) (F : Fz) (H : Hp) : List D → List V → Prop
  | [], vs => vs = []
  | d :: ds, vs => ∃ v r, vs = v :: r ∧ Lnt Z F H d v ∧ Lnts Z F H ds r
section
variable {Z : Wd} {F F1 : Fz} {H H1 : Hp}
theorem Ext.arg (e : Ext F H F1 H1) {s : Slot} {v : V} (h : ArgOk Z F H s v) : ArgOk Z F1 H1 s v := by
  cases s with
  | frz d => exact e.rep h
  | bor d => exact e.lnt h
  | un => exact h
  | own d => exact h
theorem ArgsOk.length : ∀ {as : List Slot} {vs : List V}, ArgsOk Z F H as vs → as.length = vs.length
  | [], _, h => by cases h; rfl
  | _ :: _, _, ⟨v, r, e, _, h⟩ => by
    subst e
    rw [List.length_cons, List.length_cons, ArgsOk.length h]
end
def tG (S : Sit) (m : E) : TE := fun σ H Q => ∃ F Fb env, Fr S.Z F Fb H σ env ∧
  Ans S σ F H (evE S.Γ m env) fun d => ∀ v F' H', Ext F H F' H' → ArgOk S.Z F' H' (lend env d m) v → Q v H'
def tAs (S : Sit) (ms : List E) : TA := fun σ H Q => ∃ F Fb env, Fr S.Z F Fb H σ env ∧
  Ans S σ F H (evAs S.Γ ms env) fun as => ∀ vs F' H', Ext F H F' H' → ArgsOk S.Z F' H' as vs → Q vs H'
def tLs (S : Sit) (ms : List E) : TA := fun σ H Q => ∃ F Fb env, Fr S.Z F Fb H σ env ∧
  Ans S σ F H (evEs S.Γ ms env) fun ds => ∀ vs F' H', Ext F H F' H' → Lnts S.Z F' H' ds vs → Q vs H'
def tFs (S : Sit) (ms : List E) : TA := fun σ H Q => ∃ F Fb env, Fr S.Z F Fb H σ env ∧
  Ans S σ F H (evEs S.Γ ms env) fun ds => ∀ vs F' H', Ext F H F' H' → Reps S.Z F' H' ds vs → Q vs H'
theorem lend_frz {m : E} {env : Env} {d : D} (h : kd m ≠ .lent) : lend env d m = .frz d := by
  cases m <;> first | rfl | exact absurd rfl h
theorem g_val (ha : PE X a (tE S ma)) (hk : kd ma ≠ .lent) : PE X a (tG S ma) := PE.imp (frz_of ha hk) fun σ H Q ⟨F, Fb, env, fr, q⟩ => ⟨F, Fb, env, fr, q.mono fun d k v F' H' e r => k v F' H' e (by rw [lend_frz hk]; exact r)⟩
theorem g_peek {i : Nat} {x : Str} (hN : X.N[i]? = some x) (hv : Vis X.env.scope x) (hd : (x == ("__debug__" : Str)) = false) (hc : (x == ("__classdict__" : Str)) = false) : PE X (.Name x pos) (tG S (.peek i)) := by
  refine PE.imp (pe_var hN hv hd hc) fun σ H Q ⟨F, Fb, env, fr, q⟩ => ?_
  rw [evE] at q
  have s := fr.sl i
  have e0 := Ext.refl fr.th
  unfold SlotOk at s
  have l : ∀ d, lend env d (.peek i) = lendS d (gt env i) := fun _ => rfl
  simp only [l] at q
  generalize gt env i = g at q s
  cases g with
  | un => exact q.elim
  | own d =>
    obtain ⟨a, e, _, _, o⟩ := s
    exact ⟨_, e, q (.ref a) F H e0 (Lnt.of_own o)⟩
  | frz d =>
    obtain ⟨v, e, r⟩ := s
    exact ⟨_, e, q v F H e0 r⟩
  | bor d =>
    obtain ⟨v, e, r⟩ := s
    exact ⟨_, e, q v F H e0 (Lnt.of_brw r)⟩
theorem as_nil : PA X [] (tAs S []) := PA.imp pa_nil fun σ H Q ⟨F, Fb, env, fr, q⟩ => q [] F H (Ext.refl fr.th) rfl
theorem as_cons {e : PySem.Expr} {es : List PySem.Expr} {m : E} {ms : List E} (ha : PE X e (tG S m)) (hr : PA X es (tAs S ms)) (hs : notStar e = true) : PA X (e :: es) (tAs S (m :: ms)) := by
  refine PA.imp (pa_cons ha hr (star_cons hs)) fun σ H Q ⟨F, Fb, env, fr, q⟩ => ?_
  rw [evAs, ans_bind] at q
  refine ⟨F, Fb, env, fr, q.mono fun d k v F1 H1 e1 r1 => ⟨F1, Fb, env, fr.ext e1, ?_⟩⟩
  rw [ans_map] at k
  exact (k.ext e1).mono fun as k vs F2 H2 e2 r2 => k (v :: vs) F2 H2 (e1.trans e2) ⟨v, vs, rfl, e2.arg r1, r2⟩
theorem ls_nil : PA X [] (tLs S []) := PA.imp pa_nil fun σ H Q ⟨F, Fb, env, fr, q⟩ => q [] F H (Ext.refl fr.th) rfl
theorem ls_cons {e : PySem.Expr} {es : List PySem.Expr} {m : E} {ms : List E} (ha : PE X e (tE S m)) (hr : PA X es (tLs S ms)) (hs : notStar e = true) : PA X (e :: es) (tLs S (m :: ms)) := by
  refine PA.imp (pa_cons (lent_of ha) hr (star_cons hs)) fun σ H Q ⟨F, Fb, env, fr, q⟩ => ?_
  rw [evEs, ans_bind] at q
  refine ⟨F, Fb, env, fr, q.mono fun d k v F1 H1 e1 r1 => ⟨F1, Fb, env, fr.ext e1, ?_⟩⟩
  rw [ans_map] at k
  exact (k.ext e1).mono fun as k vs F2 H2 e2 r2 => k (v :: vs) F2 H2 (e1.trans e2) ⟨v, vs, rfl, e2.lnt r1, r2⟩
theorem fs_nil : PA X [] (tFs S []) := PA.imp pa_nil fun σ H Q ⟨F, Fb, env, fr, q⟩ => q [] F H (Ext.refl fr.th) rfl
theorem fs_cons {e : PySem.Expr} {es : List PySem.Expr} {m : E} {ms : List E} (ha : PE X e (tE S m)) (hk : kd m ≠ .lent) (hr : PA X es (tFs S ms)) (hs : notStar e = true) : PA X (e :: es) (tFs S (m :: ms)) := by
  refine PA.imp (pa_cons (frz_of ha hk) hr (star_cons hs)) fun σ H Q ⟨F, Fb, env, fr, q⟩ => ?_
  rw [evEs, ans_bind] at q
  refine ⟨F, Fb, env, fr, q.mono fun d k v F1 H1 e1 r1 => ⟨F1, Fb, env, fr.ext e1, ?_⟩⟩
  rw [ans_map] at k
  exact (k.ext e1).mono fun as k vs F2 H2 e2 r2 => k (v :: vs) F2 H2 (e1.trans e2) ⟨v, vs, rfl, e2.rep r1, r2⟩
/-! ### displays, items, slices -/
theorem evEs_length {Γ : Glob} : ∀ {ms : List E} {env : Env} {ds : List D}, evEs Γ ms env = .ok ds → ds.length = ms.length
  | [], _, _, h => by
    rw [evEs] at h
    cases h
    rfl
  | m :: ms, env, ds, h => by
    rw [evEs] at h
    cases h1 : evE Γ m env with
    | ok x =>
      rw [h1, R.bind_ok] at h
      cases h2 : evEs Γ ms env with
      | ok xs =>
        rw [h2] at h
        cases h
        rw [List.length_cons, List.length_cons, evEs_length h2]
      | exc x => rw [h2] at h; cases h
      | bad => rw [h2] at h; cases h
    | exc x => rw [h1] at h; cases h
    | bad => rw [h1] at h; cases h
theorem Ans.with {α : Type} {S : Sit} {σ : St} {F : Fz} {H : Hp} {r : R α} {k : α → Prop} (h : Ans S σ F H r k) : Ans S σ F H r fun a => r = .ok a ∧ k a := by
  cases r with
  | ok a => exact ⟨rfl, h⟩
  | exc x => exact h
  | bad => exact h
theorem s_tup {es : List PySem.Expr} {ms : List E} {x1 : Nat} (h : PA X es (tFs S ms)) (hl : ms.length ≤ 1000000) : PE X (.Tuple es x1 pos) (tE S (.tup ms)) := by
  refine PE.imp (pe_tup h) fun σ H Q ⟨F, Fb, env, fr, q⟩ => ?_
  rw [evE, ans_map] at q
  refine ⟨F, Fb, env, fr, q.with.mono fun ds ⟨el, k⟩ vs F' H' e r => ⟨?_, fun p hp => ?_⟩⟩
  · rw [← r.length, evEs_length el]
    exact line_le (decide_eq_true hl)
  · obtain ⟨g, r'⟩ := newT e hp r
    exact k _ _ _ g r'
theorem s_lst {es : List PySem.Expr} {ms : List E} (h : PA X es (tFs S ms)) (hl : ms.length ≤ 1000000) : PE X (.List es pos) (tE S (.lst ms)) := by
  refine PE.imp (pe_lst h) fun σ H Q ⟨F, Fb, env, fr, q⟩ => ?_
  rw [evE, ans_map] at q
  refine ⟨F, Fb, env, fr, q.with.mono fun ds ⟨el, k⟩ vs F' H' e r => ⟨?_, fun p hp => ?_⟩⟩
  · rw [← r.length, evEs_length el]
    exact line_le (decide_eq_true hl)
  · obtain ⟨g, r'⟩ := newL e hp r
    exact k _ _ _ g r'
theorem atI_reps {Z : Wd} {F : Fz} {H : Hp} {ds : List D} {vs : List V} {i : Int} {d : D} (r : Reps Z F H ds vs) (h : L2.atI ds i = some d) : ∃ v, L2.atI vs i = some v ∧ Rep Z F H d v := by
  unfold L2.atI at h ⊢
  rw [← r.length]
  cases e : L2.ixN ds.length i with
  | none => rw [e] at h; cases h
  | some j =>
    rw [e] at h
    exact r.at h
theorem optR_ans {α : Type} {S : Sit} {σ : St} {F : Fz} {H : Hp} {o : Option α} {k : α → Prop} (h : Ans S σ F H (optR o) k) : ∃ a, o = some a ∧ k a := by
  cases o with
  | none => exact h.elim
  | some a => exact ⟨a, rfl, h⟩
theorem scr_seq {Z : Wd} {F : Fz} {H : Hp} {ns : List Int} {v : V} (h : Lnt Z F H (.scr ns) v) : ∃ a, v = .ref a ∧ SqL Z.K H a (ns.map V.int) := by
  rcases h with ⟨a, e, ⟨o, q⟩, _⟩ | ⟨a, e, q⟩
  · exact ⟨a, e, .inl (.inr ⟨o, q⟩)⟩
  · refine ⟨a, e, .inr ?_⟩
    rcases q with q | q
    · rcases q with q | ⟨_, q⟩ <;> cases q
    · exact q
theorem s_idx (hK : X.K = S.Z.K) (ha : PE X a (tE S ma)) (hb : PE X b (tE S mb)) (hp : PlainIx b) : PE X (.Subscript a b pos) (tE S (.idx ma mb)) := by
  refine PE.imp (pe_ix (ix_list.or ix_tup) (lent_of ha) (lent_of hb) hp) fun σ H Q ⟨F, Fb, env, fr, q⟩ => ?_
  rw [evE, ans_bind] at q
  refine two_l fr (q.mono fun x hx => (ans_bind.mp hx).mono fun y hy v u F2 H2 e l1 l2 => ?_)
  unfold idxD at hy
  rw [hK]
  split at hy
  · rename_i xs i
    obtain ⟨d, hd, k⟩ := optR_ans hy
    obtain ⟨p, vs, rfl, h1, r1⟩ := l1
    obtain ⟨w, hw, r⟩ := atI_reps r1 hd
    exact .inl ⟨p, vs, i, w, rfl, l2, .of h1, hw, k _ _ _ e r⟩
  · rename_i xs i
    obtain ⟨d, hd, k⟩ := optR_ans hy
    obtain ⟨p, vs, rfl, _, h1, r1⟩ := l1
    obtain ⟨w, hw, r⟩ := atI_reps r1 hd
    exact .inr ⟨p, vs, i, w, rfl, l2, .of h1, hw, k _ _ _ e r⟩
  · rename_i ns i
    rw [ans_map] at hy
    obtain ⟨n, hn, k⟩ := optR_ans hy
    obtain ⟨p, rfl, h1⟩ := scr_seq l1
    refine .inl ⟨p, ns.map V.int, i, .int n, rfl, l2, h1, ?_, k _ _ _ e rfl⟩
    unfold L2.atI at hn ⊢
    rw [List.length_map]
    cases e : L2.ixN ns.length i with
    | none => rw [e] at hn; cases hn
    | some j =>
      rw [e] at hn
      have hn : ns[j]? = some n := hn
      show (ns.map V.int)[j]? = some (.int n)
      rw [List.getElem?_map, hn]
      rfl
  · exact hy.elim
theorem cut_reps {Z : Wd} {F : Fz} {H : Hp} {ds : List D} {vs : List V} {lo hi : Option Int} (r : Reps Z F H ds vs) : Reps Z F H (cutD ds lo hi) (cutV vs lo hi) := by
  unfold cutD cutV
  rw [← r.length]
  exact (r.drop _).take _
def tO (S : Sit) (m : Option E) : TO := fun σ H Q => ∃ F Fb env, Fr S.Z F Fb H σ env ∧
  Ans S σ F H (evO S.Γ m env) fun d => ∀ F' H', Ext F H F' H' → Q d H'
theorem PO.imp {X : Cx} {e : Option PySem.Expr} {t t' : TO} (h : PO X e t) (i : ∀ σ H Q, t' σ H Q → t σ H Q) : PO X e t' := ⟨fun pins s σ H Q I q => h.run pins s σ H Q I (i σ H Q q)⟩
theorem o_none : PO X none (tO S none) := PO.imp po_none fun σ H Q ⟨F, Fb, env, fr, q⟩ => q F H (Ext.refl fr.th)
theorem o_some (ha : PE X a (tE S ma)) : PO X (some a) (tO S (some ma)) := by
  refine PO.imp (po_some (lent_of ha)) fun σ H Q ⟨F, Fb, env, fr, q⟩ => ?_
  rw [evO, ans_bind] at q
  refine one_l fr (q.mono fun x hx v F1 H1 e l => ?_)
  rw [ans_map] at hx
  unfold intOf at hx
  split at hx
  · exact ⟨_, l, hx F1 H1 e⟩
  · exact hx.elim
theorem s_sl {lo hi : Option PySem.Expr} {ml mh : Option E} {p2 : Pos} (hK : X.K = S.Z.K) (ha : PE X a (tE S ma)) (hl : PO X lo (tO S ml)) (hh : PO X hi (tO S mh)) : PE X (.Subscript a (.Slice lo hi none p2) pos) (tE S (.sl ma ml mh)) := by
  refine PE.imp (pe_slice (sl_list.or sl_tupA) (lent_of ha) hl hh) fun σ H Q ⟨F, Fb, env, fr, q⟩ => ?_
  rw [evE, ans_bind] at q
  refine one_l fr (q.mono fun x hx v F1 H1 e1 l1 => ⟨F1, Fb, env, fr.ext e1, ((ans_bind.mp hx).ext e1).mono fun lo hx F2 H2 e2 => ⟨F2, Fb, env, (fr.ext e1).ext e2, ((ans_bind.mp hx).ext (e1.trans e2)).mono fun hi hx F3 H3 e3 => ?_⟩⟩)
  have e := (e1.trans e2).trans e3
  have l := (e2.trans e3).lnt l1
  rw [hK]
  unfold slD at hx
  split at hx
  · obtain ⟨p, vs, rfl, h1, r1⟩ := l
    refine .inl ⟨p, vs, rfl, .of h1, fun q hq => ?_⟩
    obtain ⟨g, r⟩ := newL e hq (cut_reps (lo := lo) (hi := hi) r1)
    exact hx _ _ _ g r
  · obtain ⟨p, vs, rfl, f, h1, r1⟩ := l
    refine .inr ⟨p, vs, rfl, .of h1, fun ⟨z1, z2⟩ => ?_, fun _ q hq => ?_⟩
    · have c : cutD ‹List D› lo hi = ‹List D› := by
        unfold cutD
        rw [r1.length, z1, z2, ← r1.length]
        simp
      rw [c] at hx
      exact Hope.rep hx rfl e ⟨p, vs, rfl, f, h1, r1⟩
    · obtain ⟨g, r⟩ := newT e hq (cut_reps (lo := lo) (hi := hi) r1)
      exact Hope.rep hx rfl g r
  · exact hx.elim
end
end Mi
namespace Mi
open PySem L2
/-! ### what a def promises -/
def spF (Z : Wd) (fresh : Bool) (ar : Nat) (run : List Slot → R D) : Sp := fun vs H Q E => vs.length = ar ∧ ∃ (F : Fz) (as : List Slot), (∀ a, F a → H a ≠ none) ∧ ArgsOk Z F H as vs ∧
  match run as with
  | .ok d => ∀ v F' H', Ext F H F' H' → Post Z (if fresh then .fresh else .val) F' H H' d v → Q v H'
  | .exc x => ∀ cls dd F' H', Ext F H F' H' → XRep Z F' H' x cls dd → E cls dd H'
  | .bad => False
structure FnIs (X : Cx) (Z : Wd) (x : Str) (run : List Slot → R D) (fresh : Bool) (ar : Nat) : Prop where
  gl : ∃ k fa fd ps, FnOk X.prog X.w X.K X.mg X.base (L2.CX X.prog X.w) k fa fd ps (spF Z fresh ar run) ∧ Room k X.A ∧ X.mg x = some (.ref fa) ∧ PySem.W.keepIn X.K (.ref fa) = true ∧ Binds X.K fd ps []
section
variable {X : Cx} {S : Sit} {a b c : PySem.Expr} {ma mb mc : E} {pos : Pos}
theorem evAs_length {Γ : Glob} : ∀ {ms : List E} {env : Env} {as : List Slot}, evAs Γ ms env = .ok as → as.length = ms.length
  | [], _, _, h => by
    rw [evAs] at h
    cases h
    rfl
  | m :: ms, env, as, h => by
    rw [evAs] at h
    cases h1 : evE Γ m env with
    | ok x =>
      rw [h1, R.bind_ok] at h
      cases h2 : evAs Γ ms env with
      | ok xs =>
        rw [h2] at h
        cases h
        rw [List.length_cons, List.length_cons, evAs_length h2]
      | exc x => rw [h2] at h; cases h
      | bad => rw [h2] at h; cases h
    | exc x => rw [h1] at h; cases h
    | bad => rw [h1] at h; cases h
/-- the callee's promise is met -/
theorem sp_met {Z : Wd} {σ : St} {F F1 : Fz} {H H1 : Hp} {as : List Slot} {vs : List V} {Q : VK} {fresh : Bool} {run : List Slot → R D} (e : Ext F H F1 H1) (hS : S.Z = Z) (ha : ArgsOk Z F1 H1 as vs)
    (h : Ans S σ F H (run as) (Hope S (if fresh then .fresh else .val) F H Q)) : spF Z fresh as.length run vs H1 Q (WE S.W σ) := by
  subst hS
  refine ⟨ha.length.symm, F1, as, e.th, ha, ?_⟩
  cases q : run as with
  | ok d =>
    rw [q] at h
    exact fun v F' H' g p => Hope.pass h e v F' H' g p
  | exc x =>
    rw [q] at h
    exact fun cls dd F' H' g r => h cls dd F' H' (e.trans g) r
  | bad =>
    rw [q] at h
    exact h
theorem kd_call {fr : Bool} {f : Nat} {ms : List E} : kd (.call fr f ms) = if fr then .fresh else .val := by
  cases fr <;> rfl
theorem s_call {x : Str} {f ar : Nat} {fr : Bool} {e : PySem.Expr} {es : List PySem.Expr} {ms : List E} {p : Pos} (tk : Takes X S.W) (hf : FnIs X S.Z x (S.Γ.call f) fr ar) (hg : Gl X x) (hl : ms.length = ar)
    (ha : PA X (e :: es) (tAs S ms)) (hs : (e :: es).all notStar = true) (hd : (x == ("__debug__" : Str)) = false) : PE X (.Call (.Name x p) (e :: es) [] pos) (tE S (.call fr f ms)) := by
  obtain ⟨k, fa, fd, ps, G, hr, hm, hk, hb⟩ := hf.gl
  rw [List.all_cons, Bool.and_eq_true] at hs
  refine PE.imp (pe_callS G hr hg hm hk hb (fun σ => passAt tk σ) ha hd (star_cons hs.1) (star_any hs.2)) fun σ H Q ⟨F, Fb, env, fr', q⟩ => ?_
  rw [evE, ans_bind, kd_call] at q
  refine ⟨F, Fb, env, fr', q.with.mono fun as ⟨el, k⟩ vs F1 H1 e1 r1 => ?_⟩
  have := evAs_length el
  have := sp_met e1 rfl r1 k
  rw [show ar = as.length by omega]
  exact this
/-! ### built-in functions -/
theorem Lnts.one {Z : Wd} {F : Fz} {H : Hp} {d : D} {vs : List V} (h : Lnts Z F H [d] vs) : ∃ v, vs = [v] ∧ Lnt Z F H d v := by
  obtain ⟨v, r, e, l, h⟩ := h
  cases h
  exact ⟨v, e, l⟩
theorem Lnts.two {Z : Wd} {F : Fz} {H : Hp} {d e : D} {vs : List V} (h : Lnts Z F H [d, e] vs) : ∃ v u, vs = [v, u] ∧ Lnt Z F H d v ∧ Lnt Z F H e u := by
  obtain ⟨v, r, e1, l, h⟩ := h
  obtain ⟨u, e2, l2⟩ := Lnts.one h
  subst e2
  exact ⟨v, u, e1, l, l2⟩
theorem bi_imp {r : List V → Hp → VK → Prop} {b : Bi} {ms : List E}
    (h : ∀ (σ : St) (F F2 : Fz) (H H2 : Hp) (ds : List D) (vs : List V) (Q : VK), Ans S σ F H (biD b ds) (Hope S .fresh F H Q) → Ext F H F2 H2 → Lnts S.Z F2 H2 ds vs → r vs H2 Q) :
    ∀ σ H Q, tE S (.bi b ms) σ H Q → tCB r (tLs S ms) σ H Q := fun σ H Q ⟨F, Fb, env, fr, q⟩ => by
  rw [evE, ans_bind] at q
  exact ⟨F, Fb, env, fr, q.mono fun ds k vs F1 H1 e l => h σ F F1 H H1 ds vs Q k e l⟩
/-- a built-in's name, not one of the module's -/
structure BltIs (X : Cx) (x : Str) : Prop where
  gl : Gl X x
  no : X.mg x = none
section
variable {e : PySem.Expr} {es : List PySem.Expr} {ms : List E} {p : Pos} {x : Str}
theorem s_biB {id : String} {r : List V → Hp → VK → Prop} {b : Bi} (hc : CallR X (.builtin id) r) (hx : BltIs X x) (hv : bootBuiltins x = some (.builtin id)) (ha : PA X (e :: es) (tLs S ms)) (hs : (e :: es).all notStar = true) (hn : x ≠ "__name__") (hd : (x == ("__debug__" : Str)) = false)
    (h : ∀ (σ : St) (F F2 : Fz) (H H2 : Hp) (ds : List D) (vs : List V) (Q : VK), Ans S σ F H (biD b ds) (Hope S .fresh F H Q) → Ext F H F2 H2 → Lnts S.Z F2 H2 ds vs → r vs H2 Q) :
    PE X (.Call (.Name x p) (e :: es) [] pos) (tE S (.bi b ms)) := by
  rw [List.all_cons, Bool.and_eq_true] at hs
  exact PE.imp (pe_callB hc hx.gl hx.no hv ha hn hd (star_cons hs.1) (star_any hs.2)) (bi_imp h)
theorem s_biT {T : String} {r : List V → Hp → VK → Prop} {b : Bi} (hc : CallR X (.type T) r) (hx : BltIs X x) (hv : bootBuiltins x = some (.type T)) (ha : PA X (e :: es) (tLs S ms)) (hs : (e :: es).all notStar = true) (hn : x ≠ "__name__") (hd : (x == ("__debug__" : Str)) = false)
    (h : ∀ (σ : St) (F F2 : Fz) (H H2 : Hp) (ds : List D) (vs : List V) (Q : VK), Ans S σ F H (biD b ds) (Hope S .fresh F H Q) → Ext F H F2 H2 → Lnts S.Z F2 H2 ds vs → r vs H2 Q) :
    PE X (.Call (.Name x p) (e :: es) [] pos) (tE S (.bi b ms)) := by
  rw [List.all_cons, Bool.and_eq_true] at hs
  exact PE.imp (pe_callTy hc hx.gl hx.no hv ha hn hd (star_cons hs.1) (star_any hs.2)) (bi_imp h)
theorem s_len (hK : X.K = S.Z.K) (hx : BltIs X "len") (ha : PA X (e :: es) (tLs S ms)) (hs : (e :: es).all notStar = true) : PE X (.Call (.Name "len" p) (e :: es) [] pos) (tE S (.bi .len ms)) := by
  refine s_biB (call_len_seq.or call_len_str) hx (by decide +kernel) ha hs (by decide +kernel) (by decide +kernel) fun σ F F2 H H2 ds vs Q q g l => ?_
  rw [biD] at q
  unfold lenD at q
  rw [hK]
  split at q
  · obtain ⟨v, rfl, ⟨a, us, rfl, h1, r1⟩⟩ := l.one
    refine .inl ⟨a, us, rfl, .inl (.of h1), ?_⟩
    rw [r1.length] at q
    exact Hope.rep q rfl g rfl
  · obtain ⟨v, rfl, ⟨a, us, rfl, _, h1, r1⟩⟩ := l.one
    refine .inl ⟨a, us, rfl, .inr (.of h1), ?_⟩
    rw [r1.length] at q
    exact Hope.rep q rfl g rfl
  · obtain ⟨v, e1, l'⟩ := l.one
    subst e1
    obtain ⟨a, rfl, h⟩ := scr_seq l'
    refine .inl ⟨a, _, rfl, .inl h, ?_⟩
    rw [List.length_map]
    exact Hope.rep q rfl g rfl
  · obtain ⟨z, q⟩ := q.ite
    obtain ⟨v, e1, l'⟩ := l.one
    subst e1
    exact .inr ⟨_, by rw [str_of l'], line_le z, Hope.rep q rfl g rfl⟩
  · exact q.elim
theorem s_int1 (hx : BltIs X "int") (ha : PA X (e :: es) (tLs S ms)) (hs : (e :: es).all notStar = true) : PE X (.Call (.Name "int" p) (e :: es) [] pos) (tE S (.bi .int ms)) := by
  refine s_biT call_int1 hx (by decide +kernel) ha hs (by decide +kernel) (by decide +kernel) fun σ F F2 H H2 ds vs Q q g l => ?_
  rw [biD] at q
  unfold int1D at q
  split at q
  · obtain ⟨v, e1, l'⟩ := l.one
    subst e1
    exact .inl ⟨_, by rw [int_of l'], Hope.rep q rfl g rfl⟩
  · obtain ⟨v, e1, l'⟩ := l.one
    subst e1
    exact .inr ⟨_, by rw [bl_of l'], Hope.rep q rfl g rfl⟩
  · exact q.elim
theorem s_list1 (hK : X.K = S.Z.K) (hx : BltIs X "list") (ha : PA X (e :: es) (tLs S ms)) (hs : (e :: es).all notStar = true) : PE X (.Call (.Name "list" p) (e :: es) [] pos) (tE S (.bi .list ms)) := by
  refine s_biT call_list_of hx (by decide +kernel) ha hs (by decide +kernel) (by decide +kernel) fun σ F F2 H H2 ds vs Q q g l => ?_
  rw [biD] at q
  unfold listD at q
  rw [hK]
  split at q
  · obtain ⟨v, rfl, ⟨a, us, rfl, h1, r1⟩⟩ := l.one
    refine ⟨a, us, rfl, .inl (.of h1), fun p hp => ?_⟩
    obtain ⟨g, r⟩ := newL g hp r1
    exact q _ _ _ g r
  · obtain ⟨v, rfl, ⟨a, us, rfl, _, h1, r1⟩⟩ := l.one
    refine ⟨a, us, rfl, .inr (.of h1), fun p hp => ?_⟩
    obtain ⟨g, r⟩ := newL g hp r1
    exact q _ _ _ g r
  · exact q.elim
theorem s_tuple1 (hK : X.K = S.Z.K) (hx : BltIs X "tuple") (ha : PA X (e :: es) (tLs S ms)) (hs : (e :: es).all notStar = true) : PE X (.Call (.Name "tuple" p) (e :: es) [] pos) (tE S (.bi .tuple ms)) := by
  refine s_biT call_tuple_of hx (by decide +kernel) ha hs (by decide +kernel) (by decide +kernel) fun σ F F2 H H2 ds vs Q q g l => ?_
  rw [biD] at q
  unfold tupleD at q
  rw [hK]
  split at q
  · obtain ⟨v, rfl, ⟨a, us, rfl, h1, r1⟩⟩ := l.one
    refine ⟨a, us, rfl, .inl ⟨.of h1, fun p hp => ?_⟩⟩
    obtain ⟨g, r⟩ := newT g hp r1
    exact Hope.rep q rfl g r
  · obtain ⟨v, rfl, ⟨a, us, rfl, f, h1, r1⟩⟩ := l.one
    exact ⟨a, us, rfl, .inr ⟨.of h1, Hope.rep q rfl g ⟨a, us, rfl, f, h1, r1⟩⟩⟩
  · exact q.elim
theorem s_sum (hK : X.K = S.Z.K) (hc : X.calm = true) (hx : BltIs X "sum") (ha : PA X (e :: es) (tLs S ms)) (hs : (e :: es).all notStar = true) : PE X (.Call (.Name "sum" p) (e :: es) [] pos) (tE S (.bi .sum ms)) := by
  refine s_biB (cr_sum hc) hx (by decide +kernel) ha hs (by decide +kernel) (by decide +kernel) fun σ F F2 H H2 ds vs Q q g l => ?_
  rw [biD] at q
  unfold sumD at q
  rw [hK]
  split at q
  · obtain ⟨v, rfl, ⟨a, us, rfl, h1, r1⟩⟩ := l.one
    rw [ans_map] at q
    obtain ⟨ns, hn, q⟩ := optR_ans q
    have := reps_toInts r1 hn
    subst this
    exact ⟨a, ns, rfl, .of h1, Hope.rep q rfl g rfl⟩
  · exact q.elim
theorem s_abs (hx : BltIs X "abs") (ha : PA X (e :: es) (tLs S ms)) (hs : (e :: es).all notStar = true) : PE X (.Call (.Name "abs" p) (e :: es) [] pos) (tE S (.bi .abs ms)) := by
  refine s_biB call_abs hx (by decide +kernel) ha hs (by decide +kernel) (by decide +kernel) fun σ F F2 H H2 ds vs Q q g l => ?_
  rw [biD] at q
  unfold absD at q
  split at q
  · obtain ⟨v, e1, l'⟩ := l.one
    subst e1
    exact ⟨_, by rw [int_of l'], Hope.rep q rfl g rfl⟩
  · exact q.elim
theorem s_min2 (hc : X.calm = true) (hx : BltIs X "min") (ha : PA X (e :: es) (tLs S ms)) (hs : (e :: es).all notStar = true) : PE X (.Call (.Name "min" p) (e :: es) [] pos) (tE S (.bi .min2 ms)) := by
  refine s_biB (call_min2 hc) hx (by decide +kernel) ha hs (by decide +kernel) (by decide +kernel) fun σ F F2 H H2 ds vs Q q g l => ?_
  rw [biD] at q
  unfold min2D at q
  split at q
  · obtain ⟨v, u, rfl, l1, l2⟩ := l.two
    exact ⟨_, _, by rw [int_of l1, int_of l2], Hope.rep q rfl g rfl⟩
  · exact q.elim
theorem s_max2 (hc : X.calm = true) (hx : BltIs X "max") (ha : PA X (e :: es) (tLs S ms)) (hs : (e :: es).all notStar = true) : PE X (.Call (.Name "max" p) (e :: es) [] pos) (tE S (.bi .max2 ms)) := by
  refine s_biB (call_max2 hc) hx (by decide +kernel) ha hs (by decide +kernel) (by decide +kernel) fun σ F F2 H H2 ds vs Q q g l => ?_
  rw [biD] at q
  unfold max2D at q
  split at q
  · obtain ⟨v, u, rfl, l1, l2⟩ := l.two
    exact ⟨_, _, by rw [int_of l1, int_of l2], Hope.rep q rfl g rfl⟩
  · exact q.elim
end
end
end Mi
namespace Mi
open PySem L2
/-! ### targets -/
section
variable {Z : Wd} {F Fb : Fz} {H : Hp} {σ : St} {env : Env}
theorem gt_set {i j : Nat} {s : Slot} (hi : i < env.length) : gt (env.set i s) j = if i = j then s else gt env j := by
  unfold gt
  rw [List.getD_eq_getElem?_getD, List.getD_eq_getElem?_getD]
  by_cases h : i = j
  · subst h
    rw [List.getElem?_set_self hi, if_pos rfl]
    rfl
  · rw [List.getElem?_set_ne h, if_neg h]
theorem gt_none {i : Nat} (h : ¬ i < env.length) : gt env i = .un := by
  unfold gt
  rw [List.getD_eq_getElem?_getD, List.getElem?_eq_none (by omega)]
  rfl
theorem set_none {α : Type} {l : List α} {i : Nat} {a : α} (h : ¬ i < l.length) : l.set i a = l := List.set_eq_of_length_le (by omega)
/-- a slot is stored -/
theorem Fr.set (h : Fr Z F Fb H σ env) {i : Nat} {v : V} {s : Slot} (hs : SlotOk Z F Fb H s (some (some v))) (hn : ∀ d, s ≠ .own d) : Fr Z F Fb H (σ.set i (some v)) (env.set i s) := by
  by_cases hi : i < env.length
  · have hi' : i < σ.length := by rw [← h.len]; exact hi
    have at_ : ∀ j, (σ.set i (some v))[j]? = if i = j then some (some v) else σ[j]? := fun j => by
      by_cases e : i = j
      · subst e
        rw [List.getElem?_set_self hi', if_pos rfl]
      · rw [List.getElem?_set_ne e, if_neg e]
    refine ⟨by simp [h.len], h.th, h.thb, fun j => ?_, fun j k a h1 h2 => ?_⟩
    · rw [gt_set hi, at_]
      by_cases e : i = j
      · rw [if_pos e, if_pos e]
        exact hs
      · rw [if_neg e, if_neg e]
        exact h.sl j
    · have go : ∀ j, OwnAt (env.set i s) (σ.set i (some v)) j a → OwnAt env σ j a := fun j ⟨⟨d, hd⟩, hv⟩ => by
        rw [gt_set hi] at hd
        rw [at_] at hv
        by_cases e : i = j
        · rw [if_pos e] at hd
          exact absurd hd (hn d)
        · rw [if_neg e] at hd hv
          exact ⟨⟨d, hd⟩, hv⟩
      exact h.sep j k a (go j h1) (go k h2)
  · rw [set_none hi, set_none (by rw [← h.len]; exact hi)]
    exact h
theorem Fr.setF (h : Fr Z F Fb H σ env) {i : Nat} {v : V} {d : D} (r : Rep Z F H d v) : Fr Z F Fb H (σ.set i (some v)) (env.set i (.frz d)) := h.set ⟨v, rfl, r⟩ fun _ e => by cases e
end
def gT (S : Sit) (t : Tgt) : TG := fun v σ H Q => ∃ F Fb env d env', Fr S.Z F Fb H σ env ∧ Rep S.Z F H d v ∧ bindT t d env = .ok env' ∧
  ∀ σ', Fr S.Z F Fb H σ' env' → σ'.length = σ.length → (∀ i, i ∉ tslots t → σ'[i]? = σ[i]?) → Q σ' H
def gTs (S : Sit) (ts : List Tgt) : TGs := fun vs σ H Q => ∃ F Fb env ds env', Fr S.Z F Fb H σ env ∧ Reps S.Z F H ds vs ∧ bindTs ts ds env = .ok env' ∧
  ∀ σ', Fr S.Z F Fb H σ' env' → σ'.length = σ.length → (∀ i, i ∉ tslotsL ts → σ'[i]? = σ[i]?) → Q σ' H
theorem PG.imp {X : Cx} {e : PySem.Expr} {t t' : TG} (h : PG X e t) (i : ∀ v σ H Q, t' v σ H Q → t v σ H Q) : PG X e t' := ⟨fun pins s σ H v u Q I r q => h.run pins s σ H v u Q I r (i v σ H Q q)⟩
theorem PGs.imp {X : Cx} {e : List PySem.Expr} {t t' : TGs} (h : PGs X e t) (i : ∀ v σ H Q, t' v σ H Q → t v σ H Q) : PGs X e t' := ⟨fun pins s σ H v u Q I r q => h.run pins s σ H v u Q I r (i v σ H Q q)⟩
section
variable {X : Cx} {S : Sit} {pos : Pos}
theorem g_nm {i : Nat} {x : Str} (hN : X.N.Nodup) (hi : X.N[i]? = some x) (hx : Loc X.env.scope x) (hf : X.fn x = true ∨ X.env.scope.names.lookup x = some .local) : PG X (.Name x pos) (gT S (.nm i)) := by
  refine PG.imp (pg_name hN hi hx hf) fun v σ H Q ⟨F, Fb, env, d, env', fr, r, b, k⟩ => ?_
  rw [bindT] at b
  cases b
  refine k _ (fr.setF r) (by simp) fun j hj => ?_
  rw [List.getElem?_set_ne (fun e => hj (by rw [tslots, e]; exact List.mem_singleton.mpr rfl))]
theorem gs_nil : PGs X [] (gTs S []) := by
  refine PGs.imp pgs_nil fun vs σ H Q ⟨F, Fb, env, ds, env', fr, r, b, k⟩ => ?_
  cases ds with
  | nil =>
    rw [bindTs] at b
    cases b
    exact ⟨r, k σ fr rfl fun _ _ => rfl⟩
  | cons d ds =>
    simp [bindTs] at b
theorem gs_cons {e : PySem.Expr} {es : List PySem.Expr} {t : Tgt} {ts : List Tgt} (h1 : PG X e (gT S t)) (h2 : PGs X es (gTs S ts)) (hs : (assignEach (e :: es) X.env).map (·.2) = assign e X.env :: (assignEach es X.env).map (·.2)) : PGs X (e :: es) (gTs S (t :: ts)) := by
  refine PGs.imp (pgs_cons h1 h2 hs) fun vs σ H Q ⟨F, Fb, env, ds, env', fr, r, b, k⟩ => ?_
  cases ds with
  | nil => simp [bindTs] at b
  | cons d ds =>
    obtain ⟨v, us, e1, r1, r2⟩ := r
    subst e1
    rw [bindTs] at b
    cases b1 : bindT t d env with
    | ok env1 =>
      rw [b1, R.bind_ok] at b
      refine ⟨v, us, rfl, F, Fb, env, d, env1, fr, r1, b1, fun σ1 fr1 l1 k1 => ⟨F, Fb, env1, ds, env', fr1, r2, b, fun σ2 fr2 l2 k2 => k σ2 fr2 (l2.trans l1) fun i hi => ?_⟩⟩
      rw [tslotsL, List.mem_append, not_or] at hi
      rw [k2 i hi.2, k1 i hi.1]
    | exc x => rw [b1] at b; cases b
    | bad => rw [b1] at b; cases b
theorem bindTs_length : ∀ {ts : List Tgt} {ds : List D} {env env' : Env}, bindTs ts ds env = .ok env' → ts.length = ds.length
  | [], [], _, _, _ => rfl
  | [], _ :: _, _, _, h => by simp [bindTs] at h
  | _ :: _, [], _, _, h => by simp [bindTs] at h
  | t :: ts, d :: ds, env, env', h => by
    rw [bindTs] at h
    cases b1 : bindT t d env with
    | ok env1 =>
      rw [b1, R.bind_ok] at h
      rw [List.length_cons, List.length_cons, bindTs_length h]
    | exc x => rw [b1] at h; cases h
    | bad => rw [b1] at h; cases h
theorem g_tup {es : List PySem.Expr} {ts : List Tgt} {k : Nat} (hc : X.calm = true) (hK : X.K = S.Z.K) (h : PGs X es (gTs S ts)) (hn : (assignEach es X.env).length = ts.length) (hst : (assignEach es X.env).findIdx? (·.1) = none) : PG X (.Tuple es k pos) (gT S (.tup ts)) := by
  refine PG.imp (pg_tup hc h hn hst) fun v σ H Q ⟨F, Fb, env, d, env', fr, r, b, k⟩ => ?_
  cases d with
  | tup ds =>
    have b : bindTs ts ds env = .ok env' := by
      rw [bindT] at b
      exact b
    obtain ⟨a, vs, rfl, _, h1, r1⟩ := r
    exact ⟨a, vs, rfl, .of h1, by rw [← r1.length, bindTs_length b], F, Fb, env, ds, env', fr, r1, b, k⟩
  | _ => simp [bindT] at b
end
/-! ### what a loop goes through -/
/-- the walk J gives ds as long as what is settled or at L stays -/
def Yl (Z : Wd) (J : It) (ds : List D) (F : Fz) (H : Hp) (L : Fz) : Prop :=
  ∀ F' H', (∀ a, F a → F' a) → (∀ a o, F a ∨ L a → H a = some o → H' a = some o) → (∀ a, F' a → H' a ≠ none) →
    (∀ (i : Nat) d, ds[i]? = some d → J.go i H' ∧ ∀ x H'', J.yld i H' x H'' → ∃ F'', Ext F' H' F'' H'' ∧ Rep Z F'' H'' d x) ∧ J.stop ds.length H'
theorem PI.imp {X : Cx} {tg e : PySem.Expr} {t t' : TI} (h : PI X tg e t) (i : ∀ σ H Q, t' σ H Q → t σ H Q) : PI X tg e t' := ⟨fun pins s σ H R I q => h.run pins s σ H R I (i σ H R q)⟩
def tI (S : Sit) (m : E) : TI := fun σ H Rk => ∃ F Fb env, Fr S.Z F Fb H σ env ∧
  Ans S σ F H ((evE S.Γ m env).bind items) fun ds => ∀ J F' H' L, Ext F H F' H' → (∀ a, L a → (F' a ∨ Fb a ∨ ∃ i, i ∈ pks m ∧ OwnAt env σ i a) ∧ H' a ≠ none) → Yl S.Z J ds F' H' L → Rk J H'
theorem walk_yl {Z : Wd} {J : It} {n : Nat} {G : Hp → Prop} {Y : Nat → Hp → V → Hp → Prop} {ds : List D} {F : Fz} {H : Hp} {L : Fz} (w : Walk J n G Y) (hn : n = ds.length)
    (hG : ∀ H', (∀ a o, F a ∨ L a → H a = some o → H' a = some o) → G H')
    (hY : ∀ F' H', (∀ a, F a → F' a) → (∀ a o, F a ∨ L a → H a = some o → H' a = some o) → (∀ a, F' a → H' a ≠ none) → ∀ (i : Nat) d x H'', ds[i]? = some d → Y i H' x H'' → ∃ F'', Ext F' H' F'' H'' ∧ Rep Z F'' H'' d x) : Yl Z J ds F H L := by
  intro F' H' f1 f2 f3
  have g := hG H' f2
  refine ⟨fun i d hd => ?_, by rw [← hn]; exact w.stops H' g⟩
  have hi : i < n := by
    rw [hn]
    exact (List.getElem?_eq_some_iff.mp hd).1
  exact ⟨w.goes i H' hi g, fun x H'' y => hY F' H' f1 f2 f3 i d x H'' hd (w.yields i H' x H'' hi g y)⟩
/-- iter(x) of a list, a tuple -/
def iSeq (K : PySem.W.Frag) (tl : TE) : TI := fun σ H Rk => tl σ H fun x H1 => ∃ a, x = .ref a ∧ (((∃ xs, SqL K H1 a xs) ∧ Rk (Itl K a) H1) ∨ ((∃ xs, SqT K H1 a xs) ∧ Rk (Itt K a) H1))
theorem pi_seq {X : Cx} {tg l : PySem.Expr} {tl : TE} (hl : PE X l tl) : PI X tg l (iSeq X.K tl) := by
  refine ⟨fun pins s σ H Rk I h => ?_⟩
  refine thn (hl.run pins s σ H _ I h) fun u s1 ⟨x, H1, I1, r1, a, ex, q⟩ => ?_
  subst ex
  cases r1
  have new1 : ∀ c ∈ [s1.heap.objs.size], FpOk X pins H1 c := fun c hc => by
    cases List.mem_singleton.mp hc
    exact I1.fpOk (Nat.le_refl _) (I1.hok.fresh (Nat.le_refl _))
  rcases q with ⟨⟨xs, hq⟩, q⟩ | ⟨⟨xs, hq⟩, q⟩
  · obtain ⟨us, _, pl, _⟩ := I1.list hq
    exact wpAny_pyIter_list pl.isList ⟨_, [_], _, Itl X.K a, H1, rfl, I1.kept (t' := s1.toks) (fun _ _ e1 => Heap.get?_push_of_some _ e1), turn_list a _, ⟨_, Heap.get?_push_size _ rfl, rfl, rfl⟩, new1, q⟩
  · obtain ⟨us, _, pl, _⟩ := I1.tuple hq
    exact wpAny_pyIter_tuple (show s1.heap.IsTuple a us.toArray from pl) ⟨_, [_], _, Itt X.K a, H1, rfl, I1.kept (t' := s1.toks) (fun _ _ e1 => Heap.get?_push_of_some _ e1), turn_tuple a _, ⟨_, Heap.get?_push_size _ rfl, rfl, rfl⟩, new1, q⟩
section
variable {X : Cx} {S : Sit} {tg a b : PySem.Expr} {ma mb : E} {pos p : Pos}
theorem yl_at {Z : Wd} {F F' : Fz} {H H' : Hp} {ds : List D} {vs : List V} {L : Fz} (r : Reps Z F H ds vs) (f1 : ∀ a, F a → F' a) (f2 : ∀ a o, F a ∨ L a → H a = some o → H' a = some o) (f3 : ∀ a, F' a → H' a ≠ none) {i : Nat} {d : D} {x : V} {H'' : Hp} (hd : ds[i]? = some d)
    (y : H'' = H' ∧ vs[i]? = some x) : ∃ F'', Ext F' H' F'' H'' ∧ Rep Z F'' H'' d x := by
  obtain ⟨rfl, y⟩ := y
  exact ⟨F', Ext.refl f3, (r.get hd y).mono f1 fun a o f h => f2 a o (.inl f) h⟩
/-- the names whose lists are gone through -/
def pk : E → List Nat
  | .peek i => [i]
  | _ => []
def Src (Z : Wd) (F' Fb : Fz) (H' : Hp) (env : Env) (σ : St) (m : E) : D → V → Prop
  | .lst ds, v => ∃ a vs, v = .ref a ∧ (F' a ∨ Fb a ∨ ∃ i, i ∈ pk m ∧ OwnAt env σ i a) ∧ H' a = some (.lst vs) ∧ Reps Z F' H' ds vs
  | d, v => Rep Z F' H' d v
def tR (S : Sit) (m : E) : TE := fun σ H Q => ∃ F Fb env, Fr S.Z F Fb H σ env ∧
  Ans S σ F H (evE S.Γ m env) fun d => ∀ v F' H', Ext F H F' H' → Src S.Z F' Fb H' env σ m d v → Q v H'
theorem r_val (ha : PE X a (tE S ma)) (hk : kd ma ≠ .lent) : PE X a (tR S ma) := PE.imp (frz_of ha hk) fun σ H Q ⟨F, Fb, env, fr, q⟩ => ⟨F, Fb, env, fr, q.mono fun d k v F' H' e r => k v F' H' e (by
  cases d with
  | lst ds =>
    obtain ⟨a, vs, e1, f, h, r⟩ := r
    exact ⟨a, vs, e1, .inl f, h, r⟩
  | _ => exact r)⟩
theorem r_peek {i : Nat} {x : Str} (hN : X.N[i]? = some x) (hv : Vis X.env.scope x) (hd : (x == ("__debug__" : Str)) = false) (hc : (x == ("__classdict__" : Str)) = false) : PE X (.Name x pos) (tR S (.peek i)) := by
  refine PE.imp (pe_var hN hv hd hc) fun σ H Q ⟨F, Fb, env, fr, q⟩ => ?_
  rw [evE] at q
  have s := fr.sl i
  have e0 := Ext.refl fr.th
  unfold SlotOk at s
  cases g : gt env i with
  | un =>
    rw [g] at q
    exact q.elim
  | own d =>
    rw [g] at q s
    obtain ⟨a, e, _, _, o⟩ := s
    refine ⟨_, e, q (.ref a) F H e0 ?_⟩
    cases d with
    | lst ds =>
      obtain ⟨vs, h, r⟩ := o
      exact ⟨a, vs, rfl, .inr (.inr ⟨i, List.mem_singleton.mpr rfl, ⟨_, g⟩, e⟩), h, r⟩
    | _ => exact o.elim
  | frz d =>
    rw [g] at q s
    obtain ⟨v, e, r⟩ := s
    refine ⟨_, e, q v F H e0 ?_⟩
    cases d with
    | lst ds =>
      obtain ⟨a, vs, e1, f, h, r⟩ := r
      exact ⟨a, vs, e1, .inl f, h, r⟩
    | _ => exact r
  | bor d =>
    rw [g] at q s
    obtain ⟨v, e, r⟩ := s
    refine ⟨_, e, q v F H e0 ?_⟩
    cases d with
    | lst ds =>
      obtain ⟨a, vs, e1, f, h, r⟩ := r
      exact ⟨a, vs, e1, f.elim .inl fun z => .inr (.inl z), h, r⟩
    | _ => exact r
theorem Ext.src {Z : Wd} {F F1 Fb : Fz} {H H1 : Hp} {env : Env} {σ : St} {m : E} {d : D} {v : V} (e : Ext F H F1 H1) (h : Src Z F Fb H env σ m d v) : Src Z F1 Fb H1 env σ m d v := by
  cases d with
  | lst ds =>
    obtain ⟨a, vs, e1, f, h, r⟩ := h
    exact ⟨a, vs, e1, f.imp (e.fz a) id, e.ob a _ h, e.reps r⟩
  | _ => exact e.rep h
theorem src_ne {H : Hp} {a : Addr} {o : HO} (h : H a = some o) : H a ≠ none := by
  rw [h]
  exact fun z => by cases z
/-- a list or a tuple as it stands -/
theorem i_seq (hK : X.K = S.Z.K) (ha : PE X a (tR S ma)) (hp : pks ma = pk ma) : PI X tg a (tI S ma) := by
  refine PI.imp (pi_seq ha) fun σ H Rk ⟨F, Fb, env, fr, q⟩ => ?_
  rw [ans_bind] at q
  refine ⟨F, Fb, env, fr, q.mono fun d hd v F1 H1 e r => ?_⟩
  rw [hK]
  unfold items at hd
  split at hd
  · obtain ⟨a, vs, rfl, f, h1, r1⟩ := r
    refine ⟨a, rfl, .inl ⟨⟨vs, .of h1⟩, hd _ F1 H1 (fun c => c = a) e (fun c hc => ?_) (walk_yl (walk_list (xs := vs)) r1.length.symm (fun H' k => .of (k a _ (.inr rfl) h1)) fun F' H' f1 f2 f3 i d x H'' hd y => yl_at r1 f1 f2 f3 hd y)⟩⟩
    subst hc
    rw [hp]
    exact ⟨f, src_ne h1⟩
  · obtain ⟨a, vs, rfl, f, h1, r1⟩ := r
    refine ⟨a, rfl, .inr ⟨⟨vs, .of h1⟩, hd _ F1 H1 (fun c => c = a) e (fun c hc => ?_) (walk_yl (walk_tup (xs := vs)) r1.length.symm (fun H' k => .of (k a _ (.inr rfl) h1)) fun F' H' f1 f2 f3 i d x H'' hd y => yl_at r1 f1 f2 f3 hd y)⟩⟩
    subst hc
    exact ⟨.inl f, e.th c f⟩
  · exact r.elim
  · exact hd.elim
/-! ### range -/
theorem rng_yl {Z : Wd} {lo hi : Int} {F : Fz} {H : Hp} : Yl Z (Itr lo (hi - lo).toNat) ((List.range (hi - lo).toNat).map fun (k : Nat) => D.int (lo + (k : Int))) F H fun _ => False := by
  refine walk_yl walk_range (by simp) (fun _ _ => trivial) fun F' H' f1 f2 f3 i d x H'' hd y => ?_
  obtain ⟨rfl, rfl⟩ := y
  refine ⟨F', Ext.refl f3, ?_⟩
  rw [List.getElem?_map] at hd
  obtain ⟨k, hk, rfl⟩ := Option.map_eq_some_iff.mp hd
  have := (List.getElem?_eq_some_iff.mp hk).2
  rw [List.getElem_range] at this
  subst this
  rfl
theorem small_of {i : Int} (h : small62 i = true) : -(2 ^ 62) ≤ i ∧ i < 2 ^ 62 := of_decide_eq_true h
theorem i_rng1 (hx : BltIs X "range") (ha : PE X a (tE S ma)) (hs : notStar a = true) : PI X tg (.Call (.Name "range" p) [a] [] pos) (tI S (.rng none ma none)) := by
  refine PI.imp (pi_range1 hx.gl hx.no (pa_cons (lent_of ha) pa_nil (star_cons hs)) (star_cons hs)) fun σ H Rk ⟨F, Fb, env, fr, q⟩ => ?_
  rw [evE, evR, R.bind_ok, ans_bind, ans_bind] at q
  refine one_l fr (q.mono fun x hx v F1 H1 e l => ?_)
  rw [ans_bind] at hx
  unfold intOf at hx
  split at hx
  · rename_i j
    have hx : Ans S σ F H (rngD 0 j) _ := hx
    unfold rngD at hx
    obtain ⟨z, hx⟩ := hx.ite
    rw [Bool.and_eq_true] at z
    have z2 := small_of z.2
    refine ⟨j, by rw [int_of l], z2.1, z2.2, ?_⟩
    have k := hx (Itr 0 (j - 0).toNat) F1 H1 _ e (fun _ z => z.elim) rng_yl
    rw [Int.sub_zero] at k
    exact k
  · exact hx.elim
theorem i_rng2 (hx : BltIs X "range") (ha : PE X a (tE S ma)) (hb : PE X b (tE S mb)) (hs : notStar a = true) (hs2 : notStar b = true) : PI X tg (.Call (.Name "range" p) [a, b] [] pos) (tI S (.rng (some ma) mb none)) := by
  refine PI.imp (pi_range2 hx.gl hx.no (pa_cons (lent_of ha) (pa_cons (lent_of hb) pa_nil (star_cons hs2)) (star_cons hs)) (by rw [star_cons hs, star_cons hs2]; rfl) (star_cons hs2)) fun σ H Rk ⟨F, Fb, env, fr, q⟩ => ?_
  rw [evE, evR, ans_bind, ans_bind, ans_bind] at q
  refine one_l fr (q.mono fun x hx v F1 H1 e l => ?_)
  unfold intOf at hx
  split at hx
  · rename_i i
    refine one_l (fr.ext e) (((ans_bind.mp hx).ext e).mono fun y hy u F2 H2 e2 l2 => ?_)
    rw [ans_bind] at hy
    split at hy
    · rename_i j
      have hy : Ans S σ F H (rngD i j) _ := hy
      unfold rngD at hy
      obtain ⟨z, hy⟩ := hy.ite
      rw [Bool.and_eq_true] at z
      have z1 := small_of z.1
      have z2 := small_of z.2
      have l1 : v = .int i := int_of l
      have l2 : u = .int j := int_of l2
      subst l1 l2
      exact ⟨i, j, rfl, ⟨z1.1, z1.2, z2.1, z2.2⟩, hy (Itr i (j - i).toNat) F2 H2 _ (e.trans e2) (fun _ z => z.elim) rng_yl⟩
    · exact hy.elim
  · exact hx.elim
/-! ### enumerate, zip -/
theorem enumL_get : ∀ (n : Nat) (ds : List D) (i : Nat), (enumL n ds)[i]? = ds[i]?.map fun d => D.tup [.int ((n + i : Nat) : Int), d]
  | _, [], i => by simp [enumL]
  | n, d :: ds, 0 => by simp [enumL]
  | n, d :: ds, i + 1 => by
    rw [enumL, List.getElem?_cons_succ, List.getElem?_cons_succ, enumL_get (n + 1) ds i, show n + 1 + i = n + (i + 1) by omega]
theorem enumL_length : ∀ (n : Nat) (ds : List D), (enumL n ds).length = ds.length
  | _, [] => rfl
  | n, d :: ds => by rw [enumL, List.length_cons, List.length_cons, enumL_length]
theorem pair_yl {Z : Wd} {F' : Fz} {H' : Hp} {d1 d2 : D} {x1 x2 : V} {T : Addr} (f3 : ∀ a, F' a → H' a ≠ none) (hT : H' T = none) (r1 : Rep Z F' H' d1 x1) (r2 : Rep Z F' H' d2 x2) :
    ∃ F'', Ext F' H' F'' (upd H' T (.tup [x1, x2])) ∧ Rep Z F'' (upd H' T (.tup [x1, x2])) (.tup [d1, d2]) (.ref T) := by
  obtain ⟨g, r⟩ := newT (Z := Z) (ds := [d1, d2]) (vs := [x1, x2]) (Ext.refl f3) hT ⟨x1, [x2], rfl, r1, x2, [], rfl, r2, rfl⟩
  exact ⟨_, g, r⟩
theorem i_enum {elts : List PySem.Expr} {kk : Nat} {tpos : Pos} (hK : X.K = S.Z.K) (hx : BltIs X "enumerate") (ha : PE X a (tR S ma)) (hs : notStar a = true) (hp : pks (.enum ma) = pk ma) : PI X (.Tuple elts kk tpos) (.Call (.Name "enumerate" p) [a] [] pos) (tI S (.enum ma)) := by
  refine PI.imp (pi_enum hx.gl hx.no (pa_cons ha pa_nil (star_cons hs)) (star_cons hs)) fun σ H Rk ⟨F, Fb, env, fr, q⟩ => ?_
  rw [evE, ans_bind, ans_bind] at q
  refine ⟨F, Fb, env, fr, q.mono fun d hd v F1 H1 e r => ?_⟩
  rw [hK]
  unfold enumD at hd
  split at hd
  · rename_i ds
    obtain ⟨a, vs, rfl, f, h1, r1⟩ := r
    have hd : ∀ (J : It) (F' : Fz) (H' : Hp) (L : Fz), Ext F H F' H' → (∀ a, L a → (F' a ∨ Fb a ∨ ∃ i, i ∈ pks (.enum ma) ∧ OwnAt env σ i a) ∧ H' a ≠ none) → Yl S.Z J (enumL 0 ds) F' H' L → Rk J H' := hd
    refine ⟨a, vs, rfl, .of h1, hd _ F1 H1 (fun c => c = a) e (fun c hc => ?_) (walk_yl (walk_enum (xs := vs)) (by rw [enumL_length, r1.length]) (fun H' k => .of (k a _ (.inr rfl) h1)) fun F' H' f1 f2 f3 i d x H'' hd y => ?_)⟩
    · subst hc
      rw [hp]
      exact ⟨f, src_ne h1⟩
    · obtain ⟨T, x1, x2, rfl, hT, rfl, y1, y2⟩ := y
      rw [enumL_get] at hd
      obtain ⟨d2, hd2, rfl⟩ := Option.map_eq_some_iff.mp hd
      have : x1 = .int (i : Nat) := (Option.some.inj y1).symm
      subst this
      rw [Nat.zero_add]
      exact pair_yl f3 hT rfl ((r1.get hd2 y2).mono f1 fun a o f h => f2 a o (.inl f) h)
  · exact hd.elim
theorem zipL_get : ∀ (ds es : List D) (i : Nat) (x : D), (zipL ds es)[i]? = some x → ∃ d e, x = .tup [d, e] ∧ ds[i]? = some d ∧ es[i]? = some e
  | [], _, i, x, h => by simp [zipL] at h
  | _ :: _, [], i, x, h => by simp [zipL] at h
  | d :: ds, e :: es, 0, x, h => by
    simp [zipL] at h
    exact ⟨d, e, h.symm, rfl, rfl⟩
  | d :: ds, e :: es, i + 1, x, h => by
    rw [zipL, List.getElem?_cons_succ] at h
    exact zipL_get ds es i x h
theorem zipL_length : ∀ (ds es : List D), (zipL ds es).length = min ds.length es.length
  | [], _ => by simp [zipL]
  | _ :: _, [] => by simp [zipL]
  | d :: ds, e :: es => by
    rw [zipL, List.length_cons, zipL_length, List.length_cons, List.length_cons]
    omega
theorem walk_zipT {K : PySem.W.Frag} {a b : Addr} {xs ys : List V} {n : Nat} (hn : n = min xs.length ys.length) : Walk (RZ.ItzT K a b) n (fun H => SqT K H a xs ∧ SqT K H b ys) (YPair (fun i => xs[i]?) (fun i => ys[i]?)) := by
  subst hn
  refine ⟨fun i _ hi q => ?_, fun _ q => ⟨xs, ys, q.1, q.2, by omega⟩, fun i H v H' _ q y => ?_⟩
  · have l1 : i < xs.length := by omega
    have l2 : i < ys.length := by omega
    exact ⟨xs, ys, xs[i], ys[i], q.1, q.2, List.getElem?_eq_getElem l1, List.getElem?_eq_getElem l2⟩
  · obtain ⟨T, x, z, g1, g2, g3, g4, g5⟩ := y
    exact ⟨T, x, z, g1, g2, g3, g4 _ q.1, g5 _ q.2⟩
theorem zip_yl {Z : Wd} {F1 : Fz} {H1 : Hp} {ds es : List D} {vs us : List V} {L : Fz} (r1 : Reps Z F1 H1 ds vs) (r2 : Reps Z F1 H1 es us) {F' : Fz} {H' : Hp} (f1 : ∀ a, F1 a → F' a) (f2 : ∀ a o, F1 a ∨ L a → H1 a = some o → H' a = some o) (f3 : ∀ a, F' a → H' a ≠ none)
    {i : Nat} {d : D} {x : V} {H'' : Hp} (hd : (zipL ds es)[i]? = some d) (y : YPair (fun i => vs[i]?) (fun i => us[i]?) i H' x H'') : ∃ F'', Ext F' H' F'' H'' ∧ Rep Z F'' H'' d x := by
  obtain ⟨T, x1, x2, rfl, hT, rfl, y1, y2⟩ := y
  obtain ⟨d1, d2, rfl, h1, h2⟩ := zipL_get ds es i d hd
  exact pair_yl f3 hT ((r1.get h1 y1).mono f1 fun a o f h => f2 a o (.inl f) h) ((r2.get h2 y2).mono f1 fun a o f h => f2 a o (.inl f) h)
theorem i_zip {elts : List PySem.Expr} {kk : Nat} {tpos : Pos} (hK : X.K = S.Z.K) (hx : BltIs X "zip") (ha : PE X a (tR S ma)) (hb : PE X b (tR S mb)) (hs : notStar a = true) (hs2 : notStar b = true) (hp : ∀ i, i ∈ pk ma ∨ i ∈ pk mb → i ∈ pks (.zip ma mb)) :
    PI X (.Tuple elts kk tpos) (.Call (.Name "zip" p) [a, b] [] pos) (tI S (.zip ma mb)) := by
  refine PI.imp (RZ.pi_zipA hx.gl hx.no (pa_cons ha (pa_cons hb pa_nil (star_cons hs2)) (star_cons hs)) (star_cons hs) (star_any (by rw [List.all_cons, hs2]; rfl))) fun σ H Rk ⟨F, Fb, env, fr, q⟩ => ?_
  rw [evE, ans_bind, ans_bind] at q
  refine ⟨F, Fb, env, fr, q.mono fun x hx v F1 H1 e1 r1 => ⟨F1, Fb, env, fr.ext e1, (((ans_bind.mp hx).ext e1).mono fun y hy u F2 H2 e2 r2 => ?_)⟩⟩
  rw [hK]
  have r3 := e2.src r1
  clear r1
  have e := e1.trans e2
  unfold zipD at hy
  split at hy
  · rename_i ds es
    obtain ⟨a, vs, rfl, f, h1, r1⟩ := r3
    obtain ⟨b, us, rfl, g, h2, r2⟩ := r2
    have hy : ∀ (J : It) (F' : Fz) (H' : Hp) (L : Fz), Ext F H F' H' → (∀ a, L a → (F' a ∨ Fb a ∨ ∃ i, i ∈ pks (.zip ma mb) ∧ OwnAt env σ i a) ∧ H' a ≠ none) → Yl S.Z J (zipL ds es) F' H' L → Rk J H' := hy
    refine ⟨a, b, vs, us, rfl, .inl ⟨.of h1, .of h2, hy _ F2 H2 (fun c => c = a ∨ c = b) e (fun c hc => ?_) (walk_yl (walk_zip (xs := vs) (ys := us) (by rw [← r1.length, ← r2.length, ← zipL_length])) rfl (fun H' k => ⟨.of (k a _ (.inr (.inl rfl)) h1), .of (k b _ (.inr (.inr rfl)) h2)⟩) fun F' H' f1 f2 f3 i d x H'' hd y => zip_yl r1 r2 f1 f2 f3 hd y)⟩⟩
    rcases hc with rfl | rfl
    · exact ⟨f.imp id fun z => z.imp id fun ⟨i, hi, o⟩ => ⟨i, hp i (.inl hi), o⟩, src_ne h1⟩
    · exact ⟨g.imp id fun z => z.imp id fun ⟨i, hi, o⟩ => ⟨i, hp i (.inr hi), o⟩, src_ne h2⟩
  · rename_i ds es
    obtain ⟨a, vs, rfl, f, h1, r1⟩ := r3
    obtain ⟨b, us, rfl, g, h2, r2⟩ := r2
    have hy : ∀ (J : It) (F' : Fz) (H' : Hp) (L : Fz), Ext F H F' H' → (∀ a, L a → (F' a ∨ Fb a ∨ ∃ i, i ∈ pks (.zip ma mb) ∧ OwnAt env σ i a) ∧ H' a ≠ none) → Yl S.Z J (zipL ds es) F' H' L → Rk J H' := hy
    refine ⟨a, b, vs, us, rfl, .inr ⟨.of h1, .of h2, hy _ F2 H2 (fun c => c = a ∨ c = b) e (fun c hc => ?_) (walk_yl (walk_zipT (xs := vs) (ys := us) (by rw [← r1.length, ← r2.length, ← zipL_length])) rfl (fun H' k => ⟨.of (k a _ (.inr (.inl rfl)) h1), .of (k b _ (.inr (.inr rfl)) h2)⟩) fun F' H' f1 f2 f3 i d x H'' hd y => zip_yl r1 r2 f1 f2 f3 hd y)⟩⟩
    rcases hc with rfl | rfl
    · exact ⟨.inl f, src_ne h1⟩
    · exact ⟨.inl g, src_ne h2⟩
  · exact hy.elim
end
end Mi
namespace Mi
open PySem L2
/-! ### comprehensions -/
/-- nothing may be raised -/
abbrev Sit.calm (S : Sit) : Sit := { S with W := fun _ _ _ _ => False }
def tTs (S : Sit) (ms : List E) : TT := fun σ H Q => ∃ F Fb env, Fr S.Z F Fb H σ env ∧ Ans S σ F H (evIfs S.Γ ms env) fun t => ∀ F' H', Ext F H F' H' → Q t H'
theorem PTs.imp {X : Cx} {e : List PySem.Expr} {t t' : TT} (h : PTs X e t) (i : ∀ σ H Q, t' σ H Q → t σ H Q) : PTs X e t' := ⟨fun pins s σ H Q I q => h.run pins s σ H Q I (i σ H Q q)⟩
section
variable {X : Cx} {S : Sit} {c : PySem.Expr} {mc : E}
theorem ts_nil : PTs X [] (tTs S []) := PTs.imp pts_nil fun σ H Q ⟨F, Fb, env, fr, q⟩ => q F H (Ext.refl fr.th)
theorem ts_one (h : PT X c (tT S mc)) : PTs X [c] (tTs S [mc]) := PTs.imp (pts_one h) fun σ H Q ⟨F, Fb, env, fr, q⟩ => ⟨F, Fb, env, fr, by
  rw [evIfs, ans_bind] at q
  rw [ans_bind]
  refine q.mono fun x hx => (ans_bind.mp hx).mono fun b hb => ?_
  cases b with
  | true => exact hb
  | false => exact hb⟩
end
section
variable {Z : Wd} {F Fb : Fz} {H : Hp} {σ : St} {env : Env}
theorem wipe_len : ∀ (l : List Nat) (env : Env), (wipe env l).length = env.length
  | [], _ => rfl
  | i :: r, env => by rw [wipe, List.length_set, wipe_len r]
theorem gt_wipe : ∀ (l : List Nat) (env : Env) (j : Nat), gt (wipe env l) j = if j ∈ l then .un else gt env j
  | [], env, j => by simp [wipe]
  | i :: r, env, j => by
    rw [wipe]
    by_cases hi : i < (wipe env r).length
    · rw [gt_set hi, gt_wipe r]
      by_cases e : i = j
      · simp [e]
      · rw [if_neg e]
        simp [Ne.symm e]
    · rw [set_none hi, gt_wipe r]
      by_cases e : i = j
      · subst e
        have : gt env i = .un := gt_none (by rw [wipe_len] at hi; exact hi)
        simp [this]
      · simp [Ne.symm e]
theorem Fr.wipe (h : Fr Z F Fb H σ env) (l : List Nat) : Fr Z F Fb H (L2.wipe σ l) (Mi.wipe env l) := by
  have at_ : ∀ (l : List Nat) (j : Nat), j ∉ l → (L2.wipe σ l)[j]? = σ[j]? := fun l j hj => wipe_out hj
  refine ⟨by rw [wipe_len, wipe_length, h.len], h.th, h.thb, fun j => ?_, fun j k a h1 h2 => ?_⟩
  · rw [gt_wipe]
    by_cases e : j ∈ l
    · rw [if_pos e]
      trivial
    · rw [if_neg e, at_ l j e]
      exact h.sl j
  · have go : ∀ j, OwnAt (Mi.wipe env l) (L2.wipe σ l) j a → OwnAt env σ j a := fun j ⟨⟨d, hd⟩, hv⟩ => by
      rw [gt_wipe] at hd
      by_cases e : j ∈ l
      · rw [if_pos e] at hd
        cases hd
      · rw [if_neg e] at hd
        rw [at_ l j e] at hv
        exact ⟨⟨d, hd⟩, hv⟩
    exact h.sep j k a (go j h1) (go k h2)
theorem wipe_get : ∀ (l : List Nat) (σ : St) (j : Nat), (L2.wipe σ l)[j]? = if j ∈ l ∧ j < σ.length then some none else σ[j]?
  | [], σ, j => by simp [L2.wipe]
  | i :: r, σ, j => by
    rw [L2.wipe]
    by_cases e : i = j
    · subst e
      by_cases hi : i < σ.length
      · rw [List.getElem?_set_self (by rw [wipe_length]; exact hi)]
        simp [hi]
      · rw [List.set_eq_of_length_le (by rw [wipe_length]; omega), wipe_get r]
        simp [hi]
    · rw [List.getElem?_set_ne e, wipe_get r]
      simp [Ne.symm e]
theorem wipe_eq {l : List Nat} {σ σ2 : St} (hl : σ2.length = (L2.wipe σ l).length) (h : ∀ i, i ∉ l → σ2[i]? = (L2.wipe σ l)[i]?) : L2.wipe σ2 l = L2.wipe σ l := by
  refine List.ext_getElem? fun j => ?_
  rw [wipe_length] at hl
  by_cases e : j ∈ l
  · rw [wipe_get, wipe_get, hl]
    by_cases z : j < σ.length
    · rw [if_pos ⟨e, z⟩, if_pos ⟨e, z⟩]
    · rw [if_neg fun q => z q.2, if_neg fun q => z q.2, List.getElem?_eq_none (by omega), List.getElem?_eq_none (by omega)]
  · rw [wipe_out e, h j e]
end
mutual
theorem bindT_not : ∀ (t : Tgt) (x : D) (env env' : Env) (i : Nat) (d : Slot), bindT t x env = .ok env' → gt env' i = d → (d ≠ .un ∧ ∀ y, d ≠ .frz y) → gt env i = d ∧ i ∉ tslots t
  | .nm j, x, env, env', i, d, h, g, n => by
    rw [bindT] at h
    cases h
    rw [tslots]
    by_cases hj : j < env.length
    · rw [gt_set hj] at g
      by_cases e : j = i
      · rw [if_pos e] at g
        exact absurd g.symm (n.2 _)
      · rw [if_neg e] at g
        exact ⟨g, by simp [Ne.symm e]⟩
    · rw [set_none hj] at g
      refine ⟨g, fun z => ?_⟩
      rw [List.mem_singleton.mp z, gt_none hj] at g
      exact n.1 g.symm
  | .tup ts, .tup xs, env, env', i, d, h, g, n => by
    rw [bindT] at h
    rw [tslots]
    exact bindTs_not ts xs env env' i d h g n
  | .tup ts, .non, _, _, _, _, h, _, _ => by simp [bindT] at h
  | .tup ts, .bl _, _, _, _, _, h, _, _ => by simp [bindT] at h
  | .tup ts, .int _, _, _, _, _, h, _, _ => by simp [bindT] at h
  | .tup ts, .str _, _, _, _, _, h, _, _ => by simp [bindT] at h
  | .tup ts, .lst _, _, _, _, _, h, _, _ => by simp [bindT] at h
  | .tup ts, .dct _ _, _, _, _, _, h, _, _ => by simp [bindT] at h
  | .tup ts, .ins _ _ _, _, _, _, _, h, _, _ => by simp [bindT] at h
  | .tup ts, .scr _, _, _, _, _, h, _, _ => by simp [bindT] at h
  | .tup ts, .itr _, _, _, _, _, h, _, _ => by simp [bindT] at h
theorem bindTs_not : ∀ (t : List Tgt) (x : List D) (env env' : Env) (i : Nat) (d : Slot), bindTs t x env = .ok env' → gt env' i = d → (d ≠ .un ∧ ∀ y, d ≠ .frz y) → gt env i = d ∧ i ∉ tslotsL t
  | [], [], env, env', i, d, h, g, _ => by
    rw [bindTs] at h
    cases h
    exact ⟨g, by simp [tslotsL]⟩
  | [], _ :: _, _, _, _, _, h, _, _ => by simp [bindTs] at h
  | _ :: _, [], _, _, _, _, h, _, _ => by simp [bindTs] at h
  | t :: ts, x :: xs, env, env', i, d, h, g, n => by
    rw [bindTs] at h
    cases b1 : bindT t x env with
    | ok env1 =>
      rw [b1, R.bind_ok] at h
      obtain ⟨g1, n1⟩ := bindTs_not ts xs env1 env' i d h g n
      obtain ⟨g2, n2⟩ := bindT_not t x env env1 i d b1 g1 n
      refine ⟨g2, ?_⟩
      rw [tslotsL, List.mem_append, not_or]
      exact ⟨n2, n1⟩
    | exc z => rw [b1] at h; cases h
    | bad => rw [b1] at h; cases h
end
theorem bindT_own (t : Tgt) (x : D) (env env' : Env) (i : Nat) (d : D) (h : bindT t x env = .ok env') (g : gt env' i = .own d) : gt env i = .own d ∧ i ∉ tslots t := bindT_not t x env env' i _ h g ⟨(fun z => by cases z), (fun _ z => by cases z)⟩
theorem nox_ok {α : Type} {S : Sit} {σ : St} {F : Fz} {H : Hp} {r : R α} {k : α → Prop} (h : Ans S σ F H r.nox k) : ∃ a, r = .ok a ∧ k a := by
  cases r with
  | ok a => exact ⟨a, rfl, h⟩
  | exc x => exact h.elim
  | bad => exact h.elim
theorem map_ok {α β : Type} {r : R α} {f : α → β} {b : β} (h : r.map f = .ok b) : ∃ a, r = .ok a ∧ f a = b := by
  cases r with
  | ok a => exact ⟨a, rfl, R.ok.inj h⟩
  | exc x => cases h
  | bad => cases h
theorem bnd_ok {α β : Type} {r : R α} {f : α → R β} {b : β} (h : r.bind f = .ok b) : ∃ a, r = .ok a ∧ f a = .ok b := by
  cases r with
  | ok a => exact ⟨a, rfl, h⟩
  | exc x => cases h
  | bad => cases h
theorem ok_ans {α : Type} {S : Sit} {σ : St} {F : Fz} {H : Hp} {r : R α} {a : α} {k : α → Prop} (e : r = .ok a) (h : k a) : Ans S σ F H r k := by
  rw [e]
  exact h
theorem drop_at {α : Type} {l : List α} {i : Nat} (h : i < l.length) : l.drop i = l[i] :: l.drop (i + 1) := by
  rw [List.drop_eq_getElem_cons h]
section
variable {F F1 F4 : Fz} {H H1 H4 : Hp} {Z : Wd}
/-- a new list of our own is lengthened -/
theorem Ext.grow (e : Ext F1 H1 F4 H4) {p : Addr} (h1 : H1 p = none) (hf : ¬ F4 p) {o : HO} : Ext F1 H1 F4 (upd H4 p o) := by
  refine ⟨fun a u z => ?_, e.fz, e.nw, fun a f => ?_⟩
  · rw [upd_ne (ne_of_none z h1)]
    exact e.ob a u z
  · rw [upd_ne (fun z => hf (by rw [← z]; exact f))]
    exact e.th a f
theorem reps_upd {p : Addr} {o : HO} {ds : List D} {vs : List V} (hf : ¬ F p) (r : Reps Z F H ds vs) : Reps Z F (upd H p o) ds vs := r.mono (fun _ f => f) fun a u f z => by
  rw [upd_ne (fun q => hf (by rw [← q]; exact f))]
  exact z
end
theorem some_ne {H : Hp} {a : Addr} {o : HO} (h : H a = some o) : H a ≠ none := by
  rw [h]
  exact fun z => by cases z
theorem not_new {F F1 : Fz} {H H1 : Hp} {p : Addr} {o : HO} (e : Ext F H F1 H1) (h : H p = some o) (hf : ¬ F p) : ¬ F1 p := fun f => (e.nw p f).elim hf (some_ne h)
theorem Fr.updp {Z : Wd} {F Fb : Fz} {H : Hp} {σ : St} {env : Env} {p : Addr} {o : HO} (h : Fr Z F Fb H σ env) (hf : ¬ F p) (hb : ¬ Fb p) (ho : ∀ i, ¬ OwnAt env σ i p) : Fr Z F Fb (upd H p o) σ env := by
  have th : ∀ a, H a ≠ none → upd H p o a ≠ none := fun a k => by
    by_cases e : a = p
    · rw [e, upd_same]
      exact fun z => by cases z
    · rw [upd_ne e]
      exact k
  have mo : ∀ a u, F a → H a = some u → upd H p o a = some u := fun a u f z => by
    rw [upd_ne (fun q => hf (by rw [← q]; exact f))]
    exact z
  refine ⟨h.len, fun a f => th a (h.th a f), fun a f => th a (h.thb a f), fun i => ?_, h.sep⟩
  have q := h.sl i
  unfold SlotOk at q ⊢
  split
  · trivial
  · rename_i d hd
    rw [hd] at q
    obtain ⟨v, e1, r⟩ := q
    exact ⟨v, e1, r.mono (fun _ f => f) mo⟩
  · rename_i d hd
    rw [hd] at q
    obtain ⟨v, e1, r⟩ := q
    refine ⟨v, e1, ?_⟩
    cases d with
    | lst ds =>
      obtain ⟨a, vs, e2, f, z, r⟩ := r
      refine ⟨a, vs, e2, f, ?_, r.mono (fun _ f => f) mo⟩
      rw [upd_ne (fun q => by subst q; exact f.elim hf hb)]
      exact z
    | _ => exact Rep.mono (fun _ f => f) mo _ _ r
  · rename_i d hd
    rw [hd] at q
    obtain ⟨a, e1, n1, n2, r⟩ := q
    refine ⟨a, e1, n1, n2, ?_⟩
    cases d with
    | lst ds =>
      obtain ⟨vs, z, r⟩ := r
      refine ⟨vs, ?_, r.mono (fun _ f => f) mo⟩
      rw [upd_ne (fun q => by subst q; exact ho i ⟨⟨_, hd⟩, e1⟩)]
      exact z
    | _ => exact r.elim
/-- a new list's turns: where the loop stands -/
def Turn (Z : Wd) (F1 : Fz) (H1 : Hp) (p : Addr) (k : List D → Prop) (H' : Hp) : Prop :=
  ∃ (F' : Fz) (acc : List V) (dn : List D), Ext F1 H1 F' H' ∧ ¬ F' p ∧ H' p = some (.lst acc) ∧ Reps Z F' H' dn acc ∧ k dn
section
variable {X : Cx} {S : Sit}
theorem lc_imp {me mi : E} {mifs : List E} {t : Tgt} {vs : List Nat} {σ : St} {H : Hp} {Q : VK} (hw : ∀ i ∈ tslots t, i ∈ vs) (q : tE S (.comp me t mi mifs vs) σ H Q) : tLc (tI S mi) (gT S.calm t) (tTs S.calm mifs) (tF S.calm me) vs σ H Q := by
  obtain ⟨F, Fb, env, fr, q⟩ := q
  rw [evE, ans_bind] at q
  refine ⟨F, Fb, env, fr, ans_bind.mpr (q.mono fun s hs => (ans_bind.mp hs).mono fun ds hq J F1 H1 L e hL yl p hp => ?_)⟩
  rw [ans_bind] at hq
  obtain ⟨ys, ey, hq⟩ := nox_ok hq
  unfold made at hq
  obtain ⟨hz, hq⟩ := hq.ite
  have hq : ∀ v F' H', Ext F H F' H' → Post S.Z .fresh F' H H' (.lst ys) v → Q v H' := hq
  have hz := line_le hz
  have h1p : ¬ F1 p := fun f => e.th p f hp
  refine ⟨fun i m H' => m + i = ds.length ∧ Turn S.Z F1 H1 p (fun dn => ∃ rest, compL (fun x => bindT t x (Mi.wipe env vs)) (evIfs S.Γ mifs) (evE S.Γ me) (ds.drop i) = .ok rest ∧ ys = dn ++ rest) H',
    ⟨ds.length, rfl, F1, [], [], Ext.new e.th hp, h1p, upd_same, rfl, ys, ey, rfl⟩, ?_⟩
  rintro i m H2 ⟨hm, F2, acc, dn, e2, n2, h2, r2, rest, er, rfl⟩
  have y2 := yl F2 H2 e2.fz (fun a o _ h => e2.ob a o h) e2.th
  by_cases hi : i < ds.length
  · obtain ⟨go, yd⟩ := y2.1 i ds[i] (List.getElem?_eq_getElem hi)
    rw [drop_at hi, compL] at er
    obtain ⟨e1, eb, er⟩ := bnd_ok er
    obtain ⟨b, et, er⟩ := bnd_ok er
    refine .inr ⟨go, Turn S.Z F1 H1 p (fun dn' => ∃ rest', compL (fun x => bindT t x (Mi.wipe env vs)) (evIfs S.Γ mifs) (evE S.Γ me) (ds.drop (i + 1)) = .ok rest' ∧ dn ++ rest = dn' ++ rest'), fun H' nx => ⟨m - 1, by omega, by omega, nx⟩, fun x H3 y => ?_⟩
    obtain ⟨F3, e3, r3⟩ := yd x H3 y
    refine ⟨F3, Fb, Mi.wipe env vs, ds[i], e1, (((fr.ext e).ext e2).ext e3).wipe vs, r3, eb, fun σ' fr' len keep => ⟨wipe_eq len fun j hj => keep j fun z => hj (hw j z), F3, Fb, e1, fr', ok_ans et fun F4 H4 e4 => ?_⟩⟩
    cases b with
    | false =>
      have er : compL _ _ _ _ = R.ok rest := er
      exact ⟨F4, acc, dn, (e2.trans e3).trans e4, not_new (e3.trans e4) h2 n2, (e3.trans e4).ob _ _ h2, (e3.trans e4).reps r2, rest, er, rfl⟩
    | true =>
      obtain ⟨w, ew, er⟩ := bnd_ok er
      obtain ⟨rest', er', rfl⟩ := map_ok er
      refine ⟨F4, Fb, e1, fr'.ext e4, ok_ans ew fun v F5 H5 e5 r5 => ?_⟩
      have g := (e3.trans e4).trans e5
      have n5 := not_new g h2 n2
      have h5 := g.ob _ _ h2
      have r6 := g.reps r2
      refine ⟨acc, h5, ?_, F5, acc ++ [v], dn ++ [w], (e2.trans g).grow hp n5, n5, upd_same, reps_upd n5 (r6.snoc r5), rest', er', by simp⟩
      have := r2.length
      simp at hz
      omega
  · have : i = ds.length := by omega
    subst this
    refine .inl ⟨y2.2, ?_⟩
    rw [List.drop_of_length_le (Nat.le_refl _), compL] at er
    cases er
    rw [List.append_nil] at hq
    exact hq (.ref p) F2 H2 (e.trans e2) ⟨p, rfl, e.back hp, n2, acc, h2, r2⟩
theorem lc2_imp {me mi mi1 : E} {mifs1 : List E} {t t1 : Tgt} {vs vs1 : List Nat} {σ : St} {H : Hp} {Q : VK} (hw : ∀ i ∈ tslots t, i ∈ vs) (hw1 : ∀ i ∈ tslots t1, i ∈ vs1) (q : tE S (.comp2 me t mi t1 mi1 mifs1 vs vs1) σ H Q) :
    tLc2 (tI S mi) (gT S.calm t) (tTs S.calm []) (tI S.calm mi1) (gT S.calm t1) (tTs S.calm mifs1) (tF S.calm me) vs vs1 σ H Q := by
  obtain ⟨F, Fb, env, fr, q⟩ := q
  rw [evE, ans_bind] at q
  refine ⟨F, Fb, env, fr, ans_bind.mpr (q.mono fun s hs => (ans_bind.mp hs).mono fun ds hq J F1 H1 L e hL yl p hp => ?_)⟩
  rw [ans_bind] at hq
  obtain ⟨ys, ey, hq⟩ := nox_ok hq
  unfold made at hq
  obtain ⟨hz, hq⟩ := hq.ite
  have hq : ∀ v F' H', Ext F H F' H' → Post S.Z .fresh F' H H' (.lst ys) v → Q v H' := hq
  have hz := line_le hz
  have h1p : ¬ F1 p := fun f => e.th p f hp
  generalize hin : (fun e => (evE S.Γ mi1 e).bind fun s1 => (items s1).bind fun ys => compL (fun y => bindT t1 y (Mi.wipe e vs1)) (evIfs S.Γ mifs1) (evE S.Γ me) ys) = inner at ey
  refine ⟨fun i m H' => m + i = ds.length ∧ Turn S.Z F1 H1 p (fun dn => ∃ rest, compL2 (fun x => bindT t x (Mi.wipe env vs)) inner (ds.drop i) = .ok rest ∧ ys = dn ++ rest) H',
    ⟨ds.length, rfl, F1, [], [], Ext.new e.th hp, h1p, upd_same, rfl, ys, ey, rfl⟩, ?_⟩
  rintro i m H2 ⟨hm, F2, acc, dn, e2, n2, h2, r2, rest, er, rfl⟩
  have y2 := yl F2 H2 e2.fz (fun a o _ h => e2.ob a o h) e2.th
  by_cases hi : i < ds.length
  · obtain ⟨go, yd⟩ := y2.1 i ds[i] (List.getElem?_eq_getElem hi)
    rw [drop_at hi, compL2] at er
    obtain ⟨e1, eb, er⟩ := bnd_ok er
    obtain ⟨zs, ez, er⟩ := bnd_ok er
    obtain ⟨rest', er', rfl⟩ := map_ok er
    refine .inr ⟨go, Turn S.Z F1 H1 p (fun dn' => ∃ rest'', compL2 (fun x => bindT t x (Mi.wipe env vs)) inner (ds.drop (i + 1)) = .ok rest'' ∧ dn ++ (zs ++ rest') = dn' ++ rest''), fun H' nx => ⟨m - 1, by omega, by omega, nx⟩, fun x H3 y => ?_⟩
    obtain ⟨F3, e3, r3⟩ := yd x H3 y
    refine ⟨F3, Fb, Mi.wipe env vs, ds[i], e1, (((fr.ext e).ext e2).ext e3).wipe vs, r3, eb, fun σ' fr' len keep => ⟨wipe_eq len fun j hj => keep j fun z => hj (hw j z), F3, Fb, e1, fr', ?_⟩⟩
    refine ok_ans (a := true) rfl fun F4 H4 e4 => ?_
    show ite _ _ _
    rw [if_pos rfl]
    rw [← hin] at ez
    obtain ⟨s1, es1, ez⟩ := bnd_ok ez
    obtain ⟨es, ees, ez⟩ := bnd_ok ez
    refine ⟨F4, Fb, e1, fr'.ext e4, ok_ans (a := es) (by rw [es1, R.bind_ok]; exact ees) fun J1 F5 H5 L1 e5 hL1 yl1 => ?_⟩
    have g := (e3.trans e4).trans e5
    have n5 := not_new g h2 n2
    have h5 := g.ob _ _ h2
    have r5 := g.reps r2
    have nb : ¬ Fb p := fun z => (fr.ext e).thb p z hp
    have no : ∀ i, ¬ OwnAt e1 σ' i p := fun i ⟨⟨d, gd⟩, z⟩ => by
      obtain ⟨gd, nt⟩ := bindT_own t _ _ _ i d eb gd
      rw [gt_wipe] at gd
      have nv : i ∉ vs := fun k => by
        rw [if_pos k] at gd
        cases gd
      rw [if_neg nv] at gd
      rw [keep i nt, wipe_out nv] at z
      have q := (fr.ext e).sl i
      rw [gd, z] at q
      obtain ⟨a', ea, _, _, o⟩ := q
      cases ea
      exact o.there hp
    obtain ⟨P, hP⟩ : ∃ P : Nat → Hp → Prop, P = fun j H' => ∃ (F' : Fz) (acc' : List V) (dn' : List D), Ext F1 H1 F' H' ∧ (∀ a, F5 a → F' a) ∧ (∀ a o, a ≠ p → H5 a = some o → H' a = some o) ∧ Fr S.Z F' Fb H' σ' e1 ∧ ¬ F' p ∧ H' p = some (.lst acc') ∧ Reps S.Z F' H' dn' acc' ∧
        ∃ rest'', compL (fun y => bindT t1 y (Mi.wipe e1 vs1)) (evIfs S.Γ mifs1) (evE S.Γ me) (es.drop j) = .ok rest'' ∧ dn ++ zs = dn' ++ rest'' := ⟨_, rfl⟩
    refine ⟨fun j k H' => k + j = es.length ∧ P j H', ⟨es.length, rfl, by
      rw [hP]
      exact ⟨F5, acc, dn, e2.trans g, fun _ f => f, fun _ _ _ h => h, (fr'.ext e4).ext e5, n5, h5, r5, zs, ez, rfl⟩⟩, ?_⟩
    rintro j k H6 ⟨hk, pj⟩
    have pj' := pj
    rw [hP] at pj'
    obtain ⟨F6, acc', dn', e6, f6, b6, fr6, n6, h6, r6, rest6, er6, eq6⟩ := pj'
    have hLp : ∀ a, L1 a → a ≠ p := fun a l => by
      rintro rfl
      rcases (hL1 a l).1 with z | z | ⟨i, _, z⟩
      · exact n5 z
      · exact nb z
      · exact no i z
    have y6 := yl1 F6 H6 f6 (fun a o fl h => b6 a o (by
      rcases fl with f | l
      · rintro rfl
        exact n5 f
      · exact hLp a l) h) e6.th
    by_cases hj : j < es.length
    · obtain ⟨go1, yd1⟩ := y6.1 j es[j] (List.getElem?_eq_getElem hj)
      rw [drop_at hj, compL] at er6
      obtain ⟨e7, eb7, er6⟩ := bnd_ok er6
      obtain ⟨b, et, er6⟩ := bnd_ok er6
      refine .inr ⟨go1, P (j + 1), fun H' nx => ⟨k - 1, by omega, by omega, nx⟩, fun x1 H7 y7 => ?_⟩
      obtain ⟨F7, x7, r7⟩ := yd1 x1 H7 y7
      refine ⟨F7, Fb, Mi.wipe e1 vs1, es[j], e7, (fr6.ext x7).wipe vs1, r7, eb7, fun σ3 fr3 len3 keep3 => ⟨wipe_eq len3 fun j hj => keep3 j fun z => hj (hw1 j z), F7, Fb, e7, fr3, ok_ans et fun F8 H8 x8 => ?_⟩⟩
      cases b with
      | false =>
        have er6 : compL _ _ _ _ = R.ok rest6 := er6
        show P (j + 1) H8
        rw [hP]
        have g := x7.trans x8
        exact ⟨F8, acc', dn', e6.trans g, fun a f => g.fz a (f6 a f), fun a o n h => g.ob a o (b6 a o n h), fr6.ext g, not_new g h6 n6, g.ob _ _ h6, g.reps r6, rest6, er6, eq6⟩
      | true =>
        obtain ⟨w, ew, er6⟩ := bnd_ok er6
        obtain ⟨rest7, er7, rfl⟩ := map_ok er6
        refine ⟨F8, Fb, e7, fr3.ext x8, ok_ans ew fun v F9 H9 x9 r9 => ?_⟩
        have g := (x7.trans x8).trans x9
        have n9 := not_new g h6 n6
        have h9 := g.ob _ _ h6
        have r10 := g.reps r6
        refine ⟨acc', h9, ?_, ?_⟩
        · have := r6.length
          have q := congrArg List.length eq6
          simp at hz q
          omega
        · rw [hP]
          refine ⟨F9, acc' ++ [v], dn' ++ [w], (e6.trans g).grow hp n9, fun a f => g.fz a (f6 a f), fun a o n h => ?_, (fr6.ext g).updp n9 nb no, n9, upd_same, reps_upd n9 (r10.snoc r9), rest7, er7, by rw [eq6]; simp⟩
          rw [upd_ne n]
          exact g.ob a o (b6 a o n h)
    · have : j = es.length := by omega
      subst this
      refine .inl ⟨y6.2, ?_⟩
      rw [List.drop_of_length_le (Nat.le_refl _), compL] at er6
      cases er6
      rw [List.append_nil] at eq6
      exact ⟨F6, acc', dn', e6, n6, h6, r6, rest', er', by rw [← eq6, List.append_assoc]⟩
  · have : i = ds.length := by omega
    subst this
    refine .inl ⟨y2.2, ?_⟩
    rw [List.drop_of_length_le (Nat.le_refl _), compL2] at er
    cases er
    rw [List.append_nil] at hq
    exact hq (.ref p) F2 H2 (e.trans e2) ⟨p, rfl, e.back hp, n2, acc, h2, r2⟩
end
section
variable {X : Cx} {S : Sit} {elt tg iter tg1 iter1 : PySem.Expr} {ifs ifs1 : List PySem.Expr} {scope : Scope} {own : List (Str × Nat)} {pos : Pos} {me mi mi1 : E} {mifs mifs1 : List E} {t t1 : Tgt} {vs1 : List Nat}
theorem s_comp (hc : X.calm = true) (hN : X.N.Nodup) (hi : PI X tg iter (tI S mi)) (ok : BlkOk X.N X.env.scope scope own) (hw : ∀ i ∈ tslots t, i ∈ own.map (·.2))
    (hg : ∀ (s : Shared) (H : Hp) (C : Addr) (cl : List (Str × Addr)) (fp : List Addr), PG (X.blk s H scope (compEnvC scope cl C X.env) fp) tg (gT S.calm t)) (ht : ∀ (s : Shared) (H : Hp) (C : Addr) (cl : List (Str × Addr)) (fp : List Addr), PTs (X.blk s H scope (compEnvC scope cl C X.env) fp) ifs (tTs S.calm mifs))
    (he : ∀ (s : Shared) (H : Hp) (C : Addr) (cl : List (Str × Addr)) (fp : List Addr), PE (X.blk s H scope (compEnvC scope cl C X.env) fp) elt (tF S.calm me)) (hs : ∀ x, foldedSetIterable iter X.env x = pure x) :
    PE X (.ListComp elt [⟨tg, iter, ifs, 0⟩] scope pos) (tE S (.comp me t mi mifs (own.map (·.2)))) := PE.imp (pe_lc hc hN hi ok hg ht he hs) fun _ _ _ q => lc_imp hw q
theorem s_comp2 (hc : X.calm = true) (hN : X.N.Nodup) (hi : PI X tg iter (tI S mi)) (ok : BlkOk X.N X.env.scope scope own) (hv : ∀ i ∈ vs1, i ∈ own.map (·.2)) (hw : ∀ i ∈ tslots t, i ∈ own.map (·.2)) (hw1 : ∀ i ∈ tslots t1, i ∈ vs1)
    (hg : ∀ (s : Shared) (H : Hp) (C : Addr) (cl : List (Str × Addr)) (fp : List Addr), PG (X.blk s H scope (compEnvC scope cl C X.env) fp) tg (gT S.calm t)) (ht : ∀ (s : Shared) (H : Hp) (C : Addr) (cl : List (Str × Addr)) (fp : List Addr), PTs (X.blk s H scope (compEnvC scope cl C X.env) fp) [] (tTs S.calm []))
    (hi1 : ∀ (s : Shared) (H : Hp) (C : Addr) (cl : List (Str × Addr)) (fp : List Addr), PI (X.blk s H scope (compEnvC scope cl C X.env) fp) tg1 iter1 (tI S.calm mi1))
    (hg1 : ∀ (s : Shared) (H : Hp) (C : Addr) (cl : List (Str × Addr)) (fp : List Addr), PG (X.blk s H scope (compEnvC scope cl C X.env) fp) tg1 (gT S.calm t1)) (ht1 : ∀ (s : Shared) (H : Hp) (C : Addr) (cl : List (Str × Addr)) (fp : List Addr), PTs (X.blk s H scope (compEnvC scope cl C X.env) fp) ifs1 (tTs S.calm mifs1))
    (he : ∀ (s : Shared) (H : Hp) (C : Addr) (cl : List (Str × Addr)) (fp : List Addr), PE (X.blk s H scope (compEnvC scope cl C X.env) fp) elt (tF S.calm me)) (hs : ∀ x, foldedSetIterable iter X.env x = pure x) (hs1 : ∀ env x, foldedSetIterable iter1 env x = pure x) :
    PE X (.ListComp elt [⟨tg, iter, [], 0⟩, ⟨tg1, iter1, ifs1, 0⟩] scope pos) (tE S (.comp2 me t mi t1 mi1 mifs1 (own.map (·.2)) vs1)) := PE.imp (pe_lc2 hc hN hi ok hv hg ht hi1 hg1 ht1 he hs hs1) fun _ _ _ q => lc2_imp hw hw1 q
end
end Mi
namespace Mi
open PySem L2
/-! ### statements -/
structure Step (F Fb : Fz) (H : Hp) (F' : Fz) (H' : Hp) : Prop where
  ob : ∀ a o, F a ∨ Fb a → H a = some o → H' a = some o
  fz : ∀ a, F a → F' a
  nw : ∀ a, F' a → F a ∨ ¬ Fb a
  th : ∀ a, F' a → H' a ≠ none
section
variable {Z : Wd} {F F1 F2 Fb : Fz} {H H1 H2 : Hp} {σ σ1 σ2 : St} {env env1 env2 : Env}
theorem Step.trans (a : Step F Fb H F1 H1) (b : Step F1 Fb H1 F2 H2) : Step F Fb H F2 H2 :=
  ⟨fun x o f h => b.ob x o (f.imp (a.fz x) id) (a.ob x o f h), fun x f => b.fz x (a.fz x f), fun x f => (b.nw x f).elim (a.nw x) .inr, b.th⟩
theorem Ext.step (e : Ext F H F1 H1) (h : ∀ a, Fb a → H a ≠ none) : Step F Fb H F1 H1 :=
  ⟨fun a o _ q => e.ob a o q, e.fz, fun a f => (e.nw a f).imp id fun z b => h a b z, e.th⟩
theorem Step.rep (e : Step F Fb H F1 H1) {d : D} {v : V} (r : Rep Z F H d v) : Rep Z F1 H1 d v := r.mono e.fz fun a o f h => e.ob a o (.inl f) h
structure Go (Z : Wd) (F Fb : Fz) (H : Hp) (σ : St) (env : Env) (σ' : St) (F' : Fz) (H' : Hp) (env' : Env) : Prop where
  st : Step F Fb H F' H'
  fr : Fr Z F' Fb H' σ' env'
  bk : ∀ i d, gt env' i = .bor d → gt env i = .bor d ∧ σ'[i]? = σ[i]?
theorem Go.trans (a : Go Z F Fb H σ env σ1 F1 H1 env1) (b : Go Z F1 Fb H1 σ1 env1 σ2 F2 H2 env2) : Go Z F Fb H σ env σ2 F2 H2 env2 :=
  ⟨a.st.trans b.st, b.fr, fun i d h => by
    obtain ⟨h1, e1⟩ := b.bk i d h
    obtain ⟨h2, e2⟩ := a.bk i d h1
    exact ⟨h2, e1.trans e2⟩⟩
theorem Fr.go (fr : Fr Z F Fb H σ env) (e : Ext F H F1 H1) : Go Z F Fb H σ env σ F1 H1 env := ⟨e.step fr.thb, fr.ext e, fun _ _ h => ⟨h, rfl⟩⟩
theorem Fr.self (fr : Fr Z F Fb H σ env) : Go Z F Fb H σ env σ F H env := fr.go (Ext.refl fr.th)
end
def RetOk (Z : Wd) (own : Bool) (F' Fb : Fz) (H' : Hp) (d : D) (v : V) : Prop :=
  if own && isMut d then ∃ a, v = .ref a ∧ ¬ F' a ∧ ¬ Fb a ∧ Own Z F' H' d a else Rep Z F' H' d v
def Fin (S : Sit) (F Fb : Fz) (H : Hp) (σ : St) (env : Env) (D : Ends) : Out → Prop
  | .nx e => ∀ σ' F' H', Go S.Z F Fb H σ env σ' F' H' e → D.nx σ' H'
  | .bk e => ∀ σ' F' H', Go S.Z F Fb H σ env σ' F' H' e → D.bk σ' H'
  | .ct e => ∀ σ' F' H', Go S.Z F Fb H σ env σ' F' H' e → D.ct σ' H'
  | .ret d own => ∀ v F' H', Step F Fb H F' H' → RetOk S.Z own F' Fb H' d v → D.rt v H'
  | .exc x e => ∀ cls dd σ' F' H', Go S.Z F Fb H σ env σ' F' H' e → XRep S.Z F' H' x cls dd → S.W cls dd σ' H'
  | .bad => False
def tS (S : Sit) (m : Mi.S) : TS := fun D σ H => ∃ F Fb env, Fr S.Z F Fb H σ env ∧ Fin S F Fb H σ env D (evS S.Γ m env)
def tSs (S : Sit) (ms : List Mi.S) : TS := fun D σ H => ∃ F Fb env, Fr S.Z F Fb H σ env ∧ Fin S F Fb H σ env D (evSs S.Γ ms env)
theorem PSs.imp {X : Cx} {e : List PySem.Stmt} {t t' : TS} (h : PSs X e t) (i : ∀ D σ H, t' D σ H → t D σ H) : PSs X e t' := ⟨fun pins s σ H D I q => h.run pins s σ H D I (i D σ H q)⟩
section
variable {S : Sit} {F F1 F2 Fb : Fz} {H H1 H2 : Hp} {σ σ1 σ2 : St} {env env1 env2 : Env} {D D' : Ends} {o : Out}
theorem Fin.go (h : Fin S F Fb H σ env D o) (g : Go S.Z F Fb H σ env σ1 F1 H1 env1) : Fin S F1 Fb H1 σ1 env1 D o := by
  cases o with
  | nx e => exact fun σ' F' H' k => h σ' F' H' (g.trans k)
  | bk e => exact fun σ' F' H' k => h σ' F' H' (g.trans k)
  | ct e => exact fun σ' F' H' k => h σ' F' H' (g.trans k)
  | ret d own => exact fun v F' H' k r => h v F' H' (g.st.trans k) r
  | exc x e => exact fun cls dd σ' F' H' k r => h cls dd σ' F' H' (g.trans k) r
  | bad => exact h
theorem Fin.ext (h : Fin S F Fb H σ env D o) (fr : Fr S.Z F Fb H σ env) (e : Ext F H F1 H1) : Fin S F1 Fb H1 σ env D o := h.go (fr.go e)
theorem fin_out {α : Type} {r : R α} {f : α → Out} (fr : Fr S.Z F Fb H σ env) (h : Fin S F Fb H σ env D (r.out env f)) : Ans S σ F H r fun a => Fin S F Fb H σ env D (f a) := by
  cases r with
  | ok a => exact h
  | exc x => exact fun cls dd F' H' e r => h cls dd σ F' H' (fr.go e) r
  | bad => exact h
theorem fin_only {α : Type} {r : R α} {f : α → Out} (h : Fin S F Fb H σ env D (r.only f)) : ∃ a, r = .ok a ∧ Fin S F Fb H σ env D (f a) := by
  cases r with
  | ok a => exact ⟨a, rfl, h⟩
  | exc x => exact h.elim
  | bad => exact h.elim
end
/-! #### the frame's changes -/
section
variable {Z : Wd} {F F1 Fb : Fz} {H H1 : Hp} {σ : St} {env : Env}
theorem Fr.setF_go (h : Fr Z F Fb H σ env) {i : Nat} {v : V} {d : D} (r : Rep Z F H d v) : Go Z F Fb H σ env (σ.set i (some v)) F H (env.set i (.frz d)) := by
  refine ⟨(Ext.refl h.th).step h.thb, h.setF r, fun j d' g => ?_⟩
  by_cases hi : i < env.length
  · rw [gt_set hi] at g
    by_cases e : i = j
    · rw [if_pos e] at g
      cases g
    · rw [if_neg e] at g
      exact ⟨g, List.getElem?_set_ne e⟩
  · rw [set_none hi] at g
    rw [set_none (by rw [← h.len]; exact hi)]
    exact ⟨g, rfl⟩
/-- a new list gets its name -/
theorem Fr.setOwn (h : Fr Z F Fb H σ env) {i : Nat} {a : Addr} {d : D} (hf : ¬ F a) (hb : ¬ Fb a) (ho : Own Z F H d a) (hn : ∀ j, ¬ OwnAt env σ j a) : Go Z F Fb H σ env (σ.set i (some (.ref a))) F H (env.set i (.own d)) := by
  by_cases hi : i < env.length
  · have hi' : i < σ.length := by rw [← h.len]; exact hi
    have at_ : ∀ j, (σ.set i (some (.ref a)))[j]? = if i = j then some (some (.ref a)) else σ[j]? := fun j => by
      by_cases e : i = j
      · subst e
        rw [List.getElem?_set_self hi', if_pos rfl]
      · rw [List.getElem?_set_ne e, if_neg e]
    have go : ∀ j b, i ≠ j → OwnAt (env.set i (.own d)) (σ.set i (some (.ref a))) j b → OwnAt env σ j b := fun j b e ⟨⟨d, hd⟩, hv⟩ => by
      rw [gt_set hi, if_neg e] at hd
      rw [at_, if_neg e] at hv
      exact ⟨⟨d, hd⟩, hv⟩
    refine ⟨(Ext.refl h.th).step h.thb, ⟨by simp [h.len], h.th, h.thb, fun j => ?_, fun j k b h1 h2 => ?_⟩, fun j d' g => ?_⟩
    · rw [gt_set hi, at_]
      by_cases e : i = j
      · rw [if_pos e, if_pos e]
        exact ⟨a, rfl, hf, hb, ho⟩
      · rw [if_neg e, if_neg e]
        exact h.sl j
    · by_cases e1 : i = j
      · by_cases e2 : i = k
        · omega
        · have q := h1.2
          rw [at_, if_pos e1] at q
          cases q
          exact absurd (go k _ e2 h2) (hn k)
      · by_cases e2 : i = k
        · have q := h2.2
          rw [at_, if_pos e2] at q
          cases q
          exact absurd (go j _ e1 h1) (hn j)
        · exact h.sep j k b (go j b e1 h1) (go k b e2 h2)
    · rw [gt_set hi] at g
      by_cases e : i = j
      · rw [if_pos e] at g
        cases g
      · rw [if_neg e] at g
        exact ⟨g, List.getElem?_set_ne e⟩
  · rw [set_none hi, set_none (by rw [← h.len]; exact hi)]
    exact h.self
/-- our own list changes -/
theorem Fr.put (h : Fr Z F Fb H σ env) {i : Nat} {a : Addr} {d : D} {ds : List D} {vs : List V} (g : gt env i = .own d) (hv : σ[i]? = some (some (.ref a))) (r : Reps Z F H ds vs) : Go Z F Fb H σ env σ F (upd H a (.lst vs)) (env.set i (.own (.lst ds))) := by
  have s := h.sl i
  rw [g] at s
  obtain ⟨a', ea, hf, hb, o⟩ := s
  rw [hv] at ea
  cases ea
  have hi : i < env.length := by
    rcases Nat.lt_or_ge i env.length with z | z
    · exact z
    · rw [gt_none (by omega)] at g
      cases g
  have ne : ∀ b, F b ∨ Fb b → b ≠ a := fun b f e => by
    subst e
    exact f.elim hf hb
  have th : ∀ b, H b ≠ none → upd H a (.lst vs) b ≠ none := fun b k => by
    by_cases e : b = a
    · rw [e, upd_same]
      exact fun z => by cases z
    · rw [upd_ne e]
      exact k
  have mo : ∀ b u, F b → H b = some u → upd H a (.lst vs) b = some u := fun b u f z => by
    rw [upd_ne (ne b (.inl f))]
    exact z
  have go : ∀ j b, OwnAt (env.set i (.own (.lst ds))) σ j b → OwnAt env σ j b := fun j b ⟨⟨d', hd⟩, hv'⟩ => by
    rw [gt_set hi] at hd
    by_cases e : i = j
    · subst e
      exact ⟨⟨d, g⟩, hv'⟩
    · rw [if_neg e] at hd
      exact ⟨⟨d', hd⟩, hv'⟩
  refine ⟨⟨fun b u f z => by rw [upd_ne (ne b f)]; exact z, fun _ f => f, fun _ f => .inl f, fun b f => th b (h.th b f)⟩, ⟨by simp [h.len], fun b f => th b (h.th b f), fun b f => th b (h.thb b f), fun j => ?_, fun j k b h1 h2 => h.sep j k b (go j b h1) (go k b h2)⟩, fun j d' gj => ?_⟩
  · rw [gt_set hi]
    by_cases e : i = j
    · subst e
      rw [if_pos rfl]
      exact ⟨a, hv, hf, hb, vs, upd_same, r.mono (fun _ f => f) mo⟩
    · rw [if_neg e]
      have q := h.sl j
      unfold SlotOk at q ⊢
      split
      · trivial
      · rename_i d hd
        rw [hd] at q
        obtain ⟨v, e1, r⟩ := q
        exact ⟨v, e1, r.mono (fun _ f => f) mo⟩
      · rename_i d hd
        rw [hd] at q
        obtain ⟨v, e1, r⟩ := q
        refine ⟨v, e1, ?_⟩
        cases d with
        | lst ds =>
          obtain ⟨b, us, e2, f, z, r⟩ := r
          refine ⟨b, us, e2, f, ?_, r.mono (fun _ f => f) mo⟩
          rw [upd_ne (ne b f)]
          exact z
        | _ => exact Rep.mono (fun _ f => f) mo _ _ r
      · rename_i d' hd
        rw [hd] at q
        obtain ⟨b, e1, n1, n2, r⟩ := q
        refine ⟨b, e1, n1, n2, ?_⟩
        cases d' with
        | lst ds =>
          obtain ⟨us, z, r⟩ := r
          refine ⟨us, ?_, r.mono (fun _ f => f) mo⟩
          rw [upd_ne (fun q => e (h.sep i j a ⟨⟨_, g⟩, hv⟩ ⟨⟨_, hd⟩, by rw [← q]; exact e1⟩))]
          exact z
        | _ => exact r.elim
  · rw [gt_set hi] at gj
    by_cases e : i = j
    · rw [if_pos e] at gj
      cases gj
    · rw [if_neg e] at gj
      exact ⟨gj, rfl⟩
theorem own_at {i : Nat} {xs : List D} (fr : Fr Z F Fb H σ env) (h : ownL (gt env i) = .ok xs) : gt env i = .own (.lst xs) ∧ ∃ a vs, σ[i]? = some (some (.ref a)) ∧ H a = some (.lst vs) ∧ Reps Z F H xs vs := by
  unfold ownL at h
  split at h
  · rename_i ys hd
    cases h
    have s := fr.sl i
    rw [hd] at s
    obtain ⟨a, e, _, _, vs, z, r⟩ := s
    exact ⟨hd, a, vs, e, z, r⟩
  · cases h
end
/-! #### assignments -/
theorem kd_ne {m : E} (h : kd m ≠ .lent) : kd m = if frs m then .fresh else .val := by
  cases m <;> first | rfl | exact absurd rfl h
theorem kd_t {m : E} (h : kd m ≠ .lent) (c : frs m = true) : kd m = .fresh := by
  rw [kd_ne h, if_pos c]
theorem kd_f {m : E} (h : kd m = .fresh) : frs m = true := by
  cases c : frs m with
  | true => rfl
  | false =>
    cases z : kd m with
    | lent => rw [h] at z; cases z
    | val => rw [h] at z; cases z
    | fresh =>
      have q := kd_ne (m := m) (by rw [h]; exact fun z => by cases z)
      rw [c, h] at q
      cases q
section
variable {X : Cx} {S : Sit} {m : E} {D : Ends} {σ : St} {H : Hp}
theorem fresh_at {Z : Wd} {F F1 Fb : Fz} {H H1 : Hp} {σ : St} {env : Env} {a : Addr} (fr : Fr Z F Fb H σ env) (hn : H a = none) : ¬ Fb a ∧ ∀ j, ¬ OwnAt env σ j a := by
  refine ⟨fun b => fr.thb a b hn, fun j ⟨⟨d, g⟩, e⟩ => ?_⟩
  have s := fr.sl j
  rw [g, e] at s
  obtain ⟨a', ea, _, _, o⟩ := s
  cases ea
  exact o.there hn
theorem asg_imp {i : Nat} (hk : kd m ≠ .lent) (q : tS S (.asg (.nm i) m) D σ H) : tAsg (tE S m) (gName i) D σ H := by
  obtain ⟨F, Fb, env, fr, q⟩ := q
  rw [evS] at q
  refine ⟨F, Fb, env, fr, (fin_out fr q).mono fun d k v F1 H1 e p => ?_⟩
  have k : Fin S F Fb H σ env D (.nx (env.set i (if frs m && isMut d then .own d else .frz d))) := k
  have fr1 := fr.ext e
  by_cases c : (frs m && isMut d) = true
  · rw [if_pos c] at k
    rw [Bool.and_eq_true] at c
    have e1 : kd m = .fresh := kd_t hk c.1
    rw [e1] at p
    unfold Post at p
    simp only [c.2, if_true] at p
    obtain ⟨a, rfl, hn, hf, o⟩ := p
    obtain ⟨hb, ho⟩ := fresh_at (F1 := F1) (H1 := H1) fr hn
    exact k _ F1 H1 ((fr.go e).trans (fr1.setOwn hf hb o ho))
  · rw [if_neg c] at k
    have r : Rep S.Z F1 H1 d v := by
      cases e1 : kd m with
      | lent => exact absurd e1 hk
      | val =>
        rw [e1] at p
        exact p
      | fresh =>
        rw [e1] at p
        unfold Post at p
        have c1 : frs m = true := kd_f e1
        rw [c1, Bool.true_and] at c
        rw [if_neg c] at p
        exact p
    exact k _ F1 H1 ((fr.go e).trans (fr1.setF_go r))
theorem s_asg {i : Nat} {x : Str} {e : PySem.Expr} {pos p : Pos} (hN : X.N.Nodup) (hi : X.N[i]? = some x) (hx : Loc X.env.scope x) (hf : X.fn x = true ∨ X.env.scope.names.lookup x = some .local) (he : PE X e (tE S m)) (hk : kd m ≠ .lent)
    (hs : swapsWith e (some (.Name x p)) pos.line X.env = pure false) : PS X (.Assign [.Name x p] e pos) (tS S (.asg (.nm i) m)) := PS.imp (ps_set hN hi hx he hs hf) fun _ _ _ q => asg_imp hk q
theorem s_asgT {e tg : PySem.Expr} {ts : List Tgt} {pos : Pos} (he : PE X e (tE S m)) (hk : kd m ≠ .lent) (hg : PG X tg (gT S (.tup ts))) (hs : swapsWithSole [tg] e pos.line X.env = pure false) (hw : swappedStores [tg] e X.env = pure none) (h1 : (assignEach [tg] X.env).map (·.2) = [assign tg X.env]) :
    PS X (.Assign [tg] e pos) (tS S (.asg (.tup ts) m)) := by
  refine PS.imp (ps_asg (frz_of he hk) hg hs hw h1) fun D σ H ⟨F, Fb, env, fr, q⟩ => ?_
  rw [evS] at q
  refine ⟨F, Fb, env, fr, (fin_out fr q).mono fun d k v F1 H1 e1 r => ?_⟩
  obtain ⟨env', eb, k⟩ := fin_only (f := Out.nx) k
  refine ⟨F1, Fb, env, d, env', fr.ext e1, r, eb, fun σ' fr' len keep => k σ' F1 H1 ⟨e1.step fr.thb, fr', fun i d' g => ?_⟩⟩
  obtain ⟨g, n⟩ := bindT_not _ _ _ _ i _ eb g ⟨(fun z => by cases z), (fun _ z => by cases z)⟩
  exact ⟨g, keep i n⟩
theorem s_par {i j : Nat} {x y : Str} {a b : PySem.Expr} {ma mb : E} {px py pt pos : Pos} {kt k2 pt2} (hc : X.calm = true) (hN : X.N.Nodup) (hi : X.N[i]? = some x) (hj : X.N[j]? = some y) (hij : i ≠ j)
    (hx : X.env.scope.names.lookup x = some .local) (hy : X.env.scope.names.lookup y = some .local) (ha : PA X [a, b] (tFs S [ma, mb]))
    (hw : swappedStores [.Tuple [.Name x px, .Name y py] kt pt] (.Tuple [a, b] k2 pt2) X.env = pure (some [x, y]))
    (hs : swapsWithSole [.Tuple [.Name x px, .Name y py] kt pt] (.Tuple [a, b] k2 pt2) pos.line X.env = pure false) :
    PS X (.Assign [.Tuple [.Name x px, .Name y py] kt pt] (.Tuple [a, b] k2 pt2) pos) (tS S (.par i j ma mb)) := by
  refine PS.imp (ps_par hc hN hi hj hij hx hy ha hw hs) fun D σ H ⟨F, Fb, env, fr, q⟩ => ?_
  rw [evS] at q
  refine ⟨F, Fb, env, fr, ?_⟩
  have q1 := fin_out fr q
  rw [evEs, ans_bind]
  refine q1.mono fun d1 k => ?_
  have q2 := fin_out fr k
  rw [ans_map, evEs, ans_bind]
  refine q2.mono fun d2 k => ?_
  rw [ans_map, evEs]
  show ∀ vs F' H', Ext F H F' H' → Reps S.Z F' H' [d1, d2] vs → _
  intro vs F1 H1 e1 r
  obtain ⟨v, us, rfl, r1, w, us2, rfl, r2, rfl⟩ := r
  refine ⟨v, w, rfl, k _ F1 H1 ((fr.go e1).trans (((fr.ext e1).setF_go r1).trans (((fr.ext e1).setF r1).setF_go r2)))⟩
/-! #### a list of our own -/
theorem s_setIt {i : Nat} {x : Str} {k e : PySem.Expr} {mk : E} {p1 p2 pos : Pos} (hN : X.N[i]? = some x) (hv : Vis X.env.scope x) (hd : (x == ("__debug__" : Str)) = false) (hc : (x == ("__classdict__" : Str)) = false) (hk : PE X k (tE S mk)) (he : PE X e (tE S m)) (hm : kd m ≠ .lent)
    (ha : ∀ v, assign (.Subscript (.Name x p1) k p2) X.env v = (do
      let ov ← holding [v] (eval (.Name x p1) X.env)
      let iv ← holding [v, ov] (eval k X.env)
      standAt p2
      holding [v, ov, iv] (setItem ov iv v)
      release [v, ov, iv] []))
    (hs : swapsWithSole [.Subscript (.Name x p1) k p2] e pos.line X.env = pure false) (hw : swappedStores [.Subscript (.Name x p1) k p2] e X.env = pure none) (h1 : (assignEach [.Subscript (.Name x p1) k p2] X.env).map (·.2) = [assign (.Subscript (.Name x p1) k p2) X.env]) :
    PS X (.Assign [.Subscript (.Name x p1) k p2] e pos) (tS S (.setIt i mk m)) := by
  refine PS.imp (ps_asg (frz_of he hm) (pg_sub (pe_var hN hv hd hc) (lent_of hk) set_list ha) hs hw h1) fun D σ H ⟨F, Fb, env, fr, q⟩ => ?_
  rw [evS] at q
  refine ⟨F, Fb, env, fr, (fin_out fr q).mono fun d k v F1 H1 e1 r => ?_⟩
  have fr1 := fr.ext e1
  obtain ⟨xs, hx, k⟩ := fin_only k
  obtain ⟨g, a, vs, ev, z, rs⟩ := own_at fr1 hx
  refine ⟨_, ev, F1, Fb, env, fr1, ((fin_out fr k).ext e1).mono fun kd k u F2 H2 e2 l => ?_⟩
  obtain ⟨kk, ek, k⟩ := fin_only k
  obtain ⟨ys, ey, k⟩ := fin_only k
  unfold intOf at ek
  split at ek
  · cases ek
    have l : u = .int kk := l
    subst l
    unfold setD at ey
    split at ey
    · rename_i j hj
      cases ey
      have rs2 := e2.reps rs
      rw [rs2.length] at hj
      refine ⟨a, vs, kk, j, rfl, rfl, e2.ob _ _ z, hj, k _ F2 _ ((fr.go (e1.trans e2)).trans ((fr1.ext e2).put g ev (rs2.set j (e2.rep r))))⟩
    · cases ey
  · cases ek
theorem lt_line {n : Nat} (h : n < 1000000) : n < sizeLine := Nat.lt_of_lt_of_le h (line_le (decide_eq_true (Nat.le_refl _)))
theorem s_app {i : Nat} {x : Str} {e : PySem.Expr} {p1 apos cpos pos : Pos} (hN : X.N[i]? = some x) (hv : Vis X.env.scope x) (hd : (x == ("__debug__" : Str)) = false) (hc : (x == ("__classdict__" : Str)) = false) (he : PE X e (tE S m)) (hm : kd m ≠ .lent) (hst : notStar e = true)
    (hbase : attributeBase (.Name x p1) "append" X.env (eval (.Name x p1) X.env) = eval (.Name x p1) X.env)
    (hfew : ((backTo cpos (starEach (e :: []) X.env)).all (fun x => !x.1) && (backToKw cpos (keywordEach [] X.env)).all (fun x => x.1.isSome)
      && decide ((e :: []).length + ([] : List Keyword).length + (if ([] : List Keyword).isEmpty then 0 else 1) < 30)) = true)
    (hline : (apos.endLine == cpos.line) = true) (hs : swapsWith (.Call (.Attribute (.Name x p1) "append" apos) [e] [] cpos) none pos.line X.env = pure false) :
    PS X (.Expr (.Call (.Attribute (.Name x p1) "append" apos) [e] [] cpos) pos) (tS S (.app i m)) := by
  refine PS.imp (ps_expr (pe_bm PySem.F.plainAttrs_list PySem.F.slot_list_append PySem.F.type_list_append mt_append (pe_var hN hv hd hc) (pa_cons (frz_of he hm) pa_nil (star_cons hst)) hbase hfew hline (star_cons hst) rfl) hs) fun D σ H ⟨F, Fb, env, fr, q⟩ => ?_
  rw [evS] at q
  obtain ⟨xs, hx, k⟩ := fin_only q
  obtain ⟨g, a, vs, ev, z, rs⟩ := own_at fr hx
  refine ⟨_, ev, .inl ⟨rfl, _, .of z⟩, F, Fb, env, fr, (fin_out fr k).mono fun d k v F1 H1 e1 r => ?_⟩
  have rs1 := e1.reps rs
  by_cases c : xs.length < 1000000
  · rw [if_pos (decide_eq_true c)] at k
    rw [rs.length] at c
    exact ⟨a, vs, v, rfl, rfl, e1.ob _ _ z, lt_line c, k _ F1 _ ((fr.go e1).trans ((fr.ext e1).put g ev (rs1.snoc r)))⟩
  · rw [if_neg (by simp [c])] at k
    exact k.elim
theorem s_ins {i : Nat} {x : Str} {kx e : PySem.Expr} {mk : E} {p1 apos cpos pos : Pos} (hN : X.N[i]? = some x) (hv : Vis X.env.scope x) (hd : (x == ("__debug__" : Str)) = false) (hc : (x == ("__classdict__" : Str)) = false) (hk : PE X kx (tE S mk)) (he : PE X e (tE S m)) (hm : kd m ≠ .lent) (hst : notStar kx = true) (hst2 : notStar e = true)
    (hbase : attributeBase (.Name x p1) "insert" X.env (eval (.Name x p1) X.env) = eval (.Name x p1) X.env)
    (hfew : ((backTo cpos (starEach (kx :: [e]) X.env)).all (fun x => !x.1) && (backToKw cpos (keywordEach [] X.env)).all (fun x => x.1.isSome)
      && decide ((kx :: [e]).length + ([] : List Keyword).length + (if ([] : List Keyword).isEmpty then 0 else 1) < 30)) = true)
    (hline : (apos.endLine == cpos.line) = true) (hs : swapsWith (.Call (.Attribute (.Name x p1) "insert" apos) [kx, e] [] cpos) none pos.line X.env = pure false) :
    PS X (.Expr (.Call (.Attribute (.Name x p1) "insert" apos) [kx, e] [] cpos) pos) (tS S (.ins i mk m)) := by
  refine PS.imp (ps_expr (pe_bm PySem.F.plainAttrs_list PySem.F.slot_list_insert PySem.F.type_list_insert mt_insert (pe_var hN hv hd hc) (pa_cons (lent_of hk) (pa_cons (frz_of he hm) pa_nil (star_cons hst2)) (star_cons hst)) hbase hfew hline (star_cons hst) (star_any (by rw [List.all_cons, hst2]; rfl))) hs) fun D σ H ⟨F, Fb, env, fr, q⟩ => ?_
  rw [evS] at q
  obtain ⟨xs, hx, k⟩ := fin_only q
  obtain ⟨g, a, vs, ev, z, rs⟩ := own_at fr hx
  refine ⟨_, ev, .inl ⟨rfl, _, .of z⟩, F, Fb, env, fr, (fin_out fr k).mono fun d1 k v1 F1 H1 e1 r1 => ?_⟩
  obtain ⟨kk, ek, k⟩ := fin_only k
  unfold intOf at ek
  split at ek
  · cases ek
    have r1 : v1 = .int kk := r1
    subst r1
    refine ⟨F1, Fb, env, fr.ext e1, ((fin_out fr k).ext e1).mono fun d k v F2 H2 e2 r => ?_⟩
    have rs1 := (e1.trans e2).reps rs
    by_cases c : xs.length < 1000000 ∧ 0 ≤ kk ∧ kk ≤ 1000000
    · rw [if_pos (decide_eq_true c)] at k
      have c1 := c.1
      rw [rs.length] at c1
      have e3 := e1.trans e2
      exact ⟨a, vs, kk, v, rfl, rfl, e3.ob _ _ z, lt_line c1, c.2.1, by omega, k _ F2 _ ((fr.go e3).trans ((fr.ext e3).put g ev (((rs1.take _).snoc r).append (rs1.drop _))))⟩
    · rw [if_neg (by simp [c])] at k
      exact k.elim
  · cases ek
theorem s_ext {i : Nat} {x : Str} {e : PySem.Expr} {p1 apos cpos pos : Pos} (hN : X.N[i]? = some x) (hv : Vis X.env.scope x) (hd : (x == ("__debug__" : Str)) = false) (hc : (x == ("__classdict__" : Str)) = false) (he : PE X e (tE S m)) (hst : notStar e = true)
    (hbase : attributeBase (.Name x p1) "extend" X.env (eval (.Name x p1) X.env) = eval (.Name x p1) X.env)
    (hfew : ((backTo cpos (starEach (e :: []) X.env)).all (fun x => !x.1) && (backToKw cpos (keywordEach [] X.env)).all (fun x => x.1.isSome)
      && decide ((e :: []).length + ([] : List Keyword).length + (if ([] : List Keyword).isEmpty then 0 else 1) < 30)) = true)
    (hline : (apos.endLine == cpos.line) = true) (hs : swapsWith (.Call (.Attribute (.Name x p1) "extend" apos) [e] [] cpos) none pos.line X.env = pure false) :
    PS X (.Expr (.Call (.Attribute (.Name x p1) "extend" apos) [e] [] cpos) pos) (tS S (.ext i m)) := by
  refine PS.imp (ps_expr (pe_bm PySem.F.plainAttrs_list PySem.F.slot_list_extend PySem.F.type_list_extend mt_extend (pe_var hN hv hd hc) (pa_cons (lent_of he) pa_nil (star_cons hst)) hbase hfew hline (star_cons hst) rfl) hs) fun D σ H ⟨F, Fb, env, fr, q⟩ => ?_
  rw [evS] at q
  obtain ⟨xs, hx, k⟩ := fin_only q
  obtain ⟨g, a, vs, ev, z, rs⟩ := own_at fr hx
  refine ⟨_, ev, .inl ⟨rfl, _, .of z⟩, F, Fb, env, fr, (fin_out fr k).mono fun d k v F1 H1 e1 r => ?_⟩
  have rs1 := e1.reps rs
  split at k
  · rename_i ys
    obtain ⟨b, us, rfl, hb, ru⟩ := r
    split at k
    · rename_i c
      rw [rs.length, ru.length] at c
      exact ⟨a, b, vs, us, rfl, rfl, e1.ob _ _ z, hb, line_le c, k _ F1 _ ((fr.go e1).trans ((fr.ext e1).put g ev (rs1.append ru)))⟩
    · exact k.elim
  · exact k.elim
/-! #### the small ones -/
theorem s_expr {e : PySem.Expr} {pos : Pos} (he : PE X e (tE S m)) (hs : swapsWith e none pos.line X.env = pure false) : PS X (.Expr e pos) (tS S (.expr m)) := by
  refine PS.imp (ps_expr (lent_of he) hs) fun D σ H ⟨F, Fb, env, fr, q⟩ => ?_
  rw [evS] at q
  exact ⟨F, Fb, env, fr, (fin_out fr q).mono fun d k v F1 H1 e1 _ => k _ F1 H1 (fr.go e1)⟩
theorem s_doc {x : Str} {j} {pos pos' : Pos} : PS X (.Expr (.Constant (.str x) j pos) pos') (tS S .pass) := PS.imp ps_doc fun D σ H ⟨F, Fb, env, fr, q⟩ => by
  rw [evS] at q
  exact q _ F H fr.self
theorem s_pass {pos : Pos} : PS X (.Pass pos) (tS S .pass) := PS.imp ps_pass fun D σ H ⟨F, Fb, env, fr, q⟩ => by
  rw [evS] at q
  exact q _ F H fr.self
theorem s_brk {pos : Pos} : PS X (.Break pos) (tS S .brk) := PS.imp ps_break fun D σ H ⟨F, Fb, env, fr, q⟩ => by
  rw [evS] at q
  exact q _ F H fr.self
theorem s_cnt {pos : Pos} : PS X (.Continue pos) (tS S .cnt) := PS.imp ps_continue fun D σ H ⟨F, Fb, env, fr, q⟩ => by
  rw [evS] at q
  exact q _ F H fr.self
theorem s_retN {pos : Pos} : PS X (.Return none pos) (tS S .retN) := PS.imp ps_retN fun D σ H ⟨F, Fb, env, fr, q⟩ => by
  rw [evS] at q
  exact q _ F H fr.self.st rfl
theorem s_ret {e : PySem.Expr} {pos : Pos} (he : PE X e (tE S m)) (hk : kd m ≠ .lent) : PS X (.Return (some e) pos) (tS S (.ret m)) := by
  refine PS.imp (ps_ret he) fun D σ H ⟨F, Fb, env, fr, q⟩ => ?_
  rw [evS] at q
  refine ⟨F, Fb, env, fr, (fin_out fr q).mono fun d k v F1 H1 e p => k v F1 H1 (e.step fr.thb) ?_⟩
  unfold RetOk
  by_cases c : (frs m && isMut d) = true
  · rw [if_pos c]
    rw [Bool.and_eq_true] at c
    have e1 : kd m = .fresh := kd_t hk c.1
    rw [e1] at p
    unfold Post at p
    simp only [c.2, if_true] at p
    obtain ⟨a, rfl, hn, hf, o⟩ := p
    exact ⟨a, rfl, hf, (fresh_at (F1 := F1) (H1 := H1) fr hn).1, o⟩
  · rw [if_neg c]
    cases e1 : kd m with
    | lent => exact absurd e1 hk
    | val =>
      rw [e1] at p
      exact p
    | fresh =>
      rw [e1] at p
      unfold Post at p
      have c1 : frs m = true := kd_f e1
      rw [c1, Bool.true_and] at c
      rw [if_neg c] at p
      exact p
theorem s_retv {i : Nat} {x : Str} {p pos : Pos} (hN : X.N[i]? = some x) (hv : Vis X.env.scope x) (hd : (x == ("__debug__" : Str)) = false) (hc : (x == ("__classdict__" : Str)) = false) : PS X (.Return (some (.Name x p)) pos) (tS S (.retv i)) := by
  refine PS.imp (ps_ret (pe_var hN hv hd hc)) fun D σ H ⟨F, Fb, env, fr, q⟩ => ?_
  rw [evS] at q
  have s := fr.sl i
  unfold SlotOk at s
  split at q
  · rename_i d hd
    rw [hd] at s
    obtain ⟨a, e, hf, hb, o⟩ := s
    refine ⟨_, e, q _ F H fr.self.st ?_⟩
    unfold RetOk
    cases d with
    | lst ds => exact ⟨a, rfl, hf, hb, o⟩
    | _ => exact o.elim
  · rename_i d hd
    rw [hd] at s
    obtain ⟨v, e, r⟩ := s
    exact ⟨_, e, q _ F H fr.self.st r⟩
  · exact q.elim
/-! #### blocks -/
theorem ss_nil : PSs X [] (tSs S []) := PSs.imp pss_nil fun D σ H ⟨F, Fb, env, fr, q⟩ => by
  rw [evSs] at q
  exact q _ F H fr.self
theorem ss_cons {st : PySem.Stmt} {sts : List PySem.Stmt} {ms : List Mi.S} {m : Mi.S} (h1 : PS X st (tS S m)) (h2 : PSs X sts (tSs S ms)) : PSs X (st :: sts) (tSs S (m :: ms)) := by
  refine PSs.imp (pss_cons h1 h2) fun D σ H ⟨F, Fb, env, fr, q⟩ => ⟨F, Fb, env, fr, ?_⟩
  rw [evSs] at q
  cases o : evS S.Γ m env with
  | nx e =>
    rw [o] at q
    exact fun σ' F' H' g => ⟨F', Fb, e, g.fr, Fin.go q g⟩
  | bk e =>
    rw [o] at q
    exact q
  | ct e =>
    rw [o] at q
    exact q
  | ret d own =>
    rw [o] at q
    exact q
  | exc x e =>
    rw [o] at q
    exact q
  | bad =>
    rw [o] at q
    exact q
theorem s_if {c : PySem.Expr} {a b : List PySem.Stmt} {mc : E} {ma mb : List Mi.S} {pos : Pos} (hc : PT X c (tT S mc)) (ha : PSs X a (tSs S ma)) (hb : PSs X b (tSs S mb)) : PS X (.If c a b pos) (tS S (.ife mc ma mb)) := by
  refine PS.imp (ps_if hc ha hb) fun D σ H ⟨F, Fb, env, fr, q⟩ => ⟨F, Fb, env, fr, ?_⟩
  rw [evS] at q
  refine (fin_out fr q).mono fun t k F1 H1 e => ?_
  cases t with
  | true => exact ⟨F1, Fb, env, fr.ext e, Fin.ext k fr e⟩
  | false => exact ⟨F1, Fb, env, fr.ext e, Fin.ext k fr e⟩
end
end Mi
namespace Mi
open PySem L2
/-! ### loops -/
theorem gt_onAllI {f : Nat → Slot → Slot} (hu : ∀ i, f i .un = .un) (hi : ∀ i s, f i (f i s) = f i s) : ∀ (l : List Nat) (env : Env) (j : Nat), gt (onAllI f l env) j = if j ∈ l then f j (gt env j) else gt env j
  | [], env, j => by simp [onAllI]
  | i :: r, env, j => by
    rw [onAllI, gt_onAllI hu hi r]
    by_cases hl : i < env.length
    · rw [gt_set hl]
      by_cases e : i = j
      · subst e
        simp [hi]
      · simp [e, Ne.symm e]
    · rw [set_none hl]
      by_cases e : i = j
      · subst e
        simp [gt_none hl, hu]
      · simp [Ne.symm e]
theorem onAllI_len {f : Nat → Slot → Slot} : ∀ (l : List Nat) (env : Env), (onAllI f l env).length = env.length
  | [], _ => rfl
  | i :: r, env => by rw [onAllI, onAllI_len r, List.length_set]
theorem gt_lock (l : List Nat) (env : Env) (j : Nat) : gt (onAll lock l env) j = if j ∈ l then lock (gt env j) else gt env j := gt_onAllI (f := fun _ => lock) (fun _ => rfl) (fun _ s => by cases s <;> rfl) l env j
theorem gt_freeze (l : List Nat) (env : Env) (j : Nat) : gt (onAll freeze l env) j = if j ∈ l then freeze (gt env j) else gt env j := gt_onAllI (f := fun _ => freeze) (fun _ => rfl) (fun _ s => by cases s <;> rfl) l env j
theorem gt_unlock (env0 : Env) (l : List Nat) (env : Env) (j : Nat) : gt (unlock env0 l env) j = if j ∈ l then un1 (gt env0 j) (gt env j) else gt env j := gt_onAllI (f := fun i => un1 (gt env0 i)) (fun i => by cases gt env0 i <;> rfl) (fun i s => by cases gt env0 i <;> cases s <;> rfl) l env j
section
variable {Z : Wd} {F F1 Fb : Fz} {H H1 : Hp} {σ σ1 : St} {env : Env}
/-- the lists of these names -/
def At (env : Env) (σ : St) (l : List Nat) : Fz := fun a => ∃ i, i ∈ l ∧ OwnAt env σ i a
def Fz.or (F G : Fz) : Fz := fun a => F a ∨ G a
theorem Fr.ownAt (fr : Fr Z F Fb H σ env) {i : Nat} {a : Addr} (h : OwnAt env σ i a) : ∃ ds vs, gt env i = .own (.lst ds) ∧ ¬ F a ∧ ¬ Fb a ∧ H a = some (.lst vs) ∧ Reps Z F H ds vs := by
  obtain ⟨⟨d, g⟩, e⟩ := h
  have s := fr.sl i
  rw [g, e] at s
  obtain ⟨a', ea, n1, n2, o⟩ := s
  cases ea
  cases d with
  | lst ds =>
    obtain ⟨vs, z, r⟩ := o
    exact ⟨ds, vs, g, n1, n2, z, r⟩
  | _ => exact o.elim
theorem Fr.own_val (fr : Fr Z F Fb H σ env) {i : Nat} {d : D} (g : gt env i = .own d) : ∃ a, OwnAt env σ i a := by
  have s := fr.sl i
  rw [g] at s
  obtain ⟨a, e, _⟩ := s
  exact ⟨a, ⟨d, g⟩, e⟩
theorem Fr.frz_go (fr : Fr Z F Fb H σ env) (l : List Nat) : Go Z F Fb H σ env σ (F.or (At env σ l)) H (onAll freeze l env) := by
  have ne : ∀ a, At env σ l a → H a ≠ none := fun a ⟨i, _, h⟩ => by
    obtain ⟨_, _, _, _, _, z, _⟩ := fr.ownAt h
    exact some_ne z
  have back : ∀ j a, OwnAt (onAll freeze l env) σ j a → OwnAt env σ j a ∧ j ∉ l := fun j a ⟨⟨d, g⟩, e⟩ => by
    rw [gt_freeze] at g
    by_cases hj : j ∈ l
    · rw [if_pos hj] at g
      cases q : gt env j <;> rw [q] at g <;> cases g
    · rw [if_neg hj] at g
      exact ⟨⟨⟨d, g⟩, e⟩, hj⟩
  refine ⟨⟨fun _ _ _ z => z, fun _ f => .inl f, fun a f => f.imp id fun ⟨i, _, h⟩ => by
    obtain ⟨_, _, _, _, nb, _⟩ := fr.ownAt h
    exact nb, fun a f => f.elim (fr.th a) (ne a)⟩, ⟨by rw [← fr.len]; exact onAllI_len _ _, fun a f => f.elim (fr.th a) (ne a), fr.thb, fun j => ?_, fun i j a h1 h2 => fr.sep i j a (back i a h1).1 (back j a h2).1⟩, fun j d g => ?_⟩
  · rw [gt_freeze]
    have s := fr.sl j
    have up : ∀ d v, Rep Z F H d v → Rep Z (F.or (At env σ l)) H d v := fun d v r => Rep.mono (fun _ f => .inl f) (fun _ _ _ z => z) d v r
    cases g : gt env j with
    | un => split <;> trivial
    | frz d =>
      rw [g] at s
      obtain ⟨v, e, r⟩ := s
      have : SlotOk Z (F.or (At env σ l)) Fb H (.frz d) σ[j]? := ⟨v, e, up _ _ r⟩
      split <;> exact this
    | bor d =>
      rw [g] at s
      obtain ⟨v, e, r⟩ := s
      have : SlotOk Z (F.or (At env σ l)) Fb H (.bor d) σ[j]? := by
        refine ⟨v, e, ?_⟩
        cases d with
        | lst ds =>
          obtain ⟨a, vs, e2, f, z, r⟩ := r
          exact ⟨a, vs, e2, f.imp .inl id, z, r.mono (fun _ f => .inl f) fun _ _ _ z => z⟩
        | _ => exact up _ _ r
      split <;> exact this
    | own d =>
      obtain ⟨a, oa⟩ := fr.own_val g
      obtain ⟨ds, vs, g2, n1, n2, z, r⟩ := fr.ownAt oa
      rw [g] at g2
      cases g2
      by_cases hj : j ∈ l
      · rw [if_pos hj]
        exact ⟨_, oa.2, a, vs, rfl, .inr ⟨j, hj, oa⟩, z, r.mono (fun _ f => .inl f) fun _ _ _ z => z⟩
      · rw [if_neg hj]
        refine ⟨a, oa.2, fun f => f.elim n1 fun ⟨i, hi, h⟩ => ?_, n2, vs, z, r.mono (fun _ f => .inl f) fun _ _ _ z => z⟩
        have := fr.sep i j a h oa
        subst this
        exact hj hi
  · rw [gt_freeze] at g
    refine ⟨?_, rfl⟩
    by_cases hj : j ∈ l
    · rw [if_pos hj] at g
      cases q : gt env j <;> rw [q] at g <;> cases g
      rfl
    · rw [if_neg hj] at g
      exact g
theorem Fr.lock (fr : Fr Z F Fb H σ env) (l : List Nat) : Fr Z F (Fb.or (At env σ l)) H σ (onAll Mi.lock l env) := by
  have ne : ∀ a, At env σ l a → H a ≠ none := fun a ⟨i, _, h⟩ => by
    obtain ⟨_, _, _, _, _, z, _⟩ := fr.ownAt h
    exact some_ne z
  have back : ∀ j a, OwnAt (onAll Mi.lock l env) σ j a → OwnAt env σ j a ∧ j ∉ l := fun j a ⟨⟨d, g⟩, e⟩ => by
    rw [gt_lock] at g
    by_cases hj : j ∈ l
    · rw [if_pos hj] at g
      cases q : gt env j <;> rw [q] at g <;> cases g
    · rw [if_neg hj] at g
      exact ⟨⟨⟨d, g⟩, e⟩, hj⟩
  refine ⟨by rw [← fr.len]; exact onAllI_len _ _, fr.th, fun a f => f.elim (fr.thb a) (ne a), fun j => ?_, fun i j a h1 h2 => fr.sep i j a (back i a h1).1 (back j a h2).1⟩
  rw [gt_lock]
  have s := fr.sl j
  cases g : gt env j with
  | un => split <;> trivial
  | frz d =>
    rw [g] at s
    split <;> exact s
  | bor d =>
    rw [g] at s
    obtain ⟨v, e, r⟩ := s
    have : SlotOk Z F (Fb.or (At env σ l)) H (.bor d) σ[j]? := by
      refine ⟨v, e, ?_⟩
      cases d with
      | lst ds =>
        obtain ⟨a, vs, e2, f, z, r⟩ := r
        exact ⟨a, vs, e2, f.imp id .inl, z, r⟩
      | _ => exact r
    split <;> exact this
  | own d =>
    obtain ⟨a, oa⟩ := fr.own_val g
    obtain ⟨ds, vs, g2, n1, n2, z, r⟩ := fr.ownAt oa
    rw [g] at g2
    cases g2
    by_cases hj : j ∈ l
    · rw [if_pos hj]
      exact ⟨_, oa.2, a, vs, rfl, .inr (.inr ⟨j, hj, oa⟩), z, r⟩
    · rw [if_neg hj]
      refine ⟨a, oa.2, n1, fun f => f.elim n2 fun ⟨i, hi, h⟩ => ?_, vs, z, r⟩
      have := fr.sep i j a h oa
      subst this
      exact hj hi
theorem Fr.unlock_go (fr : Fr Z F Fb H σ env) (l : List Nat) {e' : Env} (g : Go Z F (Fb.or (At env σ l)) H σ (onAll Mi.lock l env) σ1 F1 H1 e') : Go Z F Fb H σ env σ1 F1 H1 (unlock env l e') := by
  have kb : ∀ j d, gt e' j = .bor d → (gt env j = .bor d ∨ (gt env j = .own d ∧ j ∈ l)) ∧ σ1[j]? = σ[j]? := fun j d q => by
    obtain ⟨h, e⟩ := g.bk j d q
    refine ⟨?_, e⟩
    rw [gt_lock] at h
    by_cases hj : j ∈ l
    · rw [if_pos hj] at h
      cases z : gt env j <;> rw [z] at h <;> cases h
      · exact .inr ⟨rfl, hj⟩
      · exact .inl rfl
    · rw [if_neg hj] at h
      exact .inl h
  -- what a slot holds behind
  have cs : ∀ j, (∃ d, gt (unlock env l e') j = .own d ∧ gt env j = .own d ∧ j ∈ l ∧ gt e' j = .bor d) ∨ (gt (unlock env l e') j = gt e' j ∧ ∀ d, gt e' j = .bor d → gt env j = .bor d) := fun j => by
    rw [gt_unlock]
    by_cases hj : j ∈ l
    · rw [if_pos hj]
      cases q : gt e' j with
      | bor d =>
        rcases (kb j d q).1 with z | ⟨z, _⟩
        · rw [z]
          exact .inr ⟨rfl, fun d h => by cases h; rfl⟩
        · rw [z]
          exact .inl ⟨d, rfl, rfl, hj, rfl⟩
      | un => exact .inr ⟨by cases gt env j <;> rfl, fun d h => by cases h⟩
      | own d => exact .inr ⟨by cases gt env j <;> rfl, fun d h => by cases h⟩
      | frz d => exact .inr ⟨by cases gt env j <;> rfl, fun d h => by cases h⟩
    · rw [if_neg hj]
      exact .inr ⟨rfl, fun d h => (kb j d h).1.elim id fun z => absurd z.2 hj⟩
  have got : ∀ j a, OwnAt (unlock env l e') σ1 j a → (OwnAt e' σ1 j a ∧ ¬ (At env σ l) a) ∨ (OwnAt env σ j a ∧ (At env σ l) a) := fun j a ⟨⟨d, h⟩, e⟩ => by
    rcases cs j with ⟨d', h1, h2, h3, h4⟩ | ⟨h1, _⟩
    · rw [(kb j d' h4).2] at e
      have oa : OwnAt env σ j a := ⟨⟨d', h2⟩, e⟩
      exact .inr ⟨oa, j, h3, oa⟩
    · rw [h1] at h
      have oa : OwnAt e' σ1 j a := ⟨⟨d, h⟩, e⟩
      obtain ⟨_, _, _, _, nb, _⟩ := g.fr.ownAt oa
      exact .inl ⟨oa, fun z => nb (.inr z)⟩
  refine ⟨⟨fun a o f z => g.st.ob a o (f.imp id .inl) z, g.st.fz, fun a f => (g.st.nw a f).imp id fun z b => z (.inl b), g.st.th⟩, ⟨?_, g.fr.th, fun a f => g.fr.thb a (.inl f), fun j => ?_, fun i j a h1 h2 => ?_⟩, fun j d q => ?_⟩
  · rw [← g.fr.len]
    exact onAllI_len _ _
  · have s := g.fr.sl j
    rcases cs j with ⟨d, h1, h2, h3, h4⟩ | ⟨h1, h2⟩
    · rw [h1]
      rw [h4] at s
      obtain ⟨a, oa⟩ := fr.own_val h2
      obtain ⟨ds, vs, g2, n1, n2, z, r⟩ := fr.ownAt oa
      rw [h2] at g2
      cases g2
      obtain ⟨v, e, a', us, e2, f, z', r'⟩ := s
      rw [(kb j _ h4).2, oa.2, e2] at e
      cases e
      exact ⟨a, by rw [(kb j _ h4).2]; exact oa.2, fun f => (g.st.nw a f).elim n1 fun k => k (.inr ⟨j, h3, oa⟩), n2, us, z', r'⟩
    · rw [h1]
      cases q : gt e' j with
      | un => trivial
      | frz d =>
        rw [q] at s
        exact s
      | own d =>
        rw [q] at s
        obtain ⟨a, e, n1, n2, o⟩ := s
        exact ⟨a, e, n1, fun b => n2 (.inl b), o⟩
      | bor d =>
        rw [q] at s
        obtain ⟨v, e, r⟩ := s
        refine ⟨v, e, ?_⟩
        cases d with
        | lst ds =>
          obtain ⟨a, vs, e2, f, z, r⟩ := r
          have s0 := fr.sl j
          rw [h2 _ q, ← (kb j _ q).2, e] at s0
          obtain ⟨v', e3, a', us, e4, f', _⟩ := s0
          cases e3
          rw [e2] at e4
          cases e4
          exact ⟨a, vs, e2, f'.imp (g.st.fz a) id, z, r⟩
        | _ => exact r
  · rcases got i a h1 with ⟨o1, n1⟩ | ⟨o1, n1⟩
    · rcases got j a h2 with ⟨o2, n2⟩ | ⟨o2, n2⟩
      · exact g.fr.sep i j a o1 o2
      · exact absurd n2 n1
    · rcases got j a h2 with ⟨o2, n2⟩ | ⟨o2, n2⟩
      · exact absurd n1 n2
      · exact fr.sep i j a o1 o2
  · rcases cs j with ⟨d', h1, _⟩ | ⟨h1, h2⟩
    · rw [h1] at q
      cases q
    · rw [h1] at q
      exact ⟨h2 d q, (kb j d q).2⟩
end
theorem gt_mask : ∀ (e0 e : Env) (j : Nat), gt (mask e0 e) j = gt e j ∨ gt (mask e0 e) j = .un
  | [], e, j => .inl (by cases e <;> rfl)
  | _ :: _, [], j => .inl (by simp [mask])
  | s0 :: r0, s :: r, 0 => by
    cases s0
    · exact .inr rfl
    all_goals exact .inl rfl
  | s0 :: r0, s :: r, j + 1 => by
    have h := gt_mask r0 r j
    have e1 : gt (mask (s0 :: r0) (s :: r)) (j + 1) = gt (mask r0 r) j := by
      cases s0 <;> simp [mask, gt]
    have e2 : gt (s :: r) (j + 1) = gt r j := by
      unfold gt
      simp
    rw [e1, e2]
    exact h
theorem mask_len : ∀ (e0 e : Env), (mask e0 e).length = e.length
  | [], e => by cases e <;> rfl
  | _ :: _, [] => by simp [mask]
  | s0 :: r0, s :: r => by
    have := mask_len r0 r
    cases s0 <;> simp [mask, this]
section
variable {Z : Wd} {F F1 Fb : Fz} {H H1 : Hp} {σ σ1 : St} {env e' : Env}
theorem Go.mask (g : Go Z F Fb H σ env σ1 F1 H1 e') (e0 : Env) : Go Z F Fb H σ env σ1 F1 H1 (mask e0 e') := by
  have back : ∀ j a, OwnAt (Mi.mask e0 e') σ1 j a → OwnAt e' σ1 j a := fun j a ⟨⟨d, q⟩, e⟩ => by
    rcases gt_mask e0 e' j with h | h
    · rw [h] at q
      exact ⟨⟨d, q⟩, e⟩
    · rw [h] at q
      cases q
  refine ⟨g.st, ⟨by rw [mask_len]; exact g.fr.len, g.fr.th, g.fr.thb, fun j => ?_, fun i j a h1 h2 => g.fr.sep i j a (back i a h1) (back j a h2)⟩, fun j d q => ?_⟩
  · rcases gt_mask e0 e' j with h | h
    · rw [h]
      exact g.fr.sl j
    · rw [h]
      trivial
  · rcases gt_mask e0 e' j with h | h
    · rw [h] at q
      exact g.bk j d q
    · rw [h] at q
      cases q
end
section
variable {X : Cx} {S : Sit} {D : Ends} {σ : St} {H : Hp}
theorem s_wf {st : PySem.Stmt} {m : Mi.S} {l : List Nat} (h : PS X st (tS S m)) : PS X st (tS S (.wf l m)) := PS.imp h fun D σ H ⟨F, Fb, env, fr, q⟩ => by
  rw [evS] at q
  exact ⟨_, Fb, _, (fr.frz_go l).fr, Fin.go q (fr.frz_go l)⟩
theorem s_while {c : PySem.Expr} {body : List PySem.Stmt} {mc : E} {mb : List Mi.S} {pos : Pos} (hp : PassesOwn (model X.prog X.w) X.A X.env X.xe) (hc : PT X c (tT S mc)) (hb : PSs X body (tSs S mb)) : PS X (.While c body [] pos) (tS S (.whl mc mb)) := by
  refine PS.imp (ps_while hp hc hb) fun D σ H ⟨F, Fb, env, fr, q⟩ => ?_
  rw [evS] at q
  refine ⟨fun n σ1 H1 => ∃ F1 e1, Go S.Z F Fb H σ env σ1 F1 H1 e1 ∧ Fin S F Fb H σ env D (evWhl (fun e => (evE S.Γ mc e).bind truth) (evSs S.Γ mb) env n e1), ⟨fuel, F, env, fr.self, q⟩, ?_⟩
  rintro n σ1 H1 ⟨F1, e1, g, q⟩
  cases n with
  | zero =>
    rw [evWhl] at q
    exact q.elim
  | succ n =>
    rw [evWhl] at q
    refine ⟨F1, Fb, e1, g.fr, ?_⟩
    have fin : ∀ o, (∀ e2, o = Out.nx e2 ∨ o = Out.ct e2 → Fin S F Fb H σ env D (evWhl (fun e => (evE S.Γ mc e).bind truth) (evSs S.Γ mb) env n (mask env e2))) → (∀ e2, o = Out.bk e2 → Fin S F Fb H σ env D (.nx (mask env e2))) → ((∀ e2, o ≠ Out.nx e2 ∧ o ≠ Out.ct e2 ∧ o ≠ Out.bk e2) → Fin S F Fb H σ env D o) →
        Fin S F Fb H σ env { D with nx := fun σ' H' => ∃ m', m' < n + 1 ∧ ∃ F1 e1, Go S.Z F Fb H σ env σ' F1 H' e1 ∧ Fin S F Fb H σ env D (evWhl (fun e => (evE S.Γ mc e).bind truth) (evSs S.Γ mb) env m' e1), ct := fun σ' H' => ∃ m', m' < n + 1 ∧ ∃ F1 e1, Go S.Z F Fb H σ env σ' F1 H' e1 ∧ Fin S F Fb H σ env D (evWhl (fun e => (evE S.Γ mc e).bind truth) (evSs S.Γ mb) env m' e1), bk := D.nx } o := by
      intro o h1 h2 h3
      cases o with
      | nx e2 => exact fun σ' F' H' k => ⟨n, Nat.lt_succ_self n, F', _, k.mask env, h1 e2 (.inl rfl)⟩
      | ct e2 => exact fun σ' F' H' k => ⟨n, Nat.lt_succ_self n, F', _, k.mask env, h1 e2 (.inr rfl)⟩
      | bk e2 => exact fun σ' F' H' k => h2 e2 rfl σ' F' H' (k.mask env)
      | ret d own => exact h3 fun _ => ⟨(fun z => by cases z), (fun z => by cases z), (fun z => by cases z)⟩
      | exc x e => exact h3 fun _ => ⟨(fun z => by cases z), (fun z => by cases z), (fun z => by cases z)⟩
      | bad => exact h3 fun _ => ⟨(fun z => by cases z), (fun z => by cases z), (fun z => by cases z)⟩
    cases hc : (evE S.Γ mc e1).bind truth with
    | bad =>
      rw [hc] at q
      exact q.elim
    | exc x =>
      rw [hc] at q
      exact fun cls dd F' H' k r => q cls dd σ1 F' H' (g.trans (g.fr.go k)) r
    | ok b =>
      rw [hc] at q
      have q : Fin S F Fb H σ env D (if b = true then _ else _) := q
      intro F2 H2 x2
      have g2 := g.trans (g.fr.go x2)
      cases b with
      | false => exact q _ F2 H2 g2
      | true =>
        rw [if_pos rfl] at q
        refine ⟨_, fun σ' H' h => h, F2, Fb, e1, g2.fr, Fin.go ?_ g2⟩
        refine fin _ (fun e2 h => ?_) (fun e2 h => ?_) (fun h => ?_)
        · rcases h with h | h <;> (rw [h] at q; exact q)
        · rw [h] at q
          exact q
        · cases ho : evSs S.Γ mb e1 with
          | nx e2 => exact absurd ho (h e2).1
          | ct e2 => exact absurd ho (h e2).2.1
          | bk e2 => exact absurd ho (h e2).2.2
          | ret d own =>
            rw [ho] at q
            exact q
          | exc x e =>
            rw [ho] at q
            exact q
          | bad =>
            rw [ho] at q
            exact q
theorem fin_unlock {F Fb : Fz} {env : Env} {o : Out} (l : List Nat) (fr : Fr S.Z F Fb H σ env) (q : Fin S F Fb H σ env D (o.onEnv (unlock env l))) : Fin S F (Fb.or (At env σ l)) H σ (onAll lock l env) D o := by
  cases o with
  | nx e => exact fun σ' F' H' k => q σ' F' H' (fr.unlock_go l k)
  | bk e => exact fun σ' F' H' k => q σ' F' H' (fr.unlock_go l k)
  | ct e => exact fun σ' F' H' k => q σ' F' H' (fr.unlock_go l k)
  | exc x e => exact fun cls dd σ' F' H' k r => q cls dd σ' F' H' (fr.unlock_go l k) r
  | ret d own =>
    refine fun v F' H' k r => q v F' H' ⟨fun a o f z => k.ob a o (f.imp id .inl) z, k.fz, fun a f => (k.nw a f).imp id fun z b => z (.inl b), k.th⟩ ?_
    unfold RetOk at r ⊢
    split
    · rename_i c
      rw [if_pos c] at r
      obtain ⟨a, e, n1, n2, o⟩ := r
      exact ⟨a, e, n1, fun b => n2 (.inl b), o⟩
    · rename_i c
      rw [if_neg c] at r
      exact r
  | bad => exact q
theorem s_for {tg iter : PySem.Expr} {body : List PySem.Stmt} {t : Tgt} {mi : E} {mb : List Mi.S} {pos : Pos} (hp : PassesOwn (model X.prog X.w) X.A X.env X.xe) (hc : X.calm = true) (hi : PI X tg iter (tI S mi)) (hg : PG X tg (gT S t)) (hb : PSs X body (tSs S mb))
    (hs : ∀ x, foldedSetIterable iter X.env x = pure x) : PS X (.For tg iter body [] pos) (tS S (.fr t mi mb)) := by
  refine PS.imp (ps_for hp hc hi hg hb hs) fun D σ H ⟨F, Fb, env, fr, q⟩ => ?_
  rw [evS] at q
  refine ⟨F, Fb, env, fr, (fin_out fr q).mono fun ds k J F1 H1 L e hL yl => ?_⟩
  have fr1 := fr.ext e
  have k1 := fin_unlock (pks mi) fr1 (Fin.ext k fr e)
  have fr2 := fr1.lock (pks mi)
  generalize hFb : Fb.or (At env σ (pks mi)) = Fb2 at k1 fr2
  generalize hev : onAll lock (pks mi) env = env2 at k1 fr2
  have hL2 : ∀ a, L a → F1 a ∨ Fb2 a := fun a l => by
    rw [← hFb]
    exact (hL a l).1.elim .inl fun z => .inr (z.elim .inl fun ⟨i, hi, o⟩ => .inr ⟨i, hi, o⟩)
  refine ⟨fun i n σ' H' => n + i = ds.length ∧ ∃ F' e', Go S.Z F1 Fb2 H1 σ env2 σ' F' H' e' ∧ Fin S F1 Fb2 H1 σ env2 D (evFor (evSs S.Γ mb) (bindT t) env (ds.drop i) e'), ⟨ds.length, rfl, F1, env2, fr2.self, k1⟩, ?_⟩
  rintro i n σ' H' ⟨hn, F', e', g, q⟩
  have y := yl F' H' g.st.fz (fun a o f z => g.st.ob a o (f.elim .inl (hL2 a)) z) g.st.th
  by_cases hi : i < ds.length
  · obtain ⟨go, yd⟩ := y.1 i ds[i] (List.getElem?_eq_getElem hi)
    rw [drop_at hi, evFor] at q
    obtain ⟨e1, eb, q⟩ := fin_only q
    refine .inr ⟨go, fun σ' H' => ∃ m', m' < n ∧ (m' + (i + 1) = ds.length ∧ ∃ F' e', Go S.Z F1 Fb2 H1 σ env2 σ' F' H' e' ∧ Fin S F1 Fb2 H1 σ env2 D (evFor (evSs S.Γ mb) (bindT t) env (ds.drop (i + 1)) e')), fun _ _ h => h, fun x H3 yx => ?_⟩
    obtain ⟨F3, e3, r3⟩ := yd x H3 yx
    have g3 := g.trans (g.fr.go e3)
    refine ⟨F3, Fb2, e', ds[i], e1, g3.fr, r3, eb, fun σ4 fr4 len keep => ⟨F3, Fb2, e1, fr4, ?_⟩⟩
    have g4 : Go S.Z F1 Fb2 H1 σ env2 σ4 F3 H3 e1 := g3.trans ⟨(Ext.refl g3.fr.th).step g3.fr.thb, fr4, fun j d z => by
      obtain ⟨z, nz⟩ := bindT_not _ _ _ _ j _ eb z ⟨(fun z => by cases z), (fun _ z => by cases z)⟩
      exact ⟨z, keep j nz⟩⟩
    refine Fin.go ?_ g4
    cases ho : evSs S.Γ mb e1 with
    | nx e2 =>
      rw [ho] at q
      exact fun σ' F' H' k => ⟨n - 1, by omega, by omega, F', _, k.mask env, q⟩
    | ct e2 =>
      rw [ho] at q
      exact fun σ' F' H' k => ⟨n - 1, by omega, by omega, F', _, k.mask env, q⟩
    | bk e2 =>
      rw [ho] at q
      exact fun σ' F' H' k => q σ' F' H' (k.mask env)
    | ret d own =>
      rw [ho] at q
      exact q
    | exc x e =>
      rw [ho] at q
      exact q
    | bad =>
      rw [ho] at q
      exact q
  · have : i = ds.length := by omega
    subst this
    refine .inl ⟨y.2, ?_⟩
    rw [List.drop_of_length_le (Nat.le_refl _), evFor] at q
    exact q σ' F' H' g
end
end Mi
namespace Mi
open PySem L2
/-! ### defs -/
theorem argsOk_slot {Z : Wd} {F : Fz} {H : Hp} {s : Slot} {v : V} {Fb : Fz} (h : ArgOk Z F H s v) (hb : ∀ a, H a ≠ none → F a ∨ Fb a) : SlotOk Z F Fb H s (some (some v)) := by
  cases s with
  | un => exact h.elim
  | own d => exact h.elim
  | frz d => exact ⟨v, rfl, h⟩
  | bor d =>
    refine ⟨v, rfl, ?_⟩
    cases d with
    | lst ds =>
      obtain ⟨a, vs, e, z, r⟩ := h
      exact ⟨a, vs, e, hb a (some_ne z), z, r⟩
    | _ => exact h
theorem argsOk_get {Z : Wd} {F : Fz} {H : Hp} : ∀ {as : List Slot} {vs : List V}, ArgsOk Z F H as vs → ∀ (i : Nat) (s : Slot), as[i]? = some s → ∃ v, vs[i]? = some v ∧ ArgOk Z F H s v
  | [], _, _, i, s, h => by simp at h
  | a :: as, _, ⟨v, r, e, h1, h2⟩, 0, s, h => by
    subst e
    cases h
    exact ⟨v, rfl, h1⟩
  | a :: as, _, ⟨v, r, e, h1, h2⟩, i + 1, s, h => by
    subst e
    exact argsOk_get h2 i s (by simpa using h)
/-- the frame at the entry -/
theorem fr_start {Z : Wd} {F : Fz} {H : Hp} {as : List Slot} {vs : List V} {N : List Str} (hF : ∀ a, F a → H a ≠ none) (h : ArgsOk Z F H as vs) : Fr Z F (fun a => H a ≠ none ∧ ¬ F a) H (L2.start N vs) (as ++ List.replicate (N.length - as.length) .un) := by
  have hl := h.length
  have gs : ∀ i, gt (as ++ List.replicate (N.length - as.length) .un) i = (as[i]?).getD .un := fun i => by
    unfold gt
    rw [List.getD_eq_getElem?_getD, List.getElem?_append]
    split
    · rfl
    · rename_i hi
      rw [List.getElem?_replicate]
      rw [List.getElem?_eq_none (by omega)]
      split <;> rfl
  have no : ∀ i d, gt (as ++ List.replicate (N.length - as.length) .un) i ≠ .own d := fun i d q => by
    rw [gs] at q
    cases e : as[i]? with
    | none =>
      rw [e] at q
      cases q
    | some s =>
      rw [e] at q
      obtain ⟨v, _, k⟩ := argsOk_get h i s e
      cases q
      exact k
  refine ⟨?_, hF, fun a f => f.1, fun i => ?_, fun i j a h1 _ => ?_⟩
  · unfold L2.start
    simp [hl]
  · rw [gs]
    cases e : as[i]? with
    | none => trivial
    | some s =>
      obtain ⟨v, e1, k⟩ := argsOk_get h i s e
      have : (L2.start N vs)[i]? = some (some v) := by
        unfold L2.start
        have hi : i < vs.length := (List.getElem?_eq_some_iff.mp e1).1
        rw [List.getElem?_append_left (by simpa using hi), List.getElem?_map, e1]
        rfl
      rw [this]
      exact argsOk_slot k fun a z => (Classical.em (F a)).imp id fun f => ⟨z, f⟩
  · obtain ⟨d, g⟩ := h1.1
    exact absurd g (no i d)
/-- what a context of a def's body knows -/
structure BodyCx (P : Program) (w : World) (K : PySem.W.Frag) (mg : Str → Option Value) (base : Heap) (N : List Str) (sc : Scope) (k : Nat) (W : WX) (X : Cx) : Prop where
  prog : X.prog = P
  w : X.w = w
  K : X.K = K
  mg : X.mg = mg
  base : X.base = base
  N : X.N = N
  sc : X.env.scope = sc
  calm : X.calm = true
  fn : X.fn = fun _ => true
  tk : Takes X W
  ow : PassesOwn (model X.prog X.w) X.A X.env X.xe
  room : Room k X.A
section
variable {P : Program} {w : World} {K : PySem.W.Frag} {mg : Str → Option Value} {base : Heap}
theorem fn_ok {x qual : Str} {st : PySem.Stmt} {f : Addr} {fd : FuncData} {N ps : List Str} {k : Nat} {b : Body} {Z : Wd} {Γ : Glob} (F : Fun K x qual st f fd) (sc : FnScope N ps (defScope st)) (hn : b.n = N.length)
    (body : ∀ (W : WX) (X : Cx), BodyCx P w K mg base N (defScope st) k W X → PSs X (defBody st) (tSs ⟨Z, Γ, W⟩ b.code)) :
    FnOk P w K mg base (L2.CX P w) (k + 1) f fd ps (spF Z b.fresh ps.length (runB Γ b)) := by
  refine F.okX sc (fun vs H Q E h => h.1) fun cdv A outer s H vs Q E hr h => ?_
  refine ⟨_, body (fun cls d _ H => E cls d H) _ ⟨rfl, rfl, rfl, rfl, rfl, rfl, rfl, rfl, rfl, L2.takes_of rfl rfl rfl rfl, L2.passes_of rfl, hr⟩, ?_⟩
  obtain ⟨hl, F, as, hF, ha, h⟩ := h
  refine ⟨F, _, _, fr_start (N := N) hF ha, ?_⟩
  unfold runB at h
  rw [hn] at h
  -- all that stood stays
  have ext : ∀ F' H', Step F (fun a => H a ≠ none ∧ ¬ F a) H F' H' → Ext F H F' H' := fun F' H' g =>
    ⟨fun a o z => g.ob a o ((Classical.em (F a)).imp id fun f => ⟨some_ne z, f⟩) z, g.fz, fun a f => (g.nw a f).elim .inl fun n => (Classical.em (F a)).imp id fun nf => Classical.byContradiction fun z => n ⟨z, nf⟩, g.th⟩
  generalize evSs Γ b.code (as ++ List.replicate (N.length - as.length) .un) = o at h
  cases o with
  | nx e => exact fun σ' F' H' g => h _ F' H' (ext F' H' g.st) (by cases b.fresh <;> rfl)
  | bk e => exact h.elim
  | ct e => exact h.elim
  | bad => exact h.elim
  | exc x e => exact fun cls dd σ' F' H' g r => h cls dd F' H' (ext F' H' g.st) r
  | ret d own =>
    intro v F' H' g r
    have g' := ext F' H' g
    unfold RetOk at r
    dsimp only at h r
    cases hm : isMut d with
    | false =>
      rw [hm] at h r
      simp only [Bool.and_false, Bool.false_and, Bool.false_eq_true, if_false] at h r
      refine h v F' H' g' ?_
      cases b.fresh
      · exact r
      · show if isMut d then _ else _
        rw [hm]
        exact r
    | true =>
      rw [hm] at h r
      cases own with
      | true =>
        simp only [Bool.and_self, Bool.not_true, Bool.and_false, Bool.false_eq_true, if_false, if_true] at h r
        obtain ⟨a, rfl, n1, n2, o⟩ := r
        have hn : H a = none := Classical.byContradiction fun z => n2 ⟨z, fun f => n1 (g.fz a f)⟩
        cases hf : b.fresh with
        | true =>
          rw [hf] at h
          refine h _ F' H' g' ?_
          show if isMut d then _ else _
          rw [hm]
          exact ⟨a, rfl, hn, n1, o⟩
        | false =>
          rw [hf] at h
          have p : Post Z .fresh F' H H' d (.ref a) := by
            show if isMut d then _ else _
            rw [hm]
            exact ⟨a, rfl, hn, n1, o⟩
          obtain ⟨F2, g2, r2⟩ := p.frz g' (fun z => by cases z)
          exact h _ F2 H' g2 r2
      | false =>
        simp only [Bool.and_true, Bool.not_false, Bool.false_and, Bool.false_eq_true, if_false] at h r
        cases hf : b.fresh with
        | true =>
          rw [hf] at h
          exact h.elim
        | false =>
          rw [hf] at h
          exact h v F' H' g' r
end
end Mi
/-! tuples: t[::-1], sorted(t); min(xs) -/
namespace MiK
open PySem PySem.Spec PySem.Calls PyProof.Rows PySem.W L2
theorem fm_congr {α β : Type} {f g : α → Option β} : ∀ {l : List α}, (∀ x ∈ l, f x = g x) → l.filterMap f = l.filterMap g
  | [], _ => rfl
  | x :: l, h => by
    rw [List.filterMap_cons, List.filterMap_cons, h x List.mem_cons_self, fm_congr fun y hy => h y (List.mem_cons_of_mem _ hy)]
section
variable {prog : Program} {w : World} {A : Around} {E : Value → Shared → Prop} {s : Shared}
theorem adjust_rev (n : Nat) : Builtin.Slice.sliceAdjust none none (-1) (n : Int) = ((n : Int) - 1, -1) := by
  unfold Builtin.Slice.sliceAdjust
  first
    | rfl
    | simp
theorem places_rev (n : Nat) : Builtin.Slice.slicePlaces ((n : Int) - 1) (-1) (-1) = n := by
  unfold Builtin.Slice.slicePlaces
  have h1 : ¬ ((-1 : Int) > 0) := by omega
  simp only [h1, if_false]
  split
  · have : ((n : Int) - 1 - -1 - 1) / (- -1) = (n : Int) - 1 := by
      rw [show -(-1 : Int) = 1 by rfl, Int.ediv_one]
      omega
    omega
  · omega
theorem pick_rev (xs : Array Value) : ((List.range xs.size).filterMap fun (m : Nat) => xs[(((xs.size : Int) - 1) + (m : Int) * (-1)).toNat]?).toArray = xs.toList.reverse.toArray := by
  congr 1
  have e : (fun (m : Nat) => xs[(((xs.size : Int) - 1) + (m : Int) * (-1)).toNat]?) = fun (m : Nat) => xs[((xs.size : Int) - 1 - (m : Int)).toNat]? := by
    funext m
    congr 1
    omega
  rw [e]
  have e2 : ∀ (l : List Value) , ((List.range l.length).filterMap fun (m : Nat) => l[((l.length : Int) - 1 - (m : Int)).toNat]?) = l.reverse := fun l => by
    have a : (List.range l.length).filterMap (fun (m : Nat) => l[((l.length : Int) - 1 - (m : Int)).toNat]?) = (List.range l.length).filterMap (fun m => l.reverse[m]?) := by
      refine fm_congr fun m hm => ?_
      have hm := List.mem_range.mp hm
      rw [List.getElem?_reverse hm]
      congr 1
      omega
    rw [a]
    have b : ∀ r : List Value, (List.range r.length).filterMap (fun m => r[m]?) = r := fun r => by
      induction r with
      | nil => rfl
      | cons x r ih =>
        rw [List.length_cons, List.range_succ_eq_map, List.filterMap_cons]
        show x :: _ = _
        rw [List.filterMap_map]
        congr 1
    have := b l.reverse
    rw [List.length_reverse] at this
    exact this
  have := e2 xs.toList
  rw [Array.length_toList] at this
  rw [← this]
  refine fm_congr fun m _ => ?_
  rw [Array.getElem?_toList]
theorem sliceApplied_rev {sl : Addr} {u : Tok} {n : Nat} {Q : Int × Int × Nat → Shared → Prop} (hs : s.heap.IsSliceOf sl .none .none (.int (-1) u)) (h : Q ((n : Int) - 1, -1, n) s) : wpAny (model prog w) A (Builtin.Slice.sliceApplied (.ref sl) (pure (n : Int))) Q E s := by
  obtain ⟨os, hos, hcs, hds⟩ := id hs
  unfold Builtin.Slice.sliceApplied Builtin.Slice.sliceFields
  refine wpAny_bind (wpAny_bind (wpAny_field hos hds (x := .none) rfl (wpAny_bind (wpAny_field hos hds (x := .none) rfl (wpAny_bind (wpAny_field hos hds (x := .int (-1) u) rfl (wpAny_pure ?_)))))))
  refine wpAny_bind (slicePart_int ?_)
  show wpAny _ _ (if ((-1 : Int) == 0) = true then _ else _) _ _ s
  rw [if_neg (by decide)]
  refine wpAny_bind (slicePart_none (wpAny_bind (slicePart_none (wpAny_bind (wpAny_pure ?_)))))
  show wpAny _ _ (match Builtin.Slice.sliceAdjust none none (-1) (n : Int) with | (lo, hi) => pure (lo, (-1 : Int), Builtin.Slice.slicePlaces lo hi (-1))) _ _ s
  rw [adjust_rev n]
  show wpAny _ _ (pure ((n : Int) - 1, (-1 : Int), Builtin.Slice.slicePlaces ((n : Int) - 1) (-1) (-1))) _ _ s
  rw [places_rev]
  exact wpAny_pure h
theorem getItem_tuple_rev {t sl : Addr} {items : Array Value} {u : Tok} {Q : Value → Shared → Prop} (ht : IsTup s.heap t items) (hs : s.heap.IsSliceOf sl .none .none (.int (-1) u))
    (h : Q (.ref s.heap.objs.size) { s with heap := s.heap.push { cls := .type "tuple", data := .seq items.toList.reverse.toArray } })
    (hsz : items.size ≤ sizeLine) : wpAny (model prog w) A (getItem (.ref t) (.ref sl)) Q E s := by
  have htake : sizeOk (.seq items.toList.reverse.toArray) := by
    show items.toList.reverse.toArray.size ≤ sizeLine
    rw [List.size_toArray, List.length_reverse, Array.length_toList]
    omega
  obtain ⟨os, hos, hcs, hds⟩ := id hs
  have hTs : s.TypeIs (.ref sl) "slice" := ⟨os, hos, hcs⟩
  unfold getItem
  try with_reducible refine wpAny_holding ?_
  first | refine wpAny_bind (wpAny_pure ?_) | skip
  refine wpAny_bind (wpAny_sequenceKey ht.typeIs (by decide) ?_)
  refine wpAny_bind (wpAny_callSpecial?_slot (name := Str.ofString "__getitem__") ht.typeIs PyProof.Rows.slot_tuple_getitem
    (wpAny_call_entry PyProof.Rows.slot_tuple_getitem ht.typeIs entry_tuple_getitem ?_ (args_tuple_getitem _ _)))
  show wpAny _ _ (Builtin.Tuple.tupleItemsOf (.ref t) >>= _) _ _ s
  refine wpAny_bind (tupleItemsOf_ ht ?_)
  refine wpAny_bind (wpAny_typeOf hTs ?_)
  rw [if_pos (by decide)]
  refine wpAny_bind (sliceApplied_rev hs ?_)
  have hno : ¬ ((((items.size : Int) - 1) == 0 && (-1 : Int) == 1 && items.size == items.size) = true) := by
    intro q
    rw [Bool.and_eq_true, Bool.and_eq_true] at q
    exact absurd q.1.2 (by decide)
  show wpAny _ _ (if (((items.size : Int) - 1) == 0 && (-1 : Int) == 1 && items.size == items.size) = true then _ else _) _ _ s
  rw [if_neg hno, pick_rev]
  first
    | exact wpAny_bind (m := Builtin.Tuple.tupleExact _) (wpAny_newObj_type (wpAny_pure ⟨_, rfl, wpAny_pure h⟩) htake)
    | exact wpAny_bind (m := Builtin.Tuple.tupleExact _) (wpAny_newObj_type (wpAny_bind (wpAny_pure (wpAny_pure ⟨_, rfl, wpAny_pure h⟩))) htake)
    | exact wpAny_bind (wpAny_bind (m := Builtin.Tuple.tupleExact _) (wpAny_newObj_type (wpAny_pure (wpAny_pure ⟨_, rfl, wpAny_pure h⟩)) htake))
    | exact wpAny_bind (wpAny_bind (m := Builtin.Tuple.tupleExact _) (wpAny_newObj_type (wpAny_pure ⟨_, rfl, wpAny_pure h⟩) htake))
theorem collect_tup {l : Addr} {vs : List Value} {Q : List Value → Shared → Prop} (hl : IsTup s.heap l vs.toArray)
    (h : Q vs { s with heap := (s.heap.push (seqObj "list" #[] 0)).update s.heap.objs.size (Obj.mapSeq (· ++ vs.toArray)) }) (hsz : vs.length ≤ sizeLine) :
    wpAny (model prog w) A (collect (.ref l)) Q E s := by
  obtain ⟨o, ho, hc, n, hd⟩ := id hl
  unfold collect
  refine wpAny_bind (wpAny_runValue (codeAny_builtin entry_proto_collect' ?_))
  show wpAny _ _ (do again (.builtin "list.__iadd__" ⟨[← newList [], .ref l], []⟩)) _ _ s
  refine wpAny_bind (wpAny_newList (wpAny_pure ⟨Code.quiet_builtin _ (by decide +kernel), codeAny_builtin entry_list_iadd' ?_⟩))
  show wpAny _ _ (Builtin.List.listExtendWith (.ref s.heap.objs.size) (.ref l) (.ref s.heap.objs.size)) _ _ { s with heap := s.heap.push (seqObj "list" #[] 0) }
  unfold Builtin.List.listExtendWith
  have ho' : (s.heap.push (seqObj "list" #[] 0)).get? l = some o := Heap.get?_push_of_some _ ho
  refine wpAny_bind (wpAny_typeOf (T := "tuple") ⟨o, ho', hc⟩ ?_)
  have ht : (Value.type "tuple" == Value.type "tuple") = true := by rfl
  rw [if_pos (by first | (rw [ht]; simp) | decide)]
  refine wpAny_bind (listItems_at ho' hd ?_)
  refine wpAny_bind (listItems_at (xs := #[]) (n := 0) (Heap.get?_push_size _ rfl) rfl ?_)
  rw [if_neg (by simp)]
  refine wpAny_bind (listUpdate_at (xs := #[]) (n := 0) (Heap.get?_push_size _ rfl) rfl ?_ (Nat.zero_le _) (by show (#[] ++ vs.toArray).size ≤ sizeLine + 1; simp only [Array.size_append, List.size_toArray, List.length_nil]; omega))
  refine wpAny_pure ?_
  show wpAny (model prog w) A (do
      let o ← load s.heap.objs.size
      match o.data with
      | .seq xs _ => pure xs.toList
      | _ => unsupported "internal:collect") Q E { s with heap := (s.heap.push (seqObj "list" #[] 0)).update s.heap.objs.size (Obj.mapSeq (· ++ vs.toArray)) }
  refine wpAny_bind (wpAny_load (get?_update_seq (Heap.get?_push_size _ rfl) _) ?_)
  show wpAny _ _ (pure ((#[] : Array Value) ++ vs.toArray).toList) Q E _
  rw [show ((#[] : Array Value) ++ vs.toArray).toList = vs by simp]
  exact wpAny_pure h
theorem sorted_of_sortT {l : Addr} {vs : List Value} {kw : List (Str × Value)} {Q : Value → Shared → Prop} (hl : IsTup s.heap l vs.toArray) (hL : vs.length ≤ sizeLine) (ha1 : argsOk "sorted" ⟨[.ref l], kw⟩) (ha2 : ∀ x, argsOk "list.sort" ⟨[.ref x], kw⟩)
    (body : ∀ E' : Value → Shared → Prop, wpAny (model prog w) A.in1.in1 (Builtin.«list.sort» ⟨[.ref (s.heap.objs.size + 1)], kw⟩) (fun f s' => f = .done (.ret .none) ∧ Q (.ref (s.heap.objs.size + 1)) s') E' { s with heap := copyHeap s.heap vs }) :
    wpAny (model prog w) A (call (.builtin "sorted") [.ref l] kw) Q E s := by
  refine call_function_entry_kw kind_sorted plain_sorted entry_sorted ha1 ?_
  unfold Builtin.«sorted»
  refine wpAny_bind (m := checkCount "sorted" 1 1 _) (wpAny_pure ?_)
  refine wpAny_bind (collect_tup hl ?_ hL)
  refine wpAny_bind (wpAny_newList ?_ hL)
  have hsz : ((s.heap.push (seqObj "list" #[] 0)).update s.heap.objs.size (Obj.mapSeq (· ++ vs.toArray))).objs.size = s.heap.objs.size + 1 := by
    rw [Heap.size_update, size_push']
  show wpAny _ _ _ _ _ { s with heap := copyHeap s.heap vs }
  rw [hsz]
  refine wpAny_bind (wpAny_holding (wpAny_call_entry_kw slot_list_sort ⟨_, copyHeap_at s.heap vs, rfl⟩ entry_list_sort ?body (ha2 _)))
  case body =>
    show wpAny (model prog w) A.in1.in1 (Builtin.«list.sort» ⟨[.ref (s.heap.objs.size + 1)], kw⟩) _ _ _
    refine wpAny_mono (body _) (fun f s' hf => ?_) fun _ _ e => e
    obtain ⟨rfl, hq⟩ := hf
    exact ⟨_, rfl, wpAny_pure ⟨_, rfl, hq⟩⟩
theorem sorted_dataT {β : Type} {vs : List Value} {bs : List β} {enc : β → PyData} {R : Value → β → Prop} {l : Addr} {Q : Value → Shared → Prop} (hl : IsTup s.heap l vs.toArray) (e : EachIs R vs bs) (er : EachIs (fun v b => ∃ as, Reads s.heap v (enc b) as) vs bs) (hal : AllAlike (bs.map enc)) (hk : Sortable (bs.map enc)) (hL : bs.length ≤ sizeLine)
    (hu : ∀ b, b ∈ bs → A.units + 2 + (enc b).depth < cLine) (h : ∀ out, out.length = bs.length → EachIs R out (bs.mergeSort (dataLe false enc)) → Q (.ref (s.heap.objs.size + 1)) { s with heap := sortedAll s.heap vs (List.toArray out) }) :
    wpAny (model prog w) A (call (.builtin "sorted") [.ref l]) Q E s := by
  have er' : EachIs (fun v b => ∃ as, Reads (sortingHeap (copyHeap s.heap vs) (s.heap.objs.size + 1) vs) v (enc b) as) vs bs := er.mono fun _ _ ⟨as, r⟩ => ⟨as, PyProof.Rows.Reads.keeps (fun _ _ => sorting_copy_old) r⟩
  have S : SortsAt prog w A.in1.in1 { s with heap := sortingHeap (copyHeap s.heap vs) (s.heap.objs.size + 1) vs } (dataKind (sortingHeap (copyHeap s.heap vs) (s.heap.objs.size + 1) vs) (bs.map enc)) vs :=
    SortsAt.data (s := { s with heap := sortingHeap (copyHeap s.heap vs) (s.heap.objs.size + 1) vs }) (each_map (R := fun v d => ∃ as, Reads (sortingHeap (copyHeap s.heap vs) (s.heap.objs.size + 1) vs) v d as) enc er') hal hk (bound_map hu)
  refine sorted_of_sortT hl (by rw [e.length]; exact hL) (args_sorted1 _) (fun _ => args_list_sort _) fun _ => list_sort_vals (s := { s with heap := copyHeap s.heap vs }) (copyHeap_at s.heap vs) S (by rw [e.length]; exact hL) ⟨rfl, ?_⟩
  exact h _ (by rw [sortVals_length false rfl]; exact e.length) (sortVals_data false e er' hal)
end
end MiK
namespace Mi
open PySem L2
/-! ### more tests -/
section
variable {X : Cx} {S : Sit} {a b : PySem.Expr} {ma mb : E} {pos : Pos}
theorem PW.imp {X : Cx} {e : PySem.Expr} {t t' : TT} (h : PW X e t) (i : ∀ σ H Q, t' σ H Q → t σ H Q) : PW X e t' := ⟨fun wh pins s σ H Q I q => h.run wh pins s σ H Q I (i σ H Q q)⟩
theorem w_and1 (h : PT X a (tT S ma)) : PW X (.BoolOp .And [a] pos) (tT S ma) := pw_and1 h
theorem w_or1 (h : PT X a (tT S ma)) : PW X (.BoolOp .Or [a] pos) (tT S ma) := pw_or1 h
theorem w_and {r : List PySem.Expr} (h1 : PT X a (tT S ma)) (h2 : PW X (.BoolOp .And (b :: r) pos) (tT S mb)) : PW X (.BoolOp .And (a :: b :: r) pos) (tT S (.and ma mb)) := by
  refine PW.imp (pw_and h1 h2) fun σ H Q ⟨F, Fb, env, fr, q⟩ => ⟨F, Fb, env, fr, ?_⟩
  rw [evE, ans_bind, ans_bind] at q
  rw [ans_bind]
  refine q.mono fun x hx => ?_
  split at hx
  · exact fun F' H' e => ⟨F', Fb, env, fr.ext e, ((ans_bind.mpr hx).ext e).mono fun t k F2 H2 e2 => k F2 H2 (e.trans e2)⟩
  · exact fun F' H' e => hx F' H' e
  · exact hx.elim
theorem w_or {r : List PySem.Expr} (h1 : PT X a (tT S ma)) (h2 : PW X (.BoolOp .Or (b :: r) pos) (tT S mb)) : PW X (.BoolOp .Or (a :: b :: r) pos) (tT S (.or ma mb)) := by
  refine PW.imp (pw_or h1 h2) fun σ H Q ⟨F, Fb, env, fr, q⟩ => ⟨F, Fb, env, fr, ?_⟩
  rw [evE, ans_bind, ans_bind] at q
  rw [ans_bind]
  refine q.mono fun x hx => ?_
  split at hx
  · exact fun F' H' e => hx F' H' e
  · exact fun F' H' e => ⟨F', Fb, env, fr.ext e, ((ans_bind.mpr hx).ext e).mono fun t k F2 H2 e2 => k F2 H2 (e.trans e2)⟩
  · exact hx.elim
theorem t_tru (h : PT X a (tT S ma)) : PT X a (tT S (.tru ma)) := PT.imp h fun σ H Q ⟨F, Fb, env, fr, q⟩ => ⟨F, Fb, env, fr, by
  rw [evE, ans_bind, ans_bind] at q
  rw [ans_bind]
  refine q.mono fun x hx => ?_
  rw [ans_map] at hx
  exact hx⟩
/-! ### isinstance -/
def tyS : Ty → String
  | .non => "NoneType"
  | .bool => "bool"
  | .int => "int"
  | .str => "str"
  | .tuple => "tuple"
  | .list => "list"
def tyD : D → Option Ty
  | .non => some .non
  | .bl _ => some .bool
  | .int _ => some .int
  | .str _ => some .str
  | .tup _ => some .tuple
  | .lst _ => some .list
  | _ => none
theorem ty_lnt {Z : Wd} {F : Fz} {H : Hp} {d : D} {v : V} {t : Ty} (h : tyD d = some t) (l : Lnt Z F H d v) : TyX Z.K H v (.type (tyS t)) := by
  cases d <;> cases h
  · cases l
    exact .base .non
  · cases (show v = _ from l)
    exact .base (.bl _)
  · cases (show v = _ from l)
    exact .base (.int _)
  · cases (show v = _ from l)
    exact .base (.str _)
  · obtain ⟨a, vs, rfl, _, z, _⟩ := l
    exact .base (.tup z)
  · obtain ⟨a, vs, rfl, z, _⟩ := l
    exact .base (.lst z)
def kitB : Ty → Ty → Bool
  | .non, .non => true
  | .bool, .bool => true
  | .bool, .int => true
  | .int, .int => true
  | .str, .str => true
  | .tuple, .tuple => true
  | .list, .list => true
  | _, _ => false
theorem kit_one (K : PySem.W.Frag) (t u : Ty) : PySem.W.kitOne K (.type (tyS t)) (.type (tyS u)) = some (kitB t u) := by
  cases t <;> cases u <;> rfl
theorem isi_ty {t u : Ty} {d : D} (h : tyD d = some t) : isiD u d = .ok (.bl (kitB t u)) := by
  cases d <;> cases h <;> cases u <;> rfl
theorem isi_no {u : Ty} {d : D} (h : tyD d = none) : isiD u d = .bad := by
  cases d <;> first | rfl | cases h
theorem s_isi {t : Ty} {x : Str} {p p2 : Pos} (hK : X.K = S.Z.K) (hx : BltIs X "isinstance") (hg : Gl X x) (hm : X.mg x = none) (hv : bootBuiltins x = some (.type (tyS t))) (hn : x ≠ "__name__") (hd : (x == ("__debug__" : Str)) = false) (ha : PE X a (tE S ma)) (hs : notStar a = true) :
    PE X (.Call (.Name "isinstance" p) [a, .Name x p2] [] pos) (tE S (.isi t ma)) := by
  refine PE.imp (pe_callB call_isi hx.gl hx.no (by decide +kernel) (pa_cons (lent_of ha) (pa_cons (pe_bltn (v := .ty (tyS t)) hg hm hv rfl hn hd) pa_nil rfl) (star_cons hs)) (by decide +kernel) (by decide +kernel) (star_cons hs) rfl) fun σ H Q ⟨F, Fb, env, fr, q⟩ => ?_
  rw [evE, ans_bind] at q
  refine ⟨F, Fb, env, fr, q.mono fun d hd v F1 H1 e l => ?_⟩
  cases h : tyD d with
  | none =>
    rw [isi_no h] at hd
    exact hd.elim
  | some u =>
    rw [isi_ty h] at hd
    have hd : Hope S .val F H Q (.bl (kitB u t)) := hd
    rw [hK]
    exact ⟨v, .ty (tyS t), .type (tyS u), .type (tyS t), kitB u t, rfl, .ty _, ty_lnt h l, kit_one _ _ _, hd.rep rfl e rfl⟩
/-! ### sorted -/
theorem insI_perm (i : Int) : ∀ l : List Int, (insI i l).Perm (i :: l)
  | [] => .refl _
  | j :: r => by
    rw [insI]
    split
    · exact .refl _
    · exact (List.Perm.cons j (insI_perm i r)).trans (List.Perm.swap i j r)
theorem sortI_perm : ∀ l : List Int, (sortI l).Perm l
  | [] => .refl _
  | i :: r => by
    rw [sortI]
    exact (insI_perm i _).trans (List.Perm.cons i (sortI_perm r))
theorem insI_pw (i : Int) : ∀ l : List Int, l.Pairwise (· ≤ ·) → (insI i l).Pairwise (· ≤ ·)
  | [], _ => by simp [insI]
  | j :: r, h => by
    rw [insI]
    have h' := List.pairwise_cons.mp h
    split
    · rename_i hij
      refine List.pairwise_cons.mpr ⟨fun k hk => ?_, h⟩
      rcases List.mem_cons.mp hk with e | hk
      · omega
      · have := h'.1 k hk
        omega
    · rename_i hij
      refine List.pairwise_cons.mpr ⟨fun k hk => ?_, insI_pw i r h'.2⟩
      rcases List.mem_cons.mp ((insI_perm i r).mem_iff.mp hk) with e | hk
      · omega
      · exact h'.1 k hk
theorem sortI_pw : ∀ l : List Int, (sortI l).Pairwise (· ≤ ·)
  | [] => by simp [sortI]
  | i :: r => by
    rw [sortI]
    exact insI_pw i _ (sortI_pw r)
theorem sorted_uniq : ∀ {l m : List Int}, l.Perm m → l.Pairwise (· ≤ ·) → m.Pairwise (· ≤ ·) → l = m
  | [], m, h, _, _ => by rw [List.nil_perm.mp h]
  | i :: l, [], h, _, _ => by
    have := List.perm_nil.mp h
    cases this
  | i :: l, j :: m, h, h1, h2 => by
    have a := List.pairwise_cons.mp h1
    have b := List.pairwise_cons.mp h2
    have e : i = j := by
      have i1 : i ≤ j := by
        rcases List.mem_cons.mp (h.mem_iff.mpr (List.mem_cons_self (a := j) (l := m))) with e | k
        · omega
        · exact a.1 j k
      have i2 : j ≤ i := by
        rcases List.mem_cons.mp (h.mem_iff.mp (List.mem_cons_self (a := i) (l := l))) with e | k
        · omega
        · exact b.1 i k
      omega
    subst e
    rw [sorted_uniq (List.perm_cons _ |>.mp h) a.2 b.2]
theorem sortI_of {l m : List Int} (h : m.Perm l) (hp : m.Pairwise (· ≤ ·)) : m = sortI l := sorted_uniq (h.trans (sortI_perm l).symm) hp (sortI_pw l)
/-- the sort of data -/
def rSortedP (K : PySem.W.Frag) : List V → Hp → VK → Prop := fun vs H Q => ∃ (a : Addr) (xs : List V) (ds : List D), vs = [V.ref a] ∧ SqL K H a xs ∧ sortOk ds = true ∧ DpAll K H xs (toPys ds) ∧ ∃ Rr : V → D → Prop, PySem.W.EachIs Rr xs ds ∧
  ∀ (ys : List V) (p : Addr), PySem.W.EachIs Rr ys (ds.mergeSort (PySem.W.dataLe false toPy)) → H p = none → Q (.ref p) (upd H p (.lst ys))
theorem each_comp {α β γ : Type} {P : α → β → Prop} {Q : β → γ → Prop} : ∀ {as : List α} {bs : List β} {cs : List γ}, (as.length = bs.length ∧ ∀ (i : Nat) a b, as[i]? = some a → bs[i]? = some b → P a b) → PySem.W.EachIs Q bs cs → PySem.W.EachIs (fun a c => ∃ b, P a b ∧ Q b c) as cs
  | [], [], [], _, .nil => .nil
  | a :: as, b :: bs, c :: cs, ⟨hl, h⟩, .cons q qs => .cons ⟨b, h 0 a b rfl rfl, q⟩ (each_comp ⟨by simpa using hl, fun i a b h1 h2 => h (i + 1) a b (by simpa using h1) (by simpa using h2)⟩ qs)
  | [], _ :: _, _, ⟨hl, _⟩, _ => by simp at hl
  | _ :: _, [], _, ⟨hl, _⟩, _ => by simp at hl
theorem each_pick {α β γ : Type} {P : α → β → Prop} {Q : β → γ → Prop} : ∀ {as : List α} {cs : List γ}, PySem.W.EachIs (fun a c => ∃ b, P a b ∧ Q b c) as cs → ∃ bs : List β, PySem.W.EachIs P as bs ∧ PySem.W.EachIs Q bs cs
  | [], [], .nil => ⟨[], .nil, .nil⟩
  | _ :: _, _ :: _, .cons ⟨b, p, q⟩ t => by
    obtain ⟨bs, h1, h2⟩ := each_pick t
    exact ⟨b :: bs, .cons p h1, .cons q h2⟩
theorem each_vals : ∀ {us : List Value} {vs : List V}, PySem.W.EachIs (fun u v => RelV v u) us vs → Vals vs us
  | [], [], .nil => .nil
  | _ :: _, _ :: _, .cons r t => .cons r (each_vals t)
theorem cr_sortedP' (hu : X.A.units + 65 < cLine) : CallR X (.builtin "sorted") (rSortedP X.K) := by
  intro pins s σ H vs us Q I r h
  obtain ⟨a, xs, ds, rfl, hs, hok, hd, Rr, hR, q⟩ := h
  obtain ⟨its, rv, hl, hz⟩ := I.list hs
  rw [Vals.ref1 r]
  unfold sortOk at hok
  simp only [Bool.and_eq_true, Bool.or_eq_true, List.all_eq_true] at hok
  obtain ⟨⟨k1, k2⟩, k3⟩ := hok
  have hlen : xs.length = its.length := rv.length
  have rel : its.length = xs.length ∧ ∀ (i : Nat) (u : Value) (v : V), its[i]? = some u → xs[i]? = some v → RelV v u := ⟨hlen.symm, fun i u v h1 h2 => by
    obtain ⟨u', e, rr⟩ := rv.get h2
    rw [h1] at e
    cases e
    exact rr⟩
  have e1 := each_comp (P := fun u v => RelV v u) rel hR
  have rd := Dp.readsAll I (toPys ds) xs its hd rv
  obtain ⟨ws, rd⟩ := rd
  have e2 : PySem.W.EachIs (fun v b => ∃ as, Reads s.heap v (toPy b) as) its ds := PySem.W.readsAll_each toPy (by rw [← toPys_map]; exact rd)
  have al : PySem.W.AllAlike (ds.map toPy) := fun d hd d' hd' => by
    obtain ⟨b, hb, rfl⟩ := List.mem_map.mp hd
    obtain ⟨b', hb', rfl⟩ := List.mem_map.mp hd'
    exact k2 b hb b' hb'
  have so : PySem.W.Sortable (ds.map toPy) := by
    rcases k3 with k3 | k3
    · refine .inl fun d hd => ?_
      obtain ⟨b, hb, rfl⟩ := List.mem_map.mp hd
      have := k3 b hb
      cases b with
      | tup l =>
        cases l with
        | nil => cases this
        | cons x r => exact ⟨toPy x, toPys r, by rw [toPy, toPys]⟩
      | _ => cases this
    · refine .inr fun d hd => ?_
      obtain ⟨b, hb, rfl⟩ := List.mem_map.mp hd
      have := k3 b hb
      cases b <;> first | (cases this; done) | (refine ⟨fun z => ?_, fun l z => ?_⟩ <;> (rw [toPy] at z; cases z))
  have dlen : ds.length = xs.length := hR.length.symm
  refine PySem.W.sorted_data hl.isList e1 e2 al so (by rw [dlen]; exact hz) (fun b hb => ?_) fun out ho hout => ?_
  · have := (eqOk_lay 60 b (k1 b hb)).2
    omega
  · obtain ⟨ys, h1, h2⟩ := each_pick hout
    obtain ⟨ep, he'⟩ := PyProof.Rows.sortedAll_at s.heap its out.toArray
    have rv2 := each_vals h1
    exact ⟨.ref _, upd H (s.heap.objs.size + 1) (.lst ys), I.laid (t' := s.toks) (fun _ _ => PyProof.Rows.sortedAll_old) (Nat.le_succ _) ⟨by rw [rv2.length, ho, dlen]; exact hz, out, ep, rv2, he'⟩, rfl, q ys _ h2 (I.hok.fresh (Nat.le_succ _))⟩
theorem dataLe_trans {β : Type} (k : β → PyData) (a b c : β) (h1 : PySem.W.dataLe false k a b = true) (h2 : PySem.W.dataLe false k b c = true) : PySem.W.dataLe false k a c = true := by
  rw [PySem.W.dataLe_eq] at *
  simp only [cond, Bool.not_eq_true'] at *
  refine Bool.eq_false_iff.mpr fun h => ?_
  rcases PyProof.Rows.lex_negTrans (O := PyProof.Rows.itemOrd) (PySem.W.keyToks (k c)) (PySem.W.keyToks (k b)) (PySem.W.keyToks (k a)) h with z | z
  · exact Bool.false_ne_true (h2.symm.trans z)
  · exact Bool.false_ne_true (h1.symm.trans z)
theorem dataLe_total {β : Type} (k : β → PyData) (a b : β) : (PySem.W.dataLe false k a b || PySem.W.dataLe false k b a) = true := by
  rw [PySem.W.dataLe_eq]
  simp only [cond]
  cases h1 : PySem.W.dataLt (k b) (k a) with
  | false => rfl
  | true =>
    cases h2 : PySem.W.dataLt (k a) (k b) with
    | false => rfl
    | true =>
      have := PyProof.Rows.lex_trans _ _ _ h1 h2
      rw [PyProof.Rows.lex_irrefl] at this
      cases this
/-- the sort of a tuple -/
def rSortedPT (K : PySem.W.Frag) : List V → Hp → VK → Prop := fun vs H Q => ∃ (a : Addr) (xs : List V) (ds : List D), vs = [V.ref a] ∧ SqT K H a xs ∧ sortOk ds = true ∧ DpAll K H xs (toPys ds) ∧ ∃ Rr : V → D → Prop, PySem.W.EachIs Rr xs ds ∧
  ∀ (ys : List V) (p : Addr), PySem.W.EachIs Rr ys (ds.mergeSort (PySem.W.dataLe false toPy)) → H p = none → Q (.ref p) (upd H p (.lst ys))
theorem cr_sortedPT (hu : X.A.units + 65 < cLine) : CallR X (.builtin "sorted") (rSortedPT X.K) := by
  intro pins s σ H vs us Q I r h
  obtain ⟨a, xs, ds, rfl, hs, hok, hd, Rr, hR, q⟩ := h
  obtain ⟨its, rv, hl, hz⟩ := I.tuple hs
  rw [Vals.ref1 r]
  unfold sortOk at hok
  simp only [Bool.and_eq_true, Bool.or_eq_true, List.all_eq_true] at hok
  obtain ⟨⟨k1, k2⟩, k3⟩ := hok
  have hlen : xs.length = its.length := rv.length
  have rel : its.length = xs.length ∧ ∀ (i : Nat) (u : Value) (v : V), its[i]? = some u → xs[i]? = some v → RelV v u := ⟨hlen.symm, fun i u v h1 h2 => by
    obtain ⟨u', e, rr⟩ := rv.get h2
    rw [h1] at e
    cases e
    exact rr⟩
  have e1 := each_comp (P := fun u v => RelV v u) rel hR
  have rd := Dp.readsAll I (toPys ds) xs its hd rv
  obtain ⟨ws, rd⟩ := rd
  have e2 : PySem.W.EachIs (fun v b => ∃ as, Reads s.heap v (toPy b) as) its ds := PySem.W.readsAll_each toPy (by rw [← toPys_map]; exact rd)
  have al : PySem.W.AllAlike (ds.map toPy) := fun d hd d' hd' => by
    obtain ⟨b, hb, rfl⟩ := List.mem_map.mp hd
    obtain ⟨b', hb', rfl⟩ := List.mem_map.mp hd'
    exact k2 b hb b' hb'
  have so : PySem.W.Sortable (ds.map toPy) := by
    rcases k3 with k3 | k3
    · refine .inl fun d hd => ?_
      obtain ⟨b, hb, rfl⟩ := List.mem_map.mp hd
      have := k3 b hb
      cases b with
      | tup l =>
        cases l with
        | nil => cases this
        | cons x r => exact ⟨toPy x, toPys r, by rw [toPy, toPys]⟩
      | _ => cases this
    · refine .inr fun d hd => ?_
      obtain ⟨b, hb, rfl⟩ := List.mem_map.mp hd
      have := k3 b hb
      cases b <;> first | (cases this; done) | (refine ⟨fun z => ?_, fun l z => ?_⟩ <;> (rw [toPy] at z; cases z))
  have dlen : ds.length = xs.length := hR.length.symm
  refine MiK.sorted_dataT hl e1 e2 al so (by rw [dlen]; exact hz) (fun b hb => ?_) fun out ho hout => ?_
  · have := (eqOk_lay 60 b (k1 b hb)).2
    omega
  · obtain ⟨ys, h1, h2⟩ := each_pick hout
    obtain ⟨ep, he'⟩ := PyProof.Rows.sortedAll_at s.heap its out.toArray
    have rv2 := each_vals h1
    exact ⟨.ref _, upd H (s.heap.objs.size + 1) (.lst ys), I.laid (t' := s.toks) (fun _ _ => PyProof.Rows.sortedAll_old) (Nat.le_succ _) ⟨by rw [rv2.length, ho, dlen]; exact hz, out, ep, rv2, he'⟩, rfl, q ys _ h2 (I.hok.fresh (Nat.le_succ _))⟩
theorem dataLt_int (i j : Int) : PySem.W.dataLt (.int i) (.int j) = decide (i < j) := by
  unfold PySem.W.dataLt
  show PyProof.Rows.lexLt PyProof.Rows.itemOrd [.inl i] [.inl j] = _
  rw [PyProof.Rows.lex_cons]
  show (decide (i < j) || (!decide (j < i) && PyProof.Rows.lexLt PyProof.Rows.itemOrd [] [])) = _
  rw [show PyProof.Rows.lexLt PyProof.Rows.itemOrd [] [] = false from rfl, Bool.and_false, Bool.or_false]
theorem toInts_eq : ∀ {xs : List D} {ns : List Int}, toInts xs = some ns → xs = ns.map .int
  | [], ns, h => by
    cases h
    rfl
  | x :: xs, ns, h => by
    cases x with
    | int i =>
      rw [toInts] at h
      cases e : toInts xs with
      | none => rw [e] at h; cases h
      | some r =>
        rw [e] at h
        cases h
        rw [toInts_eq e]
        rfl
    | _ => cases h
theorem all_int {ys : List D} (h : ∀ d ∈ ys, ∃ i : Int, d = .int i) : ∃ ns : List Int, ys = ns.map .int := by
  induction ys with
  | nil => exact ⟨[], rfl⟩
  | cons y ys ih =>
    obtain ⟨i, rfl⟩ := h y List.mem_cons_self
    obtain ⟨ns, rfl⟩ := ih fun d hd => h d (List.mem_cons_of_mem _ hd)
    exact ⟨i :: ns, rfl⟩
theorem toInts_maps : ∀ l : List Int, toInts (l.map .int) = some l
  | [] => rfl
  | i :: l => by
    show (toInts (l.map .int)).map (i :: ·) = _
    rw [toInts_maps l]
    rfl
theorem int_inj {l m : List Int} (h : l.map D.int = m.map .int) : l = m := by
  have := toInts_maps l
  rw [h, toInts_maps] at this
  exact (Option.some.inj this).symm
theorem map_perm_int {l m : List Int} (h : (l.map D.int).Perm (m.map .int)) : l.Perm m := by
  have e : ∀ l : List Int, (l.map D.int).filterMap (fun | .int i => some i | _ => none) = l := fun l => by
    induction l with
    | nil => rfl
    | cons i l ih =>
      rw [List.map_cons, List.filterMap_cons]
      show i :: _ = _
      rw [ih]
  have := h.filterMap (fun | D.int i => some i | _ => none)
  rw [e, e] at this
  exact this
theorem sort_ints (l : List Int) : (l.map D.int).mergeSort (PySem.W.dataLe false toPy) = (sortI l).map .int := by
  have pm := List.mergeSort_perm (l.map D.int) (PySem.W.dataLe false toPy)
  obtain ⟨ns, e⟩ := all_int (ys := (l.map D.int).mergeSort (PySem.W.dataLe false toPy)) fun d hd => by
    obtain ⟨i, _, rfl⟩ := List.mem_map.mp (pm.mem_iff.mp hd)
    exact ⟨i, rfl⟩
  rw [e] at pm ⊢
  have pw := List.pairwise_mergeSort (dataLe_trans toPy) (dataLe_total toPy) (l.map D.int)
  rw [e] at pw
  rw [sortI_of (map_perm_int pm) ((List.pairwise_map.mp pw).imp fun {i j} h => ?_)]
  rw [PySem.W.dataLe_eq] at h
  simp only [cond, Bool.not_eq_true'] at h
  have h : PySem.W.dataLt (.int j) (.int i) = false := h
  rw [dataLt_int] at h
  have := of_decide_eq_false h
  omega
theorem ok_ints (n : Nat) (l : List Int) : (l.map D.int).all (eqOk (n + 1)) = true := by
  rw [List.all_eq_true]
  intro d hd
  obtain ⟨i, _, rfl⟩ := List.mem_map.mp hd
  rfl
theorem sortOk_ints (l : List Int) : sortOk (l.map .int) = true := by
  unfold sortOk
  simp only [Bool.and_eq_true, Bool.or_eq_true, List.all_eq_true]
  refine ⟨⟨fun d hd => ?_, fun d hd e he => ?_⟩, .inr fun d hd => ?_⟩
  · obtain ⟨i, _, rfl⟩ := List.mem_map.mp hd
    rfl
  · obtain ⟨i, _, rfl⟩ := List.mem_map.mp hd
    obtain ⟨j, _, rfl⟩ := List.mem_map.mp he
    rfl
  · obtain ⟨i, _, rfl⟩ := List.mem_map.mp hd
    rfl
theorem reps_each {Z : Wd} {F : Fz} {H : Hp} : ∀ {ds : List D} {vs : List V}, Reps Z F H ds vs → PySem.W.EachIs (fun v d => Rep Z F H d v) vs ds
  | [], _, h => by cases h; exact .nil
  | _ :: _, _, ⟨v, r, e, h1, h2⟩ => by
    subst e
    exact .cons h1 (reps_each h2)
theorem each_reps {Z : Wd} {F : Fz} {H : Hp} : ∀ {ds : List D} {vs : List V}, PySem.W.EachIs (fun v d => Rep Z F H d v) vs ds → Reps Z F H ds vs
  | [], [], .nil => rfl
  | _ :: _, _ :: _, .cons h t => ⟨_, _, rfl, h, each_reps t⟩
theorem s_sorted {e : PySem.Expr} {es : List PySem.Expr} {ms : List E} {p : Pos} (hu : X.A.units + 65 < cLine) (hK : X.K = S.Z.K) (hx : BltIs X "sorted") (ha : PA X (e :: es) (tLs S ms)) (hs : (e :: es).all notStar = true) : PE X (.Call (.Name "sorted" p) (e :: es) [] pos) (tE S (.bi .sorted ms)) := by
  refine s_biB ((cr_sortedI.or (cr_sortedP' hu)).or (cr_sortedPT hu)) hx (by decide +kernel) ha hs (by decide +kernel) (by decide +kernel) fun σ F F2 H H2 ds vs Q q g l => ?_
  rw [biD] at q
  unfold sortedD at q
  rw [hK]
  split at q
  · rename_i xs
    obtain ⟨v, rfl, a, us, rfl, h1, r1⟩ := l.one
    split at q
    · rename_i ns hn
      have := reps_toInts r1 hn
      subst this
      refine .inl (.inl ⟨a, ns, rfl, .of h1, fun ns' p hp hw hq => ?_⟩)
      rw [sortI_of hp hw]
      exact q _ F2 _ (g.trans (Ext.new g.th hq)) ⟨p, rfl, g.back hq, fun f => g.th p f hq, _, upd_same, reps_ints _⟩
    · obtain ⟨z, q⟩ := q.ite
      have z1 := z
      unfold sortOk at z1
      simp only [Bool.and_eq_true] at z1
      refine .inl (.inr ⟨a, us, xs, rfl, .of h1, z, dps_of 60 xs us z1.1.1 r1, _, reps_each r1, fun ys p hy hq => ?_⟩)
      exact q _ F2 _ (g.trans (Ext.new g.th hq)) ⟨p, rfl, g.back hq, fun f => g.th p f hq, ys, upd_same, reps_upd (fun f => g.th p f hq) (each_reps hy)⟩
  · rename_i xs
    obtain ⟨v, rfl, a, us, rfl, _, h1, r1⟩ := l.one
    split at q
    · rename_i ns hn
      have := toInts_eq hn
      subst this
      refine .inr ⟨a, us, ns.map .int, rfl, .of h1, sortOk_ints ns, dps_of 60 _ us (ok_ints 59 ns) r1, _, reps_each r1, fun ys p hy hq => ?_⟩
      rw [sort_ints] at hy
      exact q _ F2 _ (g.trans (Ext.new g.th hq)) ⟨p, rfl, g.back hq, fun f => g.th p f hq, ys, upd_same, reps_upd (fun f => g.th p f hq) (each_reps hy)⟩
    · obtain ⟨z, q⟩ := q.ite
      have z1 := z
      unfold sortOk at z1
      simp only [Bool.and_eq_true] at z1
      refine .inr ⟨a, us, xs, rfl, .of h1, z, dps_of 60 xs us z1.1.1 r1, _, reps_each r1, fun ys p hy hq => ?_⟩
      exact q _ F2 _ (g.trans (Ext.new g.th hq)) ⟨p, rfl, g.back hq, fun f => g.th p f hq, ys, upd_same, reps_upd (fun f => g.th p f hq) (each_reps hy)⟩
  · exact q.elim
end
end Mi
/-! Sets of nested tuples of whole numbers: the table, for masks to 2047. -/
namespace Mi
open PySem PySem.Spec PyProof.Rows L2

/-- the numbers met on the round of i -> 5 i + 1, as a word of bits -/
def orb (m : Nat) : Nat → Nat → Nat → Nat
  | 0, _, acc => acc
  | n + 1, i, acc => orb m n ((i * 5 + 1) % (m + 1)) (acc ||| 2 ^ i)
theorem orb_spec (m : Nat) : ∀ (n i acc j : Nat), (orb m n i acc).testBit j = true → acc.testBit j = true ∨ ∃ k, k < n ∧ lcgI m i k = j
  | 0, i, acc, j, h => .inl h
  | n + 1, i, acc, j, h => by
    have shift : ∀ k, lcgI m ((i * 5 + 1) % (m + 1)) k = lcgI m i (k + 1) := by
      intro k
      induction k with
      | zero => rfl
      | succ k ih =>
        show (lcgI m ((i * 5 + 1) % (m + 1)) k * 5 + 1) % (m + 1) = (lcgI m i (k + 1) * 5 + 1) % (m + 1)
        rw [ih]
    rcases orb_spec m n _ _ j h with z | ⟨k, hk, e⟩
    · rw [Nat.testBit_or, Bool.or_eq_true] at z
      rcases z with z | z
      · exact .inl z
      · rw [Nat.testBit_two_pow] at z
        exact .inr ⟨0, Nat.succ_pos _, of_decide_eq_true z⟩
    · exact .inr ⟨k + 1, by omega, by rw [← shift]; exact e⟩
/-- a mask whose round meets all -/
structure Full (m : Nat) : Prop where
  all : ∀ {j}, j ≤ m → ∃ b, b ≤ m ∧ lcgN m b = j
  round : lcgN m (m + 1) = 0
  odd : m % 2 = 1
  small : m ≤ 2047
theorem lcgI_zero (m : Nat) : ∀ k, lcgI m 0 k = lcgN m k
  | 0 => rfl
  | k + 1 => by
    show (lcgI m 0 k * 5 + 1) % (m + 1) = (lcgN m k * 5 + 1) % (m + 1)
    rw [lcgI_zero m k]
theorem full_of {m : Nat} (h : orb m (m + 1) 0 0 = 2 ^ (m + 1) - 1) (r : lcgN m (m + 1) = 0) (o : m % 2 = 1) (s : m ≤ 2047) : Full m := by
  refine ⟨fun {j} hj => ?_, r, o, s⟩
  have hb : (orb m (m + 1) 0 0).testBit j = true := by
    rw [h, Nat.testBit_two_pow_sub_one]
    simpa using Nat.lt_succ_of_le hj
  rcases orb_spec m _ _ _ j hb with z | ⟨k, hk, e⟩
  · simp at z
  · exact ⟨k, Nat.le_of_lt_succ hk, by rw [← lcgI_zero]; exact e⟩
theorem full7 : Full 7 := full_of (by decide +kernel) (by decide +kernel) rfl (by decide)
theorem full31 : Full 31 := full_of (by decide +kernel) (by decide +kernel) rfl (by decide)
theorem full127 : Full 127 := full_of (by decide +kernel) (by decide +kernel) rfl (by decide)
theorem full511 : Full 511 := full_of (by decide +kernel) (by decide +kernel) rfl (by decide)
theorem full2047 : Full 2047 := full_of (by decide +kernel) (by decide +kernel) rfl (by decide)
theorem lcgN_mod' {m : Nat} (hm : Full m) : ∀ k, lcgN m (m + 1 + k) = lcgN m k
  | 0 => hm.round
  | k + 1 => by
    show (lcgN m (m + 1 + k) * 5 + 1) % (m + 1) = (lcgN m k * 5 + 1) % (m + 1)
    rw [lcgN_mod' hm k]
theorem lcgI_all' {m : Nat} (hm : Full m) {i j : Nat} (hi : i ≤ m) (hj : j ≤ m) : ∃ k, k ≤ m ∧ lcgI m i k = j := by
  obtain ⟨a, ha, ea⟩ := hm.all hi
  obtain ⟨b, hb, eb⟩ := hm.all hj
  rw [← ea]
  by_cases c : b < a
  · refine ⟨m + 1 + b - a, by omega, ?_⟩
    rw [lcgN_add, show a + (m + 1 + b - a) = m + 1 + b by omega, lcgN_mod' hm, eb]
  · exact ⟨b - a, by omega, by rw [lcgN_add, show a + (b - a) = b by omega, eb]⟩
theorem run_meets' {m : Nat} (hm : Full m) (h : Int) {j : Nat} (hj : j ≤ m) : ∃ n, n ≤ m + 12 ∧ runI m (SetTable.bits h) n = j := by
  obtain ⟨k, hk, e⟩ := lcgI_all' hm (runI_le m (SetTable.bits h) 12) hj
  exact ⟨12 + k, by omega, by rw [runI_tail (bits_lt h)]; exact e⟩
theorem nth_meets' {m : Nat} (hm : Full m) (h : Int) {j : Nat} (hj : j ≤ m) : ∃ k, k < 10 * SetTable.turns m ∧ way m h k = j := by
  obtain ⟨n, hn, e⟩ := run_meets' hm h hj
  obtain ⟨k, hk, e2⟩ := run_nth m (SetTable.bits h) n
  refine ⟨k, by unfold SetTable.turns; omega, ?_⟩
  show (nth m _ k).j = j
  rw [e2]
  exact e
theorem way_le' {m : Nat} {h : Int} {k : Nat} : way m h k ≤ m := by
  have hi : SetTable.bits h % (m + 1) ≤ m := Nat.le_of_lt_succ (Nat.mod_lt _ (Nat.succ_pos _))
  have r := runEnd_bd hi
  have q := nth_in (m := m) k (runAt m (SetTable.bits h % (m + 1)) (SetTable.bits h)) (by
    show SetTable.bits h % (m + 1) + (SetTable.runEnd m (SetTable.bits h % (m + 1)) - SetTable.bits h % (m + 1)) ≤ m
    omega)
  show (nth m _ k).j ≤ m
  omega
/-- a table in order: what is in it is found on its way -/
structure Tab (t : SetTable) (hs : List Int) : Prop where
  ris : Ris t.place.toList
  dm : t.dummies = #[]
  sz : t.place.size = hs.length
  full : Full t.mask
  bd : ∀ x ∈ t.place.toList, x ≤ t.mask
  reach : ∀ (i : Nat) (h : Int) (j : Nat), hs[i]? = some h → t.place.toList[i]? = some j → ∃ k, way t.mask h k = j ∧ ∀ k', k' < k → way t.mask h k' ∈ t.place.toList
theorem Tab.len {t : SetTable} {hs : List Int} (T : Tab t hs) : t.place.toList.length = hs.length := by
  rw [Array.length_toList]
  exact T.sz
theorem Tab.first {t : SetTable} {hs : List Int} (T : Tab t hs) (hl : hs.length ≤ t.mask) (h : Int) : ∃ K, K < 10 * SetTable.turns t.mask ∧ way t.mask h K ∉ t.place.toList ∧ ∀ k, k < K → way t.mask h k ∈ t.place.toList := by
  obtain ⟨j, hj, hn⟩ := st_missing t.place.toList (t.mask + 1) (by rw [T.len]; omega)
  obtain ⟨k, hk, e⟩ := nth_meets' T.full h (Nat.le_of_lt_succ hj)
  obtain ⟨K, h1, h2, h3⟩ := st_least (p := fun k => way t.mask h k ∉ t.place.toList) k (by rw [e]; exact hn)
  exact ⟨K, Nat.lt_of_le_of_lt h1 hk, h2, fun k' hk' => Classical.byContradiction (h3 k' hk')⟩
theorem Tab.before {t : SetTable} {hs : List Int} (T : Tab t hs) {h : Int} {K i j : Nat} (hK : way t.mask h K ∉ t.place.toList) (hi : hs[i]? = some h) (hj : t.place.toList[i]? = some j) : ∃ k, k < K ∧ way t.mask h k = j := by
  obtain ⟨k, e, hb⟩ := T.reach i h j hi hj
  refine ⟨k, ?_, e⟩
  refine Classical.byContradiction fun c => hK ?_
  by_cases d : K = k
  · rw [d, e]
    exact List.mem_of_getElem? hj
  · exact hb K (by omega)
theorem Tab.put {t : SetTable} {hs : List Int} (T : Tab t hs) {h : Int} {j K : Nat} (hj : way t.mask h K = j) (hK : j ∉ t.place.toList) (hb : ∀ k, k < K → way t.mask h k ∈ t.place.toList) :
    SetTable.below t.place j ≤ hs.length ∧ Tab (t.put j).1 (hs.take (SetTable.below t.place j) ++ h :: hs.drop (SetTable.below t.place j)) := by
  obtain ⟨c1, _, _⟩ := below_cut T.ris j
  have hpl : SetTable.below t.place j ≤ t.place.toList.length := by
    rw [Array.length_toList]
    exact c1
  have hph : SetTable.below t.place j ≤ hs.length := by
    rw [← T.sz]
    exact c1
  have hpp := put_place t j
  have up : ∀ {x : Nat}, x ∈ t.place.toList → x ∈ (t.put j).1.place.toList := fun {x} hx => by
    rw [hpp]
    exact mem_ins.2 (.inr hx)
  have hmk : (t.put j).1.mask = t.mask := rfl
  refine ⟨hph, ris_insert T.ris fun e => hK (List.mem_of_getElem? (by rw [Array.getElem?_toList]; exact e)), put_dm T.dm j, ?_, T.full, fun x hx => ?_, fun i h' j' h1 h2 => ?_⟩
  · rw [← Array.length_toList, hpp, len_ins _ hpl, len_ins _ hph, T.len]
  · rw [hpp] at hx
    rcases mem_ins.1 hx with z | z
    · rw [z, ← hj]
      exact way_le'
    · exact T.bd x z
  · rw [hmk]
    rw [tins_get hs hph] at h1
    rw [hpp, tins_get _ hpl] at h2
    split at h1
    · rename_i c
      rw [if_pos c] at h2
      obtain ⟨k, e, z⟩ := T.reach i h' j' h1 h2
      exact ⟨k, e, fun k' hk' => up (z k' hk')⟩
    · rename_i c
      rw [if_neg c] at h2
      split at h1
      · rename_i d
        rw [if_pos d] at h2
        cases h1
        cases h2
        exact ⟨K, hj, fun k' hk' => up (hb k' hk')⟩
      · rename_i d
        rw [if_neg d] at h2
        obtain ⟨k, e, z⟩ := T.reach (i - 1) h' j' h1 h2
        exact ⟨k, e, fun k' hk' => up (z k' hk')⟩
theorem free_find' {m : Nat} (hm : Full m) (owner : Array (Option Nat)) (h : Int) {j : Nat} (hj : j ≤ m) (hf : oAt owner j = none) :
    ∃ K, SetTable.layClean.free m owner (SetTable.turns m) (SetTable.bits h % (m + 1)) (SetTable.bits h) = some (way m h K) ∧ oAt owner (way m h K) = none ∧ ∀ k, k < K → oAt owner (way m h k) ≠ none := by
  obtain ⟨n, hn, e⟩ := run_meets' hm h hj
  obtain ⟨o, ho⟩ : ∃ o, o = off m (SetTable.bits h % (m + 1)) (SetTable.bits h) n := ⟨_, rfl⟩
  have hw : way m h o = j := by
    show (nth m _ o).j = j
    rw [ho, nth_off, itL_run]
    exact e
  obtain ⟨K, k1, k2, k3⟩ := st_least (p := fun k => oAt owner (way m h k) = none) o (by rw [hw]; exact hf)
  refine ⟨K, ?_, k2, k3⟩
  refine free_spec m owner (SetTable.turns m) n _ _ K (by unfold SetTable.turns; omega) (by rw [← ho]; exact k1) (fun k hk => ?_) ?_
  · cases z : oAt owner (nth m (runAt m (SetTable.bits h % (m + 1)) (SetTable.bits h)) k).j with
    | none => exact absurd z (k3 k hk)
    | some _ => rfl
  · rw [show oAt owner (nth m (runAt m (SetTable.bits h % (m + 1)) (SetTable.bits h)) K).j = none from k2] <;> rfl
theorem own_step {m : Nat} (hm : Full m) {done : List Int} {owner : Array (Option Nat)} (W : L2.Own m done owner) (hl : done.length ≤ m) (h : Int) :
    ∃ j, SetTable.layClean.free m owner (SetTable.turns m) (SetTable.bits h % (m + 1)) (SetTable.bits h) = some j ∧ L2.Own m (done ++ [h]) (owner.setIfInBounds j (some done.length)) := by
  obtain ⟨ps, hps, hin⟩ := W.ps
  obtain ⟨j0, h0, hn0⟩ := st_missing ps (m + 1) (by omega)
  have hj0 : oAt owner j0 = none := Classical.byContradiction fun z => hn0 (hin j0 (Nat.le_of_lt_succ h0) z)
  obtain ⟨K, e1, e2, e3⟩ := free_find' hm owner h (Nat.le_of_lt_succ h0) hj0
  obtain ⟨j, hj⟩ : ∃ j, j = way m h K := ⟨_, rfl⟩
  have hjm : j ≤ m := by rw [hj]; exact way_le'
  have hjs : j < owner.size := by rw [W.sz]; omega
  rw [← hj] at e1 e2
  refine ⟨j, e1, ?_⟩
  have hself := oAt_set_self (some done.length) hjs
  have mono : ∀ {i : Nat}, oAt owner i ≠ none → oAt (owner.setIfInBounds j (some done.length)) i ≠ none := fun {i} hi => by
    by_cases c : i = j
    · rw [c, hself]
      exact fun e => nomatch e
    · rw [oAt_set_ne _ c]
      exact hi
  refine ⟨by rw [Array.size_setIfInBounds]; exact W.sz, fun i k hi e => ?_, fun k hk => ?_, ⟨j :: ps, by rw [List.length_cons, List.length_append, hps] <;> rfl, fun i hi e => ?_⟩⟩
  · by_cases c : i = j
    · rw [c, hself] at e
      have ek : done.length = k := Option.some.inj e
      refine ⟨h, K, ?_, by rw [c, hj], fun k' hk' => mono (e3 k' hk')⟩
      rw [← ek, List.getElem?_append_right (Nat.le_refl _), Nat.sub_self] <;> rfl
    · rw [oAt_set_ne _ c] at e
      obtain ⟨h', K', a1, a2, a3⟩ := W.at_ i k hi e
      refine ⟨h', K', ?_, a2, fun k' hk' => mono (a3 k' hk')⟩
      rw [List.getElem?_append_left (List.getElem?_eq_some_iff.mp a1).1]
      exact a1
  · rw [List.length_append, List.length_singleton] at hk
    by_cases c : k < done.length
    · obtain ⟨i, hi, e⟩ := W.all k c
      refine ⟨i, hi, ?_⟩
      rw [oAt_set_ne _ (fun z => by rw [z, e2] at e; cases e)]
      exact e
    · exact ⟨j, hjm, by rw [hself, show k = done.length by omega]⟩
  · by_cases c : i = j
    · rw [c]
      exact List.mem_cons_self
    · rw [oAt_set_ne _ c] at e
      exact List.mem_cons_of_mem _ (hin i hi e)
theorem fold_ok' {m : Nat} (hm : Full m) : ∀ (rest done : List Int) (owner : Array (Option Nat)), L2.Own m done owner → done.length + rest.length ≤ m →
    ∃ owner', rest.foldl (stepF m) (some (owner, done.length)) = some (owner', (done ++ rest).length) ∧ L2.Own m (done ++ rest) owner'
  | [], done, owner, W, _ => ⟨owner, by rw [List.append_nil] <;> rfl, by rw [List.append_nil]; exact W⟩
  | h :: rest, done, owner, W, hl => by
    rw [List.length_cons] at hl
    obtain ⟨j, e, W'⟩ := own_step hm W (by omega) h
    have hl' : (done ++ [h]).length = done.length + 1 := by rw [List.length_append] <;> rfl
    obtain ⟨owner', f, W2⟩ := fold_ok' hm rest (done ++ [h]) _ W' (by rw [hl']; omega)
    have ea : done ++ [h] ++ rest = done ++ h :: rest := by rw [List.append_assoc] <;> rfl
    rw [ea, hl'] at f
    rw [ea] at W2
    exact ⟨owner', by rw [List.foldl_cons, stepF_some e]; exact f, W2⟩
theorem layClean_ok' {m : Nat} (hm : Full m) {hs : Array Int} (hn : hs.size ≤ m) : ∃ owner, SetTable.layClean m hs = some owner ∧ L2.Own m hs.toList owner := by
  obtain ⟨owner, f, W⟩ := fold_ok' hm hs.toList [] _ (Own.init m) (by rw [Array.length_toList]; show 0 + hs.size ≤ m; omega)
  rw [List.nil_append] at W
  refine ⟨owner, ?_, W⟩
  rw [layClean_eq]
  have f' : hs.toList.foldl (stepF m) (some (Array.replicate (m + 1) none, 0)) = some (owner, ([] ++ hs.toList).length) := f
  rw [f'] <;> rfl
theorem relaid_ok' (t : SetTable) {hs : Array Int} {wanted M : Nat} (hw : SetTable.sizeAbove wanted - 1 = M) (hM : Full M) (hn : hs.size ≤ M) :
    ∃ t' order, t.relaid hs wanted = some (t', order) ∧ order.toList.Perm (List.range hs.size) ∧ Tab t' (order.toList.map fun i => hs.getD i 0) ∧ t'.mask = M ∧ t'.led = t.led ∧ t'.plain = t.plain := by
  obtain ⟨owner, e, W⟩ := layClean_ok' hM hn
  have hr : t.relaid hs wanted = some (tabOf t M owner, ((liveOf M owner).map (·.2)).toArray) := by
    rw [relaid_eq, hw, e] <;> rfl
  obtain ⟨r1, r2⟩ := ris_live (fun j => owner.getD j none) (List.range (M + 1)) (by
    unfold Ris
    exact List.pairwise_lt_range)
  have r1 : Ris ((liveOf M owner).map (·.1)) := r1
  have r2 : ∀ x ∈ (liveOf M owner).map (·.1), x ∈ List.range (M + 1) := r2
  have nd : ((liveOf M owner).map (·.1)).Nodup := List.Pairwise.imp (fun h => Nat.ne_of_lt h) r1
  have cov : ∀ k, k < hs.size → k ∈ (liveOf M owner).map (·.2) := fun k hk => by
    obtain ⟨j, b1, b2⟩ := W.all k (by rw [Array.length_toList]; exact hk)
    exact List.mem_map.mpr ⟨(j, k), (mem_live W.sz).2 ⟨b1, b2⟩, rfl⟩
  have hlen : (liveOf M owner).length = hs.size := by
    obtain ⟨ps, p1, p2⟩ := W.ps
    have a := nat_nodup_len ((liveOf M owner).map (·.1)) ps nd fun x hx => by
      obtain ⟨⟨y, k⟩, hq, eq1⟩ := List.mem_map.mp hx
      obtain rfl : y = x := eq1
      obtain ⟨b1, b2⟩ := (mem_live W.sz).1 hq
      exact p2 y b1 (by rw [b2]; exact fun z => nomatch z)
    have b := nat_nodup_len (List.range hs.size) ((liveOf M owner).map (·.2)) List.nodup_range fun k hk => cov k (List.mem_range.mp hk)
    rw [List.length_map, p1] at a
    rw [List.length_map, List.length_range] at b
    have hz : hs.toList.length = hs.size := rfl
    omega
  refine ⟨tabOf t M owner, ((liveOf M owner).map (·.2)).toArray, hr, ?_, ⟨r1, rfl, ?_, hM, fun x hx => ?_, fun i h j h1 h2 => ?_⟩, rfl, rfl, rfl⟩
  · refine perm_range hs.size _ ?_ cov
    show ((liveOf M owner).map (·.2)).length = hs.size
    rw [List.length_map]
    exact hlen
  · show ((liveOf M owner).map (·.1)).toArray.size = (((liveOf M owner).map (·.2)).map fun i => hs.getD i 0).length
    rw [List.size_toArray, List.length_map, List.length_map, List.length_map]
  · exact Nat.le_of_lt_succ (List.mem_range.mp (r2 x hx))
  · have h1' : (((liveOf M owner).map (·.2)).map fun i => hs.getD i 0)[i]? = some h := h1
    have h2' : ((liveOf M owner).map (·.1))[i]? = some j := h2
    rw [List.getElem?_map, List.getElem?_map] at h1'
    rw [List.getElem?_map] at h2'
    cases hq : (liveOf M owner)[i]? with
    | none =>
      rw [hq] at h2'
      cases h2'
    | some q =>
      obtain ⟨y, k⟩ := q
      rw [hq] at h1' h2'
      obtain rfl : y = j := Option.some.inj h2'
      have eh : hs.getD k 0 = h := Option.some.inj h1'
      obtain ⟨b1, b2⟩ := (mem_live W.sz).1 (List.mem_of_getElem? hq)
      obtain ⟨h0, K, a1, a2, a3⟩ := W.at_ y k b1 b2
      have e0 : hs.getD k 0 = h0 := by
        rw [Array.getD_eq_getD_getElem?, ← Array.getElem?_toList, a1] <;> rfl
      obtain rfl : h0 = h := e0.symm.trans eh
      refine ⟨K, a2, fun k' hk' => ?_⟩
      show way M h0 k' ∈ (liveOf M owner).map (·.1)
      cases z : oAt owner (way M h0 k') with
      | none => exact absurd z (a3 k' hk')
      | some k2 => exact List.mem_map.mpr ⟨(way M h0 k', k2), (mem_live W.sz).2 ⟨way_le', z⟩, rfl⟩
/-- how a table of mask m grows -/
theorem grow_cases {m n : Nat} (hm : m = 7 ∨ m = 31 ∨ m = 127 ∨ m = 511 ∨ m = 2047) (h1 : n * 5 < m * 3) (h2 : (n + 1) * 5 ≥ m * 3) (h3 : n + 1 < 1000) :
    ∃ M, SetTable.sizeAbove (SetTable.grown (n + 1)) - 1 = M ∧ (M = 31 ∨ M = 127 ∨ M = 511 ∨ M = 2047) ∧ SetTable.sizeAbove (SetTable.grown (n + 1)) ≤ 2048 ∧ (n + 1) * 5 < M * 3 ∧ n + 1 ≤ M := by
  rcases hm with e | e | e | e | e
  · obtain rfl : n = 4 := by omega
    exact ⟨31, by decide +kernel, by decide, by decide +kernel, by decide, by decide⟩
  · obtain rfl : n = 18 := by omega
    exact ⟨127, by decide +kernel, by decide, by decide +kernel, by decide, by decide⟩
  · obtain rfl : n = 76 := by omega
    exact ⟨511, by decide +kernel, by decide, by decide +kernel, by decide, by decide⟩
  · obtain rfl : n = 306 := by omega
    exact ⟨2047, by decide +kernel, by decide, by decide +kernel, by decide, by decide⟩
  · omega
end Mi
/-! Sets of nested tuples of whole numbers: search, adding, set(xs). -/
namespace Mi
open PySem PySem.Spec PyProof.Rows L2

mutual
/-- no text in it -/
def plainK : NestedKey → Bool
  | .none => true
  | .num _ => true
  | .text _ => false
  | .tup ks => plainKs ks
def plainKs : List NestedKey → Bool
  | [] => true
  | k :: ks => plainK k && plainKs ks
end
section
variable {P : Program} {w : World} {A : Around} {E : Value → Shared → Prop} {s : Shared}
/-- a question about a value that answers b and changes nothing -/
def Asks (P : Program) (w : World) (m : Sem Bool) (b : Bool) (s : Shared) : Prop := ∀ (A : Around) (E : Value → Shared → Prop) (Q : Bool → Shared → Prop), Q b s → wpAny (model P w) A m Q E s
theorem Asks.pure (b : Bool) : Asks P w (Pure.pure b) b s := fun A E Q h => wpAny_pure h
mutual
theorem ac_key : ∀ (k : NestedKey) (v : Value) (n : Nat), NestedIs s.heap k v → k.depth ≤ n → Asks P w (ofAClassStatement n v) false s
  | .none, _, n, x, _ => by cases x; cases n <;> exact Asks.pure _
  | .num i, _, n, x, _ => by cases x <;> cases n <;> exact Asks.pure _
  | .text y, _, n, x, _ => by cases x; cases n <;> exact Asks.pure _
  | .tup ks, _, n, x, hn => by
    cases x with
    | @tup a o vs m _ ho hc hd hk =>
      simp only [NestedKey.depth] at hn
      cases n with
      | zero => omega
      | succ n =>
        have hT : s.TypeIs (.ref a) "tuple" := ⟨o, ho, hc⟩
        have all := ac_keys ks vs.toList n hk (by omega)
        intro A E Q h
        unfold ofAClassStatement
        refine wpAny_bind (wpAny_typeOf hT ?_)
        dsimp only
        have e : (("tuple" : String) == "tuple") = true := by decide
        simp only [e, if_true, Bool.not_true, Bool.false_eq_true, if_false]
        try refine wpAny_bind (wpAny_pure ?_)
        try simp only [Bool.not_true, Bool.false_eq_true, if_false]
        show wpAny _ _ (seqItems? (.ref a) >>= _) _ _ s
        refine wpAny_bind (wpAny_seqItems ho hd ?_)
        dsimp only
        refine wpAny_bind ?_
        show wpAny _ _ (forIn vs _ _) _ _ s
        rw [← Array.forIn_toList]
        refine wpAny_forIn_list _ (fun rest r s' => r.1 = none ∧ s' = s ∧ ∀ v ∈ rest, Asks P w (ofAClassStatement n v) false s) _ ?_ ?_ _ _ ⟨rfl, rfl, all⟩
        · rintro v rest r s' ⟨hr, rfl, hall⟩
          refine wpAny_bind (hall v List.mem_cons_self _ _ _ ?_)
          simp only [Bool.false_eq_true, if_false]
          exact wpAny_pure ⟨rfl, rfl, fun u hu' => hall u (List.mem_cons_of_mem _ hu')⟩
        · rintro ⟨r1, r2⟩ s' ⟨hr, rfl, _⟩
          simp only at hr
          subst hr
          exact wpAny_pure h
theorem ac_keys : ∀ (ks : List NestedKey) (vs : List Value) (n : Nat), NestedAll s.heap ks vs → NestedKey.depthAll ks ≤ n → ∀ v ∈ vs, Asks P w (ofAClassStatement n v) false s
  | [], _, n, x, _, v, hv => by cases x; cases hv
  | k :: ks, _, n, x, hn, v, hv => by
    cases x with
    | cons x1 x2 =>
      simp only [NestedKey.depthAll] at hn
      rcases List.mem_cons.mp hv with e | hv
      · rw [e]; exact ac_key k _ n x1 (by omega)
      · exact ac_keys ks _ n x2 (by omega) v hv
end
mutual
theorem hb_key : ∀ (k : NestedKey) (v : Value) (n : Nat), NestedIs s.heap k v → k.depth ≤ n → plainK k = true → Asks P w (hashByValue n v) true s
  | .none, _, n, x, _, _ => by cases x; cases n <;> exact Asks.pure _
  | .num i, _, n, x, _, _ => by cases x <;> cases n <;> exact Asks.pure _
  | .text y, _, n, x, _, hp => by cases hp
  | .tup ks, _, n, x, hn, hp => by
    cases x with
    | @tup a o vs m _ ho hc hd hk =>
      simp only [NestedKey.depth] at hn
      cases n with
      | zero => omega
      | succ n =>
        have hT : s.TypeIs (.ref a) "tuple" := ⟨o, ho, hc⟩
        have all := hb_keys ks vs.toList n hk (by omega) hp
        intro A E Q h
        unfold hashByValue
        refine wpAny_bind (wpAny_specialOf hT F.slot_tuple_hash.lookup ?_)
        show wpAny _ _ (seqItems? (.ref a) >>= _) _ _ s
        refine wpAny_bind (wpAny_seqItems ho hd ?_)
        refine wpAny_bind ?_
        show wpAny _ _ (forIn vs _ _) _ _ s
        rw [← Array.forIn_toList]
        refine wpAny_forIn_list _ (fun rest r s' => r.1 = none ∧ s' = s ∧ ∀ v ∈ rest, Asks P w (hashByValue n v) true s) _ ?_ ?_ _ _ ⟨rfl, rfl, all⟩
        · rintro v rest r s' ⟨hr, rfl, hall⟩
          refine wpAny_bind (hall v List.mem_cons_self _ _ _ ?_)
          simp only [Bool.not_true, Bool.false_eq_true, if_false]
          exact wpAny_pure ⟨rfl, rfl, fun u hu' => hall u (List.mem_cons_of_mem _ hu')⟩
        · rintro ⟨r1, r2⟩ s' ⟨hr, rfl, _⟩
          simp only at hr
          subst hr
          exact wpAny_pure h
theorem hb_keys : ∀ (ks : List NestedKey) (vs : List Value) (n : Nat), NestedAll s.heap ks vs → NestedKey.depthAll ks ≤ n → plainKs ks = true → ∀ v ∈ vs, Asks P w (hashByValue n v) true s
  | [], _, n, x, _, _, v, hv => by cases x; cases hv
  | k :: ks, _, n, x, hn, hp, v, hv => by
    cases x with
    | cons x1 x2 =>
      simp only [NestedKey.depthAll] at hn
      simp only [plainKs, Bool.and_eq_true] at hp
      rcases List.mem_cons.mp hv with e | hv
      · rw [e]; exact hb_key k _ n x1 (by omega) hp.1
      · exact hb_keys ks _ n x2 (by omega) hp.2 v hv
end
/-- the key stands at the address -/
structure KeyAt (h : Heap) (k : NestedKey) (a : Addr) : Prop where
  is : NestedIs h k (.ref a)
  dep : k.depth ≤ 8
  pl : plainK k = true
theorem KeyAt.inj {h : Heap} {k k' : NestedKey} {a : Addr} (x : KeyAt h k a) (y : KeyAt h k' a) : k = k' := NestedIs.inj _ _ _ x.is y.is
theorem KeyAt.keep {h h' : Heap} {k : NestedKey} {b : Addr} (x : KeyAt h k b) (hk : ∀ c o, h.get? c = some o → h'.get? c = some o) : KeyAt h' k b :=
  ⟨NestedIs.at (fun a o _ _ e _ => hk a o e) _ _ x.is, x.dep, x.pl⟩
theorem KeyAt.same {h h' : Heap} {k : NestedKey} {a b : Addr} {o : Obj} {es : Array (Int × Value)} {ep : Nat} {t : SetTable} (x : KeyAt h k b) (ho : h.get? a = some o) (hd : o.data = .set es ep t) (hs : Heap.SameBut a h h') : KeyAt h' k b :=
  ⟨NestedIs.at (fun c u vs n e hc => by
    refine (hs.2 c fun z => ?_).trans e
    subst z
    rw [ho] at e
    cases e
    rw [hd] at hc
    cases hc) _ _ x.is, x.dep, x.pl⟩
/-- a search among keys shows nothing -/
theorem seen_key {k : NestedKey} {b : Addr} {Q : Bool → Shared → Prop} (hk : KeyAt s.heap k b) {ys : List Value} (hy : ∀ y ∈ ys, ∃ k' c, y = Value.ref c ∧ KeyAt s.heap k' c) (h : Q false s) :
    wpAny (model P w) A (searchCouldBeSeen (.ref b) ys) Q E s := by
  unfold searchCouldBeSeen
  refine wpAny_bind ?_
  refine wpAny_forIn_list _ (fun rest r s' => r.1 = none ∧ s' = s ∧ ∀ y ∈ rest, ∃ k' c, y = Value.ref c ∧ KeyAt s.heap k' c) _ ?_ ?_ _ _ ⟨rfl, rfl, hy⟩
  · rintro v rest r s' ⟨hr, rfl, hall⟩
    obtain ⟨k', c, rfl, hc⟩ := hall v List.mem_cons_self
    have rest' : ∀ y ∈ rest, ∃ k' c, y = Value.ref c ∧ KeyAt s'.heap k' c := fun u hu' => hall u (List.mem_cons_of_mem _ hu')
    dsimp only
    by_cases hv : (b == c || (carriedByValue (.ref b) && carriedByValue (.ref c))) = true
    · refine wp_if_pos hv ?_
      exact wpAny_pure ⟨rfl, rfl, rest'⟩
    · refine wp_if_neg hv ?_
      refine wpAny_bind (quiet_key _ _ 8 s' hk.is hk.dep _ _ _ ?_)
      simp only [Bool.not_true, Bool.false_eq_true, if_false]
      refine wpAny_bind (quiet_key _ _ 8 s' hc.is hc.dep _ _ _ ?_)
      simp only [Bool.not_true, Bool.false_eq_true, if_false]
      refine wpAny_bind (ac_key _ _ 8 hk.is hk.dep _ _ _ ?_)
      simp only [Bool.false_eq_true, if_false]
      refine wpAny_bind (ac_key _ _ 8 hc.is hc.dep _ _ _ ?_)
      simp only [Bool.false_eq_true, if_false]
      exact wpAny_pure ⟨rfl, rfl, rest'⟩
  · rintro ⟨r1, r2⟩ s' ⟨hr, rfl, _⟩
    simp only at hr
    subst hr
    exact wpAny_pure h

/-! ### the set -/
abbrev Row := Addr × NestedKey
def rowsK (w : World) (L : List Row) : List (Int × Value) := L.map fun p => (p.2.hash w, Value.ref p.1)
structure SetK (w : World) (h : Heap) (a : Addr) (L : List Row) (es : Array (Int × Value)) (ep : Nat) (t : SetTable) : Prop where
  ob : ∃ o, h.get? a = some o ∧ o.ExactSet ∧ o.data = .set es ep t
  rows : es.toList = rowsK w L
  tab : Tab t (L.map fun p => p.2.hash w)
  mask : t.mask = 7 ∨ t.mask = 31 ∨ t.mask = 127 ∨ t.mask = 511 ∨ t.mask = 2047
  nd : (L.map (·.2)).Nodup
  keys : ∀ p ∈ L, KeyAt h p.2 p.1
  plain : t.plain = true
  led : w.params.followText "set-order" = true ∨ t.led = true
  room : L.length * 5 < t.mask * 3
  few : L.length < 1000
variable {a : Addr} {L : List Row} {es : Array (Int × Value)} {ep : Nat} {t : SetTable}
theorem rows_size (h : es.toList = rowsK w L) : es.size = L.length := by
  have := congrArg List.length h
  unfold rowsK at this
  rw [Array.length_toList, List.length_map] at this
  exact this
theorem SetK.fits (R : SetK w s.heap a L es ep t) : t.fits es.size = true := by
  have h1 := R.tab.sz
  rw [List.length_map] at h1
  have h2 := rows_size R.rows
  have h3 := R.room
  unfold SetTable.fits SetTable.fill
  rw [R.tab.dm, Bool.and_eq_true, beq_iff_eq, decide_eq_true_eq]
  show t.place.size = es.size ∧ t.place.size + 0 ≤ t.mask
  omega
theorem SetK.entry (R : SetK w s.heap a L es ep t) {i : Nat} {p : Row} (h : L[i]? = some p) : es[i]? = some (p.2.hash w, Value.ref p.1) := by
  rw [← Array.getElem?_toList, R.rows]
  unfold rowsK
  rw [List.getElem?_map, h] <;> rfl
theorem SetK.gw (R : SetK w s.heap a L es ep t) : ¬ t.gaveWay = true := by
  unfold SetTable.gaveWay
  rw [R.tab.full.odd]
  decide
/-- the way's start -/
abbrev w0 (m : Nat) (h : Int) : SetTable.Probe := runAt m (SetTable.bits h % (m + 1)) (SetTable.bits h)
theorem nth_dummy (m : Nat) : ∀ (n : Nat) (p : SetTable.Probe), p.dummy = none → (nth m p n).dummy = none
  | 0, _, h => h
  | n + 1, p, h => nth_dummy m n (adv m p) (by unfold adv; split <;> exact h)

/-- the search, from the c-th step of the way on -/
theorem searchK (R : SetK w s.heap a L es ep t) {x : Addr} {k : NestedKey} (hx : KeyAt s.heap k x) (hu : A.units + 8 < cLine) {K : Nat} (hKf : K < 10 * SetTable.turns t.mask)
    (hK : way t.mask (k.hash w) K ∉ t.place.toList) (hKb : ∀ c, c < K → way t.mask (k.hash w) c ∈ t.place.toList) {Q : SetFound → Shared → Prop}
    (hin : k ∈ L.map (·.2) → Q (.there none) s) (hout : k ∉ L.map (·.2) → Q (.free (way t.mask (k.hash w) K) false) s) :
    ∀ (f c : Nat) (stand : Option SetTable.Probe), stand.getD (t.probeStart (k.hash w)) = nth t.mask (w0 t.mask (k.hash w)) c → c ≤ K → K - c < f →
      (∀ (i : Nat) p, L[i]? = some p → p.2 = k → ∃ c', c ≤ c' ∧ c' < K ∧ t.place.toList[i]? = some (way t.mask (k.hash w) c')) →
      wpAny (model P w) A (setSearchFrom a (.ref x) (k.hash w) true f stand) Q E s
  | 0, c, stand, _, _, hf, _ => absurd hf (Nat.not_lt_zero _)
  | f + 1, c, stand, hst, hc, hf, hre => by
    obtain ⟨o, ho, hex, hd⟩ := R.ob
    rw [setSearchFrom_succ]
    refine wpAny_bind (wpAny_setState_of ho hd R.fits ?_)
    dsimp only
    refine wp_if_neg R.gw ?_
    try refine wpAny_bind (wpAny_pure ?_)
    have sh : ∀ q, nth t.mask (nth t.mask (w0 t.mask (k.hash w)) c) q = nth t.mask (w0 t.mask (k.hash w)) (c + q) := fun q => (nth_add t.mask c _ q).symm
    have e1 : ∀ q, (nth t.mask (nth t.mask (w0 t.mask (k.hash w)) c) q).j = way t.mask (k.hash w) (c + q) := fun q => congrArg SetTable.Probe.j (sh q)
    have eK : c + (K - c) = K := by omega
    have spec := go_spec t R.tab.ris R.tab.dm (fun i => (es[i]?.map (·.1)).getD 0) (k.hash w) (10 * SetTable.turns t.mask) (K - c) _ (nth_dummy t.mask c _ rfl) (by omega)
      (fun q hq => by rw [e1]; exact hKb (c + q) (by omega)) (by rw [e1, eK]; exact hK)
    have hashAt : ∀ (i : Nat) (p : Row), L[i]? = some p → (fun i => (es[i]?.map (·.1)).getD 0) i = p.2.hash w := fun i p hp => by
      show (es[i]?.map (·.1)).getD 0 = _
      rw [R.entry hp] <;> rfl
    -- one with this key is not passed
    have notPassed : ∀ (q : Nat), (∀ (k' i' : Nat), k' < q → t.place.toList[i']? = some (nth t.mask (nth t.mask (w0 t.mask (k.hash w)) c) k').j → (es[i']?.map (·.1)).getD 0 ≠ k.hash w) →
        ∀ (i0 : Nat) (p0 : Row) (c' : Nat), L[i0]? = some p0 → p0.2 = k → c ≤ c' → t.place.toList[i0]? = some (way t.mask (k.hash w) c') → c + q ≤ c' := fun q hno i0 p0 c' h0 hk0 a1 a3 => by
      refine Classical.byContradiction fun z => ?_
      refine hno (c' - c) i0 (by omega) (by rw [e1, show c + (c' - c) = c' by omega]; exact a3) ?_
      exact (hashAt i0 p0 h0).trans (congrArg (NestedKey.hash w) hk0)
    rcases spec with ⟨q, i, hq, hi, hh, hno, hpr⟩ | ⟨hno, hpr⟩
    · have hpr' : t.probe (fun i => (es[i]?.map (·.1)).getD 0) (k.hash w) (stand.getD (t.probeStart (k.hash w))) = some (.candidate (way t.mask (k.hash w) (c + q)) i (nth t.mask (w0 t.mask (k.hash w)) (c + (q + 1)))) := by
        rw [hst, ← e1, ← sh]
        exact hpr
      rw [hpr']
      dsimp only
      rw [e1] at hi
      have hil : i < L.length := by
        have h1 : i < t.place.toList.length := (List.getElem?_eq_some_iff.mp hi).1
        rw [R.tab.len, List.length_map] at h1
        exact h1
      obtain ⟨p, hp⟩ : ∃ p, L[i]? = some p := ⟨_, List.getElem?_eq_getElem hil⟩
      have hmem : p ∈ L := List.mem_of_getElem? hp
      have hpt := R.keys p hmem
      have hsl : t.slot (way t.mask (k.hash w) (c + q)) = .live i := slot_live R.tab.ris hi
      have rest : wpAny (model P w) A (searchRest a (.ref x) (k.hash w) true f es t (way t.mask (k.hash w) (c + q)) i (nth t.mask (w0 t.mask (k.hash w)) (c + (q + 1)))) Q E s := by
        unfold searchRest
        rw [R.entry hp]
        dsimp only
        have ha := hpt.dep
        have hb := hx.dep
        refine wpAny_bind (wpAny_holding (eqAt_key p.2 k A s _ _ hpt.is hx.is (by omega) _ _ _ _ ?_))
        refine wpAny_bind (wpAny_setState_of ho hd R.fits ?_)
        dsimp only
        rw [← NestedKey.decide_eq]
        by_cases hkk : p.2 = k
        · refine wp_if_pos (by simp [hkk]) ?_
          exact wpAny_pure (hin (List.mem_map.mpr ⟨p, hmem, hkk⟩))
        · refine wp_if_neg (by simp [hkk]) ?_
          try refine wpAny_bind (wpAny_pure ?_)
          rw [sameMem]
          dsimp only
          simp only [if_true, hsl, R.entry hp]
          refine wpAny_bind (wpAny_isSame_ref_self (wpAny_bind (wpAny_pure ?_)))
          simp only [if_true]
          refine wp_if_neg (by simp [hkk]) ?_
          refine searchK R hx hu hKf hK hKb hin hout f (c + (q + 1)) _ rfl (by omega) (by omega) fun i0 p0 h0 hk0 => ?_
          obtain ⟨c', a1, a2, a3⟩ := hre i0 p0 h0 hk0
          have a4 := notPassed q hno i0 p0 c' h0 hk0 a1 a3
          refine ⟨c', ?_, a2, a3⟩
          refine Classical.byContradiction fun z => ?_
          have ec : c' = c + q := by omega
          rw [ec] at a3
          have s0 := slot_live R.tab.ris a3
          rw [hsl] at s0
          injection s0 with s0
          rw [← s0, hp] at h0
          exact hkk ((congrArg Prod.snd (Option.some.inj h0)).trans hk0)
      by_cases hl : t.led = true
      · refine wp_if_neg (by simp [hl]) ?_
        try refine wpAny_bind (wpAny_pure ?_)
        exact rest
      · refine wp_if_pos (by simp [hl]) ?_
        refine wpAny_bind (seen_key hx (fun y hy => ?_) ?_)
        · obtain ⟨e, he, ee⟩ := List.mem_map.mp hy
          have he1 : e ∈ es ∧ e.1 = k.hash w := by simpa using he
          have he2 : e ∈ es.toList := by simpa using he1.1
          rw [R.rows] at he2
          obtain ⟨p2, hp2, e2⟩ := List.mem_map.mp he2
          exact ⟨p2.2, p2.1, by rw [← ee, ← e2], R.keys p2 hp2⟩
        · refine wp_if_neg (by decide) ?_
          try refine wpAny_bind (wpAny_pure ?_)
          exact rest
    · have hpr' : t.probe (fun i => (es[i]?.map (·.1)).getD 0) (k.hash w) (stand.getD (t.probeStart (k.hash w))) = some (.empty (way t.mask (k.hash w) K) none) := by
        have e2 : way t.mask (k.hash w) K = (nth t.mask (nth t.mask (w0 t.mask (k.hash w)) c) (K - c)).j := by rw [e1, eK]
        rw [hst, e2]
        exact hpr
      rw [hpr']
      dsimp only
      refine wpAny_pure (hout fun hm => ?_)
      obtain ⟨p0, h0, hk0⟩ := List.mem_map.mp hm
      obtain ⟨i0, hi0, e0⟩ := List.getElem_of_mem h0
      have h00 : L[i0]? = some p0 := by rw [List.getElem?_eq_getElem hi0, e0]
      obtain ⟨c', a1, a2, a3⟩ := hre i0 p0 h00 hk0
      have := notPassed (K - c) hno i0 p0 c' h00 hk0 a1 a3
      omega
/-- as adding asks -/
theorem searchK_at (R : SetK w s.heap a L es ep t) {x : Addr} {k : NestedKey} (hx : KeyAt s.heap k x) (hu : A.units + 8 < cLine) {Q : SetFound → Shared → Prop}
    (hin : k ∈ L.map (·.2) → Q (.there none) s)
    (hout : ∀ K, k ∉ L.map (·.2) → way t.mask (k.hash w) K ∉ t.place.toList → (∀ c, c < K → way t.mask (k.hash w) c ∈ t.place.toList) → Q (.free (way t.mask (k.hash w) K) false) s) :
    wpAny (model P w) A (setSearch a (.ref x) (k.hash w) true) Q E s := by
  have hroom := R.room
  obtain ⟨K, hKf, hK, hKb⟩ := R.tab.first (by rw [List.length_map]; omega) (k.hash w)
  have hbig : K < 100000 := by
    have h1 := R.tab.full.small
    have : 10 * SetTable.turns t.mask ≤ 30000 := by
      unfold SetTable.turns
      omega
    omega
  unfold setSearch
  refine searchK R hx hu hKf hK hKb hin (fun hn => hout K hn hK hKb) 100000 0 none rfl (Nat.zero_le _) (by omega) fun i p hp hk => ?_
  have hi : (L.map fun p => p.2.hash w)[i]? = some (k.hash w) := by rw [List.getElem?_map, hp, ← hk] <;> rfl
  have hil : i < t.place.toList.length := by
    rw [R.tab.len, List.length_map]
    exact (List.getElem?_eq_some_iff.mp hp).1
  have hj := List.getElem?_eq_getElem hil
  obtain ⟨c, hc, e⟩ := R.tab.before hK hi hj
  exact ⟨c, Nat.zero_le _, hc, by rw [hj, e]⟩
end
end Mi
/-! Sets of nested tuples of whole numbers: adding, set(xs), sorted(set(xs)). -/
namespace Mi
open PySem PySem.Spec PyProof.Rows L2
section
variable {P : Program} {w : World} {A : Around} {E : Value → Shared → Prop} {s : Shared}
variable {a : Addr} {L : List Row} {es : Array (Int × Value)} {ep : Nat} {t : SetTable}
theorem rowsK_put (L : List Row) (p : Nat) (r : Row) : rowsK w (L.take p ++ r :: L.drop p) = (rowsK w L).take p ++ (r.2.hash w, Value.ref r.1) :: (rowsK w L).drop p := by
  unfold rowsK
  rw [List.map_append, List.map_cons, List.map_take, List.map_drop]
theorem picks_all {α : Type} (L : List α) : (List.range L.length).filterMap (fun i => L[i]?) = L := List.filterMap_getElem?_range_length L
/-- the rows in a new order -/
theorem order_rowsK (L : List Row) (es : Array (Int × Value)) (order : Array Nat) (hr : es.toList = rowsK w L) (hp : order.toList.Perm (List.range L.length)) :
    ∃ L2, (order.filterMap (es[·]?)).toList = rowsK w L2 ∧ L2.Perm L ∧ (L2.map fun p => p.2.hash w) = order.toList.map fun i => (es.map (·.1)).getD i 0 := by
  have ent : ∀ i (h : i < L.length), es[i]? = some ((L[i]).2.hash w, Value.ref (L[i]).1) := fun i h => by
    rw [← Array.getElem?_toList, hr]
    unfold rowsK
    rw [List.getElem?_map, List.getElem?_eq_getElem h] <;> rfl
  have hsz := rows_size hr
  have key : ∀ l : List Nat, (∀ i ∈ l, i < L.length) → (l.filterMap (fun i => es[i]?) = rowsK w (l.filterMap (fun i => L[i]?)) ∧ ((l.filterMap (fun i => L[i]?)).map fun p => p.2.hash w) = l.map fun i => (es.map (·.1)).getD i 0) := by
    intro l
    induction l with
    | nil => intro _; exact ⟨rfl, rfl⟩
    | cons i l ih =>
      intro hl
      have hi := hl i List.mem_cons_self
      obtain ⟨e1, e2⟩ := ih fun j hj => hl j (List.mem_cons_of_mem _ hj)
      rw [List.filterMap_cons_some (ent i hi), List.filterMap_cons_some (List.getElem?_eq_getElem hi), e1]
      refine ⟨rfl, ?_⟩
      rw [List.map_cons, List.map_cons, e2]
      have e5 : (es.map (·.1))[i]? = some ((L[i]).2.hash w) := by rw [Array.getElem?_map, ent i hi] <;> rfl
      simp [Array.getD_eq_getD_getElem?, e5]
  obtain ⟨e1, e2⟩ := key order.toList fun i hi => List.mem_range.mp (hp.mem_iff.mp hi)
  refine ⟨_, by first | (rw [Array.toList_filterMap]; exact e1) | simpa using e1, ?_, e2⟩
  have h1 := hp.filterMap (fun i => L[i]?)
  rw [picks_all] at h1
  exact h1
/-- the table laid anew -/
theorem relayK {o : Obj} (ho : s.heap.get? a = some o) (hex : o.ExactSet) (hd : o.data = .set es ep t) (hrows : es.toList = rowsK w L) (hsz : t.place.size = es.size) (hdm : t.dummies = #[]) (hfl : es.size ≤ t.mask)
    (nd : (L.map (·.2)).Nodup) (keys : ∀ p ∈ L, KeyAt s.heap p.2 p.1) (pl : t.plain = true) (ld : w.params.followText "set-order" = true ∨ t.led = true) (few : L.length < 1000) {wanted M : Nat}
    (hw : SetTable.sizeAbove wanted - 1 = M) (hM : M = 31 ∨ M = 127 ∨ M = 511 ∨ M = 2047) (hw2 : SetTable.sizeAbove wanted ≤ 2048) (hn : L.length * 5 < M * 3) (hn2 : L.length ≤ M) {Q : Unit → Shared → Prop}
    (hQ : ∀ h' L' es' ep' t', Heap.SameBut a s.heap h' → SetK w h' a L' es' ep' t' → L'.Perm L → Q () { s with heap := h' }) : wpAny (model P w) A (setRelay a wanted) Q E s := by
  have hsl := rows_size hrows
  have hfits : t.fits es.size = true := by
    unfold SetTable.fits SetTable.fill
    rw [hdm, Bool.and_eq_true, beq_iff_eq, decide_eq_true_eq]
    show t.place.size = es.size ∧ t.place.size + 0 ≤ t.mask
    omega
  have hF : Full M := by rcases hM with e | e | e | e <;> subst e <;> first | exact full31 | exact full127 | exact full511 | exact full2047
  obtain ⟨t', order, e, hp, T, em, el, ep'⟩ := relaid_ok' t (hs := es.map (·.1)) (wanted := wanted) hw hF (by rw [Array.size_map, hsl]; exact hn2)
  rw [Array.size_map, hsl] at hp
  obtain ⟨L2, r1, r2, r3⟩ := order_rowsK L es order hrows hp
  rw [← r3] at T
  have hs2 : (order.filterMap (es[·]?)).size = es.size := by
    rw [rows_size r1, r2.length_eq, hsl]
  rw [setRelay_eq]
  refine wpAny_bind (wpAny_setState_of ho hd hfits ?_)
  dsimp only
  refine wp_if_neg (by rw [sizeLine_eq]; omega) ?_
  try refine wpAny_bind (wpAny_pure ?_)
  rw [e]
  dsimp only
  refine wpAny_bind ?_
  refine wp_if_neg (by rw [hs2]; simp) ?_
  try refine wpAny_bind (wpAny_pure ?_)
  refine wpAny_pure ?_
  dsimp only
  refine wpAny_storeSet_of ho hd ?_ (by rw [hs2, hsl, sizeLine_eq]; omega)
  have sb : Heap.SameBut a s.heap (s.heap.update a (Obj.putSet (order.filterMap (es[·]?)) t')) := Heap.SameBut.update ..
  refine hQ _ L2 (order.filterMap (es[·]?)) (ep + 1) t' sb ?_ r2
  refine ⟨⟨_, store_at ho hd, ⟨hex.1, hex.2.1, hex.2.2⟩, rfl⟩, r1, T, ?_, ?_, fun p hpm => (keys p (r2.mem_iff.mp hpm)).same ho hd sb, by rw [ep']; exact pl, by rw [el]; exact ld, ?_, by rw [r2.length_eq]; exact few⟩
  · rw [em]
    exact .inr hM
  · exact (r2.map (·.2)).nodup_iff.mpr nd
  · rw [r2.length_eq, em]
    exact hn

/-- adding -/
theorem addK (R : SetK w s.heap a L es ep t) {x : Addr} {k : NestedKey} (hx : KeyAt s.heap k x) (hu : A.units + 8 < cLine) (hfew : L.length + 1 < 1000) {Q : Bool → Shared → Prop}
    (hQ : ∀ b h' L' es' ep' t', Heap.SameBut a s.heap h' → SetK w h' a L' es' ep' t' → (k ∈ L.map (·.2) → L' = L) → (k ∉ L.map (·.2) → L'.Perm ((x, k) :: L)) → Q b { s with heap := h' }) :
    wpAny (model P w) A (setAddHashed a (.ref x) (k.hash w)) Q E s := by
  obtain ⟨o, ho, hex, hd⟩ := R.ob
  have hsl := rows_size R.rows
  have hroom := R.room
  unfold setAddHashed
  refine wpAny_holding ?_
  rw [show (100000 : Nat) = 99999 + 1 from rfl, setAddHashedIn_succ]
  refine wpAny_bind (wpAny_setState_of ho hd R.fits ?_)
  dsimp only
  refine wp_if_neg (by simp [byScan, Value.scannable]) ?_
  try refine wpAny_bind (wpAny_pure ?_)
  refine wpAny_bind (searchK_at R hx hu (fun hm => ?_) fun K hm hK hb => ?_)
  · dsimp only
    exact wpAny_pure (hQ false s.heap L es ep t (Heap.SameBut.refl a s.heap) R (fun _ => rfl) fun z => absurd hm z)
  · dsimp only
    refine wpAny_bind (wpAny_setState_of ho hd R.fits ?_)
    dsimp only
    obtain ⟨j, hj⟩ : ∃ j, way t.mask (k.hash w) K = j := ⟨_, rfl⟩
    rw [hj] at hK ⊢
    obtain ⟨q2, q3⟩ := R.tab.put hj hK hb
    have q4 : (t.put j).1.mask = t.mask := rfl
    have q5 : (t.put j).1.led = t.led := rfl
    have hp1 : (t.put j).1.plain = true := R.plain
    have q1 : (t.put j).2 = SetTable.below t.place j := rfl
    generalize hpt : t.put j = pt at q1 q3 q4 q5 hp1 ⊢
    obtain ⟨t1, p⟩ := pt
    dsimp only at q1 q3 q4 q5 hp1 ⊢
    subst q1
    refine wp_if_pos hp1 (wpAny_bind (hb_key k _ 8 hx.is hx.dep hx.pl _ _ _ ?_))
    simp only [if_true]
    have hin : (SetTable.insertAt es (SetTable.below t.place j) (k.hash w, Value.ref x)).toList = rowsK w (L.take (SetTable.below t.place j) ++ (x, k) :: L.drop (SetTable.below t.place j)) := by
      rw [SetTable.toList_insertAt, rowsK_put, R.rows]
    generalize SetTable.below t.place j = p at q2 q3 hin ⊢
    have pm := put_perm L p (x, k)
    have hlen : (L.take p ++ (x, k) :: L.drop p).length = L.length + 1 := pm.length_eq
    have hhs : (L.take p ++ (x, k) :: L.drop p).map (fun p => p.2.hash w) = (L.map fun p => p.2.hash w).take p ++ k.hash w :: (L.map fun p => p.2.hash w).drop p := by
      rw [List.map_append, List.map_cons, List.map_take, List.map_drop]
    rw [← hhs] at q3
    have nd1 : ((L.take p ++ (x, k) :: L.drop p).map (·.2)).Nodup := by
      refine (pm.map (·.2)).nodup_iff.mpr ?_
      rw [List.map_cons]
      exact List.nodup_cons.mpr ⟨hm, R.nd⟩
    have hes := rows_size hin
    rw [hlen] at hes
    generalize SetTable.insertAt es p (k.hash w, Value.ref x) = es1 at hin hes ⊢
    generalize L.take p ++ (x, k) :: L.drop p = L1 at pm hlen q3 nd1 hin
    refine wpAny_bind (wpAny_storeSet_of ho hd ?_ (by rw [hes, sizeLine_eq]; omega))
    have sb : Heap.SameBut a s.heap (s.heap.update a (Obj.putSet es1 t1)) := Heap.SameBut.update ..
    have ho1 := store_at (es' := es1) (t' := t1) ho hd
    generalize s.heap.update a (Obj.putSet es1 t1) = h1 at sb ho1 ⊢
    have keys1 : ∀ p ∈ L1, KeyAt h1 p.2 p.1 := fun p hp => by
      rcases List.mem_cons.mp (pm.mem_iff.mp hp) with e | hp
      · rw [e]; exact hx.same ho hd sb
      · exact (R.keys p hp).same ho hd sb
    have ld1 : w.params.followText "set-order" = true ∨ t1.led = true := by rw [q5]; exact R.led
    have hfill : t1.fill = L.length + 1 := by
      have := q3.sz
      rw [List.length_map, hlen] at this
      unfold SetTable.fill
      rw [this, q3.dm] <;> rfl
    by_cases hf : t1.tooFull = true
    · refine wp_if_pos (by simp [hf]) (wpAny_bind ?_)
      have hfull : (L.length + 1) * 5 ≥ t.mask * 3 := by
        have h := hf
        unfold SetTable.tooFull at h
        rw [decide_eq_true_eq, hfill, q4] at h
        exact h
      rw [hsl]
      have hsz1 : t1.place.size = es1.size := by
        have h := q3.sz
        rw [List.length_map, hlen] at h
        rw [h, hes]
      obtain ⟨M, m1, m2, m3, m4, m5⟩ := grow_cases R.mask hroom hfull hfew
      refine relayK (s := { s with heap := h1 }) ho1 ⟨hex.1, hex.2.1, hex.2.2⟩ rfl hin hsz1 q3.dm (by rw [hes, q4]; omega) nd1 keys1 hp1 ld1 (by rw [hlen]; exact hfew) m1 m2 m3 (by rw [hlen]; exact m4) (by rw [hlen]; exact m5) ?_
      intro h2 L2 es2 ep2 t2 sb2 R2 pm2
      exact wpAny_pure (hQ true h2 L2 es2 ep2 t2 (sb.trans sb2) R2 (fun z => absurd z hm) fun _ => pm2.trans pm)
    · refine wp_if_neg (by simp [hf]) ?_
      refine wpAny_pure (hQ true h1 L1 es1 (ep + 1) t1 sb ⟨⟨_, ho1, ⟨hex.1, hex.2.1, hex.2.2⟩, rfl⟩, hin, q3, by rw [q4]; exact R.mask, nd1, keys1, hp1, ld1, ?_, by rw [hlen]; exact hfew⟩ (fun z => absurd z hm) fun _ => pm)
      have h := hf
      unfold SetTable.tooFull at h
      rw [decide_eq_true_eq, hfill] at h
      rw [hlen]
      omega

theorem SetK.keep {h h' : Heap} (R : SetK w h a L es ep t) (ha : ∀ o, h.get? a = some o → h'.get? a = some o) (ht : ∀ p ∈ L, KeyAt h' p.2 p.1) : SetK w h' a L es ep t := by
  obtain ⟨o, ho, r⟩ := R.ob
  exact ⟨⟨o, ha o ho, r⟩, R.rows, R.tab, R.mask, R.nd, ht, R.plain, R.led, R.room, R.few⟩
/-- a new set -/
theorem setK_fresh {h : Heap} {a : Addr} (ho : h.get? a = some { cls := .type "set", dict := none, data := .set #[] 0 (.fresh 0 0 (!w.params.followText "set-order")) }) : SetK w h a [] #[] 0 (.fresh 0 0 (!w.params.followText "set-order")) where
  ob := ⟨_, ho, ⟨rfl, rfl, rfl⟩, rfl⟩
  rows := rfl
  tab := ⟨List.Pairwise.nil, rfl, rfl, full7, fun x hx => (by cases hx), fun i h j hi => (by simp at hi)⟩
  mask := .inl rfl
  nd := List.nodup_nil
  keys := fun p hp => (by cases hp)
  plain := rfl
  led := by
    show _ ∨ (!w.params.followText "set-order") = true
    cases w.params.followText "set-order"
    · exact .inr rfl
    · exact .inl rfl
  room := by
    show 0 * 5 < 7 * 3
    decide
  few := by
    show 0 < 1000
    decide
/-- what a set has of the first i -/
structure Has (ks : List Row) (i : Nat) (L : List Row) : Prop where
  sub : ∀ p ∈ L, p ∈ ks.take i
  all : ∀ p ∈ ks.take i, p.2 ∈ L.map (·.2)
  len : L.length ≤ i
theorem Has.zero (ks : List Row) : Has ks 0 [] := ⟨fun p h => (by cases h), fun p h => (by simp at h), Nat.le_refl _⟩
theorem Has.next {ks L L' : List Row} {i : Nat} {x : Row} (g : Has ks i L) (h : ks[i]? = some x) (c1 : x.2 ∈ L.map (·.2) → L' = L) (c2 : x.2 ∉ L.map (·.2) → L'.Perm (x :: L)) : Has ks (i + 1) L' := by
  have et : ks.take (i + 1) = ks.take i ++ [x] := by rw [List.take_succ, h] <;> rfl
  by_cases c : x.2 ∈ L.map (·.2)
  · rw [c1 c]
    refine ⟨fun p hp => ?_, fun p hp => ?_, Nat.le_succ_of_le g.len⟩
    · rw [et]
      exact List.mem_append_left _ (g.sub p hp)
    · rw [et] at hp
      rcases List.mem_append.mp hp with z | z
      · exact g.all p z
      · rw [List.mem_singleton.mp z]; exact c
  · have pm := c2 c
    refine ⟨fun p hp => ?_, fun p hp => ?_, by rw [pm.length_eq]; exact Nat.succ_le_succ g.len⟩
    · rw [et]
      rcases List.mem_cons.mp (pm.mem_iff.mp hp) with e | z
      · rw [e]; exact List.mem_append_right _ (List.mem_singleton.mpr rfl)
      · exact List.mem_append_left _ (g.sub p z)
    · rw [(pm.map (·.2)).mem_iff, List.map_cons]
      rw [et] at hp
      rcases List.mem_append.mp hp with z | z
      · exact List.mem_cons_of_mem _ (g.all p z)
      · rw [List.mem_singleton.mp z]; exact List.mem_cons_self
end
end Mi
/-! set(xs) of nested tuples. -/
namespace Mi
open PySem PySem.Spec PyProof.Rows L2
section
variable {P : Program} {w : World} {A : Around} {E : Value → Shared → Prop} {s : Shared}
/-- the loop of set.update -/
theorem set_loopK {I : Addr} {fp wr : List Addr} {G : Array GenState → Array GenState → Prop} {n : Nat} {Pv : Nat → Value → Prop} {St : Nat → Shared → Prop} {R : Result → Shared → Prop}
    (W : WalksS P w A.in1 I fp wr G n Pv St) (S : Addr) (hSf : S ∉ fp) (ks : List Row) (hn : n = ks.length) (hfew : ks.length < 1000) (hval : ∀ i v, Pv i v → ∃ p, ks[i]? = some p ∧ v = .ref p.1)
    (h0 : Heap) (hk : ∀ p ∈ ks, KeyAt h0 p.2 p.1) (hS0 : h0.get? S = none) (hw0 : ∀ b ∈ wr, h0.get? b = none) (hu : A.in1.units + 8 < cLine) :
    ∀ (k i : Nat) (s : Shared), n - i = k → i ≤ n → St i s → (∀ b o, h0.get? b = some o → s.heap.get? b = some o) → (∃ L es ep t, SetK w s.heap S L es ep t ∧ Has ks i L) →
      (∀ s' L es ep t, Moved (S :: wr) G s s' → SetK w s'.heap S L es ep t → Has ks n L → (∀ b o, h0.get? b = some o → s'.heap.get? b = some o) → R (.ok (.ret .none)) s') →
      codeAny (model P w) A (.builtin "set.update.loop" ⟨[.ref S, .ref I], []⟩) R s := by
  have hSw : S ∉ wr := fun h => hSf (W.sub _ h)
  have hsub : ∀ b ∈ wr, b ∈ S :: wr := fun b hb => List.mem_cons_of_mem _ hb
  have keepM : ∀ {s s' : Shared}, Moved wr G s s' → (∀ b o, h0.get? b = some o → s.heap.get? b = some o) → ∀ b o, h0.get? b = some o → s'.heap.get? b = some o := fun hm hkp b o e =>
    hm.heap b o (fun hb => by rw [hw0 b hb] at e; cases e) (hkp b o e)
  have inks : ∀ {i : Nat} {L : List Row}, Has ks i L → ∀ p ∈ L, p ∈ ks := fun g p hp => List.mem_of_mem_take (g.sub p hp)
  intro k
  induction k with
  | zero =>
    intro i s hk' hi hst hkp ⟨L, es, ep, t, hS, g⟩ hR
    obtain rfl : i = n := by omega
    refine codeAny_builtin F.entry_set_update_loop ?_
    rw [Around.under_plainId F.plain_set_update_loop _]
    show wpAny _ A.in1 (pyNext (.ref I) >>= _) _ _ s
    refine wpAny_bind (W.done s _ _ hst fun s' hm => ?_)
    show wpAny _ A.in1 (ret Value.none) _ _ s'
    have hkp' := keepM hm hkp
    exact wpAny_pure (hR s' L es ep t (hm.mono hsub) (hS.keep (fun o e => hm.heap S o hSw e) fun p hp => (hk p (inks g p hp)).keep hkp') g hkp')
  | succ k ih =>
    intro i s hk' hi hst hkp ⟨L, es, ep, t, hS, g⟩ hR
    have hlt : i < n := by omega
    refine codeAny_builtin F.entry_set_update_loop ?_
    rw [Around.under_plainId F.plain_set_update_loop _]
    show wpAny _ A.in1 (pyNext (.ref I) >>= _) _ _ s
    refine wpAny_bind (W.item i s _ _ hlt hst fun v s' hP hst' hm => ?_)
    obtain ⟨p, hp, rfl⟩ := hval i v hP
    have hkp' := keepM hm hkp
    have hS' : SetK w s'.heap S L es ep t := hS.keep (fun o e => hm.heap S o hSw e) fun q hq => (hk q (inks g q hq)).keep hkp'
    have hx : KeyAt s'.heap p.2 p.1 := (hk p (List.mem_of_getElem? hp)).keep hkp'
    show wpAny _ A.in1 (holding [Value.ref p.1] (setAdd S (.ref p.1)) >>= _) _ _ s'
    refine wpAny_bind (wpAny_holding ?_)
    unfold setAdd
    refine wpAny_holding ?_
    have hdep := hx.dep
    refine wpAny_bind (pyHash_key _ _ _ _ _ hx.is (by omega) ?_)
    refine addK (s := { s' with toks := s'.toks + p.2.draws }) hS' hx hu (by have := g.len; omega) fun b h' L' es' ep' t' hsb hS2 c1 c2 => ?_
    have hkp2 : ∀ b o, h0.get? b = some o → h'.get? b = some o := fun b o e => (hsb.2 b (fun z => by rw [z, hS0] at e; cases e)).trans (hkp' b o e)
    refine wpAny_pure ⟨plainId_quiet F.plain_set_update_loop _, ih (i + 1) _ (by omega) hlt (W.frame _ s' _ _ hst' (Nat.le_add_right _ _) fun b hb o e => ?_) hkp2 ⟨L', es', ep', t', hS2, g.next hp c1 c2⟩ fun s'' L2 es2 ep2 t2 hm'' hS'' g'' hkp'' => ?_⟩
    · rw [hsb.2 b (fun h : b = S => hSf (by rw [← h]; exact hb))]; exact e
    · refine hR s'' L2 es2 ep2 t2 (Moved.trans W.gtrans ((hm.mono hsub).then_heap (Nat.le_add_right _ _) fun b o hb e => ?_) hm'') hS'' g'' hkp''
      rw [hsb.2 b (fun h : b = S => hb (by rw [h]; exact List.mem_cons_self))]; exact e

/-- set(xs) -/
theorem call_setK {l : Addr} {items : Array Value} (ks : List Row) {Q : Value → Shared → Prop} (hh : A.handled = none) (hl : s.heap.IsList l items) (hit : items.toList = ks.map fun p => Value.ref p.1)
    (hk : ∀ p ∈ ks, KeyAt s.heap p.2 p.1) (hfew : ks.length < 1000) (hu : A.units + 16 < cLine)
    (h : ∀ (h' : Heap) (tk : Nat) L es ep t, SetK w h' s.heap.objs.size L es ep t → Has ks ks.length L → (∀ b o, s.heap.get? b = some o → h'.get? b = some o) → Q (.ref s.heap.objs.size) { s with heap := h', toks := tk }) :
    wpAny (model P w) A (call (.type "set") [.ref l]) Q E s := by
  have hisz : items.size = ks.length := by
    have q := congrArg List.length hit
    rw [Array.length_toList, List.length_map] at q
    exact q
  obtain ⟨c, tl, hmro⟩ := F.called_set.mro
  have hmade := F.called_set.made
  have hsub := F.called_set.sub
  refine wpAny_call (codeAny_of_tree ?_)
  show wpAny _ _ (callAny (.type "set") _) _ _ _
  refine wpAny_pure ⟨Code.quiet_builtin _ (by decide +kernel), codeAny_builtin F.entry_type_call ?_⟩
  rw [Around.under_plain (weight_type_call_type "set" [.ref l] []) rfl]
  have h1 := F.called_set.notType
  have h2 := F.called_set.canCreate
  have hct := F.typeCall_set_1 (.ref l)
  repeat (any_goals (first | assumption | wp_step))
  refine codeAny_mono (code_set_led1 (.ref l) (E := E) (Q₁ := fun obj s₁ => obj = .ref s.heap.objs.size ∧ s₁ = { s with heap := s.heap.push { cls := .type "set", dict := none, data := .set #[] 0 (.fresh 0 0 (!w.params.followText "set-order")) } }) ⟨rfl, rfl⟩) fun r s₁ hr => ?_
  cases r with
  | error e => exact hr
  | ok fl =>
    cases fl with
    | ret obj =>
      obtain ⟨rfl, rfl⟩ := hr
      obtain ⟨h1, eh1⟩ : ∃ h1, h1 = s.heap.push { cls := .type "set", dict := none, data := .set #[] 0 (.fresh 0 0 (!w.params.followText "set-order")) } := ⟨_, rfl⟩
      have hS : h1.get? s.heap.objs.size = some { cls := .type "set", dict := none, data := .set #[] 0 (.fresh 0 0 (!w.params.followText "set-order")) } := by rw [eh1]; exact Heap.get?_push_size _ rfl
      have hsz1 : h1.objs.size = s.heap.objs.size + 1 := by rw [eh1]; exact Heap.size_push ..
      have old1 : ∀ {b o}, s.heap.get? b = some o → h1.get? b = some o := fun e => by rw [eh1]; exact Heap.get?_push_of_some _ e
      rw [← eh1]
      have hT : Shared.TypeIs { s with heap := h1 } (.ref s.heap.objs.size) "set" := ⟨_, hS, rfl⟩
      have hli := F.called_set.init.lookup
      have hbi := F.called_set.init.bind (.ref s.heap.objs.size)
      repeat (any_goals (first | assumption | wp_step))
      refine codeAny_mono (codeAny_call_builtin (R := wants (fun r s₂ => r = .none ∧ ∃ h' tk L es ep t, s₂ = { s with heap := h', toks := tk } ∧ SetK w h' s.heap.objs.size L es ep t ∧ Has ks ks.length L ∧
          (∀ b o, s.heap.get? b = some o → h'.get? b = some o)) E) F.called_set.init.plain F.entry_set_init (check_set_init_1 hT ?_)) fun r₂ s₂ hr₂ => ?_
      · obtain ⟨ol, hol, hcl, nl, hdl⟩ := hl
        obtain ⟨ocls, odict, odata, oslots⟩ := ol
        simp only at hcl hdl
        subst hcl; subst hdl
        have hol' : h1.get? l = some { cls := .type "list", dict := odict, data := .seq items nl, slots := oslots } := old1 hol
        have hsls := F.sub_list_set
        have hslf := F.sub_list_frozenset
        have hne : (Value.type "list" == Value.type "dict") = false := by decide
        have hl1 : h1.IsList l items := ⟨_, hol', rfl, nl, rfl⟩
        unfold Builtin.«set.__init__» noKeywords Builtin.Frozenset.updateFrom
        generalize hPI : pyIter = PI
        wp_walk
        subst hPI
        refine wpAny_pyIter_list hl1 ?_
        refine wpAny_bind (wpAny_runValue ?_)
        have hlS : l < s.heap.objs.size := Heap.lt_size hol
        have hh3 : A.in1.in1.in1.handled = none := by simp [hh]
        have hneI : l ≠ h1.objs.size := by
          rw [hsz1]; exact Nat.ne_of_lt (Nat.lt_succ_of_lt hlS)
        have hSf : s.heap.objs.size ∉ [h1.objs.size, l] := by
          rw [hsz1]; simp only [List.mem_cons, List.mem_singleton, List.not_mem_nil, or_false, not_or]
          exact ⟨Nat.ne_of_lt (Nat.lt_succ_self _), Nat.ne_of_gt hlS⟩
        have hval : ∀ (i : Nat) (v : Value), items[i]? = some v → ∃ p, ks[i]? = some p ∧ v = .ref p.1 := fun i v hv => by
          have q : items.toList[i]? = some v := by rw [Array.getElem?_toList]; exact hv
          rw [hit, List.getElem?_map] at q
          cases hq : ks[i]? with
          | none => rw [hq] at q; cases q
          | some p =>
            rw [hq] at q
            exact ⟨p, rfl, (Option.some.inj q).symm⟩
        have none_of : ∀ b, s.heap.objs.size ≤ b → s.heap.get? b = none := fun b hb => Heap.get?_none_of_le hb
        refine set_loopK ((Walks.list hh3 _ l hneI items).toS) s.heap.objs.size
          hSf ks hisz hfew hval s.heap hk (none_of _ (Nat.le_refl _)) (fun b hb => none_of b (by
            rw [List.mem_singleton.mp hb, hsz1]
            exact Nat.le_succ _)) (by simp only [Around.in1_units]; omega) (items.size - 0) 0 _ (by omega) (Nat.zero_le _)
          ⟨⟨_, Heap.get?_push_size _ rfl, rfl, rfl⟩, (hl1.push _)⟩ (fun b o e => Heap.get?_push_of_some _ (old1 e)) ?hS0 ?hR
        case hS0 => exact ⟨[], #[], 0, _, setK_fresh (Heap.get?_push_of_some _ hS), Has.zero ks⟩
        case hR =>
          intro s' L es ep t hm hS' g' hkp
          obtain ⟨h', g2, d', tk', os'⟩ := s'
          have eg : g2 = s.gens := hm.gens
          have ed : d' = s.drawn := hm.drawn
          have eo : os' = s.os := hm.os
          subst eg; subst ed; subst eo
          show wpAny _ _ _ _ _ _
          refine wpAny_pure ?_
          show wpAny _ _ (ret Value.none) _ _ _
          rw [hisz] at g'
          exact wpAny_pure ⟨rfl, h', tk', L, es, ep, t, rfl, hS', g', hkp⟩
      · cases r₂ with
        | error e => exact hr₂
        | ok fl₂ =>
          cases fl₂ with
          | ret r =>
            obtain ⟨rfl, h', tk, L, es, ep, t, rfl, hS', g', hk'⟩ := hr₂
            repeat (any_goals (first | assumption | wp_step))
            exact h _ _ _ _ _ _ hS' g' hk'
          | _ => exact hr₂.elim
    | _ => exact hr.elim
end
end Mi
/-! sorted(set(xs)). -/
namespace Mi
open PySem PySem.Spec PyProof.Rows L2

theorem each_perm {α β : Type} {R : α → β → Prop} : ∀ {vs us : List α}, vs.Perm us → ∀ {ds : List β}, PySem.W.EachIs R us ds → ∃ ds', ds'.Perm ds ∧ PySem.W.EachIs R vs ds' := by
  intro vs us h
  induction h with
  | nil => intro ds e; cases e; exact ⟨[], .nil, .nil⟩
  | cons x _ ih =>
    intro ds e
    cases e with
    | cons h1 h2 =>
      obtain ⟨ds', p, q⟩ := ih h2
      exact ⟨_, p.cons _, .cons h1 q⟩
  | swap x y l =>
    intro ds e
    cases e with
    | cons h1 h2 =>
      cases h2 with
      | cons h3 h4 => exact ⟨_, .swap _ _ _, .cons h3 (.cons h1 h4)⟩
  | trans _ _ ih1 ih2 =>
    intro ds e
    obtain ⟨d1, p1, q1⟩ := ih2 e
    obtain ⟨d2, p2, q2⟩ := ih1 q1
    exact ⟨d2, p2.trans p1, q2⟩
theorem each_and {α β : Type} {R R' : α → β → Prop} {xs : List α} {ys : List β} (e : PySem.W.EachIs R xs ys) (e' : PySem.W.EachIs R' xs ys) : PySem.W.EachIs (fun a b => R a b ∧ R' a b) xs ys := by
  induction e with
  | nil => exact .nil
  | cons h _ ih => cases e' with | cons h' er => exact .cons ⟨h, h'⟩ (ih er)
theorem sort_uniq {β : Type} (k : β → PyData) {l m : List β} (h : l.Perm m) (anti : ∀ a ∈ m, ∀ b ∈ m, PySem.W.dataLe false k a b = true → PySem.W.dataLe false k b a = true → a = b) :
    l.mergeSort (PySem.W.dataLe false k) = m.mergeSort (PySem.W.dataLe false k) := by
  refine List.Perm.eq_of_pairwise (le := fun a b => PySem.W.dataLe false k a b = true) (fun a b ha hb => ?_) (List.pairwise_mergeSort (dataLe_trans k) (dataLe_total k) _) (List.pairwise_mergeSort (dataLe_trans k) (dataLe_total k) _) ?_
  · exact anti a (h.mem_iff.mp ((List.mergeSort_perm l _).mem_iff.mp ha)) b ((List.mergeSort_perm m _).mem_iff.mp hb)
  · exact (List.mergeSort_perm l _).trans (h.trans (List.mergeSort_perm m _).symm)
theorem py_anti {x y : PyData} (h : PySem.W.alike x y = true) (h1 : PySem.W.dataLt x y = false) (h2 : PySem.W.dataLt y x = false) : PyData.eqv x y = true := by
  have e := PyProof.Rows.lex_total _ _ h1 h2
  cases c : PyData.eqv x y with
  | true => rfl
  | false =>
    have z := (PySem.W.toks_eqv x y h).2 c [] [Sum.inl 0]
    rw [e, PySem.W.lex_pre, PyProof.Rows.lex_irrefl] at z
    exact absurd z (by decide)
section
variable {P : Program} {w : World} {A : Around} {E : Value → Shared → Prop} {s : Shared}
/-- sorted(set) -/
theorem sorted_setK {a : Addr} {L : List Row} {es : Array (Int × Value)} {ep : Nat} {t : SetTable} {β : Type} {enc : β → PyData} {ds : List β} {Rr : Value → β → Prop} {Q : Value → Shared → Prop} (R : SetK w s.heap a L es ep t) (hh : A.handled = none)
    (e : PySem.W.EachIs Rr (L.map fun p => Value.ref p.1) ds) (er : PySem.W.EachIs (fun v b => Reads s.heap v (enc b) []) (L.map fun p => Value.ref p.1) ds) (hal : PySem.W.AllAlike (ds.map enc)) (hk : PySem.W.Sortable (ds.map enc))
    (hu : ∀ b, b ∈ ds → A.units + 2 + (enc b).depth < cLine) (anti : ∀ a ∈ ds, ∀ b ∈ ds, PySem.W.dataLe false enc a b = true → PySem.W.dataLe false enc b a = true → a = b)
    (hQ : ∀ s' p (out : Array Value) (c : Nat), (∀ b o, s.heap.get? b = some o → s'.heap.get? b = some o) → s'.gens = s.gens → s'.os = s.os → s.heap.objs.size ≤ p →
      s'.heap.get? p = some (seqObj "list" out c) → out.size = ds.length → PySem.W.EachIs Rr out.toList (ds.mergeSort (PySem.W.dataLe false enc)) → Q (.ref p) s') :
    wpAny (model P w) A (call (.builtin "sorted") [.ref a]) Q E s := by
  obtain ⟨o, ho, hex, hd⟩ := R.ob
  have hsz := rows_size R.rows
  have hfew := R.few
  refine Calls.call_function_entry kind_sorted plain_sorted entry_sorted (args_sorted1 _) ?_
  unfold Builtin.«sorted»
  refine wpAny_bind (m := checkCount "sorted" 1 1 _) (wpAny_pure ?_)
  refine wpAny_bind (collect_set (A := A.in1) hh ⟨o, ho, hex.1, hd⟩ R.fits (by unfold scanBound; omega) R.tab.ris R.led fun s1 vs k1 hz g1 o1 pm => ?_)
  have hes : es.toList.map (·.2) = L.map fun q => Value.ref q.1 := by
    rw [R.rows]
    unfold rowsK
    rw [List.map_map] <;> rfl
  rw [hes] at pm
  have e2 : PySem.W.EachIs (fun v b => Rr v b ∧ Reads s.heap v (enc b) []) (L.map fun p => Value.ref p.1) ds := each_and e er
  obtain ⟨ds', pd, e3⟩ := each_perm pm e2
  have hvl : vs.length = ds'.length := e3.length
  have hdl : ds'.length < 1000 := by
    rw [← hvl, pm.length_eq, List.length_map]
    exact hfew
  refine wpAny_bind (wpAny_newList ?_ (by rw [hvl, sizeLine_eq]; omega))
  have hoL : (s1.heap.push (seqObj "list" vs.toArray 0)).get? s1.heap.objs.size = some (seqObj "list" vs.toArray 0) := Heap.get?_push_size _ rfl
  have old : ∀ b u, s.heap.get? b = some u → (s1.heap.push (seqObj "list" vs.toArray 0)).get? b = some u := fun b u e => Heap.get?_push_of_some _ (k1 b u e)
  refine wpAny_bind (wpAny_holding (PySem.W.list_sort_data (R := Rr) (enc := enc) (bs := ds') (s := { s1 with heap := s1.heap.push (seqObj "list" vs.toArray 0) }) hoL (e3.mono fun _ _ z => z.1)
    (e3.mono fun v b z => ⟨[], PyProof.Rows.Reads.keeps old z.2, fun z => nomatch z⟩) (fun d hd d' hd' => hal d ((pd.map enc).mem_iff.mp hd) d' ((pd.map enc).mem_iff.mp hd')) ?_ (by rw [sizeLine_eq]; omega) (fun b hb => ?_) fun out hlen a2 => ?_))
  · rcases hk with hk | hk
    · exact .inl fun d hd => hk d ((pd.map enc).mem_iff.mp hd)
    · exact .inr fun d hd => hk d ((pd.map enc).mem_iff.mp hd)
  · have := hu b (pd.mem_iff.mp hb)
    simp only [Around.in1_units]
    omega
  · obtain ⟨c, hc⟩ := sortedHeap_at (vs := vs) (out := out.toArray) hoL
    rw [sort_uniq enc pd anti] at a2
    refine wpAny_pure ⟨_, rfl, hQ _ s1.heap.objs.size out.toArray c (fun b u e => ?_) g1 o1 hz hc (by rw [List.size_toArray, hlen, pd.length_eq]) a2⟩
    have q := k1 b u e
    have hlt := Heap.lt_size q
    show (sortedHeap (s1.heap.push (seqObj "list" vs.toArray 0)) s1.heap.objs.size vs out.toArray).get? b = some u
    rw [sortedHeap_old (Nat.ne_of_lt hlt) (by rw [size_push']; exact Nat.lt_succ_of_lt hlt)]
    exact Heap.get?_push_of_some _ q
end
end Mi
/-! sorted(set(xs)), as an expression. -/
namespace Mi
open PySem PySem.Spec PyProof.Rows L2

mutual
def nkey : D → NestedKey
  | .int i => .num i
  | .tup xs => .tup (nkeys xs)
  | _ => .none
def nkeys : List D → List NestedKey
  | [] => []
  | d :: ds => nkey d :: nkeys ds
end
mutual
theorem key_reads {h : Heap} : ∀ (n : Nat) (d : D) (v : Value) (as : List Addr), keyD n d = true → Reads h v (toPy d) as → NestedIs h (nkey d) v ∧ as = []
  | 0, _, _, _, k, _ => by simp [keyD] at k
  | _ + 1, .non, _, _, _, r => by
    rw [toPy] at r
    cases r
    exact ⟨by simp only [nkey]; exact .none, rfl⟩
  | _ + 1, .int _, _, _, _, r => by
    rw [toPy] at r
    cases r
    exact ⟨by rw [nkey]; exact .int _ _, rfl⟩
  | n + 1, .tup xs, _, _, k, r => by
    rw [toPy] at r
    rw [keyD] at k
    cases r with
    | tuple h1 h2 h3 h4 =>
      obtain ⟨a, b⟩ := keys_reads n xs _ _ k h4
      exact ⟨by rw [nkey]; exact .tup h1 h2 h3 a, b⟩
  | _ + 1, .bl _, _, _, k, _ => by simp [keyD] at k
  | _ + 1, .str _, _, _, k, _ => by simp [keyD] at k
  | _ + 1, .lst _, _, _, k, _ => by simp [keyD] at k
  | _ + 1, .dct _ _, _, _, k, _ => by simp [keyD] at k
  | _ + 1, .ins _ _ _, _, _, k, _ => by simp [keyD] at k
  | _ + 1, .scr _, _, _, k, _ => by simp [keyD] at k
  | _ + 1, .itr _, _, _, k, _ => by simp [keyD] at k
theorem keys_reads {h : Heap} : ∀ (n : Nat) (ds : List D) (vs : List Value) (as : List Addr), ds.all (keyD n) = true → ReadsAll h vs (toPys ds) as → NestedAll h (nkeys ds) vs ∧ as = []
  | _, [], _, _, _, r => by
    rw [toPys] at r
    cases r
    exact ⟨by rw [nkeys]; exact .nil, rfl⟩
  | n, d :: ds, _, _, k, r => by
    rw [toPys] at r
    rw [List.all_cons, Bool.and_eq_true] at k
    cases r with
    | cons h1 h2 =>
      obtain ⟨a1, b1⟩ := key_reads n d _ _ k.1 h1
      obtain ⟨a2, b2⟩ := keys_reads n ds _ _ k.2 h2
      exact ⟨by rw [nkeys]; exact .cons a1 a2, by rw [b1, b2] <;> rfl⟩
end
mutual
theorem key_more : ∀ (n : Nat) (d : D), keyD n d = true → (nkey d).depth ≤ n ∧ plainK (nkey d) = true
  | 0, _, k => by simp [keyD] at k
  | _ + 1, .non, _ => by simp [nkey, NestedKey.depth, plainK]
  | _ + 1, .int _, _ => by simp [nkey, NestedKey.depth, plainK]
  | n + 1, .tup xs, k => by
    rw [keyD] at k
    have := keys_more n xs k
    rw [nkey, NestedKey.depth, plainK]
    exact ⟨by omega, this.2⟩
  | _ + 1, .bl _, k => by simp [keyD] at k
  | _ + 1, .str _, k => by simp [keyD] at k
  | _ + 1, .lst _, k => by simp [keyD] at k
  | _ + 1, .dct _ _, k => by simp [keyD] at k
  | _ + 1, .ins _ _ _, k => by simp [keyD] at k
  | _ + 1, .scr _, k => by simp [keyD] at k
  | _ + 1, .itr _, k => by simp [keyD] at k
theorem keys_more : ∀ (n : Nat) (ds : List D), ds.all (keyD n) = true → NestedKey.depthAll (nkeys ds) ≤ n ∧ plainKs (nkeys ds) = true
  | _, [], _ => by simp [nkeys, NestedKey.depthAll, plainKs]
  | n, d :: ds, k => by
    rw [List.all_cons, Bool.and_eq_true] at k
    have h1 := key_more n d k.1
    have h2 := keys_more n ds k.2
    rw [nkeys, NestedKey.depthAll, plainKs, h1.2, h2.2]
    exact ⟨by omega, rfl⟩
end
mutual
theorem key_inj : ∀ (n : Nat) (a b : D), keyD n a = true → keyD n b = true → nkey a = nkey b → a = b
  | 0, _, _, k, _, _ => by simp [keyD] at k
  | _ + 1, .non, .non, _, _, _ => rfl
  | _ + 1, .int _, .int _, _, _, e => by simp only [nkey] at e; injection e with e; rw [e]
  | n + 1, .tup xs, .tup ys, k1, k2, e => by
    rw [keyD] at k1 k2
    simp only [nkey] at e
    injection e with e
    rw [keys_inj n xs ys k1 k2 e]
  | _ + 1, .non, .int _, _, _, e => by simp [nkey] at e
  | _ + 1, .non, .tup _, _, _, e => by simp [nkey] at e
  | _ + 1, .int _, .non, _, _, e => by simp [nkey] at e
  | _ + 1, .int _, .tup _, _, _, e => by simp [nkey] at e
  | _ + 1, .tup _, .non, _, _, e => by simp [nkey] at e
  | _ + 1, .tup _, .int _, _, _, e => by simp [nkey] at e
  | _ + 1, .bl _, _, k, _, _ => by simp [keyD] at k
  | _ + 1, .str _, _, k, _, _ => by simp [keyD] at k
  | _ + 1, .lst _, _, k, _, _ => by simp [keyD] at k
  | _ + 1, .dct _ _, _, k, _, _ => by simp [keyD] at k
  | _ + 1, .ins _ _ _, _, k, _, _ => by simp [keyD] at k
  | _ + 1, .scr _, _, k, _, _ => by simp [keyD] at k
  | _ + 1, .itr _, _, k, _, _ => by simp [keyD] at k
  | _ + 1, _, .bl _, _, k, _ => by simp [keyD] at k
  | _ + 1, _, .str _, _, k, _ => by simp [keyD] at k
  | _ + 1, _, .lst _, _, k, _ => by simp [keyD] at k
  | _ + 1, _, .dct _ _, _, k, _ => by simp [keyD] at k
  | _ + 1, _, .ins _ _ _, _, k, _ => by simp [keyD] at k
  | _ + 1, _, .scr _, _, k, _ => by simp [keyD] at k
  | _ + 1, _, .itr _, _, k, _ => by simp [keyD] at k
theorem keys_inj : ∀ (n : Nat) (as bs : List D), as.all (keyD n) = true → bs.all (keyD n) = true → nkeys as = nkeys bs → as = bs
  | _, [], [], _, _, _ => rfl
  | _, [], _ :: _, _, _, e => by simp [nkeys] at e
  | _, _ :: _, [], _, _, e => by simp [nkeys] at e
  | n, a :: as, b :: bs, k1, k2, e => by
    rw [List.all_cons, Bool.and_eq_true] at k1 k2
    simp only [nkeys] at e
    injection e with e1 e2
    rw [key_inj n a b k1.1 k2.1 e1, keys_inj n as bs k1.2 k2.2 e2]
end
mutual
/-- keys are == exactly if they are equal -/
theorem key_eqD : ∀ (n : Nat) (a b : D), keyD n a = true → keyD n b = true → eqD a b = true → a = b
  | 0, _, _, k, _, _ => by simp [keyD] at k
  | _ + 1, .non, .non, _, _, _ => rfl
  | _ + 1, .int _, .int _, _, _, e => by simp only [eqD, beq_iff_eq] at e; rw [e]
  | n + 1, .tup xs, .tup ys, k1, k2, e => by
    rw [keyD] at k1 k2
    simp only [eqD] at e
    rw [keys_eqD n xs ys k1 k2 e]
  | _ + 1, .non, .int _, _, _, e => by simp [eqD] at e
  | _ + 1, .non, .tup _, _, _, e => by simp [eqD] at e
  | _ + 1, .int _, .non, _, _, e => by simp [eqD] at e
  | _ + 1, .int _, .tup _, _, _, e => by simp [eqD] at e
  | _ + 1, .tup _, .non, _, _, e => by simp [eqD] at e
  | _ + 1, .tup _, .int _, _, _, e => by simp [eqD] at e
  | _ + 1, .bl _, _, k, _, _ => by simp [keyD] at k
  | _ + 1, .str _, _, k, _, _ => by simp [keyD] at k
  | _ + 1, .lst _, _, k, _, _ => by simp [keyD] at k
  | _ + 1, .dct _ _, _, k, _, _ => by simp [keyD] at k
  | _ + 1, .ins _ _ _, _, k, _, _ => by simp [keyD] at k
  | _ + 1, .scr _, _, k, _, _ => by simp [keyD] at k
  | _ + 1, .itr _, _, k, _, _ => by simp [keyD] at k
  | _ + 1, _, .bl _, _, k, _ => by simp [keyD] at k
  | _ + 1, _, .str _, _, k, _ => by simp [keyD] at k
  | _ + 1, _, .lst _, _, k, _ => by simp [keyD] at k
  | _ + 1, _, .dct _ _, _, k, _ => by simp [keyD] at k
  | _ + 1, _, .ins _ _ _, _, k, _ => by simp [keyD] at k
  | _ + 1, _, .scr _, _, k, _ => by simp [keyD] at k
  | _ + 1, _, .itr _, _, k, _ => by simp [keyD] at k
theorem keys_eqD : ∀ (n : Nat) (as bs : List D), as.all (keyD n) = true → bs.all (keyD n) = true → eqDs as bs = true → as = bs
  | _, [], [], _, _, _ => rfl
  | _, [], _ :: _, _, _, e => by simp [eqDs] at e
  | _, _ :: _, [], _, _, e => by simp [eqDs] at e
  | n, a :: as, b :: bs, k1, k2, e => by
    rw [List.all_cons, Bool.and_eq_true] at k1 k2
    simp only [eqDs, Bool.and_eq_true] at e
    rw [key_eqD n a b k1.1 k2.1 e.1, keys_eqD n as bs k1.2 k2.2 e.2]
end
mutual
theorem key_self : ∀ (n : Nat) (a : D), keyD n a = true → eqD a a = true
  | 0, _, k => by simp [keyD] at k
  | _ + 1, .non, _ => rfl
  | _ + 1, .int _, _ => by simp [eqD]
  | n + 1, .tup xs, k => by
    rw [keyD] at k
    simp only [eqD]
    exact keys_self n xs k
  | _ + 1, .bl _, k => by simp [keyD] at k
  | _ + 1, .str _, k => by simp [keyD] at k
  | _ + 1, .lst _, k => by simp [keyD] at k
  | _ + 1, .dct _ _, k => by simp [keyD] at k
  | _ + 1, .ins _ _ _, k => by simp [keyD] at k
  | _ + 1, .scr _, k => by simp [keyD] at k
  | _ + 1, .itr _, k => by simp [keyD] at k
theorem keys_self : ∀ (n : Nat) (as : List D), as.all (keyD n) = true → eqDs as as = true
  | _, [], _ => rfl
  | n, a :: as, k => by
    rw [List.all_cons, Bool.and_eq_true] at k
    simp only [eqDs, key_self n a k.1, keys_self n as k.2]
    rfl
end
theorem ded_sub : ∀ (xs : List D) (x : D), x ∈ dedD xs → x ∈ xs
  | [], x, h => h
  | y :: r, x, h => by
    rw [dedD] at h
    split at h
    · exact List.mem_cons_of_mem _ (ded_sub r x h)
    · rcases List.mem_cons.mp h with e | h
      · rw [e]; exact List.mem_cons_self
      · exact List.mem_cons_of_mem _ (ded_sub r x h)
theorem ded_all {n : Nat} : ∀ (xs : List D), xs.all (keyD n) = true → ∀ x ∈ xs, x ∈ dedD xs
  | [], _, x, h => h
  | y :: r, k, x, h => by
    rw [List.all_cons, Bool.and_eq_true] at k
    rw [dedD]
    split
    · rename_i c
      rcases List.mem_cons.mp h with e | h
      · rw [e]
        obtain ⟨z, hz, ez⟩ := List.any_eq_true.mp c
        rw [key_eqD n y z k.1 (List.all_eq_true.mp k.2 z hz) ez]
        exact ded_all r k.2 z hz
      · exact ded_all r k.2 x h
    · rcases List.mem_cons.mp h with e | h
      · rw [e]; exact List.mem_cons_self
      · exact List.mem_cons_of_mem _ (ded_all r k.2 x h)
theorem ded_nodup {n : Nat} : ∀ (xs : List D), xs.all (keyD n) = true → (dedD xs).Nodup
  | [], _ => List.nodup_nil
  | y :: r, k => by
    rw [List.all_cons, Bool.and_eq_true] at k
    rw [dedD]
    split
    · exact ded_nodup r k.2
    · rename_i c
      refine List.nodup_cons.mpr ⟨fun h => c ?_, ded_nodup r k.2⟩
      exact List.any_eq_true.mpr ⟨y, ded_sub r y h, key_self n y k.1⟩
end Mi
/-! sorted(set(xs)), as an expression. -/
namespace Mi
open PySem PySem.Spec PyProof.Rows L2

/-- the set at a, without its members -/
def SetN0 (w : World) (h : Heap) (a : Addr) (L : List Row) : Prop := ∃ (es : Array (Int × Value)) (ep : Nat) (t : SetTable), (∃ o, h.get? a = some o ∧ o.ExactSet ∧ o.data = .set es ep t) ∧ es.toList = rowsK w L ∧ Tab t (L.map fun p => p.2.hash w) ∧
  (t.mask = 7 ∨ t.mask = 31 ∨ t.mask = 127 ∨ t.mask = 511 ∨ t.mask = 2047) ∧ (L.map (·.2)).Nodup ∧ t.plain = true ∧ (w.params.followText "set-order" = true ∨ t.led = true) ∧ L.length * 5 < t.mask * 3 ∧ L.length < 1000
def SetNO (w : World) (a : Addr) (L : List Row) : HO := .ext fun h => SetN0 w h a L
theorem SetK.n0 {w : World} {h : Heap} {a : Addr} {L : List Row} {es : Array (Int × Value)} {ep : Nat} {t : SetTable} (R : SetK w h a L es ep t) : SetN0 w h a L :=
  ⟨es, ep, t, R.ob, R.rows, R.tab, R.mask, R.nd, R.plain, R.led, R.room, R.few⟩
theorem SetN0.full {w : World} {h : Heap} {a : Addr} {L : List Row} (R : SetN0 w h a L) (ht : ∀ p ∈ L, KeyAt h p.2 p.1) : ∃ es ep t, SetK w h a L es ep t := by
  obtain ⟨es, ep, t, h1, h2, h3, h4, h5, h6, h7, h8, h9⟩ := R
  exact ⟨es, ep, t, h1, h2, h3, h4, h5, ht, h6, h7, h8, h9⟩
theorem setNO_new {P : Program} {w : World} {H : Hp} {h : Heap} {a : Addr} {L : List Row} (R : SetN0 w h a L) : ObjOk P w H h a (SetNO w a L) := by
  refine ⟨R, ?_, fun h1 h2 p k => ?_⟩
  · obtain ⟨es, ep, t, ⟨o, ho, r⟩, q⟩ := R
    exact ⟨o, ho⟩
  · obtain ⟨es, ep, t, ⟨o, ho, r⟩, q⟩ := p
    exact ⟨es, ep, t, ⟨o, k o ho, r⟩, q⟩
section
variable {X : Cx}
/-- the rows of a list of tuples -/
theorem rows_of {pins : List (Addr × Obj)} {s : Shared} {σ : L2.St} {H : Hp} (I : Inv X pins σ H s) : ∀ (ds : List D) (vs : List V) (us : List Value), ds.all (keyD 8) = true → ds.all isTup = true → DpAll X.K H vs (toPys ds) → Vals vs us →
    ∃ ks : List Row, us = ks.map (fun p => Value.ref p.1) ∧ vs = ks.map (fun p => V.ref p.1) ∧ ks.map (·.2) = ds.map nkey ∧ ∀ p ∈ ks, KeyAt s.heap p.2 p.1
  | [], _, _, _, _, h, r => by
    rw [toPys] at h
    cases h
    cases r
    exact ⟨[], rfl, rfl, rfl, fun p hp => nomatch hp⟩
  | d :: ds, _, _, k1, k2, h, r => by
    rw [toPys] at h
    rw [List.all_cons, Bool.and_eq_true] at k1 k2
    cases h with
    | @cons v vs _ _ h1 h2 =>
      cases r with
      | @cons _ u _ us r1 r2 =>
        obtain ⟨ks, a1, a2, a3, a4⟩ := rows_of I ds vs us k1.2 k2.2 h2 r2
        obtain ⟨as, rd⟩ := Dp.reads I (toPy d) v u h1 r1
        obtain ⟨nk, _⟩ := key_reads 8 d u as k1.1 rd
        have more := key_more 8 d k1.1
        obtain ⟨xs, rfl⟩ : ∃ xs, d = .tup xs := by
          cases d <;> first | (exact ⟨_, rfl⟩) | (cases k2.1; done)
        rw [toPy] at h1
        cases h1 with
        | @tup a ys _ h3 h4 =>
          obtain rfl : u = Value.ref a := r1
          refine ⟨(a, nkey (.tup xs)) :: ks, by rw [List.map_cons, a1], by rw [List.map_cons, a2], by rw [List.map_cons, List.map_cons, a3], fun p hp => ?_⟩
          rcases List.mem_cons.mp hp with e | hp
          · rw [e]; exact ⟨nk, more.1, more.2⟩
          · exact a4 p hp
theorem row_pick {Rr : V → D → Prop} : ∀ (ks : List Row) (ds : List D), PySem.W.EachIs Rr (ks.map fun p => V.ref p.1) ds → ks.map (·.2) = ds.map nkey → ∀ p ∈ ks, ∃ d, d ∈ ds ∧ Rr (V.ref p.1) d ∧ p.2 = nkey d
  | [], _, _, _, p, hp => nomatch hp
  | k :: ks, [], e, _, p, hp => nomatch e
  | k :: ks, d :: ds, e, q, p, hp => by
    rw [List.map_cons] at e
    simp only [List.map_cons, List.cons.injEq] at q
    cases e with
    | cons h1 h2 =>
      rcases List.mem_cons.mp hp with z | hp
      · rw [z]; exact ⟨d, List.mem_cons_self, h1, q.1⟩
      · obtain ⟨d', a, b⟩ := row_pick ks ds h2 q.2 p hp
        exact ⟨d', List.mem_cons_of_mem _ a, b⟩
theorem row_picks {Rr : V → D → Prop} {ds : List D} : ∀ (L : List Row), (∀ p ∈ L, ∃ d, d ∈ ds ∧ Rr (V.ref p.1) d ∧ p.2 = nkey d) → ∃ ds', PySem.W.EachIs Rr (L.map fun p => V.ref p.1) ds' ∧ L.map (·.2) = ds'.map nkey ∧ ∀ d ∈ ds', d ∈ ds
  | [], _ => ⟨[], .nil, rfl, fun d hd => nomatch hd⟩
  | p :: L, h => by
    obtain ⟨d, h1, h2, h3⟩ := h p List.mem_cons_self
    obtain ⟨ds', a, b, c⟩ := row_picks L fun q hq => h q (List.mem_cons_of_mem _ hq)
    refine ⟨d :: ds', .cons h2 a, by rw [List.map_cons, List.map_cons, b, h3], fun e he => ?_⟩
    rcases List.mem_cons.mp he with z | he
    · rw [z]; exact h1
    · exact c e he
theorem nodup_back {α β : Type} {f : α → β} {l : List α} (h : (l.map f).Nodup) : l.Nodup := List.Pairwise.of_map f (fun _ _ hne e => hne (congrArg f e)) h
def rSetN (K : PySem.W.Frag) (w : World) : List V → Hp → VK → Prop := fun vs H Q => ∃ (l : Addr) (xs : List V) (ds : List D), vs = [V.ref l] ∧ SqL K H l xs ∧ DpAll K H xs (toPys ds) ∧ ds.all (keyD 8) = true ∧ ds.all isTup = true ∧ ds.length < 1000 ∧ ∃ Rr : V → D → Prop, PySem.W.EachIs Rr xs ds ∧
  ∀ (a : Addr) (L : List Row) (ds' : List D), H a = none → ds'.Perm (dedD ds) → L.map (·.2) = ds'.map nkey → PySem.W.EachIs Rr (L.map fun p => V.ref p.1) ds' → Q (.ref a) (upd H a (SetNO w a L))
theorem cr_setN (hc : X.calm = true) (hu : X.A.units + 64 < cLine) : CallR X (.type "set") (rSetN X.K X.w) := by
  intro pins s σ H vs us Q I r h
  obtain ⟨l, xs, ds, rfl, hl, hd, k1, k2, hf, Rr, hR, q⟩ := h
  rw [Vals.ref1 r]
  obtain ⟨its, rv, pl, hz⟩ := I.list hl
  have hn : H s.heap.objs.size = none := I.hok.fresh (Nat.le_refl _)
  obtain ⟨ks, e1, e2, e3, e4⟩ := rows_of I ds xs its k1 k2 hd rv
  have hlen : ks.length = ds.length := by
    have := congrArg List.length e3
    rw [List.length_map, List.length_map] at this
    exact this
  subst e2
  refine call_setK (P := X.prog) (w := X.w) ks (I.ok.hd hc) pl.isList (by simpa using e1) e4 (by omega) (by omega) fun h' tk L es ep t R g k => ?_
  have pick := row_pick ks ds hR e3
  obtain ⟨ds', b1, b2, b3⟩ := row_picks L fun p hp => pick p (List.mem_of_mem_take (g.sub p hp))
  have kd := List.all_eq_true.mp k1
  have perm : ds'.Perm (dedD ds) := by
    refine (List.perm_ext_iff_of_nodup (nodup_back (f := nkey) (by rw [← b2]; exact R.nd)) (ded_nodup ds k1)).mpr fun d => ⟨fun h => ded_all ds k1 d (b3 d h), fun h => ?_⟩
    have hd1 := ded_sub ds d h
    have : nkey d ∈ ks.map (·.2) := by rw [e3]; exact List.mem_map.mpr ⟨d, hd1, rfl⟩
    obtain ⟨p, hp, ep⟩ := List.mem_map.mp this
    have hp2 := g.all p (by rw [List.take_length]; exact hp)
    rw [b2, ep] at hp2
    obtain ⟨d', hd', ed⟩ := List.mem_map.mp hp2
    rw [← key_inj 8 d' d (kd d' (b3 d' hd')) (kd d hd1) ed]
    exact hd'
  exact ⟨.ref s.heap.objs.size, upd H s.heap.objs.size (SetNO X.w s.heap.objs.size L), I.laid (t' := tk) k (Nat.le_refl _) (setNO_new R.n0), rfl, q _ L ds' hn perm b2 b1⟩
def rSortedN (K : PySem.W.Frag) (w : World) : List V → Hp → VK → Prop := fun vs H Q => ∃ (a : Addr) (L : List Row) (ds : List D), vs = [V.ref a] ∧ H a = some (SetNO w a L) ∧ L.map (·.2) = ds.map nkey ∧ DpAll K H (L.map fun p => V.ref p.1) (toPys ds) ∧ ds.all (keyD 8) = true ∧ ds.all isTup = true ∧ sortOk ds = true ∧
  ∃ Rr : V → D → Prop, PySem.W.EachIs Rr (L.map fun p => V.ref p.1) ds ∧
  ∀ (ys : List V) (p : Addr), PySem.W.EachIs Rr ys (ds.mergeSort (PySem.W.dataLe false toPy)) → H p = none → Q (.ref p) (upd H p (.lst ys))
theorem vals_rows (L : List Row) : Vals (L.map fun p => V.ref p.1) (L.map fun p => Value.ref p.1) := by
  induction L with
  | nil => exact .nil
  | cons p L ih => exact .cons rfl ih
theorem each_map_l {α β γ : Type} {R : β → γ → Prop} (f : α → β) : ∀ {xs : List α} {ys : List γ}, PySem.W.EachIs R (xs.map f) ys → PySem.W.EachIs (fun a c => R (f a) c) xs ys
  | [], [], .nil => .nil
  | _ :: _, _ :: _, .cons h t => .cons h (each_map_l f t)
  | [], _ :: _, h => nomatch h
  | _ :: _, [], h => nomatch h
theorem each_map_r {α β γ : Type} {R : β → γ → Prop} (f : α → β) : ∀ {xs : List α} {ys : List γ}, PySem.W.EachIs (fun a c => R (f a) c) xs ys → PySem.W.EachIs R (xs.map f) ys
  | [], [], .nil => .nil
  | _ :: _, _ :: _, .cons h t => .cons h (each_map_r f t)
theorem cr_sortedN (hc : X.calm = true) (hu : X.A.units + 65 < cLine) : CallR X (.builtin "sorted") (rSortedN X.K X.w) := by
  intro pins s σ H vs us Q I r h
  obtain ⟨a, L, ds, rfl, ha, hk, hd, k1, k2, hok, Rr, hR, q⟩ := h
  have R0 : SetN0 X.w s.heap a L := (I.hok a _ ha).1
  rw [Vals.ref1 r]
  obtain ⟨ks, e1, e2, e3, e4⟩ := rows_of I ds _ _ k1 k2 hd (vals_rows L)
  have ekl : ks = L := by
    have z1 : ks.map (·.1) = L.map (·.1) := by
      have := congrArg (List.map fun v => match v with | V.ref p => p | _ => 0) e2
      simpa [List.map_map, Function.comp_def] using this.symm
    have z2 : ks.map (·.2) = L.map (·.2) := by rw [e3, hk]
    have : ∀ (xs ys : List Row), xs.map (·.1) = ys.map (·.1) → xs.map (·.2) = ys.map (·.2) → xs = ys := by
      intro xs
      induction xs with
      | nil => intro ys h1 h2; cases ys with
        | nil => rfl
        | cons y ys => simp at h1
      | cons x xs ih => intro ys h1 h2; cases ys with
        | nil => simp at h1
        | cons y ys =>
          simp only [List.map_cons, List.cons.injEq] at h1 h2
          rw [ih ys h1.2 h2.2, Prod.ext h1.1 h2.1]
    exact this _ _ z1 z2
  subst ekl
  obtain ⟨es, ep, t, R⟩ := R0.full e4
  unfold sortOk at hok
  simp only [Bool.and_eq_true, Bool.or_eq_true, List.all_eq_true] at hok
  obtain ⟨⟨j1, j2⟩, j3⟩ := hok
  obtain ⟨ws, rd⟩ := Dp.readsAll I (toPys ds) _ _ hd (vals_rows ks)
  have e5 : PySem.W.EachIs (fun v b => ∃ as, Reads s.heap v (toPy b) as) (ks.map fun p => Value.ref p.1) ds := PySem.W.readsAll_each toPy (by rw [← toPys_map]; exact rd)
  have kd := List.all_eq_true.mp k1
  have e6 : PySem.W.EachIs (fun v b => Reads s.heap v (toPy b) []) (ks.map fun p => Value.ref p.1) ds := (PySem.W.each_mem e5).mono fun v b ⟨⟨as, z⟩, hb⟩ => by
    have := (key_reads 8 b v as (kd b hb) z).2
    rw [this] at z
    exact z
  have al : PySem.W.AllAlike (ds.map toPy) := fun d hd d' hd' => by
    obtain ⟨b, hb, rfl⟩ := List.mem_map.mp hd
    obtain ⟨b', hb', rfl⟩ := List.mem_map.mp hd'
    exact j2 b hb b' hb'
  have so : PySem.W.Sortable (ds.map toPy) := by
    rcases j3 with k3 | k3
    · refine .inl fun d hd => ?_
      obtain ⟨b, hb, rfl⟩ := List.mem_map.mp hd
      have := k3 b hb
      cases b with
      | tup l =>
        cases l with
        | nil => cases this
        | cons x r => exact ⟨toPy x, toPys r, by rw [toPy, toPys]⟩
      | _ => cases this
    · refine .inr fun d hd => ?_
      obtain ⟨b, hb, rfl⟩ := List.mem_map.mp hd
      have := k3 b hb
      cases b <;> first | (cases this; done) | (refine ⟨fun z => ?_, fun l z => ?_⟩ <;> (rw [toPy] at z; cases z))
  have e7 : PySem.W.EachIs (fun (u : Value) d => ∃ v, RelV v u ∧ Rr v d) (ks.map fun p => Value.ref p.1) ds := each_map_r _ ((each_map_l _ hR).mono fun p d z => ⟨V.ref p.1, rfl, z⟩)
  refine sorted_setK R (I.ok.hd hc) e7 e6 al so (fun b hb => ?_) (fun x hx y hy l1 l2 => ?_) fun s' p out c k g o hp hg hsz hout => ?_
  · have := (eqOk_lay 60 b (j1 b hb)).2
    omega
  · rw [PySem.W.dataLe_eq] at l1 l2
    simp only [cond, Bool.not_eq_true'] at l1 l2
    have z := py_anti (j2 x hx y hy) l2 l1
    rw [← eqD_py 60 x y (j1 x hx) (j1 y hy)] at z
    exact key_eqD 8 x y (kd x hx) (kd y hy) z
  · obtain ⟨ys, h1, h2⟩ := each_pick (P := fun (u : Value) (v : V) => RelV v u) (hout.mono fun u d z => z)
    have rv2 := each_vals h1
    have hn : H p = none := I.hok.fresh hp
    have hfew := R.few
    have hdl : ds.length = ks.length := by
      have := e7.length
      rw [List.length_map] at this
      exact this.symm
    have hlen : ys.length ≤ sizeLine := by
      rw [rv2.length, Array.length_toList, hsz, hdl, sizeLine_eq]
      omega
    have J : Inv X pins σ (upd H p (.lst ys)) { s with heap := s'.heap, gens := s'.gens, drawn := s'.drawn, toks := s'.toks } :=
      I.call (ch := []) (Un.laid k hp hn) (I.hok.laid k hp ⟨hlen, out.toList, c, rv2, hg⟩) (by rw [g]; exact I.bare) (fun _ z => nomatch z)
    have e : s' = { s with heap := s'.heap, gens := s'.gens, drawn := s'.drawn, toks := s'.toks } := by
      cases s'
      cases s
      cases o
      rfl
    rw [e]
    exact ⟨.ref p, _, J, rfl, q ys p h2 hn⟩
variable {S : Sit} {e : PySem.Expr} {m : E} {p p2 q2 pos : Pos}
theorem s_sset (hu : X.A.units + 65 < cLine) (hc : X.calm = true) (hK : X.K = S.Z.K) (hx : BltIs X "sorted") (hy : BltIs X "set") (ha : PA X [e] (tLs S [m])) (hs : notStar e = true) :
    PE X (.Call (.Name "sorted" p) [.Call (.Name "set" p2) [e] [] q2] [] pos) (tE S (.bi .sset [m])) := by
  have inner : PE X (.Call (.Name "set" p2) [e] [] q2) (tCB (rSetN X.K X.w) (tLs S [m])) := pe_callTy (cr_setN hc (by omega)) hy.gl hy.no (by decide +kernel) ha (by decide +kernel) (by decide +kernel) (star_cons hs) (star_any rfl)
  refine PE.imp (pe_callB (cr_sortedN hc hu) hx.gl hx.no (by decide +kernel) (pa_cons inner pa_nil) (by decide +kernel) (by decide +kernel)) fun σ H Q ⟨F, Fb, env, fr, q⟩ => ?_
  rw [evE, ans_bind] at q
  refine ⟨F, Fb, env, fr, q.mono fun ds k vs F1 H1 g l => ?_⟩
  rw [biD] at k
  unfold ssetD at k
  split at k
  · rename_i xs
    obtain ⟨v, rfl, a, us, rfl, h1, r1⟩ := l.one
    obtain ⟨z, k⟩ := k.ite
    simp only [Bool.and_eq_true, decide_eq_true_eq] at z
    obtain ⟨⟨⟨z1, z2⟩, z3⟩, z4⟩ := z
    have z5 := z3
    unfold sortOk at z5
    simp only [Bool.and_eq_true] at z5
    rw [hK]
    refine ⟨a, us, xs, rfl, .of h1, dps_of 60 xs us z5.1.1 r1, z1, z2, z4, _, reps_each r1, fun b L ds' hb pm hk he => ?_⟩
    have sub : ∀ d ∈ ds', d ∈ xs := fun d hd => ded_sub xs d (pm.mem_iff.mp hd)
    have hf : ¬ F1 b := fun f => g.th b f hb
    have r2 : Reps S.Z F1 (upd H1 b (SetNO X.w b L)) ds' (L.map fun p => V.ref p.1) := reps_upd hf (each_reps he)
    have ok : sortOk ds' = true := by
      unfold sortOk at z3 ⊢
      simp only [Bool.and_eq_true, Bool.or_eq_true, List.all_eq_true] at z3 ⊢
      exact ⟨⟨fun x hx => z3.1.1 x (sub x hx), fun x hx y hy => z3.1.2 x (sub x hx) y (sub y hy)⟩, z3.2.imp (fun h x hx => h x (sub x hx)) fun h x hx => h x (sub x hx)⟩
    have ek : ds'.all (eqOk 60) = true := List.all_eq_true.mpr fun x hx => List.all_eq_true.mp z5.1.1 x (sub x hx)
    have an : ∀ a ∈ dedD xs, ∀ b ∈ dedD xs, PySem.W.dataLe false toPy a b = true → PySem.W.dataLe false toPy b a = true → a = b := fun x hx y hy l1 l2 => by
      rw [PySem.W.dataLe_eq] at l1 l2
      simp only [cond, Bool.not_eq_true'] at l1 l2
      have hx' := ded_sub xs x hx
      have hy' := ded_sub xs y hy
      have o1 := List.all_eq_true.mp z5.1.1
      have al := List.all_eq_true.mp (List.all_eq_true.mp z5.1.2 x hx') y hy'
      have z := py_anti al l2 l1
      rw [← eqD_py 60 x y (o1 x hx') (o1 y hy')] at z
      exact key_eqD 8 x y (List.all_eq_true.mp z1 x hx') (List.all_eq_true.mp z1 y hy') z
    refine ⟨b, L, ds', rfl, upd_same, hk, dps_of 60 ds' _ ek r2, List.all_eq_true.mpr fun x hx => List.all_eq_true.mp z1 x (sub x hx), List.all_eq_true.mpr fun x hx => List.all_eq_true.mp z2 x (sub x hx), ok, _, reps_each r2, fun ys p hy hq => ?_⟩
    rw [sort_uniq toPy pm an] at hy
    have g2 : Ext F H F1 (upd H1 b (SetNO X.w b L)) := g.trans (Ext.new g.th hb)
    exact k _ F1 _ (g2.trans (Ext.new g2.th hq)) ⟨p, rfl, g2.back hq, fun f => g2.th p f hq, ys, upd_same, reps_upd (fun f => g2.th p f hq) (each_reps hy)⟩
  · exact k.elim
end
end Mi
/-! sorted(xs, key=f), f a def: the loop of keys, by an invariant of one's own -/
namespace MiK
open PySem PySem.Calls PyProof.Rows PySem.W
def gone (h : Heap) (a : Addr) : Heap := h.update a fun o => { o with data := .freed }
theorem gone_at (h : Heap) (a : Addr) : (gone h a).get? a = none := by
  obtain ⟨objs, l⟩ := h
  show (match (objs.modify a _)[a]? with | some ⟨_, _, .freed, _⟩ => none | o => o) = none
  rw [Array.getElem?_modify, if_pos rfl]
  cases objs[a]? <;> rfl
theorem gone_ne {h : Heap} {a b : Addr} (hb : b ≠ a) : (gone h a).get? b = h.get? b := (Heap.SameBut.update h a _).2 b hb
section
variable {prog : Program} {w : World} {A : Around} {E : Value → Shared → Prop} {s : Shared} {a kS : Addr} {b : Bool} {vs : List Value} {e1 : Nat} {P : PySem.Fin → Shared → Prop} {f : Value} {J : Nat → List Value → Shared → Prop}
def Turn (prog : Program) (w : World) (A : Around) (f : Value) (a kS : Addr) (e1 : Nat) (J : Nat → List Value → Shared → Prop) (vs : List Value) : Prop :=
  ∀ i v ks s1, vs[i]? = some v → J i ks s1 → ks.length = i → ∀ e, s1.heap.get? kS = some (seqObj "list" ks.toArray e) → s1.heap.get? a = some (seqObj "list" #[] e1) →
      wpAny (model prog w) A (call f [v]) (fun u s2 => s2.heap.get? kS = some (seqObj "list" ks.toArray e) ∧ s2.heap.get? a = some (seqObj "list" #[] e1) ∧ ∀ h', Heap.SameBut kS s2.heap h' → J (i + 1) (ks ++ [u]) { s2 with heap := h' }) (fun _ _ => False) s1
def Last (A : Around) (a kS : Addr) (b : Bool) (J : Nat → List Value → Shared → Prop) (vs : List Value) (P : PySem.Fin → Shared → Prop) : Prop :=
  ∀ ks s1, J vs.length ks s1 → ks.length = vs.length → ∃ kz, AllAlike kz ∧ Sortable kz ∧ (∀ d, d ∈ kz → A.units + d.depth < cLine) ∧ EachIs (fun v k => ∃ as, Reads s1.heap v k as) ks kz ∧
      ∀ h' tk out c, (∀ b o, b ≠ a → b ≠ kS → s1.heap.get? b = some o → h'.get? b = some o) → h'.get? a = some (seqObj "list" (List.toArray out) c) → KeyedOut b kz vs out → P (.done (.ret .none)) { s1 with heap := h', toks := tk }
theorem rest (hka : kS ≠ a) (hZ : vs.length ≤ sizeLine) (nk : s.heap.get? kS = some (seqObj "list" #[] 0)) (na : s.heap.get? a = some (seqObj "list" #[] e1)) (h0 : J 0 [] s)
    (turn : Turn prog w A f a kS e1 J vs) (fin : Last A a kS b J vs P) : wpAny (model prog w) A (ksk_rest a f b vs.toArray e1 (.ref kS)) P E s := by
  unfold ksk_rest
  refine wpAny_bind (wpAny_rule ?_)
  first
    | rw [List.forIn_toArray]
    | (rw [← Array.forIn_toList]; simp only [List.toList_toArray])
    | rw [← Array.forIn_toList]
  refine wpAny_bind (ksk_fold (fun i s' => ∃ ks e, J i ks s' ∧ ks.length = i ∧ s'.heap.get? kS = some (seqObj "list" (List.toArray ks) e) ∧ s'.heap.get? a = some (seqObj "list" #[] e1)) vs 0 s ⟨[], 0, h0, rfl, nk, na⟩ ?step ?done)
  case step =>
    rintro j x s' hx ⟨ks, e, hJ, hl, nk', na'⟩
    simp only [Nat.zero_add] at hJ hl ⊢
    have hj : j < vs.length := (List.getElem?_eq_some_iff.mp hx).1
    refine wpAny_bind (wpAny_attempt (wpAny_mono (turn j x ks s' hx hJ hl e nk' na') (fun v s2 he => ?_) fun _ _ hF => hF.elim))
    obtain ⟨nk2, na2, hJ2⟩ := he
    try dsimp only
    have s1 := Heap.SameBut.update s2.heap kS (Obj.mapSeq (·.push v))
    obtain ⟨c2, hc2⟩ : ∃ c2, (s2.heap.update kS (Obj.mapSeq (·.push v))).get? kS = some (seqObj "list" ((List.toArray ks).push v) c2) := ⟨_, get?_update_seq nk2 (·.push v)⟩
    have hz : (List.toArray ks).size ≤ sizeLine := by
      rw [List.size_toArray]
      omega
    refine wpAny_bind (listUpdate_at nk2 rfl ?_ hz (Nat.le_trans (Nat.le_of_eq (Array.size_push ..)) (Nat.succ_le_succ hz)))
    refine wpAny_pure ⟨rfl, ks ++ [v], c2, hJ2 _ s1, by simp [hl], ?_, (s1.2 a hka.symm).trans na2⟩
    rw [hc2]
    simp
  case done =>
    rintro s' ⟨ks, e, hJ, hl, nk', na'⟩
    rw [Nat.zero_add] at hJ hl
    obtain ⟨kz, hal, hsk, hu, hk, h⟩ := fin ks s' hJ hl
    refine wpAny_bind (listItems_at nk' rfl ?_)
    have kp : KeepsBut a (gone s'.heap kS) s'.heap := fun b o hb e => by
      by_cases hc : b = kS
      · rw [hc, gone_at] at e
        cases e
      · rw [gone_ne hc] at e
        exact e
    have hkl : (List.toArray ks).toList = ks := by simp
    refine keyH_end (κ := dataKind s'.heap kz) (h₁ := gone s'.heap kS) (keys := List.toArray ks) kp (gone_at _ _) nk' na' hka (by rw [hkl]; exact SortsAt.data hk hal hsk hu) (by rw [List.size_toArray]; exact hl) hZ fun h3 tk3 c k3 n3 => ?_
    rw [hkl] at n3
    exact h h3 tk3 _ c (fun b o h1 h2 q => k3 b o h1 ((gone_ne h2).trans q)) n3 ⟨s'.heap, ks, hal, rfl, hk⟩
theorem tree {n : Nat} (ho : s.heap.get? a = some (seqObj "list" vs.toArray n)) (hk : kS = s.heap.objs.size + 1) (hZ : vs.length ≤ sizeLine)
    (h0 : ∀ h1, (∀ b o, b ≠ a → s.heap.get? b = some o → h1.get? b = some o) → J 0 [] { s with heap := h1 }) (turn : ∀ e1, Turn prog w A f a kS e1 J vs) (fin : Last A a kS b J vs P) : wpAny (model prog w) A (ksk_tree a f b) P E s := by
  have ha : a < s.heap.objs.size := Heap.lt_size ho
  obtain ⟨e1, ho1⟩ : ∃ e1, (s.heap.update a (Obj.mapSeq fun _ => (#[] : Array Value))).get? a = some (seqObj "list" #[] e1) := ⟨_, get?_update_seq ho fun _ => #[]⟩
  have hkS : ((s.heap.update a (Obj.mapSeq fun _ => (#[] : Array Value))).push (seqObj "tuple" vs.toArray 0)).objs.size = kS := by rw [size_push', Heap.size_update, hk]
  unfold ksk_tree
  refine wpAny_bind (listItems_at ho rfl ?_)
  refine wpAny_bind (listUpdate_at ho rfl ?_ (by rw [List.size_toArray]; exact hZ) (Nat.zero_le _))
  refine wpAny_bind (seqEpoch_at ho1 rfl ?_)
  refine wpAny_bind (wpAny_newTuple ?_ (by show vs.length ≤ _; exact hZ))
  refine wpAny_bind (wpAny_newList ?_ (Nat.zero_le _))
  refine wpAny_holding ?_
  show wpAny (model prog w) A (ksk_rest a f b vs.toArray _ (.ref _)) P E { s with heap := ((s.heap.update a (Obj.mapSeq fun _ => (#[] : Array Value))).push (seqObj "tuple" vs.toArray 0)).push (seqObj "list" #[] 0) }
  rw [hkS]
  refine rest (fun z => absurd ha (by rw [← z, hk]; exact Nat.not_lt.mpr (Nat.le_succ _))) hZ (by rw [← hkS]; exact Heap.get?_push_size _ rfl) (Heap.get?_push_of_some _ (Heap.get?_push_of_some _ ho1)) (h0 _ fun b o hb q => sortingHeap_old hb q) (turn _) fin
theorem sorted {l : Addr} {kw : List (Str × Value)} {Q : Value → Shared → Prop} (hl : s.heap.IsList l vs.toArray) (ha : a = s.heap.objs.size + 1) (hk : kS = s.heap.objs.size + 3) (hZ : vs.length ≤ sizeLine) (ha1 : argsOk "sorted" ⟨[.ref l], kw⟩) (ha2 : ∀ x, argsOk "list.sort" ⟨[.ref x], kw⟩) (ht : ∀ x, Builtin.«list.sort» ⟨[.ref x], kw⟩ = ksk_tree x f b)
    (h0 : ∀ h1, (∀ b o, s.heap.get? b = some o → h1.get? b = some o) → J 0 [] { s with heap := h1 }) (turn : ∀ e1, Turn prog w A.in1.in1 f a kS e1 J vs) (fin : Last A.in1.in1 a kS b J vs fun fi s' => fi = .done (.ret .none) ∧ Q (.ref a) s') :
    wpAny (model prog w) A (call (.builtin "sorted") [.ref l] kw) Q E s := by
  refine sorted_of_sort hl hZ ha1 ha2 fun E' => ?_
  rw [ht, ← ha]
  have hsz : (copyHeap s.heap vs).objs.size = s.heap.objs.size + 2 := by
    unfold copyHeap
    rw [size_push', Heap.size_update, size_push']
  refine tree (n := 0) (J := J) (s := { s with heap := copyHeap s.heap vs }) (by rw [ha]; exact copyHeap_at s.heap vs) (by show kS = (copyHeap s.heap vs).objs.size + 1; rw [hsz, hk]) hZ (fun h1 kp => h0 h1 fun b o q => kp b o (by rw [ha]; exact Nat.ne_of_lt (Nat.lt_succ_of_lt (Heap.lt_size q))) (copyHeap_old q)) turn fin
end
end MiK
namespace Mi
open PySem L2
/-! ### sorted(xs, key=f) -/
theorem Un.same {fs ex : List Addr} {H H' : Hp} {h h1 h2 : Heap} {c : Addr} (u : Un fs ex H H' h h1) (sb : Heap.SameBut c h1 h2) (hc : h.get? c = none) : Un fs ex H H' h h2 := by
  have ne : ∀ b o, h.get? b = some o → b ≠ c := fun b o q z => by
    rw [z, hc] at q
    cases q
  exact ⟨fun b o q n hb hx => (sb.2 b (ne b o q)).trans (u.keep b o q n hb hx), fun b o q n hb hx => (u.slot b o q n hb hx).imp fun sl z => (sb.2 b (ne b o q)).trans z, u.free, fun b o q hx => (u.there b o q hx).imp fun o' z => (sb.2 b (ne b o q)).trans z, u.tups, u.frzs, u.tbls⟩
theorem HOk.sames {P : Program} {w : World} {H : Hp} {h h' : Heap} (k : HOk P w H h) (kp : ∀ b o, H b ≠ none → h.get? b = some o → h'.get? b = some o) : HOk P w H h' := fun b u e => by
  refine (k b u e).stay (fun c v hc q => kp c v ?_ q) (fun _ q => q) fun _ _ q => q
  rcases hc with z | z
  · rw [z, e]
    exact fun y => by cases y
  · rw [z]
    exact fun y => by cases y
/-- a key's def, with room for two calls between -/
structure KeyIs (X : Cx) (Z : Wd) (x : Str) (run : List Slot → R D) : Prop where
  gl : ∃ k fa fd ps, FnOk X.prog X.w X.K X.mg X.base (L2.CX X.prog X.w) k fa fd ps (spF Z false 1 run) ∧ Room (k + 2) X.A ∧ X.mg x = some (.ref fa) ∧ PySem.W.keepIn X.K (.ref fa) = true ∧ Binds X.K fd ps []
/-- a call of the key's def, with nothing let out -/
theorem run_key {X : Cx} {k : Nat} {fa : Addr} {fd : FuncData} {ps : List Str} {sp : Sp} {pins : List (Addr × Obj)} {σ : L2.St} {H : Hp} {s : Shared} {Q : VK} {us : List Value} {vs : List V} (F : FnOk X.prog X.w X.K X.mg X.base (L2.CX X.prog X.w) k fa fd ps sp) (hr : Room k X.A.in1.in1) (hb : Binds X.K fd ps [])
    (I : Inv X pins σ H s) (r : Vals vs us) (h : sp vs H Q (fun _ _ _ => False)) : wpAny (model X.prog X.w) X.A.in1.in1 (call (.ref fa) us) (CE X.stack X.prog X.w H s Q) (fun _ _ => False) s := by
  have hl : us.length = ps.length := by rw [← r.length]; exact F.len _ _ _ _ h
  have b := hb s us I.kIn (by rw [List.append_nil]; exact hl)
  rw [List.append_nil] at b
  refine wpAny_call (codeAny_mono (F.run X.A.in1.in1 X.stack s H ⟨us, []⟩ us vs Q _ hr I.env0.in1.in1 b r h) fun r s' hq => ?_)
  cases r with
  | error e =>
    obtain ⟨_, _, _, _, _, _, _, _, _, _, _, _, z⟩ := hq
    exact z
  | ok fl =>
    cases fl with
    | ret u => exact hq
    | next => exact False.elim hq
    | brk => exact False.elim hq
    | cont => exact False.elim hq
theorem keys_len {run : D → R D} : ∀ {xs ks : List D}, keysL run xs = .ok ks → ks.length = xs.length
  | [], ks, h => by cases h; rfl
  | x :: xs, ks, h => by
    rw [keysL] at h
    cases h1 : run x with
    | ok k =>
      rw [h1, R.bind_ok] at h
      cases h2 : keysL run xs with
      | ok r =>
        rw [h2] at h
        cases h
        rw [List.length_cons, List.length_cons, keys_len h2]
      | exc x => rw [h2] at h; cases h
      | bad => rw [h2] at h; cases h
    | exc x => rw [h1] at h; cases h
    | bad => rw [h1] at h; cases h
theorem keys_at {run : D → R D} : ∀ {xs ks : List D} {i : Nat} {x : D}, keysL run xs = .ok ks → xs[i]? = some x → ∃ k, ks[i]? = some k ∧ run x = .ok k
  | [], _, _, _, _, h => by simp at h
  | x :: xs, ks, i, y, h, hi => by
    rw [keysL] at h
    cases h1 : run x with
    | ok k =>
      rw [h1, R.bind_ok] at h
      cases h2 : keysL run xs with
      | ok r =>
        rw [h2] at h
        cases h
        cases i with
        | zero =>
          cases hi
          exact ⟨k, rfl, h1⟩
        | succ i => exact keys_at (i := i) h2 hi
      | exc x => rw [h2] at h; cases h
      | bad => rw [h2] at h; cases h
    | exc x => rw [h1] at h; cases h
    | bad => rw [h1] at h; cases h
theorem each_at {α β : Type} {P : α → β → Prop} : ∀ {as : List α} {bs : List β}, PySem.W.EachIs P as bs → ∀ {i : Nat} {a : α}, as[i]? = some a → ∃ b, bs[i]? = some b ∧ P a b
  | [], [], .nil, _, _, h => by simp at h
  | a :: as, b :: bs, .cons p t, 0, _, h => by
    cases h
    exact ⟨b, rfl, p⟩
  | a :: as, b :: bs, .cons p t, i + 1, _, h => each_at (i := i) t h
theorem each_snoc' {α β : Type} {P : α → β → Prop} : ∀ {as : List α} {bs : List β} {a : α} {b : β}, PySem.W.EachIs P as bs → P a b → PySem.W.EachIs P (as ++ [a]) (bs ++ [b])
  | [], [], _, _, .nil, p => .cons p .nil
  | _ :: _, _ :: _, _, _, .cons q t, p => .cons q (each_snoc' t p)
theorem each_zip {α β γ : Type} {P : α → β → Prop} : ∀ {as : List α} {bs : List β} {cs : List γ}, PySem.W.EachIs P as bs → cs.length = bs.length → PySem.W.EachIs (fun a p => P a p.1) as (bs.zip cs)
  | [], [], [], .nil, _ => .nil
  | _ :: _, _ :: _, _ :: _, .cons q t, h => .cons q (each_zip t (by simpa using h))
theorem each_map {α β γ : Type} {P : α → γ → Prop} {f : β → γ} : ∀ {as : List α} {bs : List β}, PySem.W.EachIs (fun a b => P a (f b)) as bs → PySem.W.EachIs P as (bs.map f)
  | [], [], .nil => .nil
  | _ :: _, _ :: _, .cons q t => .cons q (each_map t)
theorem zip_snd {α β : Type} : ∀ {as : List α} {bs : List β}, bs.length = as.length → (as.zip bs).map (·.2) = bs
  | [], [], _ => rfl
  | _ :: _, _ :: _, h => congrArg _ (zip_snd (by simpa using h))
theorem sort_py {ds : List D} (hok : sortOk ds = true) : PySem.W.AllAlike (ds.map toPy) ∧ PySem.W.Sortable (ds.map toPy) := by
  unfold sortOk at hok
  simp only [Bool.and_eq_true, Bool.or_eq_true, List.all_eq_true] at hok
  obtain ⟨⟨k1, k2⟩, k3⟩ := hok
  refine ⟨fun d hd d' hd' => ?_, ?_⟩
  · obtain ⟨b, hb, rfl⟩ := List.mem_map.mp hd
    obtain ⟨b', hb', rfl⟩ := List.mem_map.mp hd'
    exact k2 b hb b' hb'
  · rcases k3 with k3 | k3
    · refine .inl fun d hd => ?_
      obtain ⟨b, hb, rfl⟩ := List.mem_map.mp hd
      have := k3 b hb
      cases b with
      | tup l =>
        cases l with
        | nil => cases this
        | cons x r => exact ⟨toPy x, toPys r, by rw [toPy, toPys]⟩
      | _ => cases this
    · refine .inr fun d hd => ?_
      obtain ⟨b, hb, rfl⟩ := List.mem_map.mp hd
      have := k3 b hb
      cases b <;> first | (cases this; done) | (refine ⟨fun z => ?_, fun l z => ?_⟩ <;> (rw [toPy] at z; cases z))
def rSrt (X : Cx) (Z : Wd) (fa : Addr) (run : List Slot → R D) : List V → List V → Hp → VK → Prop := fun vs zs H Q => ∃ (a : Addr) (us : List V) (xs ks : List D) (F : Fz), vs = [V.ref a] ∧ zs = [V.ref fa] ∧ SqL X.K H a us ∧ (∀ b, F b → H b ≠ none) ∧ Reps Z F H xs us ∧
  keysL (fun x => run [.frz x]) xs = .ok ks ∧ sortOk ks = true ∧ ∀ F' H', Ext F H F' H' → ∀ (ys : List V) (p : Addr), PySem.W.EachIs (fun v d => Rep Z F' H' d v) ys (sortK xs ks) → H' p = none → Q (.ref p) (upd H' p (.lst ys))
theorem cr_srt {X : Cx} {Z : Wd} {run : List Slot → R D} {k : Nat} {fa : Addr} {fd : FuncData} {ps : List Str} (hu : X.A.units + 65 < cLine) (hK : X.K = Z.K) (F : FnOk X.prog X.w X.K X.mg X.base (L2.CX X.prog X.w) k fa fd ps (spF Z false 1 run)) (hr : Room (k + 2) X.A) (hb : Binds X.K fd ps []) :
    CallRK X (.builtin "sorted") [Str.ofString "key"] (rSrt X Z fa run) := by
  intro pins s σ H vs zs us ws Q I r rz h
  obtain ⟨a, vs, xs, ks, F0, rfl, rfl, hs, th, rep, hk, hok, q⟩ := h
  obtain ⟨its, rv, hl, hz⟩ := I.list hs
  rw [Vals.ref1 r]
  obtain ⟨w1, rfl, e1⟩ := vals1 rz
  obtain rfl : w1 = Value.ref fa := e1
  have hlen : vs.length = its.length := rv.length
  have hlx : xs.length = vs.length := (reps_each rep).length.symm
  have hlk : ks.length = xs.length := keys_len hk
  have frs_lt : ∀ b ∈ L2.frs X.stack, b < s.heap.objs.size := fun b hb => by
    rcases List.mem_cons.mp (I.stkSub b hb) with z | z
    · rw [z]
      exact I.lt
    · exact Nat.lt_of_not_le fun y => I.nofs y z
  have none_at : ∀ b, s.heap.objs.size ≤ b → s.heap.get? b = none := fun b hb => Heap.get?_none_of_le hb
  show wpAny (model X.prog X.w) X.A (call (.builtin "sorted") [.ref a] [(Str.ofString "key", .ref fa)]) (EP X pins σ Q) X.xe s
  refine MiK.sorted (f := .ref fa) (b := false) (J := fun i kv s1 => ∃ (H1 : Hp) (F1 : Fz) (kvs : List V), s1.os = s.os ∧ PyProof.Rows.AllBare s1.gens ∧ Un (L2.frs X.stack) [] H H1 s.heap s1.heap ∧ HOk X.prog X.w H1 s1.heap ∧ H1 (s.heap.objs.size + 1) = none ∧ H1 (s.heap.objs.size + 3) = none ∧ Ext F0 H F1 H1 ∧ Vals kvs kv ∧ PySem.W.EachIs (fun v d => Rep Z F1 H1 d v) kvs (ks.take i))
    hl.isList rfl rfl (by rw [← hlen]; exact hz) (PyProof.Rows.ksk_s1 _ _) (fun _ => PyProof.Rows.ksk_l1 _ _) (fun x => PyProof.Rows.ksk_t1 _ _) (fun h1 kp => ?_) (fun e1 i v kv s1 hi hJ hl2 e n1 n2 => ?_) (fun kv s1 hJ hl2 => ?_)
  · exact ⟨H, F0, [], rfl, I.bare, Un.kept kp, I.hok.kept kp, I.hok.fresh (Nat.le_succ _), I.hok.fresh (by omega), Ext.refl th, .nil, by rw [List.take_zero]; exact .nil⟩
  · obtain ⟨H1, F1, kvs, os, bare, un, hok1, a1, a2, g, rk, rpk⟩ := hJ
    have I1 : Inv X pins σ H1 s1 := I.call' (ch := []) os un hok1 bare (fun b hb => nomatch hb)
    have hiv : i < its.length := (List.getElem?_eq_some_iff.mp hi).1
    obtain ⟨y, hy, ry⟩ : ∃ y, vs[i]? = some y ∧ RelV y v := by
      have hy : vs[i]? = some (vs[i]'(by omega)) := List.getElem?_eq_getElem _
      obtain ⟨u, e, rr⟩ := rv.get hy
      rw [hi] at e
      cases e
      exact ⟨_, hy, rr⟩
    obtain ⟨d, hd, rd⟩ := each_at (reps_each rep) hy
    obtain ⟨kd, hkd, hrun⟩ := keys_at hk hd
    refine wpAny_mono (run_key (Q := fun kv2 H2 => ∃ F2, Ext F1 H1 F2 H2 ∧ Rep Z F2 H2 kd kv2) F hr.in1.in1 hb I1 (us := [v]) (vs := [y]) (.cons ry .nil) ⟨rfl, F1, [.frz d], g.th, ⟨y, [], rfl, g.rep rd, rfl⟩, ?_⟩) (fun u s2 hq => ?_) fun _ _ z => z
    · rw [hrun]
      exact fun v2 F' H' g2 p => ⟨F', g2, p⟩
    · obtain ⟨v2, H2, os2, bare2, un2, hok2, rv2, F2, g2, rp2⟩ := hq
      have n1' : (s.heap.objs.size + 3) ∉ L2.frs X.stack := fun z => absurd (frs_lt _ z) (Nat.not_lt.mpr (Nat.le_add_right _ _))
      have n2' : (s.heap.objs.size + 1) ∉ L2.frs X.stack := fun z => absurd (frs_lt _ z) (Nat.not_lt.mpr (Nat.le_add_right _ _))
      have b1 := un2.free _ _ n2 a1 (by simp)
      have b2 := un2.free _ _ n1 a2 (by simp)
      refine ⟨un2.keep _ _ n1 a2 n1' (by simp), un2.keep _ _ n2 a1 n2' (by simp), fun h' sb => ?_⟩
      refine ⟨H2, F2, kvs ++ [v2], os2.trans os, bare2, Un.same (un.trans un2) sb (none_at _ (by omega)), HOk.sames hok2 (fun b o nb q => (sb.2 b fun z => nb (by rw [z]; exact b2)).trans q), b1, b2, g.trans g2, rk.append (.cons rv2 .nil), ?_⟩
      rw [List.take_add_one, hkd]
      exact each_snoc' (rpk.mono fun v d r => g2.rep r) rp2
  · obtain ⟨H1, F1, kvs, os, bare, un, hok1, a1, a2, g, rk, rpk⟩ := hJ
    have I1 : Inv X pins σ H1 s1 := I.call' (ch := []) os un hok1 bare (fun b hb => nomatch hb)
    rw [← hlen, List.take_of_length_le (by omega)] at rpk
    have k1 : ∀ d ∈ ks, eqOk 60 d = true := by
      unfold sortOk at hok
      simp only [Bool.and_eq_true, List.all_eq_true] at hok
      exact hok.1.1
    have dpk := dps_of 60 ks kvs (List.all_eq_true.mpr k1) (each_reps rpk)
    rw [← hK] at dpk
    obtain ⟨al, so⟩ := sort_py hok
    obtain ⟨wss, rd⟩ := Dp.readsAll I1 (toPys ks) kvs kv dpk rk
    have e2 : PySem.W.EachIs (fun v b => ∃ as, Reads s1.heap v (toPy b) as) kv ks := PySem.W.readsAll_each toPy (by rw [← toPys_map]; exact rd)
    refine ⟨ks.map toPy, al, so, fun d hd => ?_, each_map e2, fun h' tk out c kp ho hko => ⟨rfl, ?_⟩⟩
    · obtain ⟨b, hb, rfl⟩ := List.mem_map.mp hd
      have := (eqOk_lay 60 b (k1 b hb)).2
      show X.A.units + 1 + 1 + (toPy b).depth < cLine
      omega
    · have rel : its.length = vs.length ∧ ∀ (i : Nat) (u : Value) (v : V), its[i]? = some u → vs[i]? = some v → RelV v u := ⟨hlen.symm, fun i u v h1 h2 => by
        obtain ⟨u', e, rr⟩ := rv.get h2
        rw [h1] at e
        cases e
        exact rr⟩
      have eR := each_zip (cs := ks) (each_comp (P := fun u v => RelV v u) rel (reps_each (g.reps rep))) (by omega)
      have hmap : (xs.zip ks).map (fun p => toPy p.2) = ks.map toPy := by
        rw [show (fun p : D × D => toPy p.2) = toPy ∘ (fun p : D × D => p.2) from rfl, ← List.map_map, zip_snd hlk]
      rw [← hmap] at hko
      have eo := PySem.W.keyedOut_each (fun p : D × D => toPy p.2) hko eR
      obtain ⟨ys, hy1, hy2⟩ := each_pick eo
      have rvy := each_vals hy1
      have hylen : ys.length ≤ sizeLine := by
        have h1 := hy2.length
        rw [List.length_mergeSort, List.length_zip] at h1
        omega
      have I2 : Inv X pins σ (upd H1 (s.heap.objs.size + 1) (.lst ys)) { s1 with heap := h', toks := tk } := Inv.drained (ex := []) (acc := out.toArray) (c := c) I (by omega) hylen ho (by rw [List.toList_toArray]; exact rvy) ExOk.nil os bare ?_ ?_ a1
      · exact ⟨.ref (s.heap.objs.size + 1), _, I2, rfl, q F1 H1 g ys _ (each_map hy2) a1⟩
      · have ne : ∀ b o, s.heap.get? b = some o → b ≠ s.heap.objs.size + 1 ∧ b ≠ s.heap.objs.size + 3 := fun b o z => by
          have lt := Heap.lt_size z
          exact ⟨Nat.ne_of_lt (Nat.lt_succ_of_lt lt), Nat.ne_of_lt (Nat.lt_of_lt_of_le lt (Nat.le_add_right _ _))⟩
        exact ⟨fun b o z n hb hx => kp b o (ne b o z).1 (ne b o z).2 (un.keep b o z n hb hx), fun b o z n hb hx => (un.slot b o z n hb hx).imp fun sl y => kp b _ (ne b o z).1 (ne b o z).2 y, un.free, fun b o z hx => (un.there b o z hx).imp fun o' y => kp b _ (ne b o z).1 (ne b o z).2 y, un.tups, un.frzs, un.tbls⟩
      · exact HOk.sames hok1 fun b o nb z => kp b o (fun y => nb (by rw [y]; exact a1)) (fun y => nb (by rw [y]; exact a2)) z
section
variable {X : Cx} {S : Sit} {pos p p3 kp : Pos} {e : PySem.Expr} {m : E} {y : Str} {f : Nat}
theorem s_srt (hu : X.A.units + 65 < cLine) (hK : X.K = S.Z.K) (hx : BltIs X "sorted") (hf : KeyIs X S.Z y (S.Γ.call f)) (hg : Gl X y) (hd : (y == ("__debug__" : Str)) = false) (he : PE X e (tE S m)) (hs : notStar e = true) :
    PE X (.Call (.Name "sorted" p) [e] [⟨some "key", .Name y p3, kp⟩] pos) (tE S (.srt f m)) := by
  obtain ⟨k, fa, fd, ps, G, hr, hm, hk, hb⟩ := hf.gl
  refine PE.imp (pe_callBK (cr_srt hu hK G hr hb) hx.gl hx.no (by decide +kernel) (pa_cons (lent_of he) pa_nil (star_cons hs)) (pk_cons (pe_glob hg hm (v := .ref fa) rfl hd) pk_nil) (by decide +kernel) (by decide +kernel) (by rw [star_cons hs]; rfl) (by rw [star_cons hs]; rfl)) fun σ H Q ⟨F, Fb, env, fr, q⟩ => ?_
  rw [evE, ans_bind] at q
  refine ⟨F, Fb, env, fr, q.mono fun d k2 v F1 H1 g l => ?_⟩
  show rSrt X S.Z fa (S.Γ.call f) [v] [.ref fa] H1 Q
  unfold srtD at k2
  split at k2
  · rename_i xs
    obtain ⟨a, us, rfl, h1, r1⟩ := l
    rw [ans_bind] at k2
    obtain ⟨ks, e1, k2⟩ := nox_ok k2
    obtain ⟨z, k2⟩ := k2.ite
    rw [← hK] at *
    refine ⟨a, us, xs, ks, F1, rfl, rfl, .of h1, g.th, r1, e1, z, fun F' H' g2 ys p hy hq => ?_⟩
    have g3 := g.trans g2
    exact k2 _ F' _ (g3.trans (Ext.new g3.th hq)) ⟨p, rfl, g3.back hq, fun f => g3.th p f hq, ys, upd_same, reps_upd (fun f => g3.th p f hq) (each_reps hy)⟩
  · exact k2.elim
end
end Mi
namespace MiK
open PySem PySem.Spec PySem.Calls PyProof.Rows PySem.W L2
def tRev (K : PySem.W.Frag) (te : TE) : TE := fun σ H Q => te σ H fun x H1 => ∃ a xs, x = V.ref a ∧ ((SqL K H1 a xs ∧ ∀ p, H1 p = none → Q (.ref p) (upd H1 p (.lst xs.reverse))) ∨ (SqT K H1 a xs ∧ ∀ p, H1 p = none → Q (.ref p) (upd H1 p (.tup xs.reverse))))
theorem pe_rev {X : Cx} {e : PySem.Expr} {te : TE} {k : Nat} {p1 p2 p3 pos : Pos} (he : PE X e te) : PE X (.Subscript e (.Slice none none (some (.UnaryOp .USub (.Constant (.int 1) k p1) p2)) p3) pos) (tRev X.K te) := by
  refine ⟨fun pins s σ H Q I h => ?_⟩
  refine Subscript_ (thn (he.run pins s σ H _ I h) fun v s1 ⟨x, H1, I1, r1, q1⟩ => ?_)
  obtain ⟨a, xs, ex, q⟩ := q1
  subst ex
  cases r1
  have hst : PO X (some (.UnaryOp .USub (.Constant (.int 1) k p1) p2)) (tPart (tUn (rU fun i => .int (-i)) (tC (.int 1)))) := po_some (pe_un un_neg pe_int)
  refine wpAny_Slice (thn (po_none.run pins s1 σ H1 (fun o H2 => o = none ∧ H2 = H1) I1 ⟨rfl, rfl⟩) fun vl s2 ⟨l, H2, I2, pl, el, e2⟩ => ?_)
  subst el e2
  refine thn (po_none.run pins s2 σ H2 (fun o H3 => o = none ∧ H3 = H2) I2 ⟨rfl, rfl⟩) fun vu s3 ⟨u, H3, I3, pu, eu, e3⟩ => ?_
  subst eu e3
  refine thn (hst.run pins s3 σ H3 (fun o H4 => o = some (-1) ∧ H4 = H3) I3 ⟨1, rfl, -1, rfl, rfl, rfl⟩) fun vs s4 ⟨o, H4, I4, ps, eo, e4⟩ => ?_
  subst eo e4
  have I5 : Inv X pins σ H4 { s4 with heap := s4.heap.push { cls := .type "slice", data := .fields #[vl, vu, vs] } } := I4.kept (t' := s4.toks) fun b ob q => Heap.get?_push_of_some _ q
  show wpAny (model X.prog X.w) X.A (subscriptTail e (.Slice none none (some (.UnaryOp .USub (.Constant (.int 1) k p1) p2)) p3) (.ref a) (.ref s4.heap.objs.size)) (EP X pins σ Q) X.xe { s4 with heap := s4.heap.push { cls := .type "slice", data := .fields #[vl, vu, vs] } }
  rcases q with ⟨hx, q⟩ | ⟨hx, q⟩
  · obtain ⟨its, r, ht, hz⟩ := I5.list hx
    have hlen := r.length
    refine tail_any (ops := [.ref a, .ref s4.heap.objs.size]) ht.isList.typeIs (PySem.slot_list_getitem.lookup) ?_ (by with_unfolding_all rfl)
    refine wpAny_getItem_list_slice ht.isList (Heap.IsSliceOf.new _ vl vu vs) pl pu ps (by decide) ?_ (by rw [List.size_toArray]; omega)
    rw [PySem.W.krv_pick]
    refine ⟨.ref _, _, I5.laid (t' := s4.toks) (o := .lst xs.reverse) (fun b ob q => Heap.get?_push_of_some _ q) (Nat.le_refl _) ?_, rfl, q _ (I5.hok.fresh (Nat.le_refl _))⟩
    exact ⟨by rw [List.length_reverse]; exact hz, _, 0, r.reverse, Heap.get?_push_size _ rfl⟩
  · obtain ⟨its, r, ht, hz⟩ := I5.tuple hx
    have hlen := r.length
    cases pl
    cases pu
    cases ps
    refine tail_any (ops := [.ref a, .ref s4.heap.objs.size]) ht.typeIs PyProof.Rows.slot_tuple_getitem.lookup ?_ (by with_unfolding_all rfl)
    refine getItem_tuple_rev ht (Heap.IsSliceOf.new ..) ?_ (by rw [List.size_toArray]; omega)
    refine ⟨.ref _, _, I5.laid (t' := s4.toks) (o := .tup xs.reverse) (fun b ob q => Heap.get?_push_of_some _ q) (Nat.le_refl _) ?_, rfl, q _ (I5.hok.fresh (Nat.le_refl _))⟩
    exact ⟨by rw [List.length_reverse]; exact hz, _, r.reverse, IsTup.new _ _⟩
theorem call_min {prog : Program} {w : World} {A : Around} {E : Value → Shared → Prop} {s : Shared} {l : Addr} {vs : Array Value} {x : PyData} {xs : List PyData} {as : List Addr} {Q : Value → Shared → Prop} (hh : A.handled = none) (hl : s.heap.IsList l vs) (hr : ReadsAll s.heap vs.toList (x :: xs) as) (ha : AlikeAll (x :: xs)) (hu : A.units + 1 + PyData.depthAll (x :: xs) < cLine)
    (h : ∀ v h' tk, vs[argBest (fun i j => dataLt ((x :: xs).getD i .none) ((x :: xs).getD j .none)) xs.length]? = some v → (∀ b o, s.heap.get? b = some o → h'.get? b = some o) → Q v { s with heap := h', toks := tk }) :
    wpAny (model prog w) A (call (.builtin "min") [.ref l]) Q E s := by
  have hn : vs.size = xs.length + 1 := readsAll_len hr
  refine call_min_walkH (iter_listW (A := A.in1) hh hl fun s₂ e W st hfp hw hk => ?_)
  refine ⟨_, _, _, _, _, _, _, s.heap, _, rfl, W, st, hfp, by omega, hw, hk, cmpIn_lt (A := A.in1) hr ha (by show A.units + 1 + _ < _; exact hu), fun v s' hP m => ?_⟩
  obtain ⟨h', tk, rfl, hk'⟩ := moved_old e rfl m
  have e1 : vs.size - 1 = xs.length := by omega
  rw [e1] at hP
  exact h v h' tk hP hk'
end MiK
namespace Mi
open PySem L2
/-! ### xs[::-1], t[::-1] -/
theorem reps_rev {Z : Wd} {F : Fz} {H : Hp} {ds : List D} {vs : List V} (h : Reps Z F H ds vs) : Reps Z F H ds.reverse vs.reverse := by
  have go : ∀ {ds : List D} {vs : List V}, PySem.W.EachIs (fun v d => Rep Z F H d v) vs ds → PySem.W.EachIs (fun v d => Rep Z F H d v) vs.reverse ds.reverse := fun {ds vs} e => by
    induction e with
    | nil => exact .nil
    | cons h _ ih =>
      rw [List.reverse_cons, List.reverse_cons]
      exact each_snoc' ih h
  exact each_reps (go (reps_each h))
section
variable {X : Cx} {S : Sit} {e : PySem.Expr} {m : E}
theorem s_rev {k : Nat} {p1 p2 p3 pos : Pos} (hK : X.K = S.Z.K) (he : PE X e (tE S m)) : PE X (.Subscript e (.Slice none none (some (.UnaryOp .USub (.Constant (.int 1) k p1) p2)) p3) pos) (tE S (.rev m)) := by
  refine PE.imp (MiK.pe_rev (lent_of he)) fun σ H Q ⟨F, Fb, env, fr, q⟩ => ?_
  rw [evE, ans_bind] at q
  refine ⟨F, Fb, env, fr, q.mono fun d k v F1 H1 g l => ?_⟩
  unfold revD at k
  rw [hK]
  split at k
  · rename_i xs
    obtain ⟨a, us, rfl, h1, r1⟩ := l
    refine ⟨a, us, rfl, .inl ⟨.of h1, fun p hq => ?_⟩⟩
    obtain ⟨g2, r⟩ := newL g hq (reps_rev r1)
    exact k _ _ _ g2 r
  · rename_i xs
    obtain ⟨a, us, rfl, fa, h1, r1⟩ := l
    refine ⟨a, us, rfl, .inr ⟨.of h1, fun p hq => ?_⟩⟩
    obtain ⟨g2, r⟩ := newT g hq (reps_rev r1)
    exact Hope.rep k rfl g2 r
  · exact k.elim
/-! ### min(xs) -/
def rMinD (K : PySem.W.Frag) : List V → Hp → VK → Prop := fun vs H Q => ∃ (a : Addr) (us : List V) (x : D) (xs : List D), vs = [V.ref a] ∧ SqL K H a us ∧ (x :: xs).all (eqOk 60) = true ∧ (∀ a ∈ x :: xs, ∀ b ∈ x :: xs, PySem.W.alike (toPy a) (toPy b) = true) ∧ (∀ a ∈ x :: xs, toPy a ≠ .none) ∧ DpAll K H us (toPys (x :: xs)) ∧ us.length = (x :: xs).length ∧
  ∀ (i : Nat) u, us[i]? = some u → (x :: xs)[i]? = some (xs.foldl (fun a y => if befD y a then y else a) x) → Q u H
theorem toPys_getD : ∀ (l : List D) (i : Nat), (toPys l).getD i .none = toPy (l.getD i .non)
  | [], _ => rfl
  | d :: l, 0 => rfl
  | d :: l, i + 1 => by
    rw [toPys, List.getD_cons_succ, List.getD_cons_succ]
    exact toPys_getD l i
theorem cr_min (hc : X.calm = true) (hu : X.A.units + 65 < cLine) : CallR X (.builtin "min") (rMinD X.K) := by
  intro pins s σ H vs us Q I r h
  obtain ⟨a, us, x, xs, rfl, hs, k1, k2, k3, hd, hlen, q⟩ := h
  obtain ⟨its, rv, hl, hz⟩ := I.list hs
  rw [Vals.ref1 r]
  obtain ⟨ws, rd⟩ := Dp.readsAll I (toPys (x :: xs)) us its hd rv
  have hdp := (eqOk_lays 60 _ k1).2
  rw [toPys] at rd hdp
  have rd2 : ReadsAll s.heap its.toArray.toList (toPy x :: toPys xs) ws := by
    rw [List.toList_toArray]
    exact rd
  refine MiK.call_min (I.ok.hd hc) hl.isList rd2 ⟨fun d hd d' hd' => ?_, fun d hd => ?_⟩ (by omega) fun v h' tk hv kp => ?_
  · rw [← toPys, toPys_map] at hd hd'
    obtain ⟨b, hb, rfl⟩ := List.mem_map.mp hd
    obtain ⟨b', hb', rfl⟩ := List.mem_map.mp hd'
    exact k2 b hb b' hb'
  · rw [← toPys, toPys_map] at hd
    obtain ⟨b, hb, rfl⟩ := List.mem_map.mp hd
    exact k3 b hb
  · have e : (fun i j => PySem.W.dataLt ((toPy x :: toPys xs).getD i .none) ((toPy x :: toPys xs).getD j .none)) = fun i j => befD ((x :: xs).getD i .non) ((x :: xs).getD j .non) := by
      funext i j
      rw [← toPys, toPys_getD, toPys_getD]
      rfl
    have el : (toPys xs).length = xs.length := by rw [toPys_map, List.length_map]
    rw [e, el] at hv
    obtain ⟨b1, b2⟩ := PySem.W.argBest_fold befD D.non x xs xs.length (Nat.le_refl _)
    rw [List.take_length] at b2
    generalize hj : PySem.argBest (fun i j => befD ((x :: xs).getD i .non) ((x :: xs).getD j .non)) xs.length = j at hv b1 b2
    rw [List.getElem?_toArray] at hv
    obtain ⟨u, hu1, hu2⟩ : ∃ u, us[j]? = some u ∧ RelV u v := by
      have hju : j < us.length := by rw [hlen, List.length_cons]; omega
      have hy : us[j]? = some us[j] := List.getElem?_eq_getElem hju
      obtain ⟨u', e, rr⟩ := rv.get hy
      rw [hv] at e
      cases e
      exact ⟨_, hy, rr⟩
    refine ⟨u, H, I.kept (t' := tk) kp, hu2, q j u hu1 ?_⟩
    rw [← b2, List.getD_eq_getElem?_getD]
    have hjx : j < (x :: xs).length := by rw [List.length_cons]; omega
    rw [List.getElem?_eq_getElem hjx]
    rfl
theorem s_min {es : List PySem.Expr} {ms : List E} {p pos : Pos} (hc : X.calm = true) (hu : X.A.units + 65 < cLine) (hK : X.K = S.Z.K) (hx : BltIs X "min") (ha : PA X (e :: es) (tLs S ms)) (hs : (e :: es).all notStar = true) : PE X (.Call (.Name "min" p) (e :: es) [] pos) (tE S (.bi .min ms)) := by
  refine s_biB (cr_min hc hu) hx (by decide +kernel) ha hs (by decide +kernel) (by decide +kernel) fun σ F F2 H H2 ds vs Q q g l => ?_
  rw [biD] at q
  unfold minLD at q
  rw [hK]
  split at q
  · rename_i x xs
    obtain ⟨v, rfl, a, us, rfl, h1, r1⟩ := l.one
    obtain ⟨z, q⟩ := q.ite
    simp only [Bool.and_eq_true] at z
    obtain ⟨⟨z1, z2⟩, z3⟩ := z
    have z2 := fun a ha b hb => List.all_eq_true.mp (List.all_eq_true.mp z2 a ha) b hb
    have z3 := fun a ha => List.all_eq_true.mp z3 a ha
    refine ⟨a, us, x, xs, rfl, .of h1, z1, z2, fun d hd => ?_, dps_of 60 _ us z1 r1, (reps_each r1).length, fun i u hu hd => ?_⟩
    · have h := z3 d hd
      rw [Bool.and_eq_true] at h
      cases d <;> first | (exact absurd h.1 (by decide)) | (exact fun z => by cases z)
    · obtain ⟨d, hd2, rd⟩ := each_at (reps_each r1) hu
      rw [hd] at hd2
      cases hd2
      have hm := z3 _ (List.mem_of_getElem? hd)
      rw [Bool.and_eq_true, Bool.not_eq_true', Bool.not_eq_true'] at hm
      exact Hope.rep q hm.2 g rd
  · exact q.elim
end
end Mi
/-! ### a for loop in a generator def -/
namespace Mi
open PySem PyProof.Rows
section
variable {prog : Program} {w : World} {A : Around} {R : GenEnd} {Y : Protocol} {n : Nat} {s₀ : Shared} {fs : List Frame} {s : Shared} {env : PySem.Env}
abbrev Exits (prog : Program) (w : World) (A : Around) (R : GenEnd) (Y : Protocol) (n : Nat) (s₀ : Shared) (c : Code) (env : PySem.Env) (fs : List Frame) (x : Value) (s' : Shared) : Prop :=
  Seg (model prog w) A R Y n s₀ c ((do noteFrame x env; theTreesLotGoes x : Sem Unit).wrap (fun _ => .raise x) .raise id id) fs s'
abbrev forEnds (tg : PySem.Expr) (it : Value) (body orelse : List PySem.Stmt) (env : PySem.Env) : Flow → Sem PySem.Fin := fun f => match f with
  | .next | .cont => .pure (.again (.forLoop tg it body orelse env))
  | .brk => .pure (.done .next)
  | .ret v => .pure (.done (.ret v))
theorem seg_forLoop {tg : PySem.Expr} {it : Value} {body orelse : List PySem.Stmt}
    (h : wpAny (model prog w) (A.over (.forLoop tg it body orelse env) fs) (pyNext it) (fun r s1 => match r with
        | none => Seg (model prog w) A R Y n s₀ (.forLoop tg it body orelse env) (.pure (.again (.block orelse env))) fs s1
        | some v => wpAny (model prog w) (A.over (.forLoop tg it body orelse env) fs) (letOwnedTupleGo tg it v) (fun _ s2 => wpAny (model prog w) (A.over (.forLoop tg it body orelse env) fs) (assign tg env v) (fun _ s3 =>
            Seg (model prog w) A R Y n s₀ (.forLoop tg it body orelse env) ((execs body env).wrap (forEnds tg it body orelse env) (fun e => (do noteFrame e env; theTreesLotGoes e : Sem Unit).wrap (fun _ => .raise e) .raise id id) id id) fs s3)
            (Exits prog w A R Y n s₀ (.forLoop tg it body orelse env) env fs) s2) (Exits prog w A R Y n s₀ (.forLoop tg it body orelse env) env fs) s1)
      (Exits prog w A R Y n s₀ (.forLoop tg it body orelse env) env fs) s) :
    Seg (model prog w) A R Y n s₀ (.forLoop tg it body orelse env) ((model prog w).den (.forLoop tg it body orelse env)) fs s := by
  show Seg _ A R Y n s₀ _ ((forTurn tg it body orelse env).onRaise (fun x => do noteFrame x env; theTreesLotGoes x)) fs s
  have ex : ∀ (x : Value) (s' : Shared), Exits prog w A R Y n s₀ (.forLoop tg it body orelse env) env fs x s' → Seg (model prog w) A R Y n s₀ (.forLoop tg it body orelse env) ((do noteFrame x env; theTreesLotGoes x : Sem Unit).bind fun _ => (.raise x : Sem PySem.Fin)) fs s' := fun x s' hx => by
    rw [Sem.bind_eq_wrap]
    exact hx
  rw [Sem.onRaise_eq_wrap]
  unfold forTurn
  refine seg_bind_wrap (wpAny_standAt ?_)
  refine seg_bind_wrap (wpAny_onRaise (wpAny_mono h (fun r s1 hr => ?_) fun x s' hx => wpAny_standAt (ex x s' hx)))
  cases r with
  | none => exact hr
  | some v =>
    refine seg_bind_wrap (wpAny_mono hr (fun _ s2 h2 => ?_) fun x s' hx => ex x s' hx)
    refine seg_bind_wrap (wpAny_mono h2 (fun _ s3 h3 => ?_) fun x s' hx => ex x s' hx)
    rw [Sem.bind_eq_wrap', Sem.wrap_wrap]
    rw [Sem.wrap_congr (execs body env) _ _ (K' := forEnds tg it body orelse env) (H' := (fun e => (do noteFrame e env; theTreesLotGoes e : Sem Unit).wrap (fun _ => .raise e) .raise id id))
      (fun f => by cases f <;> rfl) (fun e => by first | exact Sem.bind_eq_wrap _ _ | (show (do noteFrame e env; theTreesLotGoes e : Sem Unit).bind (fun _ => .raise e) = _; rw [Sem.bind_eq_wrap]))]
    exact h3
theorem seg_For {M : Model} {c : Code} {K : Flow → Sem PySem.Fin} {H : Value → Sem PySem.Fin} {gd : Bool → Bool} {lv : List Value → List Value} {tg iter : PySem.Expr} {body orelse : List PySem.Stmt} {pos : Pos}
    (h : wpAny M (A.over c fs) (eval iter env) (fun v s1 => wpAny M (A.over c fs) (pyIter v) (fun it s2 =>
      ∀ p, Seg M A R Y n s₀ (.forLoop tg it body orelse env) (M.den (.forLoop tg it body orelse env))
        (.ret (fun r => ((match r with | .ok f => (.pure f : Sem Flow) | .error e => .raise e).onRaise (L2.cameBack env)).wrap K H gd lv) none (gd false) (lv []) c p [] :: fs) s2)
      (fun x s' => Seg M A R Y n s₀ c (H x) fs s') s1) (fun x s' => Seg M A R Y n s₀ c (H x) fs s') s)
    (hs : ∀ x, foldedSetIterable iter env x = pure x) : Seg M A R Y n s₀ c ((exec (.For tg iter body orelse pos) env).wrap K H gd lv) fs s := by
  rw [exec_For]
  refine seg_bind_wrap (wpAny_standAt ?_)
  refine seg_bind_wrap (wpAny_mono h (fun v s1 h1 => ?_) fun _ _ x => x)
  refine seg_bind_wrap (wpAny_of_eq (hs v) ?_)
  refine seg_bind_wrap (wpAny_standAt ?_)
  refine seg_bind_wrap (wpAny_holding (wpAny_mono h1 (fun it s2 h2 => ?_) fun _ _ x => x))
  exact seg_call h2
end
end Mi
namespace L2
open PySem PySem.Spec PyProof.Rows GenW
section
variable {X : Cx}
def tGFor (wi : TI) (g : TG) (tb : TGn) : TGn := fun D ys σ H => wi σ H fun J H1 => ∃ W : Nat → Nat → List V → St → Hp → Prop, (∃ m, W 0 m ys σ H1) ∧ ∀ i m ys σ H, W i m ys σ H →
  (J.stop i H ∧ D.nx ys σ H) ∨ (J.go i H ∧ ∃ N : List V → St → Hp → Prop, (∀ ys' σ' H', N ys' σ' H' → ∃ m', m' < m ∧ W (i + 1) m' ys' σ' H') ∧ ∀ x H', J.yld i H x H' → g x σ H' fun σ2 H2 => tb { D with nx := N, ct := N, bk := D.nx } ys σ2 H2)
theorem gs_for {tg iter : Expr} {body : List Stmt} {pos : Pos} {wi : TI} {g : TG} {tb : TGn} (hp : PassesOwn (model X.prog X.w) X.A X.env X.xe) (hc : X.calm = true) (hi : PI X tg iter wi) (hg : PG X tg g) (hb : GSs X body tb) (hs : ∀ x, foldedSetIterable iter X.env x = pure x) :
    GS X (.For tg iter body [] pos) (tGFor wi g tb) := by
  refine ⟨fun A S ip R n ys s₀ c fs K J gd lv s σ H D gc hn k hI ht => ?_⟩
  obtain ⟨acc, cc, r, I⟩ := hI
  refine Mi.seg_For ?_ hs
  rw [gc.over]
  refine wpAny_mono (hi.run _ s σ H _ I ht) (fun v s1 h1 => wpAny_mono h1 (fun itv s2 h2 p => ?_) fun x s' hx => k.exc n s₀ x s' hx) fun x s' hx => k.exc n s₀ x s' hx
  obtain ⟨it, fp, tn, Jt, H2, e, I2, T, st2, f2, W, ⟨m0, w0⟩, turn⟩ := h2
  subst e
  have stat : ∀ {acc' : Array Value} {c' : Nat} {H' : Hp}, (∀ b ∈ fp, H' b = none) → ∀ b ∈ fp, FpOk X ((S, lstObj acc' c') :: ip) H' b := fun hn b hb => by
    obtain ⟨_, f1, f3, f4, f5, f6⟩ := f2 b hb
    refine ⟨hn b hb, f1, f3, f4, f5, fun q hq => ?_⟩
    rcases List.mem_append.mp hq with z | z
    · exact f6 q (List.mem_append_left _ z)
    · rcases List.mem_cons.mp z with z | z
      · subst z
        exact f6 (S, lstObj acc cc) (List.mem_append_right _ List.mem_cons_self)
      · exact f6 q (List.mem_append_right _ (List.mem_cons_of_mem _ z))
  have neS : ∀ b ∈ fp, b ≠ S := fun b hb z => (f2 b hb).2.2.2.2.2 (S, lstObj acc cc) (List.mem_append_right _ List.mem_cons_self) z.symm
  have gl := fun (kk : Result → Sem PySem.Fin) => gc_loop (k := kk) (c' := .forLoop tg (.ref it) body [] X.env) (l := lv []) (kp := []) (p := p) gc rfl rfl
  have loop : ∀ (m n i : Nat) (ys : List V) (s₀ s : Shared) (σ : St) (H : Hp), n + ys.length = sizeLine → W i m ys σ H → GI X S ip ys σ H s → tn i s.heap → (∀ b ∈ fp, H b = none) →
      Seg (model X.prog X.w) A R (GY X S) n s₀ (.forLoop tg (.ref it) body [] X.env) ((model X.prog X.w).den (.forLoop tg (.ref it) body [] X.env))
        (.ret (fun r => ((match r with | .ok f => (.pure f : Sem Flow) | .error e => .raise e).onRaise (cameBack X.env)).wrap K J gd lv) none (gd false) (lv []) c p [] :: fs) s := by
    intro m
    induction m using Nat.strongRecOn with
    | ind m ih =>
      intro n i ys s₀ s σ H hn w hI st fr
      have ee : ∀ (n : Nat) (s₀ : Shared) (x : Value) (s' : Shared), X.xe x s' → Mi.Exits X.prog X.w A R (GY X S) n s₀ (.forLoop tg (.ref it) body [] X.env) X.env
          (.ret (fun r => ((match r with | .ok f => (.pure f : Sem Flow) | .error e => .raise e).onRaise (cameBack X.env)).wrap K J gd lv) none (gd false) (lv []) c p [] :: fs) x s' := fun n s₀ x s' hx => by
        refine seg_wrap ?_
        rw [(gl _).over]
        refine wpAny_bind (wpAny_mono (hp x s' hx) (fun _ s'' hcb => wpAny_theTreesLotGoes ?_) fun y s'' hcb => ?_)
        · exact seg_leaf (.error x) (seg_cameBack gc k hcb)
        · exact seg_leaf (.error y) (seg_cameBack gc k hcb)
      refine Mi.seg_forLoop ?_
      rw [(gl _).over]
      obtain ⟨acc, cc, r, I⟩ := hI
      rcases turn i m ys σ H w with ⟨stop, qn⟩ | ⟨go, N, hN, step⟩
      · refine wpAny_mono (T.done X rfl rfl rfl hc i _ s σ H (Mi.Exits X.prog X.w A R (GY X S) n s₀ (.forLoop tg (.ref it) body [] X.env) X.env (.ret (fun r => ((match r with | .ok f => (.pure f : Sem Flow) | .error e => .raise e).onRaise (cameBack X.env)).wrap K J gd lv) none (gd false) (lv []) c p [] :: fs)) I (stat fr) st stop) (fun r1 s1 hr => ?_) fun _ _ x => x
        obtain ⟨hr, I1⟩ := hr
        subst hr
        exact seg_again rfl (seg_leaf (.ok .next) (k.ok n ys s₀ s1 .next hn ⟨σ, H, ⟨acc, cc, r, I1⟩, qn⟩))
      · refine wpAny_mono (T.item X rfl rfl rfl hc i _ s σ H (Mi.Exits X.prog X.w A R (GY X S) n s₀ (.forLoop tg (.ref it) body [] X.env) X.env (.ret (fun r => ((match r with | .ok f => (.pure f : Sem Flow) | .error e => .raise e).onRaise (cameBack X.env)).wrap K J gd lv) none (gd false) (lv []) c p [] :: fs)) I (stat fr) st go) (fun r1 s1 hr => ?_) fun _ _ x => x
        obtain ⟨u, hr, h3⟩ := hr
        subst hr
        refine wpAny_mono h3 (fun _ s2 h4 => ?_) fun _ _ x => x
        obtain ⟨x, H5, I5, r5, y5, st5, fr5⟩ := h4
        have I5' := I5.pinned (stat fr5) (T.obj _ _ st5)
        refine wpAny_mono (hg.run _ s2 σ H5 x u _ I5' r5 (step x H5 y5)) (fun _ s3 h5 => ?_) fun x s' hx => ee n s₀ x s' hx
        obtain ⟨σ6, H6, I6, q6⟩ := h5
        have un : ∀ {ys' : List V} {σ' : St} {H' : Hp} {s' : Shared}, GI X S (ip ++ pinsAt fp s2.heap) ys' σ' H' s' → GI X S ip ys' σ' H' s' ∧ tn (i + 1) s'.heap ∧ ∀ b ∈ fp, H' b = none := fun {ys' σ' H' s'} ⟨acc', c', r', I'⟩ => by
          have pin : ∀ b ∈ fp, ∀ o, s2.heap.get? b = some o → s'.heap.get? b = some o ∧ H' b = none := fun b hb o e =>
            let z := I'.pin (b, o) (List.mem_append_right _ (List.mem_cons_of_mem _ (List.mem_append_right _ (mem_pinsAt hb e))))
            ⟨z.1, z.2.1⟩
          refine ⟨⟨acc', c', r', Inv.unpinned (pins := (S, lstObj acc' c') :: ip) (pl := pinsAt fp s2.heap) I'⟩, T.keep _ _ _ st5 fun b hb o e => (pin b hb o e).1, fun b hb => ?_⟩
          obtain ⟨o, e, _⟩ := T.obj _ _ st5 b hb
          exact (pin b hb o e).2
        have gc' : GC X S (ip ++ pinsAt fp s2.heap) A (.forLoop tg (.ref it) body [] X.env) (.ret (fun r => ((match r with | .ok f => (.pure f : Sem Flow) | .error e => .raise e).onRaise (cameBack X.env)).wrap K J gd lv) none (gd false) (lv []) c p [] :: fs) id :=
          ⟨gc.pn, fun q hq => (List.mem_append.mp hq).elim (gc.ip q) fun z => neS _ (of_pinsAt z).1, gc.apart, (gl _).over, (gl _).split, (gl _).guard, rfl⟩
        refine hb.run A S (ip ++ pinsAt fp s2.heap) R n ys s₀ _ _ _ _ id id s3 σ6 H6 { D with nx := N, ct := N, bk := D.nx } gc' hn ⟨fun n' ys' s₀' s4 f hn' hs' => ?_, fun n' s₀' x s4 hx => ee n' s₀' x s4 hx⟩ ⟨acc, cc, r, I6⟩ q6
        cases f with
        | next =>
          obtain ⟨σ7, H7, I7, n7⟩ := hs'
          obtain ⟨m', hm, w7⟩ := hN ys' σ7 H7 n7
          obtain ⟨a1, a2, a3⟩ := un I7
          exact seg_again rfl (ih m' hm n' (i + 1) ys' s₀' s4 σ7 H7 hn' w7 a1 a2 a3)
        | cont =>
          obtain ⟨σ7, H7, I7, n7⟩ := hs'
          obtain ⟨m', hm, w7⟩ := hN ys' σ7 H7 n7
          obtain ⟨a1, a2, a3⟩ := un I7
          exact seg_again rfl (ih m' hm n' (i + 1) ys' s₀' s4 σ7 H7 hn' w7 a1 a2 a3)
        | brk =>
          obtain ⟨σ7, H7, I7, q7⟩ := hs'
          exact seg_leaf (.ok .next) (k.ok n' ys' s₀' s4 .next hn' ⟨σ7, H7, (un I7).1, q7⟩)
        | ret v =>
          obtain ⟨v', σ7, H7, I7, rv, q7⟩ := hs'
          exact seg_leaf (.ok (.ret v)) (k.ok n' ys' s₀' s4 (.ret v) hn' ⟨v', σ7, H7, (un I7).1, rv, q7⟩)
  exact loop m0 n 0 ys s₀ _ σ H2 hn w0 ⟨acc, cc, r, I2⟩ st2 fun b hb => (f2 b hb).1
end
end L2
namespace Mi
open PySem L2
/-! ### generator defs -/
def FinG (S : Sit) (F Fb : Fz) (H : Hp) (σ : St) (env : Env) (D : GEnds) : GO → Prop
  | .nx e ds => ∀ ys σ' F' H', Go S.Z F Fb H σ env σ' F' H' e → Reps S.Z F' H' ds ys → D.nx ys σ' H'
  | .bad => False
def tGm (S : Sit) (m : G) : TGn := fun D ys σ H => ∃ F Fb env ds, Fr S.Z F Fb H σ env ∧ Reps S.Z F H ds ys ∧ FinG S F Fb H σ env D (evG S.Γ m env ds)
def tGms (S : Sit) (ms : List G) : TGn := fun D ys σ H => ∃ F Fb env ds, Fr S.Z F Fb H σ env ∧ Reps S.Z F H ds ys ∧ FinG S F Fb H σ env D (evGs S.Γ ms env ds)
theorem GS.imp {X : Cx} {e : PySem.Stmt} {t t' : TGn} (h : GS X e t) (i : ∀ D ys σ H, t' D ys σ H → t D ys σ H) : GS X e t' := ⟨fun A S ip R n ys s₀ c fs K J gd lv s σ H D g hn k hI ht => h.run A S ip R n ys s₀ c fs K J gd lv s σ H D g hn k hI (i D ys σ H ht)⟩
theorem GSs.imp {X : Cx} {e : List PySem.Stmt} {t t' : TGn} (h : GSs X e t) (i : ∀ D ys σ H, t' D ys σ H → t D ys σ H) : GSs X e t' := ⟨fun A S ip R n ys s₀ c fs K J gd lv s σ H D g hn k hI ht => h.run A S ip R n ys s₀ c fs K J gd lv s σ H D g hn k hI (i D ys σ H ht)⟩
section
variable {S : Sit} {F F1 F2 Fb : Fz} {H H1 H2 : Hp} {σ σ1 σ2 : St} {env env1 env2 : Env} {D : GEnds} {o : GO}
theorem FinG.go (h : FinG S F Fb H σ env D o) (g : Go S.Z F Fb H σ env σ1 F1 H1 env1) : FinG S F1 Fb H1 σ1 env1 D o := by
  cases o with
  | nx e ds => exact fun ys σ' F' H' k r => h ys σ' F' H' (g.trans k) r
  | bad => exact h
theorem fin_go {α : Type} {r : R α} {f : α → GO} (h : FinG S F Fb H σ env D (r.go f)) : ∃ a, r = .ok a ∧ FinG S F Fb H σ env D (f a) := by
  cases r with
  | ok a => exact ⟨a, rfl, h⟩
  | exc x => exact h.elim
  | bad => exact h.elim
theorem Step.reps (e : Step F Fb H F1 H1) {Z : Wd} {d : List Mi.D} {v : List V} (r : Reps Z F H d v) : Reps Z F1 H1 d v := r.mono e.fz fun a o f h => e.ob a o (.inl f) h
end
section
variable {X : Cx} {S : Sit}
theorem gm_pl {st : PySem.Stmt} {m : Mi.S} (h : PS X st (tS S.calm m)) : GS X st (tGm S (.pl m)) := by
  refine GS.imp (gs_ps h) fun D ys σ H ⟨F, Fb, env, ds, fr, r, q⟩ => ⟨F, Fb, env, fr, ?_⟩
  rw [evG] at q
  show Fin S.calm F Fb H σ env (D.at ys) (evS S.Γ m env)
  cases o : evS S.Γ m env with
  | nx e =>
    rw [o] at q
    exact fun σ' F' H' g => q ys σ' F' H' g (g.st.reps r)
  | bk e => rw [o] at q; exact q.elim
  | ct e => rw [o] at q; exact q.elim
  | ret d own => rw [o] at q; exact q.elim
  | exc x e => rw [o] at q; exact q.elim
  | bad => rw [o] at q; exact q.elim
theorem gm_yld {e : PySem.Expr} {m : E} {yp pos : Pos} (he : PE X e (tE S.calm m)) (hk : kd m ≠ .lent) (hco : X.env.scope.isCoroutine = false) (hi : interactive X.env = false) : GS X (.Expr (.Yield (some e) yp) pos) (tGm S (.yld m)) := by
  refine GS.imp (gs_yield (frz_of he hk) hco hi) fun D ys σ H ⟨F, Fb, env, ds, fr, r, q⟩ => ?_
  rw [evG] at q
  obtain ⟨d, ed, q⟩ := fin_go q
  by_cases c : ds.length < 1000000
  · rw [if_pos (decide_eq_true c)] at q
    refine ⟨by rw [← r.length]; exact lt_line c, F, Fb, env, fr, ok_ans (r := evE S.calm.Γ m env) ed fun v F1 H1 e1 r1 => ?_⟩
    exact q _ _ F1 H1 (fr.go e1) ((e1.reps r).snoc r1)
  · rw [if_neg (by simp [c])] at q
    exact q.elim
theorem gms_nil : GSs X [] (tGms S []) := GSs.imp gss_nil fun D ys σ H ⟨F, Fb, env, ds, fr, r, q⟩ => by
  rw [evGs] at q
  exact q ys σ F H fr.self r
theorem gms_cons {st : PySem.Stmt} {sts : List PySem.Stmt} {m : G} {ms : List G} (h1 : GS X st (tGm S m)) (h2 : GSs X sts (tGms S ms)) : GSs X (st :: sts) (tGms S (m :: ms)) := by
  refine GSs.imp (gss_cons h1 h2) fun D ys σ H ⟨F, Fb, env, ds, fr, r, q⟩ => ⟨F, Fb, env, ds, fr, r, ?_⟩
  rw [evGs] at q
  cases o : evG S.Γ m env ds with
  | nx e ds2 =>
    rw [o] at q
    exact fun ys' σ' F' H' g r' => ⟨F', Fb, e, ds2, g.fr, r', FinG.go q g⟩
  | bad =>
    rw [o] at q
    exact q
theorem fing_unlock {F Fb : Fz} {H : Hp} {σ : St} {env : Env} {D : GEnds} {o : GO} (l : List Nat) (fr : Fr S.Z F Fb H σ env) (q : FinG S F Fb H σ env D (o.onEnv (unlock env l))) : FinG S F (Fb.or (At env σ l)) H σ (onAll lock l env) D o := by
  cases o with
  | nx e ds => exact fun ys σ' F' H' k r => q ys σ' F' H' (fr.unlock_go l k) r
  | bad => exact q
theorem gm_for {tg iter : PySem.Expr} {body : List PySem.Stmt} {t : Tgt} {mi : E} {mb : List G} {pos : Pos} (hp : PassesOwn (model X.prog X.w) X.A X.env X.xe) (hc : X.calm = true) (hi : PI X tg iter (tI S.calm mi)) (hg : PG X tg (gT S.calm t)) (hb : GSs X body (tGms S mb))
    (hs : ∀ x, foldedSetIterable iter X.env x = pure x) : GS X (.For tg iter body [] pos) (tGm S (.fr t mi mb)) := by
  refine GS.imp (gs_for hp hc hi hg hb hs) fun D ys σ H ⟨F, Fb, env, dz, fr, rz, q⟩ => ?_
  rw [evG] at q
  obtain ⟨ds, ed, k⟩ := fin_go q
  refine ⟨F, Fb, env, fr, ok_ans (r := (evE S.calm.Γ mi env).bind items) ed fun J F1 H1 L e hL yl => ?_⟩
  have fr1 := fr.ext e
  have k1 := fing_unlock (pks mi) fr1 (FinG.go k (fr.go e))
  have fr2 := fr1.lock (pks mi)
  generalize hFb : Fb.or (At env σ (pks mi)) = Fb2 at k1 fr2
  generalize hev : onAll lock (pks mi) env = env2 at k1 fr2
  have hL2 : ∀ a, L a → F1 a ∨ Fb2 a := fun a l => by
    rw [← hFb]
    exact (hL a l).1.elim .inl fun z => .inr (z.elim .inl fun ⟨i, hi, o⟩ => .inr ⟨i, hi, o⟩)
  refine ⟨fun i n ys' σ' H' => n + i = ds.length ∧ ∃ F' e' dn, Go S.Z F1 Fb2 H1 σ env2 σ' F' H' e' ∧ Reps S.Z F' H' dn ys' ∧ FinG S F1 Fb2 H1 σ env2 D (evGFor (evGs S.Γ mb) (bindT t) env (ds.drop i) e' dn), ⟨ds.length, rfl, F1, env2, dz, fr2.self, e.reps rz, k1⟩, ?_⟩
  rintro i n ys' σ' H' ⟨hn, F', e', dn, g, rn, q⟩
  have y := yl F' H' g.st.fz (fun a o f z => g.st.ob a o (f.elim .inl (hL2 a)) z) g.st.th
  by_cases hi : i < ds.length
  · obtain ⟨go, yd⟩ := y.1 i ds[i] (List.getElem?_eq_getElem hi)
    rw [drop_at hi, evGFor] at q
    obtain ⟨e1, eb, q⟩ := fin_go q
    refine .inr ⟨go, fun ys' σ' H' => ∃ m', m' < n ∧ (m' + (i + 1) = ds.length ∧ ∃ F' e' dn, Go S.Z F1 Fb2 H1 σ env2 σ' F' H' e' ∧ Reps S.Z F' H' dn ys' ∧ FinG S F1 Fb2 H1 σ env2 D (evGFor (evGs S.Γ mb) (bindT t) env (ds.drop (i + 1)) e' dn)), fun _ _ _ h => h, fun x H3 yx => ?_⟩
    obtain ⟨F3, e3, r3⟩ := yd x H3 yx
    have g3 := g.trans (g.fr.go e3)
    refine ⟨F3, Fb2, e', ds[i], e1, g3.fr, r3, eb, fun σ4 fr4 len keep => ⟨F3, Fb2, e1, dn, fr4, e3.reps rn, ?_⟩⟩
    have g4 : Go S.Z F1 Fb2 H1 σ env2 σ4 F3 H3 e1 := g3.trans ⟨(Ext.refl g3.fr.th).step g3.fr.thb, fr4, fun j d z => by
      obtain ⟨z, nz⟩ := bindT_not _ _ _ _ j _ eb z ⟨(fun z => by cases z), (fun _ z => by cases z)⟩
      exact ⟨z, keep j nz⟩⟩
    refine FinG.go ?_ g4
    cases ho : evGs S.Γ mb e1 dn with
    | nx e2 dn2 =>
      rw [ho] at q
      exact fun ys2 σ' F' H' k r => ⟨n - 1, by omega, by omega, F', _, dn2, k.mask env, r, q⟩
    | bad =>
      rw [ho] at q
      exact q
  · have : i = ds.length := by omega
    subst this
    refine .inl ⟨y.2, ?_⟩
    rw [List.drop_of_length_le (Nat.le_refl _), evGFor] at q
    exact q ys' σ' F' H' g rn
end
/-! #### what a generator def promises -/
def spGF (Z : Wd) (ar : Nat) (run : List Slot → R (List D)) : SpG := fun vs H cont E => vs.length = ar ∧ ∃ (F : Fz) (as : List Slot), (∀ a, F a → H a ≠ none) ∧ ArgsOk Z F H as vs ∧
  match run as with
  | .ok ds => ∀ ys F' H', Ext F H F' H' → Reps Z F' H' ds ys → cont ys H'
  | _ => False
structure GenIs (X : Cx) (Z : Wd) (x : Str) (run : List Slot → R (List D)) (ar : Nat) : Prop where
  gl : ∃ k fa fd ps, GFn X.prog X.w X.K X.mg X.base k fa fd ps (spGF Z ar run) ∧ Room (k + 3) X.A ∧ X.mg x = some (.ref fa) ∧ PySem.W.keepIn X.K (.ref fa) = true ∧ Binds X.K fd ps []
section
variable {X : Cx} {S : Sit}
theorem s_glist {x : Str} {f ar : Nat} {e : PySem.Expr} {es : List PySem.Expr} {ms : List E} {p p2 pos pos2 : Pos} (hf : GenIs X S.Z x (S.Γ.gen f) ar) (hg : Gl X x) (hx : BltIs X "list") (hl : ms.length = ar)
    (ha : PA X (e :: es) (tAs S ms)) (hs : (e :: es).all notStar = true) (hd : (x == ("__debug__" : Str)) = false) : PE X (.Call (.Name "list" p) [.Call (.Name x p2) (e :: es) [] pos2] [] pos) (tE S (.glist f ms)) := by
  obtain ⟨k, fa, fd, ps, G, hr, hm, hk, hb⟩ := hf.gl
  rw [List.all_cons, Bool.and_eq_true] at hs
  have hp := pgen_call (p := p2) (pos' := pos2) (E := E0) G (hr.mono (by omega)) hg hm hk hb .nil ha hd (star_cons hs.1) (star_any hs.2)
  refine PE.imp (pe_listG hp passL (fun _ _ _ z => z.elim) hr hx.gl hx.no (by decide +kernel) (he := rfl)) fun σ H Q ⟨F, Fb, env, fr, q⟩ => ?_
  rw [evE, ans_bind] at q
  refine ⟨F, Fb, env, fr, q.with.mono fun as ⟨el, k⟩ vs F1 H1 e1 r1 => ?_⟩
  have hn := evAs_length el
  show spGF S.Z ar (S.Γ.gen f) (vs ++ []) H1 _ E0
  rw [List.append_nil]
  refine ⟨by rw [← r1.length]; omega, F1, as, e1.th, r1, ?_⟩
  rw [ans_bind] at k
  obtain ⟨ds, hq, k⟩ := nox_ok k
  rw [hq]
  unfold made at k
  obtain ⟨hz, k⟩ := k.ite
  intro ys F2 H2 e2 r2 p hp
  exact k _ F2 _ ((e1.trans e2).trans (Ext.new e2.th hp)) ⟨p, rfl, (e1.trans e2).back hp, fun f => e2.th p f hp, ys, upd_same, reps_upd (fun f => e2.th p f hp) r2⟩
end
structure GBodyCx (P : Program) (w : World) (K : PySem.W.Frag) (mg : Str → Option Value) (base : Heap) (N : List Str) (sc : Scope) (k : Nat) (X : Cx) : Prop where
  cx : BodyCx P w K mg base N sc k (fun _ _ _ _ => False) X
  q : interactive X.env = false
section
variable {P : Program} {w : World} {K : PySem.W.Frag} {mg : Str → Option Value} {base : Heap}
theorem gen_ok {x qual : Str} {st : PySem.Stmt} {f : Addr} {fd : FuncData} {N ps : List Str} {k : Nat} {b : Body} {g : List G} {Z : Wd} {Γ : Glob} (F : Fun K x qual st f fd) (sc : GScope N ps (defScope st)) (hn : b.n = N.length) (hg : b.gen = some g)
    (body : ∀ (X : Cx), GBodyCx P w K mg base N (defScope st) k X → GSs X (defBody st) (tGms ⟨Z, Γ, fun _ _ _ _ => False⟩ g)) :
    GFn P w K mg base (k + 1) f fd ps (spGF Z ps.length (runG Γ b)) := by
  obtain ⟨oc, od, kV, doc, pm, an, cdv, ct, osl, rfl, lk, hcd⟩ := F.ex
  refine gfn_of lk hcd sc (fun vs H Q E h => h.1) fun A outer s H vs Q E pn hr h => ?_
  refine ⟨_, body _ ⟨⟨rfl, rfl, rfl, rfl, rfl, rfl, rfl, rfl, rfl, takes0, owns_gcx, hr⟩, ?_⟩, ?_⟩
  · show interactive (PyProof.Rows.envOfC qual (defScope st) s.heap.objs.size f cdv) = false
    have : (PyProof.Rows.envOfC qual (defScope st) s.heap.objs.size f cdv).scope.kind = .function := sc.kind
    simp [interactive, this]
  · obtain ⟨hl, F, as, hF, ha, h⟩ := h
    unfold runG at h
    rw [hg] at h
    dsimp only at h
    refine ⟨F, _, _, [], fr_start (N := N) hF ha, rfl, ?_⟩
    rw [hn] at h
    have ext : ∀ F' H', Step F (fun a => H a ≠ none ∧ ¬ F a) H F' H' → Ext F H F' H' := fun F' H' g =>
      ⟨fun a o z => g.ob a o ((Classical.em (F a)).imp id fun f => ⟨some_ne z, f⟩) z, g.fz, fun a f => (g.nw a f).elim .inl fun n => (Classical.em (F a)).imp id fun nf => Classical.byContradiction fun z => n ⟨z, nf⟩, g.th⟩
    show FinG _ F _ H _ _ _ (evGs Γ g (as ++ List.replicate (N.length - as.length) .un) [])
    cases o : evGs Γ g (as ++ List.replicate (N.length - as.length) .un) [] with
    | nx e ds =>
      rw [o] at h
      exact fun ys σ' F' H' gg r => h ys F' H' (ext F' H' gg.st) r
    | bad =>
      rw [o] at h
      exact h.elim
end
end Mi
namespace Mi
open PySem L2
/-! ### which text a mini text is -/
structure Fd where
  nm : Str
  id : Nat
  fr : Bool
  ar : Nat
structure Ck where
  N : List Str
  fns : List Fd
  gens : List Fd
  keys : List Fd
  blts : List Str
  cst : List (Str × D)
/-- a scope as the block has it, and as it is written -/
structure Sc where
  sc : Scope
  raw : Scope
structure Cok (C : Ck) (s : Sc) (X : Cx) (S : Sit) : Prop where
  N : X.N = C.N
  nd : C.N.Nodup
  sc : X.env.scope = s.sc
  kind : s.sc.kind = .function
  cell : ∀ x, s.raw.names.lookup x = some .cell → X.fn x = true
  K : X.K = S.Z.K
  calm : X.calm = true
  tk : Takes X S.W
  hu : X.A.units + 65 < cLine
  ow : PassesOwn (model X.prog X.w) X.A X.env X.xe
  fns : ∀ f ∈ C.fns, FnIs X S.Z f.nm (S.Γ.call f.id) f.fr f.ar
  gens : ∀ f ∈ C.gens, GenIs X S.Z f.nm (S.Γ.gen f.id) f.ar
  keys : ∀ f ∈ C.keys, KeyIs X S.Z f.nm (S.Γ.call f.id)
  blts : ∀ x ∈ C.blts, X.mg x = none
  cst : ∀ p ∈ C.cst, ∃ v u, X.mg p.1 = some u ∧ RelV v u ∧ isCst p.2 v
inductive Q where
  | e (s : Sc) (e : PySem.Expr) (m : E) | t (s : Sc) (e : PySem.Expr) (m : E) | w (s : Sc) (e : PySem.Expr) (m : E)
  | g (s : Sc) (e : PySem.Expr) (m : E) | r (s : Sc) (e : PySem.Expr) (m : E)
  | ls (s : Sc) (e : List PySem.Expr) (m : List E) | fs (s : Sc) (e : List PySem.Expr) (m : List E) | as (s : Sc) (e : List PySem.Expr) (m : List E)
  | o (s : Sc) (e : Option PySem.Expr) (m : Option E) | i (s : Sc) (tg e : PySem.Expr) (m : E)
  | tg (s : Sc) (e : PySem.Expr) (t : Tgt) | tgs (s : Sc) (e : List PySem.Expr) (t : List Tgt) | ts (s : Sc) (e : List PySem.Expr) (m : List E)
  | s (s : Sc) (e : PySem.Stmt) (m : S) | ss (s : Sc) (e : List PySem.Stmt) (m : List S)
def Holds (C : Ck) : Q → Prop
  | .e s e m => ∀ X S, Cok C s X S → PE X e (tE S m)
  | .t s e m => ∀ X S, Cok C s X S → PT X e (tT S m)
  | .w s e m => ∀ X S, Cok C s X S → PW X e (tT S m)
  | .g s e m => ∀ X S, Cok C s X S → PE X e (tG S m)
  | .r s e m => ∀ X S, Cok C s X S → PE X e (tR S m)
  | .ls s e m => ∀ X S, Cok C s X S → PA X e (tLs S m)
  | .fs s e m => ∀ X S, Cok C s X S → PA X e (tFs S m)
  | .as s e m => ∀ X S, Cok C s X S → PA X e (tAs S m)
  | .o s e m => ∀ X S, Cok C s X S → PO X e (tO S m)
  | .i s tg e m => ∀ X S, Cok C s X S → PI X tg e (tI S m)
  | .tg s e t => ∀ X S, Cok C s X S → PG X e (gT S t)
  | .tgs s e t => ∀ X S, Cok C s X S → PGs X e (gTs S t)
  | .ts s e m => ∀ X S, Cok C s X S → PTs X e (tTs S m)
  | .s s e m => ∀ X S, Cok C s X S → PS X e (tS S m)
  | .ss s e m => ∀ X S, Cok C s X S → PSs X e (tSs S m)
/-! #### small checks -/
def visB (s : Sc) (x : Str) : Bool := match s.sc.names.lookup x with
  | some .local => true
  | some .cell => true
  | some .free => true
  | _ => false
def dbg (x : Str) : Bool := !(x == ("__debug__" : Str))
def nameB (C : Ck) (s : Sc) (i : Nat) (x : Str) : Bool := decide (C.N[i]? = some x) && visB s x && dbg x && !(x == ("__classdict__" : Str))
def glB (s : Sc) (x : Str) : Bool := decide (s.sc.names.lookup x = some .globalImplicit)
def bltB (C : Ck) (s : Sc) (x : Str) : Bool := glB s x && decide (x ∈ C.blts)
def setB (C : Ck) (s : Sc) (i : Nat) (x : Str) : Bool := decide (C.N[i]? = some x) && (decide (s.sc.names.lookup x = some .local) || (decide (s.sc.names.lookup x = some .cell) && decide (s.raw.names.lookup x = some .cell)))
def notLent (m : E) : Bool := match m with
  | .peek _ => false
  | _ => true
theorem not_lent {m : E} (h : notLent m = true) : kd m ≠ .lent := by
  have go : ∀ b : Bool, (if b = true then Kd.fresh else Kd.val) ≠ Kd.lent := fun b => by cases b <;> exact fun z => by cases z
  cases m <;> first | (cases h; done) | exact go true | exact go false | exact go _
def noSw : PySem.Expr → Bool
  | .ListComp .. => false
  | .SetComp .. => false
  | .DictComp .. => false
  | _ => true
theorem no_sw {e : PySem.Expr} {t : Option PySem.Expr} {l : Nat} {env : PySem.Env} (h : noSw e = true) : swapsWith e t l env = pure false := by
  cases e <;> first | rfl | cases h
def notSl : PySem.Expr → Bool
  | .Slice .. => false
  | _ => true
theorem plain_ix {e : PySem.Expr} (h : notSl e = true) : PlainIx e := by
  intro o i
  cases e <;> first | rfl | cases h
def notSet : PySem.Expr → Bool
  | .Set .. => false
  | _ => true
theorem not_set {e : PySem.Expr} {env : PySem.Env} (h : notSet e = true) (x : Value) : foldedSetIterable e env x = pure x := by
  cases e <;> first | rfl | cases h
section
variable {C : Ck} {s : Sc} {X : Cx} {S : Sit}
theorem vis_of (k : Cok C s X S) {x : Str} (h : visB s x = true) : Vis X.env.scope x := by
  unfold visB at h
  unfold Vis
  rw [k.sc]
  split at h <;> rename_i e
  · exact .inl e
  · exact .inr (.inl e)
  · exact .inr (.inr e)
  · cases h
theorem dbg_of {x : Str} (h : dbg x = true) : (x == ("__debug__" : Str)) = false := by
  unfold dbg at h
  simpa using h
theorem name_of (k : Cok C s X S) {i : Nat} {x : Str} (h : nameB C s i x = true) : X.N[i]? = some x ∧ Vis X.env.scope x ∧ (x == ("__debug__" : Str)) = false ∧ (x == ("__classdict__" : Str)) = false := by
  unfold nameB at h
  simp only [Bool.and_eq_true, decide_eq_true_eq] at h
  obtain ⟨⟨⟨h1, h2⟩, h3⟩, h4⟩ := h
  exact ⟨by rw [k.N]; exact h1, vis_of k h2, dbg_of h3, by simpa using h4⟩
theorem gl_of (k : Cok C s X S) {x : Str} (h : glB s x = true) : Gl X x := by
  show X.env.scope.names.lookup x = _
  rw [k.sc]
  exact of_decide_eq_true h
theorem blt_of (k : Cok C s X S) {x : Str} (h : bltB C s x = true) : BltIs X x := by
  unfold bltB at h
  rw [Bool.and_eq_true] at h
  exact ⟨gl_of k h.1, k.blts x (of_decide_eq_true h.2)⟩
theorem set_of (k : Cok C s X S) {i : Nat} {x : Str} (h : setB C s i x = true) : X.N[i]? = some x ∧ L2.Loc X.env.scope x ∧ (X.fn x = true ∨ X.env.scope.names.lookup x = some .local) := by
  unfold setB at h
  simp only [Bool.and_eq_true, Bool.or_eq_true, decide_eq_true_eq] at h
  obtain ⟨h1, h2⟩ := h
  unfold L2.Loc
  rw [k.sc, k.N]
  rcases h2 with h2 | ⟨h2, h3⟩
  · exact ⟨h1, .inl h2, .inr h2⟩
  · exact ⟨h1, .inr h2, .inl (k.cell x h3)⟩
theorem k_nd (k : Cok C s X S) : X.N.Nodup := by
  rw [k.N]
  exact k.nd
end
/-! #### expressions -/
def opB : Operator → Bop → Bool
  | .Add, .add => true
  | .Sub, .sub => true
  | .Mult, .mul => true
  | .FloorDiv, .fdiv => true
  | .Mod, .mod => true
  | .Pow, .pow => true
  | _, _ => false
def copB : CmpOp → Cop → Bool
  | .Eq, .eq => true
  | .NotEq, .ne => true
  | .Lt, .lt => true
  | .LtE, .le => true
  | .Gt, .gt => true
  | .GtE, .ge => true
  | .In, .isin => true
  | .NotIn, .notin => true
  | _, _ => false
def cstB : Const → D → Bool
  | .none, .non => true
  | .bool b, .bl c => b == c
  | .int i, .int j => decide (i = j)
  | .str x, .str y => decide (x = y)
  | _, _ => false
def cstD : D → D → Bool
  | .non, .non => true
  | .bl b, .bl c => b == c
  | .int i, .int j => decide (i = j)
  | .str x, .str y => decide (x = y)
  | _, _ => false
theorem cst_d {c d : D} (h : cstD c d = true) : c = d := by
  cases c <;> cases d <;> first | rfl | (cases h; done) | (simp [cstD] at h; rw [h])
/-- the block's own names with their slots -/
def ownP (C : Ck) (l : List Nat) : List (Str × Nat) := l.map fun i => (C.N.getD i Str.empty, i)
theorem ownP_map (C : Ck) (l : List Nat) : (ownP C l).map (·.2) = l := by
  unfold ownP
  rw [List.map_map]
  exact List.map_id l
def tyB (x : Str) (t : Ty) : Bool := match t with
  | .non => false
  | .bool => decide (x = ("bool" : Str))
  | .int => decide (x = ("int" : Str))
  | .str => decide (x = ("str" : Str))
  | .tuple => decide (x = ("tuple" : Str))
  | .list => decide (x = ("list" : Str))
def biB (x : Str) (b : Bi) : Bool := match b with
  | .len => decide (x = ("len" : Str))
  | .int => decide (x = ("int" : Str))
  | .list => decide (x = ("list" : Str))
  | .tuple => decide (x = ("tuple" : Str))
  | .sum => decide (x = ("sum" : Str))
  | .abs => decide (x = ("abs" : Str))
  | .min2 => decide (x = ("min" : Str))
  | .max2 => decide (x = ("max" : Str))
  | .min => decide (x = ("min" : Str))
  | .sorted => decide (x = ("sorted" : Str))
  | _ => false
def fnB (C : Ck) (x : Str) (fr : Bool) (f n : Nat) : Bool := C.fns.any fun d => decide (d.nm = x) && d.id == f && d.fr == fr && d.ar == n
def genB (C : Ck) (x : Str) (f n : Nat) : Bool := C.gens.any fun d => decide (d.nm = x) && d.id == f && d.ar == n
def keyB (C : Ck) (x : Str) (f : Nat) : Bool := C.keys.any fun d => decide (d.nm = x) && d.id == f
def ckCall (C : Ck) (rec : Q → Bool) (s : Sc) (x : Str) (e : PySem.Expr) (es : List PySem.Expr) : E → Bool
  | .call fr f ms => glB s x && fnB C x fr f ms.length && dbg x && (e :: es).all notStar && rec (.as s (e :: es) ms)
  | .bi .sset [m] => decide (x = ("sorted" : Str)) && bltB C s x && (match e, es with
      | .Call (.Name y _) [e1] [] _, [] => decide (y = ("set" : Str)) && bltB C s y && notStar e1 && rec (.ls s [e1] [m])
      | _, _ => false)
  | .bi b ms => biB x b && bltB C s x && (e :: es).all notStar && rec (.ls s (e :: es) ms)
  | .isi t m => decide (x = ("isinstance" : Str)) && bltB C s x && notStar e && (match es with
      | [.Name y _] => tyB y t && bltB C s y
      | _ => false) && rec (.e s e m)
  | .glist f ms => decide (x = ("list" : Str)) && bltB C s x && (match e, es with
      | .Call (.Name y _) (e1 :: es1) [] _, [] => glB s y && genB C y f ms.length && dbg y && (e1 :: es1).all notStar && rec (.as s (e1 :: es1) ms)
      | _, _ => false)
  | _ => false
def blkS (s : Sc) (scope : Scope) : Sc := ⟨relS scope s.sc, scope⟩
def ckComp (C : Ck) (rec : Q → Bool) (s : Sc) (elt : PySem.Expr) (scope : Scope) : List Comprehension → E → Bool
  | [⟨tg, iter, ifs, 0⟩], .comp me t mi mifs own => blkC C.N s.sc scope (ownP C own) && (tslots t).all (fun i => decide (i ∈ own)) && notSet iter && notLent me && rec (.i s tg iter mi) && rec (.tg (blkS s scope) tg t) && rec (.ts (blkS s scope) ifs mifs) && rec (.e (blkS s scope) elt me)
  | [⟨tg, iter, [], 0⟩, ⟨tg1, iter1, ifs1, 0⟩], .comp2 me t mi t1 mi1 mifs1 own own1 => blkC C.N s.sc scope (ownP C own) && (tslots t).all (fun i => decide (i ∈ own)) && own1.all (fun i => decide (i ∈ own)) && (tslots t1).all (fun i => decide (i ∈ own1)) && notSet iter && notSet iter1 && notLent me && rec (.i s tg iter mi) && rec (.tg (blkS s scope) tg t) &&
      rec (.i (blkS s scope) tg1 iter1 mi1) && rec (.tg (blkS s scope) tg1 t1) && rec (.ts (blkS s scope) ifs1 mifs1) && rec (.e (blkS s scope) elt me)
  | _, _ => false
def ckE (C : Ck) (rec : Q → Bool) (s : Sc) : PySem.Expr → E → Bool
  | .Name x _, m => (match m with
      | .var i => nameB C s i x
      | .peek i => nameB C s i x
      | .cst d => glB s x && dbg x && C.cst.any fun p => decide (p.1 = x) && cstD p.2 d
      | _ => false)
  | .Constant c _ _, m => (match m with
      | .cst d => cstB c d
      | _ => false)
  | .BinOp a op b _, m => (match m with
      | .bin o ma mb => opB op o && rec (.e s a ma) && rec (.e s b mb)
      | _ => false)
  | .UnaryOp op a _, m => (match op, m with
      | .USub, .neg ma => rec (.e s a ma)
      | .Not, .not ma => rec (.e s a ma)
      | _, _ => false)
  | .Compare a ops bs _, m => (match ops, bs, m with
      | [.Is], [.Constant .none _ _], .isN false ma => rec (.e s a ma)
      | [.IsNot], [.Constant .none _ _], .isN true ma => rec (.e s a ma)
      | [op], [b], .cmp o ma mb => copB op o && !behindInMarks op b && rec (.e s a ma) && rec (.e s b mb)
      | [op, op'], [b, c], .chain o o' ma mb mc => copB op o && copB op' o' && !lastMarks [op, op'] [b, c] && rec (.e s a ma) && rec (.e s b mb) && rec (.e s c mc)
      | _, _, _ => false)
  | .BoolOp op vs p, m => (match op, vs, m with
      | _, [a], m => rec (.e s a m)
      | .And, a :: b :: r, .and ma mb => notLent mb && rec (.e s a ma) && rec (.e s (.BoolOp .And (b :: r) p) mb)
      | .Or, a :: b :: r, .or ma mb => notLent mb && rec (.e s a ma) && rec (.e s (.BoolOp .Or (b :: r) p) mb)
      | _, _, _ => false)
  | .IfExp c a b _, m => (match m with
      | .ife mc ma mb => notLent ma && notLent mb && rec (.t s c mc) && rec (.e s a ma) && rec (.e s b mb)
      | _ => false)
  | .Tuple es _ _, m => (match m with
      | .tup ms => decide (ms.length ≤ 1000000) && rec (.fs s es ms)
      | _ => false)
  | .List es _, m => (match m with
      | .lst ms => decide (ms.length ≤ 1000000) && rec (.fs s es ms)
      | _ => false)
  | .Subscript a b _, m => (match b, m with
      | .Slice lo hi none _, .sl ma ml mh => rec (.e s a ma) && rec (.o s lo ml) && rec (.o s hi mh)
      | .Slice none none (some (.UnaryOp .USub (.Constant (.int 1) _ _) _)) _, .rev ma => rec (.e s a ma)
      | b, .idx ma mb => notSl b && rec (.e s a ma) && rec (.e s b mb)
      | _, _ => false)
  | .ListComp elt gs scope _, m => ckComp C rec s elt scope gs m
  | .Call f args kws _, m => (match f, args, kws with
      | .Name x _, e :: es, [] => ckCall C rec s x e es m
      | .Name x _, [e], [⟨some kw, .Name y _, _⟩] => (match m with
          | .srt f ma => decide (x = ("sorted" : Str)) && decide (kw = ("key" : Str)) && bltB C s x && glB s y && dbg y && notStar e && keyB C y f && rec (.e s e ma)
          | _ => false)
      | _, _, _ => false)
  | _, _ => false
theorem ck_and {a b : Bool} : (a && b) = true ↔ a = true ∧ b = true := by simp
section
variable {C : Ck} {rec : Q → Bool} (ih : ∀ q, rec q = true → Holds C q) {s : Sc} {X : Cx} {S : Sit} (k : Cok C s X S)
include ih k
theorem call_ok {x : Str} {e : PySem.Expr} {es : List PySem.Expr} {m : E} {p pos : Pos} (h : ckCall C rec s x e es m = true) : PE X (.Call (.Name x p) (e :: es) [] pos) (tE S m) := by
  unfold ckCall at h
  split at h
  · rename_i fr f ms
    simp only [ck_and] at h
    obtain ⟨⟨⟨⟨h1, h2⟩, h3⟩, h4⟩, h5⟩ := h
    unfold fnB at h2
    obtain ⟨d, hd, z⟩ := List.any_eq_true.mp h2
    simp only [ck_and, decide_eq_true_eq, beq_iff_eq] at z
    obtain ⟨⟨⟨z1, z2⟩, z3⟩, z4⟩ := z
    have q := k.fns d hd
    rw [z1, z2, z3] at q
    exact s_call k.tk q (gl_of k h1) z4.symm (ih _ h5 X S k) h4 (dbg_of h3)
  · rename_i m
    simp only [ck_and] at h
    obtain ⟨⟨h1, h2⟩, h3⟩ := h
    have e1 := of_decide_eq_true h1
    subst e1
    split at h3
    · simp only [ck_and] at h3
      obtain ⟨⟨⟨j1, j2⟩, j3⟩, j4⟩ := h3
      have e2 := of_decide_eq_true j1
      subst e2
      exact s_sset k.hu k.calm k.K (blt_of k h2) (blt_of k j2) (ih _ j4 X S k) j3
    · cases h3
  · rename_i b ms _
    simp only [ck_and] at h
    obtain ⟨⟨⟨h1, h2⟩, h3⟩, h4⟩ := h
    have q := blt_of k h2
    have a := ih _ h4 X S k
    unfold biB at h1
    split at h1 <;> first
      | (have e1 := of_decide_eq_true h1; subst e1; first
          | exact s_len k.K q a h3
          | exact s_int1 q a h3
          | exact s_list1 k.K q a h3
          | exact s_tuple1 k.K q a h3
          | exact s_sum k.K k.calm q a h3
          | exact s_abs q a h3
          | exact s_min2 k.calm q a h3
          | exact s_max2 k.calm q a h3
          | exact s_min k.calm k.hu k.K q a h3
          | exact s_sorted k.hu k.K q a h3)
      | cases h1
  · rename_i t m
    simp only [ck_and] at h
    obtain ⟨⟨⟨⟨h1, h2⟩, h3⟩, h4⟩, h5⟩ := h
    have e1 := of_decide_eq_true h1
    subst e1
    split at h4
    · rename_i y p2
      simp only [ck_and] at h4
      have q := blt_of k h4.2
      have t1 := h4.1
      refine s_isi k.K (blt_of k h2) q.gl q.no ?_ ?_ ?_ (ih _ h5 X S k) h3
      all_goals
        (unfold tyB at t1; cases t <;> first | (cases t1; done) | (have e2 := of_decide_eq_true t1; subst e2; decide +kernel))
    · cases h4
  · rename_i f ms
    simp only [ck_and] at h
    obtain ⟨⟨h1, h2⟩, h3⟩ := h
    have e1 := of_decide_eq_true h1
    subst e1
    split at h3
    · simp only [ck_and] at h3
      obtain ⟨⟨⟨⟨h3, h4⟩, h5⟩, h6⟩, h7⟩ := h3
      unfold genB at h4
      obtain ⟨d, hd, z⟩ := List.any_eq_true.mp h4
      simp only [ck_and, decide_eq_true_eq, beq_iff_eq] at z
      obtain ⟨⟨z1, z2⟩, z3⟩ := z
      have q := k.gens d hd
      rw [z1, z2] at q
      exact s_glist q (gl_of k h3) (blt_of k h2) z3.symm (ih _ h7 X S k) h6 (dbg_of h5)
    · cases h3
  · cases h
theorem blk_cok {scope : Scope} (hk : scope.kind = .function) (s0 : Shared) (H : Hp) (c : Addr) (cl : List (Str × Addr)) (fp : List Addr) : Cok C (blkS s scope) (X.blk s0 H scope (compEnvC scope cl c X.env) fp) S.calm := by
  refine ⟨k.N, k.nd, ?_, ?_, fun x h => ?_, k.K, k.calm, takes0, k.hu, PassesOwn.never, fun f hf => ⟨(k.fns f hf).gl⟩, fun f hf => ⟨(k.gens f hf).gl⟩, fun f hf => ⟨(k.keys f hf).gl⟩, k.blts, k.cst⟩
  · show relS scope X.env.scope = relS scope s.sc
    rw [k.sc]
  · exact hk
  · show (scope.names.lookup x == some .cell) = true
    have h : scope.names.lookup x = some .cell := h
    rw [h]
    rfl
theorem comp_ok {elt : PySem.Expr} {gs : List Comprehension} {scope : Scope} {m : E} {pos : Pos} (h : ckComp C rec s elt scope gs m = true) : PE X (.ListComp elt gs scope pos) (tE S m) := by
  unfold ckComp at h
  split at h
  · rename_i tg iter ifs me t mi mifs own
    simp only [ck_and] at h
    obtain ⟨⟨⟨⟨⟨⟨⟨h1, h2⟩, h3⟩, h4⟩, h5⟩, h6⟩, h7⟩, h8⟩ := h
    have ok : BlkOk X.N X.env.scope scope (ownP C own) := by
      rw [k.N, k.sc]
      exact blkOk_by h1
    have q := s_comp (pos := pos) k.calm (k_nd k) (ih _ h5 X S k) ok (fun i hi => by
      rw [ownP_map]
      exact of_decide_eq_true (List.all_eq_true.mp h2 i hi)) (fun s0 H c cl fp => ih _ h6 _ _ (blk_cok ih k ok.kind s0 H c cl fp)) (fun s0 H c cl fp => ih _ h7 _ _ (blk_cok ih k ok.kind s0 H c cl fp))
      (fun s0 H c cl fp => frz_of (ih _ h8 _ _ (blk_cok ih k ok.kind s0 H c cl fp)) (not_lent h4)) (not_set h3)
    rw [ownP_map] at q
    exact q
  · rename_i tg iter tg1 iter1 ifs1 me t mi t1 mi1 mifs1 own own1
    simp only [ck_and] at h
    obtain ⟨⟨⟨⟨⟨⟨⟨⟨⟨⟨⟨⟨h1, h2⟩, h3⟩, h4⟩, h5⟩, h6⟩, h7⟩, h8⟩, h9⟩, h10⟩, h11⟩, h12⟩, h13⟩ := h
    have ok : BlkOk X.N X.env.scope scope (ownP C own) := by
      rw [k.N, k.sc]
      exact blkOk_by h1
    have q := s_comp2 (pos := pos) (vs1 := own1) k.calm (k_nd k) (ih _ h8 X S k) ok (fun i hi => by
      rw [ownP_map]
      exact of_decide_eq_true (List.all_eq_true.mp h3 i hi)) (fun i hi => by
      rw [ownP_map]
      exact of_decide_eq_true (List.all_eq_true.mp h2 i hi)) (fun i hi => of_decide_eq_true (List.all_eq_true.mp h4 i hi))
      (fun s0 H c cl fp => ih _ h9 _ _ (blk_cok ih k ok.kind s0 H c cl fp)) (fun s0 H c cl fp => ts_nil)
      (fun s0 H c cl fp => ih _ h10 _ _ (blk_cok ih k ok.kind s0 H c cl fp)) (fun s0 H c cl fp => ih _ h11 _ _ (blk_cok ih k ok.kind s0 H c cl fp)) (fun s0 H c cl fp => ih _ h12 _ _ (blk_cok ih k ok.kind s0 H c cl fp))
      (fun s0 H c cl fp => frz_of (ih _ h13 _ _ (blk_cok ih k ok.kind s0 H c cl fp)) (not_lent h7)) (not_set h5) (fun env x => not_set h6 x)
    rw [ownP_map] at q
    exact q
  · cases h
theorem cop_ok {op : CmpOp} {o : Cop} (h : copB op o = true) : CopR X S op o := by
  have hu := k.hu
  unfold copB at h
  split at h
  · exact c_eq (by omega) k.K
  · exact c_ne (by omega) k.K
  · exact c_lt (by omega) k.K
  · exact c_le (by omega) k.K
  · exact c_gt (by omega) k.K
  · exact c_ge (by omega) k.K
  · exact c_isin hu k.K
  · exact c_notin hu k.K
  · cases h
/-- a comparison, as a value and as a test -/
theorem cmp_ok {a : PySem.Expr} {ops : List CmpOp} {bs : List PySem.Expr} {m : E} {pos : Pos} (h : ckE C rec s (.Compare a ops bs pos) m = true) : Both X (.Compare a ops bs pos) S m := by
  unfold ckE at h
  dsimp only at h
  split at h
  · exact s_isN (ih _ h X S k)
  · exact s_notN (ih _ h X S k)
  · simp only [ck_and, Bool.not_eq_true'] at h
    obtain ⟨⟨⟨h1, h2⟩, h3⟩, h4⟩ := h
    exact s_cmp (cop_ok ih k h1) (ih _ h3 X S k) (ih _ h4 X S k) h2
  · simp only [ck_and, Bool.not_eq_true'] at h
    obtain ⟨⟨⟨⟨⟨h1, h2⟩, h3⟩, h4⟩, h5⟩, h6⟩ := h
    exact s_chain (cop_ok ih k h1) (cop_ok ih k h2) (ih _ h4 X S k) (ih _ h5 X S k) (ih _ h6 X S k) h3
  · cases h
theorem e_ok {e : PySem.Expr} {m : E} (h : ckE C rec s e m = true) : PE X e (tE S m) := by
  have h0 := h
  unfold ckE at h
  split at h
  · split at h
    · obtain ⟨a, b, c, d⟩ := name_of k h
      exact s_var a b c d
    · obtain ⟨a, b, c, d⟩ := name_of k h
      exact s_peek a b c d
    · simp only [ck_and] at h
      obtain ⟨⟨h1, h2⟩, h3⟩ := h
      obtain ⟨p, hp, z⟩ := List.any_eq_true.mp h3
      simp only [ck_and, decide_eq_true_eq] at z
      obtain ⟨v, u, g1, g2, g3⟩ := k.cst p hp
      rw [z.1] at g1
      rw [cst_d z.2] at g3
      exact s_cst g3 (pe_glob (gl_of k h1) g1 g2 (dbg_of h2))
    · cases h
  · split at h
    · unfold cstB at h
      split at h
      · exact s_cst (d := .non) (v := .non) rfl pe_non
      · have e := eq_of_beq h
        subst e
        exact s_cst (d := .bl _) rfl pe_bl
      · have e := of_decide_eq_true h
        subst e
        exact s_cst (d := .int _) rfl pe_int
      · have e := of_decide_eq_true h
        subst e
        exact s_cst (d := .str _) rfl pe_str
      · cases h
    · cases h
  · split at h
    · simp only [ck_and] at h
      obtain ⟨⟨h1, h2⟩, h3⟩ := h
      have a := ih _ h2 X S k
      have b := ih _ h3 X S k
      unfold opB at h1
      split at h1
      · exact s_add a b
      · exact s_sub a b
      · exact s_mul a b
      · exact s_fdiv a b
      · exact s_mod a b
      · exact s_pow a b
      · cases h1
    · cases h
  · split at h
    · exact s_neg (ih _ h X S k)
    · exact s_not k.K (ih _ h X S k)
    · cases h
  · exact (cmp_ok ih k h0).1
  · split at h
    · exact pe_one (ih _ h X S k)
    · simp only [ck_and] at h
      obtain ⟨⟨h1, h2⟩, h3⟩ := h
      exact s_and (ih _ h2 X S k) (ih _ h3 X S k) (not_lent h1)
    · simp only [ck_and] at h
      obtain ⟨⟨h1, h2⟩, h3⟩ := h
      exact s_or (ih _ h2 X S k) (ih _ h3 X S k) (not_lent h1)
    · cases h
  · split at h
    · simp only [ck_and] at h
      obtain ⟨⟨⟨⟨h1, h2⟩, h3⟩, h4⟩, h5⟩ := h
      exact s_ife (ih _ h3 X S k) (ih _ h4 X S k) (ih _ h5 X S k) (not_lent h1) (not_lent h2)
    · cases h
  · split at h
    · simp only [ck_and, decide_eq_true_eq] at h
      exact s_tup (ih _ h.2 X S k) h.1
    · cases h
  · split at h
    · simp only [ck_and, decide_eq_true_eq] at h
      exact s_lst (ih _ h.2 X S k) h.1
    · cases h
  · split at h
    · simp only [ck_and] at h
      obtain ⟨⟨h1, h2⟩, h3⟩ := h
      exact s_sl k.K (ih _ h1 X S k) (ih _ h2 X S k) (ih _ h3 X S k)
    · exact s_rev k.K (ih _ h X S k)
    · simp only [ck_and] at h
      obtain ⟨⟨h1, h2⟩, h3⟩ := h
      exact s_idx k.K (ih _ h2 X S k) (ih _ h3 X S k) (plain_ix h1)
    · cases h
  · exact comp_ok ih k h
  · split at h
    · exact call_ok ih k h
    · split at h
      · simp only [ck_and] at h
        obtain ⟨⟨⟨⟨⟨⟨⟨h1, h2⟩, h3⟩, h4⟩, h5⟩, h6⟩, h7⟩, h8⟩ := h
        have e1 := of_decide_eq_true h1
        subst e1
        have e2 := of_decide_eq_true h2
        subst e2
        unfold keyB at h7
        obtain ⟨d, hd, z⟩ := List.any_eq_true.mp h7
        simp only [ck_and, decide_eq_true_eq, beq_iff_eq] at z
        have q := k.keys d hd
        rw [z.1, z.2] at q
        exact s_srt k.hu k.K (blt_of k h3) q (gl_of k h4) (dbg_of h5) (ih _ h8 X S k) h6
      · cases h
    · cases h
  · cases h
end
end Mi
namespace Mi
open PySem L2
/-! #### tests, arguments, sources, targets -/
def plainT : PySem.Expr → Bool
  | .UnaryOp _ _ _ => false
  | .BoolOp .. => false
  | .IfExp .. => false
  | .Compare .. => false
  | _ => true
theorem plain_t {e : PySem.Expr} {env : PySem.Env} (h : plainT e = true) (whole : Sem Value) : isTrue e env whole = (do let v ← whole; standAt e.pos; holding [v] (truthy v)) := by
  cases e <;> first | rfl | cases h
def ckT (C : Ck) (rec : Q → Bool) (s : Sc) (e : PySem.Expr) (m : E) : Bool := match e, m with
  | .UnaryOp .Not a _, .not ma => rec (.t s a ma)
  | .BoolOp _ _ _, m => rec (.w s e m)
  | .Compare a ops bs p, m => ckE C rec s (.Compare a ops bs p) m
  | e, .tru m => rec (.t s e m)
  | e, m => plainT e && rec (.e s e m)
def ckW (rec : Q → Bool) (s : Sc) (e : PySem.Expr) (m : E) : Bool := match e, m with
  | .BoolOp _ [a] _, m => rec (.t s a m)
  | .BoolOp .And (a :: b :: r) p, .and ma mb => rec (.t s a ma) && rec (.w s (.BoolOp .And (b :: r) p) mb)
  | .BoolOp .Or (a :: b :: r) p, .or ma mb => rec (.t s a ma) && rec (.w s (.BoolOp .Or (b :: r) p) mb)
  | _, _ => false
def ckG (C : Ck) (rec : Q → Bool) (s : Sc) (e : PySem.Expr) (m : E) : Bool := match e, m with
  | .Name x _, .peek i => nameB C s i x
  | e, m => notLent m && rec (.e s e m)
def ckLs (rec : Q → Bool) (s : Sc) (es : List PySem.Expr) (ms : List E) : Bool := match es, ms with
  | [], [] => true
  | e :: es, m :: ms => notStar e && rec (.e s e m) && rec (.ls s es ms)
  | _, _ => false
def ckFs (rec : Q → Bool) (s : Sc) (es : List PySem.Expr) (ms : List E) : Bool := match es, ms with
  | [], [] => true
  | e :: es, m :: ms => notStar e && notLent m && rec (.e s e m) && rec (.fs s es ms)
  | _, _ => false
def ckAs (rec : Q → Bool) (s : Sc) (es : List PySem.Expr) (ms : List E) : Bool := match es, ms with
  | [], [] => true
  | e :: es, m :: ms => notStar e && rec (.g s e m) && rec (.as s es ms)
  | _, _ => false
def ckO (rec : Q → Bool) (s : Sc) (e : Option PySem.Expr) (m : Option E) : Bool := match e, m with
  | none, none => true
  | some e, some m => rec (.e s e m)
  | _, _ => false
def pkB (ma mb : E) : Bool := (pk ma).all (fun i => decide (i ∈ pks (.zip ma mb))) && (pk mb).all (fun i => decide (i ∈ pks (.zip ma mb)))
def ckI (C : Ck) (rec : Q → Bool) (s : Sc) (tg e : PySem.Expr) (m : E) : Bool := match e, m with
  | .Call (.Name x _) [a] [] _, .rng none ma none => decide (x = ("range" : Str)) && bltB C s x && notStar a && rec (.e s a ma)
  | .Call (.Name x _) [a, b] [] _, .rng (some ma) mb none => decide (x = ("range" : Str)) && bltB C s x && notStar a && notStar b && rec (.e s a ma) && rec (.e s b mb)
  | .Call (.Name x _) [a] [] _, .enum ma => decide (x = ("enumerate" : Str)) && bltB C s x && notStar a && (match tg with | .Tuple _ _ _ => true | _ => false) && decide (pks (.enum ma) = pk ma) && rec (.r s a ma)
  | .Call (.Name x _) [a, b] [] _, .zip ma mb => decide (x = ("zip" : Str)) && bltB C s x && notStar a && notStar b && (match tg with | .Tuple _ _ _ => true | _ => false) && pkB ma mb && rec (.r s a ma) && rec (.r s b mb)
  | e, m => decide (pks m = pk m) && rec (.r s e m)
def ckTg (C : Ck) (rec : Q → Bool) (s : Sc) (e : PySem.Expr) (t : Tgt) : Bool := match e, t with
  | .Name x _, .nm i => setB C s i x
  | .Tuple es _ _, .tup ts => es.all notStar && decide (es.length = ts.length) && rec (.tgs s es ts)
  | _, _ => false
def ckTgs (rec : Q → Bool) (s : Sc) (es : List PySem.Expr) (ts : List Tgt) : Bool := match es, ts with
  | [], [] => true
  | e :: es, t :: ts => notStar e && rec (.tg s e t) && rec (.tgs s es ts)
  | _, _ => false
def ckTs (rec : Q → Bool) (s : Sc) (es : List PySem.Expr) (ms : List E) : Bool := match es, ms with
  | [], [] => true
  | [e], [m] => rec (.t s e m)
  | _, _ => false
theorem asg_cons {e : PySem.Expr} {es : List PySem.Expr} {env : PySem.Env} (h : notStar e = true) : assignEach (e :: es) env = (false, assign e env) :: assignEach es env := by
  cases e <;> first | rfl | cases h
theorem asg_len {env : PySem.Env} : ∀ {es : List PySem.Expr}, es.all notStar = true → (assignEach es env).length = es.length ∧ (assignEach es env).findIdx? (·.1) = none
  | [], _ => ⟨rfl, rfl⟩
  | e :: es, h => by
    rw [List.all_cons, Bool.and_eq_true] at h
    obtain ⟨a, b⟩ := asg_len (env := env) h.2
    rw [asg_cons h.1]
    refine ⟨by rw [List.length_cons, List.length_cons, a], ?_⟩
    rw [List.findIdx?_cons, b]
    rfl
section
variable {C : Ck} {rec : Q → Bool} (ih : ∀ q, rec q = true → Holds C q) {s : Sc} {X : Cx} {S : Sit} (k : Cok C s X S)
include ih k
theorem t_ok {e : PySem.Expr} {m : E} (h : ckT C rec s e m = true) : PT X e (tT S m) := by
  unfold ckT at h
  split at h
  · exact t_not (ih _ h X S k)
  · exact (ih _ h X S k).pt
  · exact (cmp_ok ih k h).2
  · exact t_tru (ih _ h X S k)
  · rw [ck_and] at h
    exact t_plain k.K (ih _ h.2 X S k) (plain_t h.1)
theorem w_ok {e : PySem.Expr} {m : E} (h : ckW rec s e m = true) : PW X e (tT S m) := by
  unfold ckW at h
  split at h
  · rename_i op a p
    cases op
    · exact w_and1 (ih _ h X S k)
    · exact w_or1 (ih _ h X S k)
  · rw [ck_and] at h
    exact w_and (ih _ h.1 X S k) (ih _ h.2 X S k)
  · rw [ck_and] at h
    exact w_or (ih _ h.1 X S k) (ih _ h.2 X S k)
  · cases h
theorem g_ok {e : PySem.Expr} {m : E} (h : ckG C rec s e m = true) : PE X e (tG S m) := by
  unfold ckG at h
  split at h
  · obtain ⟨a, b, c, d⟩ := name_of k h
    exact g_peek a b c d
  · rw [ck_and] at h
    exact g_val (ih _ h.2 X S k) (not_lent h.1)
theorem r_ok {e : PySem.Expr} {m : E} (h : ckG C rec s e m = true) : PE X e (tR S m) := by
  unfold ckG at h
  split at h
  · obtain ⟨a, b, c, d⟩ := name_of k h
    exact r_peek a b c d
  · rw [ck_and] at h
    exact r_val (ih _ h.2 X S k) (not_lent h.1)
theorem ls_ok {es : List PySem.Expr} {ms : List E} (h : ckLs rec s es ms = true) : PA X es (tLs S ms) := by
  unfold ckLs at h
  split at h
  · exact ls_nil
  · simp only [ck_and] at h
    exact ls_cons (ih _ h.1.2 X S k) (ih _ h.2 X S k) h.1.1
  · cases h
theorem fs_ok {es : List PySem.Expr} {ms : List E} (h : ckFs rec s es ms = true) : PA X es (tFs S ms) := by
  unfold ckFs at h
  split at h
  · exact fs_nil
  · simp only [ck_and] at h
    exact fs_cons (ih _ h.1.2 X S k) (not_lent h.1.1.2) (ih _ h.2 X S k) h.1.1.1
  · cases h
theorem as_ok {es : List PySem.Expr} {ms : List E} (h : ckAs rec s es ms = true) : PA X es (tAs S ms) := by
  unfold ckAs at h
  split at h
  · exact as_nil
  · simp only [ck_and] at h
    exact as_cons (ih _ h.1.2 X S k) (ih _ h.2 X S k) h.1.1
  · cases h
theorem o_ok {e : Option PySem.Expr} {m : Option E} (h : ckO rec s e m = true) : PO X e (tO S m) := by
  unfold ckO at h
  split at h
  · exact o_none
  · exact o_some (ih _ h X S k)
  · cases h
theorem i_ok {tg e : PySem.Expr} {m : E} (h : ckI C rec s tg e m = true) : PI X tg e (tI S m) := by
  unfold ckI at h
  split at h
  · simp only [ck_and] at h
    obtain ⟨⟨⟨h1, h2⟩, h3⟩, h4⟩ := h
    have e1 := of_decide_eq_true h1
    subst e1
    exact i_rng1 (blt_of k h2) (ih _ h4 X S k) h3
  · simp only [ck_and] at h
    obtain ⟨⟨⟨⟨⟨h1, h2⟩, h3⟩, h4⟩, h5⟩, h6⟩ := h
    have e1 := of_decide_eq_true h1
    subst e1
    exact i_rng2 (blt_of k h2) (ih _ h5 X S k) (ih _ h6 X S k) h3 h4
  · simp only [ck_and] at h
    obtain ⟨⟨⟨⟨⟨h1, h2⟩, h3⟩, h4⟩, h5⟩, h6⟩ := h
    have e1 := of_decide_eq_true h1
    subst e1
    split at h4
    · exact i_enum k.K (blt_of k h2) (ih _ h6 X S k) h3 (of_decide_eq_true h5)
    · cases h4
  · simp only [ck_and] at h
    obtain ⟨⟨⟨⟨⟨⟨⟨h1, h2⟩, h3⟩, h4⟩, h5⟩, h6⟩, h7⟩, h8⟩ := h
    have e1 := of_decide_eq_true h1
    subst e1
    unfold pkB at h6
    rw [ck_and, List.all_eq_true, List.all_eq_true] at h6
    split at h5
    · exact i_zip k.K (blt_of k h2) (ih _ h7 X S k) (ih _ h8 X S k) h3 h4 fun i hi => hi.elim (fun z => of_decide_eq_true (h6.1 i z)) fun z => of_decide_eq_true (h6.2 i z)
    · cases h5
  · rw [ck_and] at h
    exact i_seq k.K (ih _ h.2 X S k) (of_decide_eq_true h.1)
theorem tg_ok {e : PySem.Expr} {t : Tgt} (h : ckTg C rec s e t = true) : PG X e (gT S t) := by
  unfold ckTg at h
  split at h
  · obtain ⟨a, b, c⟩ := set_of k h
    exact g_nm (k_nd k) a b c
  · simp only [ck_and, decide_eq_true_eq] at h
    obtain ⟨a, b⟩ := asg_len (env := X.env) h.1.1
    exact g_tup k.calm k.K (ih _ h.2 X S k) (a.trans h.1.2) b
  · cases h
theorem tgs_ok {e : List PySem.Expr} {t : List Tgt} (h : ckTgs rec s e t = true) : PGs X e (gTs S t) := by
  unfold ckTgs at h
  split at h
  · exact gs_nil
  · simp only [ck_and] at h
    exact gs_cons (ih _ h.1.2 X S k) (ih _ h.2 X S k) (by rw [asg_cons h.1.1]; rfl)
  · cases h
theorem ts_ok {e : List PySem.Expr} {m : List E} (h : ckTs rec s e m = true) : PTs X e (tTs S m) := by
  unfold ckTs at h
  split at h
  · exact ts_nil
  · exact ts_one (ih _ h X S k)
  · cases h
end
/-! #### statements -/
/-- whether the store is one with the comprehension -/
def swC (s : Sc) (scope : Scope) (pos p : Pos) (y : Str) : Bool :=
  decide (s.sc.names.lookup y = some .local) && p.line == pos.line && !(scope.names.any fun (n, k) => n == y && (k == .local || k == .cell))
/-- x, y = a, b : two plain names stored from the right -/
def parB (s : Sc) (x y : Str) (px py : Pos) (vs : List PySem.Expr) : Bool :=
  decide (s.sc.names.lookup x = some .local) && decide (s.sc.names.lookup y = some .local) && py.line == px.line && !(x == y) && vs.all notStar && !(vs.all (foldedForSure 8)) && !(vs.all (constantsAlone 8))
def isTupE : PySem.Expr → Bool
  | .Tuple .. => true
  | _ => false
def ckS (C : Ck) (rec : Q → Bool) (s : Sc) (st : PySem.Stmt) (m : S) : Bool := match m with
  | .wf _ m => rec (.s s st m)
  | .asg (.nm i) me => (match st with
      | .Assign [.Name x p] e _ => setB C s i x && notLent me && rec (.e s e me) && (match e with
          | .ListComp _ _ scope pos => !(swC s scope pos p x)
          | e => noSw e)
      | _ => false)
  | .asgC i me => (match st with
      | .Assign [.Name x p] (.ListComp elt gs scope pos) _ => setB C s i x && swC s scope pos p x && ckComp C rec s elt scope gs me
      | _ => false)
  | .asg (.tup us) me => (match st with
      | .Assign [.Tuple ts kk p] e _ => notLent me && noSw e && !isTupE e && rec (.e s e me) && rec (.tg s (.Tuple ts kk p) (.tup us))
      | _ => false)
  | .par i j ma mb => (match st with
      | .Assign [.Tuple [.Name x px, .Name y py] _ _] (.Tuple [a, b] _ _) _ => setB C s i x && setB C s j y && parB s x y px py [a, b] && !(i == j) && rec (.fs s [a, b] [ma, mb])
      | _ => false)
  | .setIt i mk me => (match st with
      | .Assign [.Subscript (.Name x _) b _] e _ => nameB C s i x && notSl b && notLent me && noSw e && rec (.e s b mk) && rec (.e s e me)
      | _ => false)
  | .app i me => (match st with
      | .Expr (.Call (.Attribute (.Name x _) a apos) [e] [] cpos) _ => decide (a = ("append" : Str)) && nameB C s i x && notLent me && notStar e && (apos.endLine == cpos.line) && rec (.e s e me)
      | _ => false)
  | .ins i mk me => (match st with
      | .Expr (.Call (.Attribute (.Name x _) a apos) [k, e] [] cpos) _ => decide (a = ("insert" : Str)) && nameB C s i x && notLent me && notStar k && notStar e && (apos.endLine == cpos.line) && rec (.e s k mk) && rec (.e s e me)
      | _ => false)
  | .ext i me => (match st with
      | .Expr (.Call (.Attribute (.Name x _) a apos) [e] [] cpos) _ => decide (a = ("extend" : Str)) && nameB C s i x && notStar e && (apos.endLine == cpos.line) && rec (.e s e me)
      | _ => false)
  | .expr me => (match st with
      | .Expr e _ => noSw e && rec (.e s e me)
      | _ => false)
  | .pass => (match st with
      | .Pass _ => true
      | .Expr (.Constant (.str _) _ _) _ => true
      | _ => false)
  | .brk => (match st with
      | .Break _ => true
      | _ => false)
  | .cnt => (match st with
      | .Continue _ => true
      | _ => false)
  | .retv i => (match st with
      | .Return (some (.Name x _)) _ => nameB C s i x
      | _ => false)
  | .ret me => (match st with
      | .Return (some e) _ => notLent me && rec (.e s e me)
      | _ => false)
  | .retN => (match st with
      | .Return none _ => true
      | _ => false)
  | .ife mc ma mb => (match st with
      | .If c a b _ => rec (.t s c mc) && rec (.ss s a ma) && rec (.ss s b mb)
      | _ => false)
  | .whl mc mb => (match st with
      | .While c b [] _ => rec (.t s c mc) && rec (.ss s b mb)
      | _ => false)
  | .fr t mi mb => (match st with
      | .For tg it b [] _ => notSet it && rec (.i s tg it mi) && rec (.tg s tg t) && rec (.ss s b mb)
      | _ => false)
  | .never => false
def ckSs (rec : Q → Bool) (s : Sc) (es : List PySem.Stmt) (ms : List S) : Bool := match es, ms with
  | [], [] => true
  | e :: es, m :: ms => rec (.s s e m) && rec (.ss s es ms)
  | _, _ => false
theorem sw_lc {elt : PySem.Expr} {gs : List Comprehension} {scope : Scope} {pos p : Pos} {y : Str} {l : Nat} {env : PySem.Env} {s : Sc} (hk : env.scope.kind = .function) (hs : env.scope = s.sc) :
    swapsWith (.ListComp elt gs scope pos) (some (.Name y p)) l env = pure (swC s scope pos p y) := by
  have hb : env.blockKind = .function := by
    unfold Env.blockKind
    rw [hk]
    rfl
  have ky : env.kindOf y = s.sc.names.lookup y := by
    rw [← hs]
    rfl
  unfold swapsWith swC
  simp only [hb, ky, Expr.pos]
  have : (s.sc.names.lookup y == some NameKind.local) = decide (s.sc.names.lookup y = some NameKind.local) := by
    cases h : (s.sc.names.lookup y == some NameKind.local)
    · exact (decide_eq_false (by simpa using h)).symm
    · exact (decide_eq_true (by simpa using h)).symm
  rw [this]
  rfl
theorem sole_sw {e t : PySem.Expr} {l : Nat} {env : PySem.Env} (h : noSw e = true) : swapsWithSole [t] e l env = pure false := by
  show swapsWith e (some t) l env = _
  exact no_sw h
theorem no_tup {e : PySem.Expr} {ts : List PySem.Expr} {env : PySem.Env} (h : isTupE e = false) : swappedStores ts e env = pure none := by
  rcases ts with _ | ⟨t, _ | ⟨t2, r⟩⟩
  · rfl
  · cases e <;> first | (cases h; done) | (cases t <;> rfl)
  · cases t <;> cases e <;> first | rfl | cases h
theorem sub_asg {o b : PySem.Expr} {env : PySem.Env} {p2 : Pos} (h : notSl b = true) (v : Value) : assign (.Subscript o b p2) env v = (do
      let ov ← holding [v] (eval o env)
      let iv ← holding [v, ov] (eval b env)
      standAt p2
      holding [v, ov, iv] (setItem ov iv v)
      release [v, ov, iv] []) := by
  cases b <;> first | rfl | cases h
theorem par_ok {x y : Str} {px py pt pt2 : Pos} {kt k2 : Nat} {a b : PySem.Expr} {env : PySem.Env} {s : Sc} (hk : env.scope.kind = .function) (hs : env.scope = s.sc) (h : parB s x y px py [a, b] = true) :
    swappedStores [.Tuple [.Name x px, .Name y py] kt pt] (.Tuple [a, b] k2 pt2) env = pure (some [x, y]) := by
  unfold parB at h
  simp only [ck_and, decide_eq_true_eq, Bool.not_eq_true'] at h
  obtain ⟨⟨⟨⟨⟨⟨h1, h2⟩, h3⟩, h4⟩, h5⟩, h6⟩, h7⟩ := h
  have hb : env.blockKind = .function := by
    unfold Env.blockKind
    rw [hk]
    rfl
  have ky : ∀ z, env.kindOf z = s.sc.names.lookup z := fun z => by
    rw [← hs]
    rfl
  have hst : ([a, b].any fun | .Starred .. => true | _ => false) = false := by
    simp only [List.all_cons, List.all_nil, Bool.and_true, ck_and] at h5
    simp only [List.any_cons, List.any_nil, Bool.or_false, Bool.or_eq_false_iff]
    refine ⟨?_, ?_⟩
    · revert h5
      cases a <;> first | (intro _; rfl) | (intro z; exact absurd z.1 (by simp [notStar]))
    · revert h5
      cases b <;> first | (intro _; rfl) | (intro z; exact absurd z.2 (by simp [notStar]))
  have e1 : (some NameKind.local == some NameKind.local) = true := rfl
  have e2 : (py.line == px.line) = true := h3
  have e3 : (y == x) = false := by
    cases q : (y == x) with
    | false => rfl
    | true =>
      have := eq_of_beq q
      subst this
      simp at h4
  have k1 : (env.kindOf x == some NameKind.local) = true := by rw [ky, h1]; rfl
  have k2 : (env.kindOf y == some NameKind.local) = true := by rw [ky, h2]; rfl
  have e4 : (x == y) = false := h4
  unfold swappedStores
  simp only [hb, List.length_cons, List.length_nil, hst, h6, h7, k1, k2, e2, Expr.pos, List.head?_cons, Option.map_some, Option.getD_some, List.filterMap_cons, List.filterMap_nil, Bool.and_self, Bool.and_true, if_true, beq_self_eq_true]
  have e5 : [x, y].eraseDups.length = 2 := by
    simp [List.eraseDups, List.eraseDupsBy, List.eraseDupsBy.loop, e3, e4]
  have e6 : (!(true || 0 + 1 + 1 == 3) || 0 + 1 + 1 != 0 + 1 + 1 || ScopeKind.function != ScopeKind.function) = false := rfl
  have e7 : (0 + 1 + 1 != 0 + 1 + 1 || [x, y].eraseDups.length != 0 + 1 + 1) = false := by
    rw [e5]
    rfl
  rw [e6, e7]
  simp only [Bool.false_eq_true, if_false, List.any_cons, List.any_nil, Bool.or_false] at hst ⊢
  exact if_neg fun z => Bool.noConfusion (hst.symm.trans z)
section
variable {C : Ck} {rec : Q → Bool} (ih : ∀ q, rec q = true → Holds C q) {s : Sc} {X : Cx} {S : Sit} (k : Cok C s X S)
include ih k
theorem comp_asg {i : Nat} {x : Str} {p pos spos : Pos} {elt : PySem.Expr} {gs : List Comprehension} {scope : Scope} {me : E} (h1 : setB C s i x = true) (h2 : swC s scope pos p x = true) (h : ckComp C rec s elt scope gs me = true) :
    PS X (.Assign [.Name x p] (.ListComp elt gs scope pos) spos) (tS S (.asgC i me)) := by
  have hkd : X.env.scope.kind = .function := by
    rw [k.sc]
    exact k.kind
  obtain ⟨a, b, c⟩ := set_of k h1
  have hl : X.env.scope.names.lookup x = some .local := by
    rw [k.sc]
    unfold swC at h2
    simp only [ck_and, decide_eq_true_eq] at h2
    exact h2.1.1
  have hsw : ∀ g, swapsWith (.ListComp elt g scope pos) (some (.Name x p)) spos.line X.env = pure true := fun g => by rw [sw_lc hkd k.sc, h2]
  have cv : ∀ D σ H, tS S (.asgC i me) D σ H → tS S (.asg (.nm i) me) D σ H := fun D σ H ⟨F, Fb, env, fr, q⟩ => ⟨F, Fb, env, fr, by
    rw [evS] at q
    rw [evS]
    exact q⟩
  unfold ckComp at h
  split at h
  · rename_i tg iter ifs me t mi mifs own
    simp only [ck_and] at h
    obtain ⟨⟨⟨⟨⟨⟨⟨h1, h2⟩, h3⟩, h4⟩, h5⟩, h6⟩, h7⟩, h8⟩ := h
    have ok : BlkOk X.N X.env.scope scope (Mi.ownP C own) := by
      rw [k.N, k.sc]
      exact blkOk_by h1
    have q := ps_setLc (py := p) (pos := pos) (spos := spos) k.calm (k_nd k) a hl (hsw _) (ih _ h5 X S k) ok (fun s0 H c cl fp => ih _ h6 _ _ (blk_cok ih k ok.kind s0 H c cl fp)) (fun s0 H c cl fp => ih _ h7 _ _ (blk_cok ih k ok.kind s0 H c cl fp))
      (fun s0 H c cl fp => frz_of (ih _ h8 _ _ (blk_cok ih k ok.kind s0 H c cl fp)) (not_lent h4)) (not_set h3)
    rw [ownP_map] at q
    exact PS.imp q fun D σ H z => lc_imp (fun i hi => of_decide_eq_true (List.all_eq_true.mp h2 i hi)) (asg_imp (not_lent rfl) (cv D σ H z))
  · rename_i tg iter tg1 iter1 ifs1 me t mi t1 mi1 mifs1 own own1
    simp only [ck_and] at h
    obtain ⟨⟨⟨⟨⟨⟨⟨⟨⟨⟨⟨⟨h1, h2⟩, h3⟩, h4⟩, h5⟩, h6⟩, h7⟩, h8⟩, h9⟩, h10⟩, h11⟩, h12⟩, h13⟩ := h
    have ok : BlkOk X.N X.env.scope scope (Mi.ownP C own) := by
      rw [k.N, k.sc]
      exact blkOk_by h1
    have q := ps_setLc2 (py := p) (pos := pos) (spos := spos) (vs1 := own1) k.calm (k_nd k) a hl (hsw _) (ih _ h8 X S k) ok (fun i hi => by
      rw [ownP_map]
      exact of_decide_eq_true (List.all_eq_true.mp h3 i hi)) (fun s0 H c cl fp => ih _ h9 _ _ (blk_cok ih k ok.kind s0 H c cl fp)) (fun s0 H c cl fp => ts_nil (S := S.calm))
      (fun s0 H c cl fp => ih _ h10 _ _ (blk_cok ih k ok.kind s0 H c cl fp)) (fun s0 H c cl fp => ih _ h11 _ _ (blk_cok ih k ok.kind s0 H c cl fp)) (fun s0 H c cl fp => ih _ h12 _ _ (blk_cok ih k ok.kind s0 H c cl fp))
      (fun s0 H c cl fp => frz_of (ih _ h13 _ _ (blk_cok ih k ok.kind s0 H c cl fp)) (not_lent h7)) (not_set h5) (fun env x => not_set h6 x)
    rw [ownP_map] at q
    exact PS.imp q fun D σ H z => lc2_imp (fun i hi => of_decide_eq_true (List.all_eq_true.mp h2 i hi)) (fun i hi => of_decide_eq_true (List.all_eq_true.mp h4 i hi)) (asg_imp (not_lent rfl) (cv D σ H z))
  · cases h
theorem s_ok {st : PySem.Stmt} {m : Mi.S} (h : ckS C rec s st m = true) : PS X st (tS S m) := by
  have hkd : X.env.scope.kind = .function := by
    rw [k.sc]
    exact k.kind
  unfold ckS at h
  split at h
  · exact s_wf (ih _ h X S k)
  · split at h
    · simp only [ck_and] at h
      obtain ⟨⟨⟨h1, h2⟩, h3⟩, h4⟩ := h
      obtain ⟨a, b, c⟩ := set_of k h1
      refine s_asg (k_nd k) a b c (ih _ h3 X S k) (not_lent h2) ?_
      split at h4
      · rw [sw_lc hkd k.sc, show swC _ _ _ _ _ = false by simpa using h4]
      · exact no_sw h4
    · cases h
  · split at h
    · simp only [ck_and] at h
      obtain ⟨⟨h1, h2⟩, h3⟩ := h
      exact comp_asg ih k h1 h2 h3
    · cases h
  · split at h
    · simp only [ck_and, Bool.not_eq_true'] at h
      obtain ⟨⟨⟨⟨h1, h2⟩, h3⟩, h4⟩, h5⟩ := h
      refine s_asgT (ih _ h4 X S k) (not_lent h1) (ih _ h5 X S k) (sole_sw h2) (no_tup h3) rfl
    · cases h
  · split at h
    · simp only [ck_and, Bool.not_eq_true'] at h
      obtain ⟨⟨⟨⟨h1, h2⟩, h3⟩, h4⟩, h5⟩ := h
      obtain ⟨a, b, c⟩ := set_of k h1
      obtain ⟨a', b', c'⟩ := set_of k h2
      have h3' := h3
      unfold parB at h3'
      simp only [ck_and, decide_eq_true_eq] at h3'
      refine s_par k.calm (k_nd k) a a' (fun e => by simp [e] at h4) (by rw [k.sc]; exact h3'.1.1.1.1.1.1) (by rw [k.sc]; exact h3'.1.1.1.1.1.2) (ih _ h5 X S k) (par_ok hkd k.sc h3) rfl
    · cases h
  · split at h
    · simp only [ck_and] at h
      obtain ⟨⟨⟨⟨⟨h1, h2⟩, h3⟩, h4⟩, h5⟩, h6⟩ := h
      obtain ⟨a, b, c, d⟩ := name_of k h1
      refine s_setIt a b c d (ih _ h5 X S k) (ih _ h6 X S k) (not_lent h3) (fun v => sub_asg h2 v) (sole_sw h4) rfl rfl
    · cases h
  · split at h
    · simp only [ck_and, decide_eq_true_eq] at h
      obtain ⟨⟨⟨⟨⟨h1, h2⟩, h3⟩, h4⟩, h5⟩, h6⟩ := h
      subst h1
      obtain ⟨a, b, c, d⟩ := name_of k h2
      refine s_app a b c d (ih _ h6 X S k) (not_lent h3) h4 rfl ?_ h5 rfl
      rw [star_cons h4]
      rfl
    · cases h
  · split at h
    · simp only [ck_and, decide_eq_true_eq] at h
      obtain ⟨⟨⟨⟨⟨⟨⟨h1, h2⟩, h3⟩, h4⟩, h5⟩, h6⟩, h7⟩, h8⟩ := h
      subst h1
      obtain ⟨a, b, c, d⟩ := name_of k h2
      refine s_ins a b c d (ih _ h7 X S k) (ih _ h8 X S k) (not_lent h3) h4 h5 rfl ?_ h6 rfl
      rw [star_cons h4, star_cons h5]
      rfl
    · cases h
  · split at h
    · simp only [ck_and, decide_eq_true_eq] at h
      obtain ⟨⟨⟨⟨h1, h2⟩, h3⟩, h4⟩, h5⟩ := h
      subst h1
      obtain ⟨a, b, c, d⟩ := name_of k h2
      refine s_ext a b c d (ih _ h5 X S k) h3 rfl ?_ h4 rfl
      rw [star_cons h3]
      rfl
    · cases h
  · split at h
    · rw [ck_and] at h
      exact s_expr (ih _ h.2 X S k) (no_sw h.1)
    · cases h
  · split at h
    · exact s_pass
    · exact s_doc
    · cases h
  · split at h
    · exact s_brk
    · cases h
  · split at h
    · exact s_cnt
    · cases h
  · split at h
    · obtain ⟨a, b, c, d⟩ := name_of k h
      exact s_retv a b c d
    · cases h
  · split at h
    · rw [ck_and] at h
      exact s_ret (ih _ h.2 X S k) (not_lent h.1)
    · cases h
  · split at h
    · exact s_retN
    · cases h
  · split at h
    · simp only [ck_and] at h
      exact s_if (ih _ h.1.1 X S k) (ih _ h.1.2 X S k) (ih _ h.2 X S k)
    · cases h
  · split at h
    · simp only [ck_and] at h
      exact s_while k.ow (ih _ h.1 X S k) (ih _ h.2 X S k)
    · cases h
  · split at h
    · simp only [ck_and] at h
      obtain ⟨⟨⟨h1, h2⟩, h3⟩, h4⟩ := h
      exact s_for k.ow k.calm (ih _ h2 X S k) (ih _ h3 X S k) (ih _ h4 X S k) (not_set h1)
    · cases h
  · cases h
theorem ss_ok {es : List PySem.Stmt} {ms : List Mi.S} (h : ckSs rec s es ms = true) : PSs X es (tSs S ms) := by
  unfold ckSs at h
  split at h
  · exact ss_nil
  · rw [ck_and] at h
    exact ss_cons (ih _ h.1 X S k) (ih _ h.2 X S k)
  · cases h
end
/-- never reached: any text will do -/
def nevE : E → Bool
  | .never => true
  | _ => false
def nevS : Mi.S → Bool
  | .never => true
  | _ => false
theorem nev_e {X : Cx} {S : Sit} {e : PySem.Expr} {m : E} (h : nevE m = true) : PE X e (tE S m) := by
  cases m <;> first | (cases h; done) | exact ⟨fun pins s σ H Q I ⟨F, Fb, env, fr, q⟩ => by rw [evE] at q; exact q.elim⟩
theorem nev_s {X : Cx} {S : Sit} {e : PySem.Stmt} {m : Mi.S} (h : nevS m = true) : PS X e (tS S m) := by
  cases m <;> first | (cases h; done) | exact ⟨fun pins s σ H D I ⟨F, Fb, env, fr, q⟩ => by rw [evS] at q; exact q.elim⟩
def ck (C : Ck) : Nat → Q → Bool
  | 0, _ => false
  | n + 1, q => match q with
    | .e s e m => nevE m || ckE C (ck C n) s e m
    | .t s e m => ckT C (ck C n) s e m
    | .w s e m => ckW (ck C n) s e m
    | .g s e m => ckG C (ck C n) s e m
    | .r s e m => ckG C (ck C n) s e m
    | .ls s e m => ckLs (ck C n) s e m
    | .fs s e m => ckFs (ck C n) s e m
    | .as s e m => ckAs (ck C n) s e m
    | .o s e m => ckO (ck C n) s e m
    | .i s tg e m => ckI C (ck C n) s tg e m
    | .tg s e t => ckTg C (ck C n) s e t
    | .tgs s e t => ckTgs (ck C n) s e t
    | .ts s e m => ckTs (ck C n) s e m
    | .s s e m => nevS m || ckS C (ck C n) s e m
    | .ss s e m => ckSs (ck C n) s e m
theorem ck_ok (C : Ck) : ∀ (n : Nat) (q : Q), ck C n q = true → Holds C q
  | 0, _, h => by cases h
  | n + 1, q, h => by
    have ih := ck_ok C n
    cases q with
    | e s e m => exact fun X S k => (Bool.or_eq_true _ _ ▸ h : nevE m = true ∨ ckE C (ck C n) s e m = true).elim nev_e fun h => e_ok ih k h
    | t s e m => exact fun X S k => t_ok ih k h
    | w s e m => exact fun X S k => w_ok ih k h
    | g s e m => exact fun X S k => g_ok ih k h
    | r s e m => exact fun X S k => r_ok ih k h
    | ls s e m => exact fun X S k => ls_ok ih k h
    | fs s e m => exact fun X S k => fs_ok ih k h
    | as s e m => exact fun X S k => as_ok ih k h
    | o s e m => exact fun X S k => o_ok ih k h
    | i s tg e m => exact fun X S k => i_ok ih k h
    | tg s e t => exact fun X S k => tg_ok ih k h
    | tgs s e t => exact fun X S k => tgs_ok ih k h
    | ts s e m => exact fun X S k => ts_ok ih k h
    | s s e m => exact fun X S k => (Bool.or_eq_true _ _ ▸ h : nevS m = true ∨ ckS C (ck C n) s e m = true).elim nev_s fun h => s_ok ih k h
    | ss s e m => exact fun X S k => ss_ok ih k h
/-! #### generator defs -/
def ckGs (C : Ck) : Nat → Sc → List PySem.Stmt → List G → Bool
  | 0, _, _, _ => false
  | n + 1, s, es, gs => match es, gs with
    | [], [] => true
    | st :: sts, g :: gs => (match g, st with
        | .pl m, st => ck C n (.s s st m)
        | .yld m, .Expr (.Yield (some e) _) _ => notLent m && ck C n (.e s e m)
        | .fr t mi mb, .For tg it b [] _ => notSet it && ck C n (.i s tg it mi) && ck C n (.tg s tg t) && ckGs C n s b mb
        | _, _ => false) && ckGs C n s sts gs
    | _, _ => false
theorem ckGs_ok (C : Ck) : ∀ (n : Nat) (s : Sc) (es : List PySem.Stmt) (gs : List G), ckGs C n s es gs = true → ∀ X S, Cok C s X S.calm → X.env.scope.isCoroutine = false → interactive X.env = false → GSs X es (tGms S gs)
  | 0, _, _, _, h => by cases h
  | n + 1, s, es, gs, h => fun X S k hco hin => by
    unfold ckGs at h
    split at h
    · exact gms_nil
    · rw [ck_and] at h
      obtain ⟨h, hr⟩ := h
      refine gms_cons ?_ (ckGs_ok C n s _ _ hr X S k hco hin)
      split at h
      · exact gm_pl (ck_ok C n _ h X S.calm k)
      · rw [ck_and] at h
        exact gm_yld (ck_ok C n _ h.2 X S.calm k) (not_lent h.1) hco hin
      · simp only [ck_and] at h
        obtain ⟨⟨⟨h1, h2⟩, h3⟩, h4⟩ := h
        exact gm_for k.ow k.calm (ck_ok C n _ h2 X S.calm k) (ck_ok C n _ h3 X S.calm k) (ckGs_ok C n s _ _ h4 X S k hco hin) (not_set h1)
      · cases h
    · cases h
end Mi
namespace Mi
open PySem L2
/-! ### a text's defs, in their order -/
structure Dn where
  nm : Str
  qual : Str
  st : PySem.Stmt
  N : List Str
  ps : List Str
  lv : Nat
  b : Body
def isG (d : Dn) : Bool := d.b.gen.isSome
def gl0 : Glob := ⟨fun _ _ => .bad, fun _ _ => .bad, fun _ _ => none, fun _ _ => .bad⟩
/-- the first n bodies -/
def globN (bs : List Body) : Nat → Glob
  | 0 => gl0
  | n + 1 => ⟨fun i as => if i = n then runB (globN bs n) (bs.getD n default) as else (globN bs n).call i as, fun i as => if i = n then runG (globN bs n) (bs.getD n default) as else (globN bs n).gen i as, (globN bs n).meth, (globN bs n).make⟩
theorem call_at {bs : List Body} : ∀ {n i : Nat}, i < n → (globN bs n).call i = runB (globN bs i) (bs.getD i default)
  | n + 1, i, h => by
    funext as
    show (if i = n then _ else _) = _
    by_cases e : i = n
    · rw [if_pos e, e]
    · rw [if_neg e, call_at (show i < n by omega)]
theorem gen_at {bs : List Body} : ∀ {n i : Nat}, i < n → (globN bs n).gen i = runG (globN bs i) (bs.getD i default)
  | n + 1, i, h => by
    funext as
    show (if i = n then _ else _) = _
    by_cases e : i = n
    · rw [if_pos e, e]
    · rw [if_neg e, gen_at (show i < n by omega)]
def fdOf (d : Dn) (i : Nat) : Fd := ⟨d.nm, i, d.b.fresh, d.ps.length⟩
def fdsN (ok : Dn → Bool) : List Dn → Nat → List Fd
  | [], _ => []
  | d :: ds, i => if ok d then fdOf d i :: fdsN ok ds (i + 1) else fdsN ok ds (i + 1)
def scC (gn : Bool) (N ps : List Str) (sc : Scope) : Bool :=
  (match sc.kind with | .function => true | _ => false) && !sc.isCoroutine && sc.isGenerator == gn && decide N.Nodup && decide (N.take ps.length = ps) &&
    ps.all (fun x => decide (sc.names.lookup x = some .local) || decide (sc.names.lookup x = some .cell)) && sc.names.all fun y => match y.2 with | .free => false | _ => true
theorem scC_fn {N ps : List Str} {sc : Scope} (h : scC false N ps sc = true) : FnScope N ps sc := by
  unfold scC at h
  simp only [ck_and, Bool.not_eq_true', decide_eq_true_eq, List.all_eq_true, Bool.or_eq_true, beq_iff_eq] at h
  obtain ⟨⟨⟨⟨⟨⟨h1, h2⟩, h3⟩, h4⟩, h5⟩, h6⟩, h7⟩ := h
  refine ⟨?_, h2, h3, h4, h5, h6, fun y hy e => ?_⟩
  · split at h1
    · assumption
    · cases h1
  · have q := h7 y hy
    rw [e] at q
    cases q
theorem scC_gn {N ps : List Str} {sc : Scope} (h : scC true N ps sc = true) : GScope N ps sc := by
  unfold scC at h
  simp only [ck_and, Bool.not_eq_true', decide_eq_true_eq, List.all_eq_true, Bool.or_eq_true, beq_iff_eq] at h
  obtain ⟨⟨⟨⟨⟨⟨h1, h2⟩, h3⟩, h4⟩, h5⟩, h6⟩, h7⟩ := h
  refine ⟨?_, h2, h3, h4, h5, h6, fun y hy e => ?_⟩
  · split at h1
    · assumption
    · cases h1
  · have q := h7 y hy
    rw [e] at q
    cases q
/-- the i-th def is what its mini text says -/
def ckOf (ds : List Dn) (blts : List Str) (cst : List (Str × D)) (i : Nat) (d : Dn) : Ck :=
  ⟨d.N, fdsN (fun e => !isG e && decide (e.lv + 1 ≤ d.lv)) (ds.take i) 0, fdsN (fun e => isG e && decide (e.lv + 4 ≤ d.lv)) (ds.take i) 0, fdsN (fun e => !isG e && !e.b.fresh && decide (e.ps.length = 1) && decide (e.lv + 3 ≤ d.lv)) (ds.take i) 0, blts, cst⟩
def dnC (ds : List Dn) (blts : List Str) (cst : List (Str × D)) (fuel i : Nat) : Bool := match ds[i]? with
  | some d => scC (isG d) d.N d.ps (defScope d.st) && d.b.n == d.N.length && (match d.b.gen with
      | none => ck (ckOf ds blts cst i d) fuel (.ss ⟨defScope d.st, defScope d.st⟩ (defBody d.st) d.b.code)
      | some g => ckGs (ckOf ds blts cst i d) fuel ⟨defScope d.st, defScope d.st⟩ (defBody d.st) g)
  | none => false
def dnsC (ds : List Dn) (blts : List Str) (cst : List (Str × D)) (fuel : Nat) : Nat → Bool
  | 0 => true
  | n + 1 => dnsC ds blts cst fuel n && dnC ds blts cst fuel n
theorem dnsC_at {ds : List Dn} {blts : List Str} {cst : List (Str × D)} {fuel : Nat} : ∀ {n : Nat}, dnsC ds blts cst fuel n = true → ∀ i, i < n → dnC ds blts cst fuel i = true
  | n + 1, h, i, hi => by
    rw [dnsC, ck_and] at h
    by_cases e : i = n
    · rw [e]
      exact h.2
    · exact dnsC_at h.1 i (by omega)
structure DnOk (K : PySem.W.Frag) (mg : Str → Option Value) (d : Dn) : Prop where
  ex : ∃ f fd, Fun K d.nm d.qual d.st f fd ∧ mg d.nm = some (.ref f) ∧ ∀ us : List Value, us.length = d.ps.length → bindArgs fd ⟨us, []⟩ = pure (d.ps.zip us)
/-- what the head tells -/
structure Told (K : PySem.W.Frag) (mg : Str → Option Value) (ds : List Dn) (blts : List Str) (cst : List (Str × D)) : Prop where
  dn : ∀ d ∈ ds, DnOk K mg d
  bl : ∀ x ∈ blts, mg x = none
  cs : ∀ p ∈ cst, ∃ v u, mg p.1 = some u ∧ RelV v u ∧ isCst p.2 v
theorem fdsN_mem {ok : Dn → Bool} : ∀ {ds : List Dn} {i : Nat} {f : Fd}, f ∈ fdsN ok ds i → ∃ j d, ds[j]? = some d ∧ ok d = true ∧ f = fdOf d (i + j)
  | [], _, _, h => by simp [fdsN] at h
  | d :: ds, i, f, h => by
    have tl : f ∈ fdsN ok ds (i + 1) → ∃ j d', (d :: ds)[j]? = some d' ∧ ok d' = true ∧ f = fdOf d' (i + j) := fun h => by
      obtain ⟨j, d', e1, e2, e3⟩ := fdsN_mem h
      exact ⟨j + 1, d', e1, e2, by rw [e3, show i + 1 + j = i + (j + 1) by omega]⟩
    rw [fdsN] at h
    split at h
    · rename_i hk
      rcases List.mem_cons.mp h with e | h
      · exact ⟨0, d, rfl, hk, e⟩
      · exact tl h
    · exact tl h
section
variable {P : Program} {w : World} {K : PySem.W.Frag} {mg : Str → Option Value} {ds : List Dn} {blts : List Str} {cst : List (Str × D)} {Z : Wd} {fuel : Nat}
theorem def_ok (T : Told K mg ds blts cst) (hZ : Z.K = K) (hC : dnsC ds blts cst fuel ds.length = true) : ∀ (i : Nat) (d : Dn), ds[i]? = some d →
    ∃ f fd, (isG d = false → ∀ base : Heap, FnOk P w K mg base (L2.CX P w) (d.lv + 1) f fd d.ps (spF Z d.b.fresh d.ps.length (runB (globN (ds.map (·.b)) i) d.b))) ∧ (isG d = true → ∀ base : Heap, GFn P w K mg base (d.lv + 1) f fd d.ps (spGF Z d.ps.length (runG (globN (ds.map (·.b)) i) d.b))) ∧
      mg d.nm = some (.ref f) ∧ PySem.W.keepIn K (.ref f) = true ∧ ∀ us : List Value, us.length = d.ps.length → bindArgs fd ⟨us, []⟩ = pure (d.ps.zip us) := by
  intro i
  induction i using Nat.strongRecOn with
  | _ i ih =>
    intro d hd
    have hi : i < ds.length := (List.getElem?_eq_some_iff.mp hd).1
    have c := dnsC_at hC i hi
    unfold dnC at c
    rw [hd] at c
    simp only [ck_and, beq_iff_eq] at c
    obtain ⟨⟨c1, c2⟩, c3⟩ := c
    obtain ⟨f, fd, F, hm, hb⟩ := (T.dn d (List.mem_of_getElem? hd)).ex
    have cok : ∀ (base : Heap) (W : WX) (X : Cx), BodyCx P w K mg base d.N (defScope d.st) d.lv W X → d.N.Nodup → (defScope d.st).kind = .function → Cok (ckOf ds blts cst i d) ⟨defScope d.st, defScope d.st⟩ X ⟨Z, globN (ds.map (·.b)) i, W⟩ := fun base W X B hnd hkd => by
      have hu := B.room.un
      have get : ∀ {ok : Dn → Bool} {g : Fd}, g ∈ fdsN ok (ds.take i) 0 → ∃ j d', j < i ∧ ds[j]? = some d' ∧ ok d' = true ∧ g = fdOf d' j := fun {ok g} hg => by
        obtain ⟨j, d', e1, e3, e2⟩ := fdsN_mem hg
        rw [Nat.zero_add] at e2
        rw [List.getElem?_take] at e1
        split at e1
        · exact ⟨j, d', by assumption, e1, e3, e2⟩
        · cases e1
      refine ⟨B.N, hnd, B.sc, hkd, fun _ _ => by rw [B.fn], by rw [B.K]; exact hZ.symm, B.calm, B.tk, by omega, B.ow, fun g hg => ?_, fun g hg => ?_, fun g hg => ?_, fun x hx => by rw [B.mg]; exact T.bl x hx, fun p hp => by rw [B.mg]; exact T.cs p hp⟩
      · obtain ⟨j, d', hj, e1, e3, rfl⟩ := get hg
        simp only [ck_and, Bool.not_eq_true', decide_eq_true_eq] at e3
        obtain ⟨f', fd', G, _, hm', hk', hb'⟩ := ih j hj d' e1
        have eb : (globN (ds.map (·.b)) i).call j = runB (globN (ds.map (·.b)) j) d'.b := by
          rw [call_at hj, List.getD_eq_getElem?_getD, List.getElem?_map, e1]
          rfl
        refine ⟨d'.lv + 1, f', fd', d'.ps, ?_, B.room.mono e3.2, by rw [B.mg]; exact hm', by rw [B.K]; exact hk', by rw [B.K]; exact .all hb'⟩
        show FnOk X.prog X.w X.K X.mg X.base (L2.CX X.prog X.w) (d'.lv + 1) f' fd' d'.ps (spF Z d'.b.fresh d'.ps.length ((globN (ds.map (·.b)) i).call j))
        rw [eb, B.prog, B.w, B.K, B.mg, B.base]
        exact G e3.1 base
      · obtain ⟨j, d', hj, e1, e3, rfl⟩ := get hg
        simp only [ck_and, decide_eq_true_eq] at e3
        obtain ⟨f', fd', _, G, hm', hk', hb'⟩ := ih j hj d' e1
        have eb : (globN (ds.map (·.b)) i).gen j = runG (globN (ds.map (·.b)) j) d'.b := by
          rw [gen_at hj, List.getD_eq_getElem?_getD, List.getElem?_map, e1]
          rfl
        refine ⟨d'.lv + 1, f', fd', d'.ps, ?_, B.room.mono (by have := e3.2; omega), by rw [B.mg]; exact hm', by rw [B.K]; exact hk', by rw [B.K]; exact .all hb'⟩
        show GFn X.prog X.w X.K X.mg X.base (d'.lv + 1) f' fd' d'.ps (spGF Z d'.ps.length ((globN (ds.map (·.b)) i).gen j))
        rw [eb, B.prog, B.w, B.K, B.mg, B.base]
        exact G e3.1 base
      · obtain ⟨j, d', hj, e1, e3, rfl⟩ := get hg
        simp only [ck_and, Bool.not_eq_true', decide_eq_true_eq] at e3
        obtain ⟨⟨⟨e4, e5⟩, e6⟩, e7⟩ := e3
        obtain ⟨f', fd', G, _, hm', hk', hb'⟩ := ih j hj d' e1
        have eb : (globN (ds.map (·.b)) i).call j = runB (globN (ds.map (·.b)) j) d'.b := by
          rw [call_at hj, List.getD_eq_getElem?_getD, List.getElem?_map, e1]
          rfl
        refine ⟨d'.lv + 1, f', fd', d'.ps, ?_, B.room.mono (by omega), by rw [B.mg]; exact hm', by rw [B.K]; exact hk', by rw [B.K]; exact .all hb'⟩
        show FnOk X.prog X.w X.K X.mg X.base (L2.CX X.prog X.w) (d'.lv + 1) f' fd' d'.ps (spF Z false 1 ((globN (ds.map (·.b)) i).call j))
        rw [eb, B.prog, B.w, B.K, B.mg, B.base]
        have q := G e4 base
        rw [e5, e6] at q
        exact q
    refine ⟨f, fd, fun hg base => ?_, fun hg base => ?_, hm, F.kp, hb⟩
    · rw [hg] at c1
      have sc := scC_fn c1
      have e : d.b.gen = none := by
        unfold isG at hg
        cases q : d.b.gen with
        | none => rfl
        | some g => rw [q] at hg; cases hg
      rw [e] at c3
      exact fn_ok F sc c2 fun W X B => ck_ok _ _ _ c3 X _ (cok base W X B sc.nd sc.kind)
    · rw [hg] at c1
      have sc := scC_gn c1
      obtain ⟨g, e⟩ : ∃ g, d.b.gen = some g := by
        unfold isG at hg
        cases q : d.b.gen with
        | none => rw [q] at hg; cases hg
        | some g => exact ⟨g, rfl⟩
      rw [e] at c3
      exact gen_ok F sc c2 e fun X B => ckGs_ok _ _ _ _ _ c3 X _ (cok base _ X B.cx sc.nd sc.kind) (by rw [B.cx.sc]; exact sc.co) B.q
/-- the law's promise -/
def spLaw (K : PySem.W.Frag) (n : Nat) : Sp := fun vs H Q _ => ∃ (a : Addr) (ns : List Int), vs = [.ref a] ∧ Only H ∧ SqL K H a (ns.map V.int) ∧ ns.length ≤ n ∧ ∀ H', Q (.bl true) H'
theorem law_ok {n : Nat} (T : Told K mg ds blts cst) (hZ : Z.K = K) (hC : dnsC ds blts cst fuel ds.length = true) {i : Nat} {d : Dn} (hd : ds[i]? = some d) (hg : isG d = false) (hp : d.ps = [x])
    (plain : ∀ ns : List Int, ns.length ≤ n → runB (globN (ds.map (·.b)) i) d.b [.frz (.scr ns)] = .ok (.bl true)) :
    ∃ f fd, (∀ base : Heap, FnOk P w K mg base (L2.CX P w) (d.lv + 1) f fd [x] (spLaw K n)) ∧ mg d.nm = some (.ref f) ∧ ∀ u : Value, bindArgs fd ⟨[u], []⟩ = pure [(x, u)] := by
  obtain ⟨f, fd, F, _, hm, _, hb⟩ := def_ok (P := P) (w := w) T hZ hC i d hd
  have F := F hg
  rw [hp] at F hb
  refine ⟨f, fd, fun base => (F base).imp fun vs H Q E h => ?_, hm, fun u => hb [u] rfl⟩
  obtain ⟨a, ns, rfl, hO, hS, hl, k⟩ := h
  refine ⟨rfl, fun b => b = a ∧ H b ≠ none, [.frz (.scr ns)], fun b h => h.2, ⟨.ref a, [], rfl, ?_, rfl⟩, ?_⟩
  · show Rep Z _ H (.scr ns) (.ref a)
    rcases hS with hS | hS
    · have fz : ∃ o, H a = some (.frz o (.lst (ns.map V.int))) := by
        rcases hO a with z | ⟨o, xs, z⟩
        · rcases hS with q | ⟨o, q⟩
          · rw [z] at q
            cases q
          · rw [z] at q
            cases q
        · rcases hS with q | ⟨o', q⟩
          · rw [z] at q
            cases q
          · exact ⟨o', q⟩
      obtain ⟨o, z⟩ := fz
      exact .inl ⟨a, rfl, ⟨o, z⟩, rfl, some_ne z⟩
    · refine .inr ⟨a, rfl, .inr ?_⟩
      rw [hZ]
      exact hS
  · rw [plain ns hl]
    intro v F' H' g p
    have e : v = .bl true := by
      cases hf : d.b.fresh <;> (rw [hf] at p; exact p)
    rw [e]
    exact k H'
end
/-- with no class of its own -/
def wd0 (K : PySem.W.Frag) : Wd := ⟨K, fun _ => Str.empty, fun _ _ => False, fun _ => .none, fun _ => Str.empty⟩
theorem law_ok0 {P : Program} {w : World} {K : PySem.W.Frag} {mg : Str → Option Value} {ds : List Dn} {blts : List Str} {cst : List (Str × D)} {fuel n : Nat} {x : Str} (T : Told K mg ds blts cst) (hC : dnsC ds blts cst fuel ds.length = true) {i : Nat} {d : Dn} (hd : ds[i]? = some d) (hg : isG d = false) (hp : d.ps = [x])
    (plain : ∀ ns : List Int, ns.length ≤ n → runB (globN (ds.map (·.b)) i) d.b [.frz (.scr ns)] = .ok (.bl true)) :
    ∃ f fd, (∀ base : Heap, FnOk P w K mg base (L2.CX P w) (d.lv + 1) f fd [x] (spLaw K n)) ∧ mg d.nm = some (.ref f) ∧ ∀ u : Value, bindArgs fd ⟨[u], []⟩ = pure [(x, u)] := law_ok (Z := wd0 K) T rfl hC hd hg hp plain
/-! ### from the head -/
section
variable {K : PySem.W.Frag} {mg : Str → Option Value} {h : Heap}
theorem dn_mk {d : Dn} {f : Addr} {oc : Value} {od an : Option Addr} {osl : Array (Option Value)} {kV doc pm cdv ct : Value} (X : K.In h) (G : h.Ns mainGlobals mg) (a : PySem.W.nsIn K mainGlobals d.nm = some (some (.ref f)))
    (l : K.lookup f = some ⟨oc, od, .func (PySem.W.fnOf d.nm d.qual (defArgs d.st) (defBody d.st) (defScope d.st) .none kV doc pm an cdv ct), osl⟩) (c : PySem.W.codeIn K cdv d.qual = true) (k : PySem.W.keepIn K (.ref f) = true)
    (b : ∀ (kV doc pm : Value) (an : Option Addr) (cdv ct : Value) (us : List Value), us.length = d.ps.length → bindArgs (PySem.W.fnOf d.nm d.qual (defArgs d.st) (defBody d.st) (defScope d.st) .none kV doc pm an cdv ct) ⟨us, []⟩ = pure (d.ps.zip us)) : DnOk K mg d :=
  ⟨⟨f, _, fun_mk l c k, PySem.W.mg_of X G a, b _ _ _ _ _ _⟩⟩
theorem cst_int {x : Str} {i : Int} {t : Tok} (X : K.In h) (G : h.Ns mainGlobals mg) (a : PySem.W.nsIn K mainGlobals x = some (some (.int i t))) : ∃ v u, mg x = some u ∧ RelV v u ∧ isCst (.int i) v := ⟨.int i, _, PySem.W.mg_of X G a, ⟨t, rfl⟩, rfl⟩
theorem cst_str {x : Str} {i : Str} {t : Tok} (X : K.In h) (G : h.Ns mainGlobals mg) (a : PySem.W.nsIn K mainGlobals x = some (some (.str i t))) : ∃ v u, mg x = some u ∧ RelV v u ∧ isCst (.str i) v := ⟨.str i, _, PySem.W.mg_of X G a, ⟨t, rfl⟩, rfl⟩
end
theorem walk {l : PySem.W.OpenLaw} {n k : Nat} {x : Str} {q : Program} {loose : List Str} {XP : (Str → Option Value) → Heap → Prop} {YP : World → Heap → Prop} {d : DefRec} {K : Params → PySem.W.Frag} (hn : l.most = some n) (hn2 : n ≤ sizeLine) (hdf : d.params.defaults = []) (hr : Room k PySem.callerA)
    (hY : ∀ (w : World) (h : Heap), YP w h → (K w.params).In h)
    (F : ∀ (w : World) (mg : Str → Option Value) (h : Heap), (K w.params).In h → h.Ns mainGlobals mg → ∃ f fd, (∀ base : Heap, FnOk l.prog w (K w.params) mg base (L2.CX l.prog w) k f fd [x] (spLaw (K w.params) n)) ∧ mg d.name = some (.ref f) ∧ ∀ u : Value, bindArgs fd ⟨[u], []⟩ = pure [(x, u)]) :
    PySem.W.WalkO q loose XP YP l.row.toRowW d [] (fun f vs => PySem.call f vs) := by
  refine L2.walk_of (n := n) (k := k) (x := x) (CX := fun w => L2.CX l.prog w) (sp := fun w => spLaw (K w.params) n) hn hn2 hdf hr hY (fun w mg fa h KX G hfa => ?_) (fun _ H a ns hl hO hS => ⟨a, ns, rfl, hO, hS, hl, fun _ => rfl⟩) fun w H s e s' z => ?_
  · obtain ⟨f, fd, F, hm, hb⟩ := F w mg h KX G
    have e := hm.symm.trans hfa
    cases e
    exact ⟨fd, fun s u => .of_eq (hb u), fun base _ _ => F base⟩
  · obtain ⟨_, _, _, _, _, _, _, _, _, _, _, _, z⟩ := z
    exact z
end Mi
namespace Mi
open PySem L2
/-! ### reading a mini text -/
section
variable {Γ : Glob} {env : Env} {α β : Type}
@[simp] theorem gt_zero (a : Slot) (r : Env) : gt (a :: r) 0 = a := id rfl
@[simp] theorem gt_succ (a : Slot) (r : Env) (i : Nat) : gt (a :: r) (i + 1) = gt r i := id rfl
@[simp] theorem val_frz (d : D) : (Slot.frz d).val = .ok d := id rfl
@[simp] theorem val_own (d : D) : (Slot.own d).val = .ok d := id rfl
@[simp] theorem val_bor (d : D) : (Slot.bor d).val = .ok d := id rfl
@[simp] theorem val_un : Slot.un.val = .bad := id rfl
@[simp] theorem b_ok (a : α) (f : α → R β) : (R.ok a).bind f = f a := id rfl
@[simp] theorem b_exc (x : Xn) (f : α → R β) : (R.exc x : R α).bind f = .exc x := id rfl
@[simp] theorem b_bad (f : α → R β) : (R.bad : R α).bind f = .bad := id rfl
@[simp] theorem m_ok (a : α) (f : α → β) : (R.ok a).map f = .ok (f a) := id rfl
@[simp] theorem m_exc (x : Xn) (f : α → β) : (R.exc x : R α).map f = .exc x := id rfl
@[simp] theorem n_ok (a : α) : (R.ok a).nox = .ok a := id rfl
@[simp] theorem o_ok' (a : α) (env : Env) (f : α → Out) : (R.ok a).out env f = f a := id rfl
@[simp] theorem y_ok (a : α) (f : α → Out) : (R.ok a).only f = f a := id rfl
@[simp] theorem go_ok (a : α) (f : α → GO) : (R.ok a).go f = f a := id rfl
@[simp] theorem optR_some (a : α) : optR (some a) = .ok a := id rfl
@[simp] theorem ev_var (i : Nat) : evE Γ (.var i) env = match gt env i with
      | .frz d => .ok d
      | _ => .bad := id rfl
@[simp] theorem ev_peek (i : Nat) : evE Γ (.peek i) env = (gt env i).val := id rfl
@[simp] theorem ev_cst (d : D) : evE Γ (.cst d) env = .ok d := id rfl
@[simp] theorem ev_bin (o : Bop) (a b : E) : evE Γ (.bin o a b) env = (evE Γ a env).bind fun x => (evE Γ b env).bind fun y => binD o x y := id rfl
@[simp] theorem ev_cmp (o : Cop) (a b : E) : evE Γ (.cmp o a b) env = (evE Γ a env).bind fun x => (evE Γ b env).bind fun y => cmpD o x y := id rfl
@[simp] theorem ev_isN (ng : Bool) (a : E) : evE Γ (.isN ng a) env = (evE Γ a env).bind fun x => .ok (.bl (if ng then !isNone x else isNone x)) := id rfl
@[simp] theorem ev_neg (a : E) : evE Γ (.neg a) env = (evE Γ a env).bind fun x => (intOf x).map fun i => .int (-i) := id rfl
@[simp] theorem ev_not (a : E) : evE Γ (.not a) env = (evE Γ a env).bind fun x => (truth x).map fun b => .bl (!b) := id rfl
@[simp] theorem ev_and (a b : E) : evE Γ (.and a b) env = (evE Γ a env).bind fun x => match x with
      | .bl true => evE Γ b env
      | .bl false => .ok (.bl false)
      | _ => .bad := id rfl
@[simp] theorem ev_or (a b : E) : evE Γ (.or a b) env = (evE Γ a env).bind fun x => match x with
      | .bl true => .ok (.bl true)
      | .bl false => evE Γ b env
      | _ => .bad := id rfl
@[simp] theorem ev_ife (c a b : E) : evE Γ (.ife c a b) env = (evE Γ c env).bind fun x => (truth x).bind fun t => if t then evE Γ a env else evE Γ b env := id rfl
@[simp] theorem ev_tup (xs : List E) : evE Γ (.tup xs) env = (evEs Γ xs env).map .tup := id rfl
@[simp] theorem ev_lst (xs : List E) : evE Γ (.lst xs) env = (evEs Γ xs env).map .lst := id rfl
@[simp] theorem ev_idx (a i : E) : evE Γ (.idx a i) env = (evE Γ a env).bind fun x => (evE Γ i env).bind fun y => idxD x y := id rfl
@[simp] theorem ev_sl (a : E) (lo hi : Option E) : evE Γ (.sl a lo hi) env = (evE Γ a env).bind fun x => (evO Γ lo env).bind fun l => (evO Γ hi env).bind fun h => slD x l h := id rfl
@[simp] theorem ev_comp (elt : E) (t : Tgt) (it : E) (ifs : List E) (own : List Nat) : evE Γ (.comp elt t it ifs own) env = (evE Γ it env).bind fun s => (items s).bind fun xs =>
      (compL (fun x => bindT t x (wipe env own)) (evIfs Γ ifs) (evE Γ elt) xs).nox.bind made := id rfl
@[simp] theorem ev_comp2 (elt : E) (t : Tgt) (it : E) (t1 : Tgt) (it1 : E) (ifs1 : List E) (own own1 : List Nat) : evE Γ (.comp2 elt t it t1 it1 ifs1 own own1) env = (evE Γ it env).bind fun s => (items s).bind fun xs =>
      (compL2 (fun x => bindT t x (wipe env own)) (fun e => (evE Γ it1 e).bind fun s1 => (items s1).bind fun ys =>
        compL (fun y => bindT t1 y (wipe e own1)) (evIfs Γ ifs1) (evE Γ elt) ys) xs).nox.bind made := id rfl
@[simp] theorem ev_call (fr : Bool) (f : Nat) (xs : List E) : evE Γ (.call fr f xs) env = (evAs Γ xs env).bind fun as => Γ.call f as := id rfl
@[simp] theorem ev_bi (b : Bi) (xs : List E) : evE Γ (.bi b xs) env = (evEs Γ xs env).bind fun ds => biD b ds := id rfl
@[simp] theorem ev_rng (lo : Option E) (hi : E) : evE Γ (.rng lo hi none) env = (evR Γ lo env).bind fun l => (evE Γ hi env).bind fun h => (intOf h).bind fun j => rngD l j := id rfl
@[simp] theorem ev_enum (a : E) : evE Γ (.enum a) env = (evE Γ a env).bind fun x => enumD x := id rfl
@[simp] theorem ev_zip (a b : E) : evE Γ (.zip a b) env = (evE Γ a env).bind fun x => (evE Γ b env).bind fun y => zipD x y := id rfl
@[simp] theorem ev_tru (a : E) : evE Γ (.tru a) env = (evE Γ a env).bind fun x => (truth x).map .bl := id rfl
@[simp] theorem ev_isi (t : Ty) (a : E) : evE Γ (.isi t a) env = (evE Γ a env).bind fun x => isiD t x := id rfl
@[simp] theorem ev_glist (f : Nat) (xs : List E) : evE Γ (.glist f xs) env = (evAs Γ xs env).bind fun as => (Γ.gen f as).nox.bind made := id rfl
@[simp] theorem evs_nil : evEs Γ [] env = .ok [] := id rfl
@[simp] theorem evs_cons (e : E) (r : List E) : evEs Γ (e :: r) env = (evE Γ e env).bind fun x => (evEs Γ r env).map (x :: ·) := id rfl
@[simp] theorem eva_nil : evAs Γ [] env = .ok [] := id rfl
@[simp] theorem eva_cons (e : E) (r : List E) : evAs Γ (e :: r) env = (evE Γ e env).bind fun x => (evAs Γ r env).map (lend env x e :: ·) := id rfl
@[simp] theorem evo_none : evO Γ none env = .ok none := id rfl
@[simp] theorem evo_some (e : E) : evO Γ (some e) env = (evE Γ e env).bind fun x => (intOf x).map some := id rfl
@[simp] theorem evr_none : evR Γ none env = .ok 0 := id rfl
@[simp] theorem evr_some (e : E) : evR Γ (some e) env = (evE Γ e env).bind intOf := id rfl
@[simp] theorem evi_nil : evIfs Γ [] env = .ok true := id rfl
@[simp] theorem evi_cons (e : E) (r : List E) : evIfs Γ (e :: r) env = (evE Γ e env).bind fun x => (truth x).bind fun b => if b then evIfs Γ r env else .ok false := id rfl
@[simp] theorem es_asg (i : Nat) (e : E) : evS Γ (.asg (.nm i) e) env = (evE Γ e env).out env fun d => .nx (env.set i (if frs e && isMut d then .own d else .frz d)) := id rfl
@[simp] theorem es_asgT (ts : List Tgt) (e : E) : evS Γ (.asg (.tup ts) e) env = (evE Γ e env).out env fun d => (bindT (.tup ts) d env).only .nx := id rfl
@[simp] theorem es_asgC (i : Nat) (e : E) : evS Γ (.asgC i e) env = (evE Γ e env).out env fun d => .nx (env.set i (if frs e && isMut d then .own d else .frz d)) := id rfl
@[simp] theorem es_par (i j : Nat) (a b : E) : evS Γ (.par i j a b) env = (evE Γ a env).out env fun x => (evE Γ b env).out env fun y => .nx ((env.set i (.frz x)).set j (.frz y)) := id rfl
@[simp] theorem es_setIt (i : Nat) (k e : E) : evS Γ (.setIt i k e) env = (evE Γ e env).out env fun d => (ownL (gt env i)).only fun xs => (evE Γ k env).out env fun kd => (intOf kd).only fun k =>
      (setD xs k d).only fun ys => .nx (env.set i (.own (.lst ys))) := id rfl
@[simp] theorem es_app (i : Nat) (e : E) : evS Γ (.app i e) env = (ownL (gt env i)).only fun xs => (evE Γ e env).out env fun d => if decide (xs.length < 1000000) then .nx (env.set i (.own (.lst (xs ++ [d])))) else .bad := id rfl
@[simp] theorem es_ins (i : Nat) (k e : E) : evS Γ (.ins i k e) env = (ownL (gt env i)).only fun xs => (evE Γ k env).out env fun kd => (intOf kd).only fun k => (evE Γ e env).out env fun d => if decide (xs.length < 1000000 ∧ 0 ≤ k ∧ k ≤ 1000000) then .nx (env.set i (.own (.lst (xs.take k.toNat ++ [d] ++ xs.drop k.toNat)))) else .bad := id rfl
@[simp] theorem es_ext (i : Nat) (e : E) : evS Γ (.ext i e) env = (ownL (gt env i)).only fun xs => (evE Γ e env).out env fun d => match d with
      | .lst ys => if lenLine (xs.length + ys.length) then .nx (env.set i (.own (.lst (xs ++ ys)))) else .bad
      | _ => .bad := id rfl
@[simp] theorem ev_srt (f : Nat) (a : E) : evE Γ (.srt f a) env = (evE Γ a env).bind fun d => srtD (fun x => Γ.call f [.frz x]) d := id rfl
@[simp] theorem ev_rev (a : E) : evE Γ (.rev a) env = (evE Γ a env).bind revD := id rfl
@[simp] theorem es_whl (c : E) (body : List S) : evS Γ (.whl c body) env = evWhl (fun e => (evE Γ c e).bind truth) (evSs Γ body) env fuel env := id rfl
@[simp] theorem es_expr (e : E) : evS Γ (.expr e) env = (evE Γ e env).out env fun _ => .nx env := id rfl
@[simp] theorem es_ret (e : E) : evS Γ (.ret e) env = (evE Γ e env).out env fun d => .ret d (frs e) := id rfl
@[simp] theorem es_retv (i : Nat) : evS Γ (.retv i) env = match gt env i with
      | .own d => .ret d true
      | .frz d => .ret d false
      | _ => .bad := id rfl
@[simp] theorem es_retN : evS Γ .retN env = .ret .non false := id rfl
@[simp] theorem es_ife (c : E) (a b : List S) : evS Γ (.ife c a b) env = ((evE Γ c env).bind truth).out env fun t => if t then evSs Γ a env else evSs Γ b env := id rfl
@[simp] theorem es_fr (t : Tgt) (it : E) (body : List S) : evS Γ (.fr t it body) env = ((evE Γ it env).bind items).out env fun xs =>
      (evFor (evSs Γ body) (bindT t) env xs (onAll lock (pks it) env)).onEnv (unlock env (pks it)) := id rfl
@[simp] theorem es_brk : evS Γ .brk env = .bk env := id rfl
@[simp] theorem es_cnt : evS Γ .cnt env = .ct env := id rfl
@[simp] theorem es_pass : evS Γ .pass env = .nx env := id rfl
@[simp] theorem es_wf (is : List Nat) (s : S) : evS Γ (.wf is s) env = evS Γ s (onAll freeze is env) := id rfl
@[simp] theorem ess_nil : evSs Γ [] env = .nx env := id rfl
@[simp] theorem ess_cons (s : S) (r : List S) : evSs Γ (s :: r) env = match evS Γ s env with
    | .nx e => evSs Γ r e
    | o => o := id rfl
@[simp] theorem onAll_nil (f : Slot → Slot) (env : Env) : onAll f [] env = env := id rfl
@[simp] theorem onAll_cons (f : Slot → Slot) (i : Nat) (r : List Nat) (env : Env) : onAll f (i :: r) env = onAll f r (env.set i (f (gt env i))) := id rfl
@[simp] theorem unlock_nil (e0 env : Env) : unlock e0 [] env = env := id rfl
@[simp] theorem unlock_cons (e0 : Env) (i : Nat) (r : List Nat) (env : Env) : unlock e0 (i :: r) env = unlock e0 r (env.set i (un1 (gt e0 i) (gt env i))) := id rfl
@[simp] theorem on_nx (f : Env → Env) (e : Env) : (Out.nx e).onEnv f = .nx (f e) := id rfl
@[simp] theorem on_ret (f : Env → Env) (d : D) (o : Bool) : (Out.ret d o).onEnv f = .ret d o := id rfl
@[simp] theorem mask_un (r : Env) (s : Slot) (r' : Env) : mask (.un :: r) (s :: r') = .un :: mask r r' := id rfl
@[simp] theorem mask_own (d : D) (r : Env) (s : Slot) (r' : Env) : mask (.own d :: r) (s :: r') = s :: mask r r' := id rfl
@[simp] theorem mask_frz (d : D) (r : Env) (s : Slot) (r' : Env) : mask (.frz d :: r) (s :: r') = s :: mask r r' := id rfl
@[simp] theorem mask_bor (d : D) (r : Env) (s : Slot) (r' : Env) : mask (.bor d :: r) (s :: r') = s :: mask r r' := id rfl
@[simp] theorem mask_nil : mask [] [] = [] := id rfl
@[simp] theorem ef_nil (body : Env → Out) (bd : D → Env → R Env) (e0 env : Env) : evFor body bd e0 [] env = .nx env := id rfl
theorem ef_cons (body : Env → Out) (bd : D → Env → R Env) (e0 : Env) (x : D) (xs : List D) (env : Env) : evFor body bd e0 (x :: xs) env = (bd x env).only fun e1 => match body e1 with
      | .nx e2 => evFor body bd e0 xs (mask e0 e2)
      | .ct e2 => evFor body bd e0 xs (mask e0 e2)
      | .bk e2 => .nx (mask e0 e2)
      | o => o := id rfl
@[simp] theorem bt_nm (i : Nat) (d : D) (env : Env) : bindT (.nm i) d env = .ok (env.set i (.frz d)) := id rfl
@[simp] theorem bt_tup (ts : List Tgt) (xs : List D) (env : Env) : bindT (.tup ts) (.tup xs) env = bindTs ts xs env := id rfl
@[simp] theorem bts_nil (env : Env) : bindTs [] [] env = .ok env := id rfl
@[simp] theorem bts_cons (t : Tgt) (ts : List Tgt) (x : D) (xs : List D) (env : Env) : bindTs (t :: ts) (x :: xs) env = (bindT t x env).bind (bindTs ts xs) := id rfl
@[simp] theorem ownL_own (xs : List D) : ownL (.own (.lst xs)) = .ok xs := id rfl
@[simp] theorem lock_frz (d : D) : lock (.frz d) = .frz d := id rfl
@[simp] theorem lock_own (d : D) : lock (.own d) = .bor d := id rfl
@[simp] theorem lock_bor (d : D) : lock (.bor d) = .bor d := id rfl
@[simp] theorem freeze_frz (d : D) : freeze (.frz d) = .frz d := id rfl
@[simp] theorem freeze_own (d : D) : freeze (.own d) = .frz d := id rfl
@[simp] theorem un1_f (d : D) (s : Slot) : un1 (.frz d) s = s := by cases s <;> rfl
@[simp] theorem un1_b (d : D) (s : Slot) : un1 (.bor d) s = s := by cases s <;> rfl
@[simp] theorem un1_ob (d e : D) : un1 (.own d) (.bor e) = .own e := id rfl
@[simp] theorem mut_int (i : Int) : isMut (.int i) = false := id rfl
@[simp] theorem mut_bl (i : Bool) : isMut (.bl i) = false := id rfl
@[simp] theorem mut_tup (i : List D) : isMut (.tup i) = false := id rfl
@[simp] theorem mut_non : isMut .non = false := id rfl
@[simp] theorem mut_lst (i : List D) : isMut (.lst i) = true := id rfl
@[simp] theorem pks_peek (i : Nat) : pks (.peek i) = [i] := id rfl
@[simp] theorem items_lst (xs : List D) : items (.lst xs) = .ok xs := id rfl
@[simp] theorem items_tup (xs : List D) : items (.tup xs) = .ok xs := id rfl
@[simp] theorem items_itr (xs : List D) : items (.itr xs) = .ok xs := id rfl
@[simp] theorem truth_bl (b : Bool) : truth (.bl b) = .ok b := id rfl
end
/-! ### the draws that every law makes -/
theorem atI_nat {α : Type} {l : List α} {k : Nat} : L2.atI l (k : Int) = l[k]? := by
  unfold L2.atI L2.ixN
  by_cases h : k < l.length
  · simp [h]
  · simp [h]
def cellB : Body := ⟨2, false, [.ife (.cmp .lt (.peek 1) (.bi .len [.peek 0])) [.ret (.idx (.peek 0) (.peek 1))] [], .ret (.bin .add (.bin .mul (.cst (.int 7919)) (.peek 1)) (.cst (.int 104729)))], none⟩
def cellN (ns : List Int) (k : Nat) : Int := match ns[k]? with
  | some v => v
  | none => 7919 * (k : Int) + 104729
theorem cell_eq (Γ : Glob) (ns : List Int) (k : Nat) : runB Γ cellB [.frz (.scr ns), .frz (.int k)] = .ok (.int (cellN ns k)) := by
  unfold cellN
  by_cases h : k < ns.length
  · have h' : (k : Int) < ns.length := by omega
    have e : L2.atI ns (k : Int) = some ns[k] := by
      rw [atI_nat, List.getElem?_eq_getElem h]
    simp [runB, cellB, biD, lenD, cmpD, ltD, idxD, h', h, e]
  · have h' : ¬ (k : Int) < ns.length := by omega
    have h2 : ns[k]? = none := List.getElem?_eq_none (by omega)
    simp [runB, cellB, biD, lenD, cmpD, ltD, h', h2, binD, mulD, addD, fitMul, Mi.frs]
def drawsB : Body := ⟨6, true, [.asg (.nm 2) (.cst (.int 0)), .ife (.cmp .ge (.peek 0) (.bin .pow (.cst (.int 10)) (.cst (.int 18)))) [.asg (.nm 2) (.bin .sub (.peek 0) (.bin .pow (.cst (.int 10)) (.cst (.int 18))))] [],
  .asg (.nm 3) (.bin .mod (.bin .mul (.bi .int [.peek 0]) (.cst (.int 48271))) (.cst (.int 2147483647))), .asg (.nm 4) (.lst []),
  .fr (.nm 5) (.peek 1) [.asg (.nm 3) (.bin .mod (.bin .add (.bin .mul (.peek 3) (.cst (.int 16807))) (.cst (.int 10007))) (.cst (.int 2147483647))), .ife (.cmp .gt (.peek 2) (.cst (.int 0))) [.app 4 (.bin .mod (.peek 2) (.peek 5)), .asg (.nm 2) (.bin .fdiv (.peek 2) (.peek 5))] [.app 4 (.bin .mod (.bin .fdiv (.peek 3) (.cst (.int 64))) (.peek 5))]],
  .retv 4], none⟩
def drawsL : Int → Int → List Int → List Int
  | _, _, [] => []
  | rest, state, l :: ls => if 0 < rest then rest % l :: drawsL (rest / l) ((state * 16807 + 10007) % 2147483647) ls else ((state * 16807 + 10007) % 2147483647) / 64 % l :: drawsL rest ((state * 16807 + 10007) % 2147483647) ls
def drawsN (c : Int) (ls : List Int) : List Int := drawsL (if 1000000000000000000 ≤ c then c - 1000000000000000000 else 0) (c * 48271 % 2147483647) ls
theorem drawsL_len : ∀ (ls : List Int) (r s : Int), (drawsL r s ls).length = ls.length
  | [], _, _ => rfl
  | l :: ls, r, s => by
    rw [drawsL]
    split <;> simp [drawsL_len ls]
theorem drawsN_len (c : Int) (ls : List Int) : (drawsN c ls).length = ls.length := drawsL_len ls _ _
theorem drawsL_in : ∀ (ls : List Int) (r s : Int), (∀ l ∈ ls, 0 < l) → ∀ (i : Nat) (l v : Int), ls[i]? = some l → (drawsL r s ls)[i]? = some v → 0 ≤ v ∧ v < l
  | [], _, _, _, i, l, v, h, _ => by simp at h
  | x :: ls, r, s, hp, i, l, v, h, g => by
    have hx := hp x List.mem_cons_self
    have ih := fun r s i l v => drawsL_in ls r s (fun l hl => hp l (List.mem_cons_of_mem _ hl)) i l v
    rw [drawsL] at g
    cases i with
    | zero =>
      simp at h
      subst h
      split at g
      · simp at g
        subst g
        exact ⟨Int.emod_nonneg _ (by omega), Int.emod_lt_of_pos _ hx⟩
      · simp at g
        subst g
        exact ⟨Int.emod_nonneg _ (by omega), Int.emod_lt_of_pos _ hx⟩
    | succ i =>
      split at g
      · exact ih _ _ i l v (by simpa using h) (by simpa using g)
      · exact ih _ _ i l v (by simpa using h) (by simpa using g)
theorem drawsN_in {c : Int} {ls : List Int} (hp : ∀ l ∈ ls, 0 < l) {i : Nat} {l v : Int} (h : ls[i]? = some l) (g : (drawsN c ls)[i]? = some v) : 0 ≤ v ∧ v < l := drawsL_in ls _ _ hp i l v h g
theorem draws_loop (Γ : Glob) (c : D) (L : Slot) (hL : ∃ d, L = .frz d ∨ L = .bor d) (e2 e3 e4 : D) : ∀ (ls : List Int) (acc : List D) (rest state : Int), (∀ l ∈ ls, fitDiv l = true) → acc.length + ls.length < 1000000 →
    ∃ r' s' : Int, evFor (evSs Γ [.asg (.nm 3) (.bin .mod (.bin .add (.bin .mul (.peek 3) (.cst (.int 16807))) (.cst (.int 10007))) (.cst (.int 2147483647))), .ife (.cmp .gt (.peek 2) (.cst (.int 0))) [.app 4 (.bin .mod (.peek 2) (.peek 5)), .asg (.nm 2) (.bin .fdiv (.peek 2) (.peek 5))] [.app 4 (.bin .mod (.bin .fdiv (.peek 3) (.cst (.int 64))) (.peek 5))]])
      (bindT (.nm 5)) [.frz c, L, .frz e2, .frz e3, .own e4, .un] (ls.map .int) [.frz c, L, .frz (.int rest), .frz (.int state), .own (.lst acc), .un] = .nx [.frz c, L, .frz (.int r'), .frz (.int s'), .own (.lst (acc ++ (drawsL rest state ls).map .int)), .un]
  | [], acc, rest, state, _, _ => ⟨rest, state, by simp [drawsL]⟩
  | l :: ls, acc, rest, state, hp, hl => by
    have hl1 := hp l List.mem_cons_self
    have hpos : 0 < l := by
      unfold fitDiv at hl1
      exact (of_decide_eq_true hl1).1
    rw [List.length_cons] at hl
    have mL : ∀ (r r' : Env) (s : Slot), mask (L :: r) (s :: r') = s :: mask r r' := fun r r' s => by
      obtain ⟨d, h | h⟩ := hL <;> (subst h; rfl)
    by_cases h : 0 < rest
    · obtain ⟨r', s', e⟩ := draws_loop Γ c L hL e2 e3 e4 ls (acc ++ [.int (rest % l)]) (rest / l) ((state * 16807 + 10007) % 2147483647) (fun l h => hp l (List.mem_cons_of_mem _ h)) (by rw [List.length_append, List.length_singleton]; omega)
      refine ⟨r', s', ?_⟩
      rw [List.map_cons, ef_cons]
      have ha : acc.length < 1000000 := by omega
      simp [binD, modD, addD, mulD, fitMul, cmpD, gtD, h, hpos, fdivD, hl1, ha, mL, Mi.frs]
      rw [e, drawsL, if_pos h]
      simp
    · obtain ⟨r', s', e⟩ := draws_loop Γ c L hL e2 e3 e4 ls (acc ++ [.int (((state * 16807 + 10007) % 2147483647) / 64 % l)]) rest ((state * 16807 + 10007) % 2147483647) (fun l h => hp l (List.mem_cons_of_mem _ h)) (by rw [List.length_append, List.length_singleton]; omega)
      refine ⟨r', s', ?_⟩
      rw [List.map_cons, ef_cons]
      have ha : acc.length < 1000000 := by omega
      have h64 : fitDiv 64 = true := by decide +kernel
      simp [binD, modD, addD, mulD, fitMul, cmpD, gtD, h, hpos, fdivD, ha, mL, Mi.frs, h64]
      rw [e, drawsL, if_neg h]
      simp
theorem draws_eq (Γ : Glob) (c : Int) (ls : List Int) {L : Slot} (hL : L = .frz (.lst (ls.map .int)) ∨ L = .bor (.lst (ls.map .int))) (hp : ∀ l ∈ ls, fitDiv l = true) (hl : ls.length < 1000000) : runB Γ drawsB [.frz (.int c), L] = .ok (.lst ((drawsN c ls).map .int)) := by
  have hv : L.val = .ok (.lst (ls.map .int)) := by
    rcases hL with h | h <;> (subst h; rfl)
  have hk : lock L = L := by
    rcases hL with h | h <;> (subst h; rfl)
  have hu : ∀ s, un1 L s = s := fun s => by
    rcases hL with h | h <;> (subst h; simp)
  have hL2 : ∃ d, L = .frz d ∨ L = .bor d := ⟨_, hL⟩
  have p18 : (10 : Int) ^ 18 = 1000000000000000000 := by decide +kernel
  have fp : fitPow 10 18 = true := by decide +kernel
  by_cases h : 1000000000000000000 ≤ c
  · obtain ⟨r', s', e⟩ := draws_loop Γ (.int c) L hL2 (.int (c - 1000000000000000000)) (.int (c * 48271 % 2147483647)) (.lst []) ls [] (c - 1000000000000000000) (c * 48271 % 2147483647) hp (by simpa using hl)
    simp [runB, drawsB, cmpD, geD, binD, powD, fp, p18, h, subD, mulD, modD, fitMul, biD, int1D, Mi.frs, hv, hk, hu]
    rw [e]
    simp [hk, hu, drawsN, h]
  · obtain ⟨r', s', e⟩ := draws_loop Γ (.int c) L hL2 (.int 0) (.int (c * 48271 % 2147483647)) (.lst []) ls [] 0 (c * 48271 % 2147483647) hp (by simpa using hl)
    simp [runB, drawsB, cmpD, geD, binD, powD, fp, p18, h, subD, mulD, modD, fitMul, biD, int1D, Mi.frs, hv, hk, hu]
    rw [e]
    simp [hk, hu, drawsN, h]
/-! ### comprehensions and loops as functions of lists -/
section
variable {bd : D → R Env} {tst : Env → R Bool} {elt : Env → R D}
theorem compL_filter {ι : Type} (f : ι → D) (p : ι → Bool) (g : ι → D) : ∀ (xs : List ι), (∀ x ∈ xs, ∃ e, bd (f x) = .ok e ∧ tst e = .ok (p x) ∧ (p x = true → elt e = .ok (g x))) → compL bd tst elt (xs.map f) = .ok ((xs.filter p).map g)
  | [], _ => rfl
  | x :: xs, h => by
    obtain ⟨e, h1, h2, h3⟩ := h x List.mem_cons_self
    have ih := compL_filter f p g xs fun y hy => h y (List.mem_cons_of_mem _ hy)
    rw [List.map_cons, compL, h1, b_ok, h2, b_ok]
    cases hp : p x with
    | true => simp [h3 hp, ih, hp]
    | false => simp [ih, hp]
theorem compL_map {ι : Type} (f : ι → D) (g : ι → D) (xs : List ι) (h : ∀ x ∈ xs, ∃ e, bd (f x) = .ok e ∧ tst e = .ok true ∧ elt e = .ok (g x)) : compL bd tst elt (xs.map f) = .ok (xs.map g) := by
  rw [compL_filter f (fun _ => true) g xs fun x hx => by
    obtain ⟨e, h1, h2, h3⟩ := h x hx
    exact ⟨e, h1, h2, fun _ => h3⟩, List.filter_eq_self.mpr fun _ _ => rfl]
theorem compL2_flat {ι : Type} {inner : Env → R (List D)} (f : ι → D) (g : ι → List D) : ∀ (xs : List ι), (∀ x ∈ xs, ∃ e, bd (f x) = .ok e ∧ inner e = .ok (g x)) → compL2 bd inner (xs.map f) = .ok (xs.flatMap g)
  | [], _ => rfl
  | x :: xs, h => by
    obtain ⟨e, h1, h2⟩ := h x List.mem_cons_self
    have ih := compL2_flat f g xs fun y hy => h y (List.mem_cons_of_mem _ hy)
    rw [List.map_cons, compL2, h1, b_ok, h2, b_ok, ih]
    simp
end
theorem ef_steps {body : Env → Out} {bd : D → Env → R Env} {e0 : Env} (St : Nat → Env) : ∀ (xs : List D) (i : Nat), (∀ j x, xs[j]? = some x → ∃ e1 e2, bd x (St (i + j)) = .ok e1 ∧ body e1 = .nx e2 ∧ mask e0 e2 = St (i + j + 1)) → evFor body bd e0 xs (St i) = .nx (St (i + xs.length))
  | [], i, _ => rfl
  | x :: xs, i, h => by
    obtain ⟨e1, e2, h1, h2, h3⟩ := h 0 x rfl
    rw [ef_cons, Nat.add_zero] at *
    rw [h1, y_ok, h2]
    show evFor body bd e0 xs (mask e0 e2) = _
    rw [h3, ef_steps St xs (i + 1) fun j y hy => by
      obtain ⟨f1, f2, k1, k2, k3⟩ := h (j + 1) y (by simpa using hy)
      exact ⟨f1, f2, by rw [show i + 1 + j = i + (j + 1) by omega]; exact k1, k2, by rw [k3]; congr 1; omega⟩]
    rw [List.length_cons]
    congr 2
    omega
@[simp] theorem wipe_nil' (env : Env) : wipe env [] = env := rfl
@[simp] theorem wipe_cons' (env : Env) (i : Nat) (r : List Nat) : wipe env (i :: r) = (wipe env r).set i .un := rfl
mutual
theorem eqD_self : ∀ (n : Nat) (d : D), eqOk n d = true → eqD d d = true
  | n, .non, _ => by simp [eqD]
  | n, .bl b, _ => by simp [eqD]
  | n, .int i, _ => by simp [eqD]
  | n, .str s, _ => by simp [eqD]
  | n + 1, .tup xs, h => by
    rw [eqOk] at h
    rw [eqD]
    exact eqDs_self n xs h
  | n + 1, .lst xs, h => by
    rw [eqOk] at h
    rw [eqD]
    exact eqDs_self n xs h
  | 0, .tup _, h => by simp [eqOk] at h
  | 0, .lst _, h => by simp [eqOk] at h
  | n, .dct _ _, h => by cases n <;> simp [eqOk] at h
  | n, .ins _ _ _, h => by cases n <;> simp [eqOk] at h
  | n, .scr _, h => by cases n <;> simp [eqOk] at h
  | n, .itr _, h => by cases n <;> simp [eqOk] at h
theorem eqDs_self : ∀ (n : Nat) (d : List D), d.all (eqOk n) = true → eqDs d d = true
  | _, [], _ => by simp [eqDs]
  | n, d :: ds, h => by
    rw [List.all_cons, Bool.and_eq_true] at h
    rw [eqDs, eqD_self n d h.1, eqDs_self n ds h.2]
    rfl
end
theorem eqR_self {d : D} (h : eqOk 60 d = true) : eqR d d = .ok (.bl true) := by simp [eqR, h, eqD_self 60 d h]
theorem neR_self {d : D} (h : eqOk 60 d = true) : neR d d = .ok (.bl false) := by simp [neR, h, eqD_self 60 d h]
theorem atI_last {α : Type} (l : List α) : L2.atI l (-1) = l.getLast? := by
  unfold L2.atI L2.ixN
  rw [if_neg (by omega), List.getLast?_eq_getElem?]
  by_cases h : 1 ≤ l.length
  · rw [if_pos (by omega), Option.bind_some]
    congr 1
    omega
  · rw [if_neg (by omega), List.getElem?_eq_none (by omega)]
    rfl
/-- a tuple of naturals -/
def tupN (c : List Nat) : D := .tup (c.map fun (k : Nat) => D.int (k : Int))
theorem eqOk_tupN (n : Nat) (c : List Nat) : eqOk (n + 2) (tupN c) = true := by
  unfold tupN
  rw [eqOk, List.all_eq_true]
  intro d hd
  obtain ⟨k, _, rfl⟩ := List.mem_map.mp hd
  rfl
theorem range_from (s : Nat) : ∀ n : Nat, (List.range n).filter (fun k => decide (s ≤ k)) = (List.range (n - s)).map (s + ·)
  | 0 => by simp
  | n + 1 => by
    rw [List.range_succ, List.filter_append, range_from s n]
    by_cases h : s ≤ n
    · rw [show n + 1 - s = (n - s) + 1 by omega, List.range_succ, List.map_append]
      simp [h]
    · rw [show n + 1 - s = n - s by omega]
      simp [h]
theorem rngD_nat (a b : Nat) (ha : a < 4000000000) (hb : b < 4000000000) : rngD (a : Int) (b : Int) = .ok (.itr ((List.range (b - a)).map fun (k : Nat) => .int ((a + k : Nat) : Int))) := by
  have h1 : small62 (a : Int) = true := decide_eq_true (by omega)
  have h2 : small62 (b : Int) = true := decide_eq_true (by omega)
  unfold rngD
  rw [h1, h2, show ((b : Int) - (a : Int)).toNat = b - a by omega]
  simp
theorem rngD_zero (b : Nat) (hb : b < 4000000000) : rngD 0 (b : Int) = .ok (.itr ((List.range b).map fun (k : Nat) => .int (k : Int))) := by
  have h := rngD_nat 0 b (by omega) hb
  simp only [Nat.sub_zero, Nat.zero_add] at h
  exact h
theorem run_ret {Γ : Glob} {b : Body} {as : List Slot} {env : Env} {d : D} {own : Bool} (he : as ++ List.replicate (b.n - as.length) .un = env) (h : evSs Γ b.code env = .ret d own) (hf : (b.fresh && isMut d && !own) = false) : runB Γ b as = .ok d := by
  unfold runB
  rw [he, h]
  simp [hf]
theorem ess_nx {Γ : Glob} {s : S} {r : List S} {env e : Env} {o : Out} (h : evS Γ s env = .nx e) (h2 : evSs Γ r e = o) : evSs Γ (s :: r) env = o := by rw [ess_cons, h, ← h2]
theorem ess_rt {Γ : Glob} {s : S} {r : List S} {env : Env} {d : D} {b : Bool} (h : evS Γ s env = .ret d b) : evSs Γ (s :: r) env = .ret d b := by rw [ess_cons, h]
theorem es_for {Γ : Glob} {t : Tgt} {it : E} {body : List S} {env e1 e2 : Env} {xs : List D} {o : Out} (h1 : (evE Γ it env).bind items = .ok xs) (h2 : onAll lock (pks it) env = e1) (h3 : evFor (evSs Γ body) (bindT t) env xs e1 = .nx e2) (h4 : .nx (unlock env (pks it) e2) = o) : evS Γ (.fr t it body) env = o := by
  rw [es_fr, h1, o_ok', h2, h3, on_nx, h4]
theorem es_for_ret {Γ : Glob} {t : Tgt} {it : E} {body : List S} {env e1 : Env} {xs : List D} {d : D} {b : Bool} (h1 : (evE Γ it env).bind items = .ok xs) (h2 : onAll lock (pks it) env = e1) (h3 : evFor (evSs Γ body) (bindT t) env xs e1 = .ret d b) : evS Γ (.fr t it body) env = .ret d b := by
  rw [es_fr, h1, o_ok', h2, h3, on_ret]
theorem rng0 {Γ : Glob} {a : E} {env : Env} {n : Nat} (h : evE Γ a env = .ok (.int (n : Int))) (hn : n < 4000000000) : (evE Γ (.rng none a none) env).bind items = .ok ((List.range n).map fun (k : Nat) => .int (k : Int)) := by
  rw [ev_rng, evr_none, b_ok, h, b_ok, intOf, b_ok, rngD_zero n hn, b_ok, items_itr]
theorem ef_nx {body : Env → Out} {bd : D → Env → R Env} {e0 : Env} {x : D} {xs : List D} {env e1 e2 e3 : Env} {o : Out} (h1 : bd x env = .ok e1) (h2 : body e1 = .nx e2) (hm : mask e0 e2 = e3) (h3 : evFor body bd e0 xs e3 = o) : evFor body bd e0 (x :: xs) env = o := by
  rw [ef_cons, h1, y_ok, h2]
  show evFor body bd e0 xs (mask e0 e2) = o
  rw [hm, h3]
theorem ef_ret {body : Env → Out} {bd : D → Env → R Env} {e0 : Env} {x : D} {xs : List D} {env e1 : Env} {d : D} {b : Bool} (h1 : bd x env = .ok e1) (h2 : body e1 = .ret d b) : evFor body bd e0 (x :: xs) env = .ret d b := by
  rw [ef_cons, h1, y_ok, h2]
theorem es_if {Γ : Glob} {c : E} {a b : List S} {env : Env} {t : Bool} {o : Out} (h : evE Γ c env = .ok (.bl t)) (h2 : (if t then evSs Γ a env else evSs Γ b env) = o) : evS Γ (.ife c a b) env = o := by
  rw [es_ife, h, b_ok, truth_bl, o_ok', h2]
theorem eg_nx {Γ : Glob} {s : G} {r : List G} {env e : Env} {ys zs : List D} {o : GO} (h : evG Γ s env ys = .nx e zs) (h2 : evGs Γ r e zs = o) : evGs Γ (s :: r) env ys = o := by
  show (match evG Γ s env ys with
      | .nx e ys2 => evGs Γ r e ys2
      | .bad => .bad) = o
  rw [h, ← h2]
theorem egf_nx {body : Env → List D → GO} {bd : D → Env → R Env} {e0 : Env} {x : D} {xs : List D} {env e1 e2 e3 : Env} {ys zs : List D} {o : GO} (h1 : bd x env = .ok e1) (h2 : body e1 ys = .nx e2 zs) (hm : mask e0 e2 = e3) (h3 : evGFor body bd e0 xs e3 zs = o) : evGFor body bd e0 (x :: xs) env ys = o := by
  show (bd x env).go (fun e1 => match body e1 ys with
      | .nx e2 ys2 => evGFor body bd e0 xs (mask e0 e2) ys2
      | .bad => .bad) = o
  rw [h1, go_ok, h2]
  show evGFor body bd e0 xs (mask e0 e2) zs = o
  rw [hm, h3]
theorem eg_for {Γ : Glob} {t : Tgt} {it : E} {body : List G} {env e1 e2 : Env} {xs ys zs : List D} {o : GO} (h1 : (evE Γ it env).bind items = .ok xs) (h2 : onAll lock (pks it) env = e1) (h3 : evGFor (evGs Γ body) (bindT t) env xs e1 ys = .nx e2 zs) (h4 : .nx (unlock env (pks it) e2) zs = o) : evG Γ (.fr t it body) env ys = o := by
  show (((evE Γ it env).bind items).go fun xs => (evGFor (evGs Γ body) (bindT t) env xs (onAll lock (pks it) env) ys).onEnv (unlock env (pks it))) = o
  rw [h1, go_ok, h2, h3, ← h4]
  rfl
theorem runG_ok {Γ : Glob} {b : Body} {g : List G} {as : List Slot} {env e : Env} {ys : List D} (hb : b.gen = some g) (he : as ++ List.replicate (b.n - as.length) .un = env) (h : evGs Γ g env [] = .nx e ys) : runG Γ b as = .ok ys := by
  unfold runG
  rw [hb]
  dsimp only
  rw [he, h]
end Mi
namespace Mi
open PySem L2
/-! ### tuples of integers, items, their order -/
abbrev Itm := Int × List Int
def tupZ (l : List Int) : D := .tup (l.map .int)
def it (p : Itm) : D := .tup [.int p.1, tupZ p.2]
def rkey (p : Itm) : D := .tup [.int (-p.1), tupZ p.2]
def lexZ : List Int → List Int → Bool
  | [], [] => false
  | [], _ :: _ => true
  | _ :: _, [] => false
  | x :: r, y :: t => decide (x < y) || (!decide (y < x) && lexZ r t)
def bef (p q : Itm) : Bool := decide (q.1 < p.1) || (decide (p.1 = q.1) && lexZ p.2 q.2)
theorem lexZ_irr : ∀ a : List Int, lexZ a a = false
  | [] => rfl
  | x :: r => by rw [lexZ, lexZ_irr r]; simp
theorem lexZ_trans : ∀ a b c : List Int, lexZ a b = true → lexZ b c = true → lexZ a c = true
  | [], [], _, h, _ => by simp [lexZ] at h
  | _ :: _, [], _, h, _ => by simp [lexZ] at h
  | _, _ :: _, [], _, h => by simp [lexZ] at h
  | [], y :: b, z :: c, _, _ => rfl
  | x :: a, y :: b, z :: c, h1, h2 => by
    rw [lexZ] at *
    simp only [Bool.or_eq_true, Bool.and_eq_true, Bool.not_eq_true', decide_eq_true_eq, decide_eq_false_iff_not] at *
    rcases h1 with h1 | ⟨h1, h3⟩ <;> rcases h2 with h2 | ⟨h2, h4⟩
    · left; omega
    · left; omega
    · left; omega
    · by_cases h : x < z
      · exact .inl h
      · exact .inr ⟨by omega, lexZ_trans a b c h3 h4⟩
theorem lexZ_tot : ∀ a b : List Int, lexZ a b = false → lexZ b a = false → a = b
  | [], [], _, _ => rfl
  | [], _ :: _, h, _ => by simp [lexZ] at h
  | _ :: _, [], _, h => by simp [lexZ] at h
  | x :: a, y :: b, h1, h2 => by
    rw [lexZ] at *
    simp only [Bool.or_eq_false_iff, Bool.and_eq_false_iff, Bool.not_eq_false', decide_eq_true_eq, decide_eq_false_iff_not] at *
    have e : x = y := by omega
    subst e
    have h3 : lexZ a b = false := by
      rcases h1.2 with h | h
      · omega
      · exact h
    have h4 : lexZ b a = false := by
      rcases h2.2 with h | h
      · omega
      · exact h
    rw [lexZ_tot a b h3 h4]
theorem bef_irr (p : Itm) : bef p p = false := by unfold bef; rw [lexZ_irr]; simp
theorem bef_trans {p q r : Itm} (h1 : bef p q = true) (h2 : bef q r = true) : bef p r = true := by
  unfold bef at *
  simp only [Bool.or_eq_true, Bool.and_eq_true, decide_eq_true_eq] at *
  rcases h1 with h1 | ⟨h1, h3⟩ <;> rcases h2 with h2 | ⟨h2, h4⟩
  · left; omega
  · left; omega
  · left; omega
  · exact .inr ⟨by omega, lexZ_trans _ _ _ h3 h4⟩
theorem bef_tot {p q : Itm} (h1 : bef p q = false) (h2 : bef q p = false) : p = q := by
  unfold bef at *
  simp only [Bool.or_eq_false_iff, Bool.and_eq_false_iff, decide_eq_false_iff_not] at *
  have e : p.1 = q.1 := by omega
  have h3 : lexZ p.2 q.2 = false := by
    rcases h1.2 with h | h
    · omega
    · exact h
  have h4 : lexZ q.2 p.2 = false := by
    rcases h2.2 with h | h
    · omega
    · exact h
  exact Prod.ext e (lexZ_tot _ _ h3 h4)
/-! #### the order that the model gives -/
def toksZ : List Int → List (Int ⊕ List Nat)
  | [] => []
  | x :: r => .inl 1 :: .inl x :: toksZ r
theorem toks_all : ∀ l : List Int, PySem.W.keyToksAll (toPys (l.map .int)) = toksZ l ++ [.inl 0]
  | [] => rfl
  | x :: r => by
    show Sum.inl 1 :: ([Sum.inl x] ++ PySem.W.keyToksAll (toPys (r.map .int))) = _
    rw [toks_all r]
    rfl
open PyProof.Rows in
theorem lex_toks : ∀ (a b : List Int) (s t : List (Int ⊕ List Nat)), lexLt itemOrd (toksZ a ++ .inl 0 :: s) (toksZ b ++ .inl 0 :: t) = if a = b then lexLt itemOrd s t else lexZ a b
  | [], [], s, t => by
    rw [if_pos rfl]
    exact lex_self (O := itemOrd) (.inl 0) s t
  | [], y :: b, s, t => rfl
  | x :: a, [], s, t => rfl
  | x :: a, y :: b, s, t => by
    show lexLt itemOrd (.inl 1 :: .inl x :: (toksZ a ++ .inl 0 :: s)) (.inl 1 :: .inl y :: (toksZ b ++ .inl 0 :: t)) = _
    rw [lex_self (O := itemOrd), lex_cons, lex_toks a b s t]
    show (decide (x < y) || (!decide (y < x) && _)) = _
    by_cases h : x = y
    · subst h
      by_cases h2 : a = b
      · subst h2
        simp
      · have : ¬ (x :: a = x :: b) := fun z => h2 (List.cons.inj z).2
        rw [if_neg h2, if_neg this, lexZ]
    · have : ¬ (x :: a = y :: b) := fun z => h (List.cons.inj z).1
      rw [if_neg this, lexZ]
      by_cases h3 : x < y
      · simp [h3]
      · have : y < x := by omega
        simp [h3, this]
theorem bef_tupZ (a b : List Int) : befD (tupZ a) (tupZ b) = lexZ a b := by
  unfold befD PySem.W.dataLt
  show PyProof.Rows.lexLt PyProof.Rows.itemOrd (PySem.W.keyToksAll (toPys (a.map .int))) (PySem.W.keyToksAll (toPys (b.map .int))) = _
  rw [toks_all, toks_all, lex_toks]
  split
  · rename_i h
    rw [h, lexZ_irr]
    rfl
  · rfl
theorem bef_rkey (p q : Itm) : befD (rkey p) (rkey q) = bef p q := by
  unfold befD PySem.W.dataLt
  show PyProof.Rows.lexLt PyProof.Rows.itemOrd (.inl 1 :: .inl (-p.1) :: .inl 1 :: (PySem.W.keyToksAll (toPys (p.2.map .int)) ++ [.inl 0])) (.inl 1 :: .inl (-q.1) :: .inl 1 :: (PySem.W.keyToksAll (toPys (q.2.map .int)) ++ [.inl 0])) = _
  rw [toks_all, toks_all, PyProof.Rows.lex_self (O := PyProof.Rows.itemOrd), PyProof.Rows.lex_cons, PyProof.Rows.lex_self (O := PyProof.Rows.itemOrd), List.append_assoc, List.append_assoc]
  show (decide (-p.1 < -q.1) || (!decide (-q.1 < -p.1) && PyProof.Rows.lexLt PyProof.Rows.itemOrd (toksZ p.2 ++ .inl 0 :: [.inl 0]) (toksZ q.2 ++ .inl 0 :: [.inl 0]))) = _
  rw [lex_toks]
  unfold bef
  have e : (if p.2 = q.2 then PyProof.Rows.lexLt PyProof.Rows.itemOrd [Sum.inl 0] [Sum.inl 0] else lexZ p.2 q.2) = lexZ p.2 q.2 := by
    split
    · rename_i h
      rw [h, lexZ_irr]
      rfl
    · rfl
  rw [e]
  by_cases h1 : q.1 < p.1
  · have : -p.1 < -q.1 := by omega
    simp [h1, this]
  · by_cases h2 : p.1 = q.1
    · simp [h2]
    · have : -q.1 < -p.1 := by omega
      have h3 : ¬ -p.1 < -q.1 := by omega
      simp [h1, h2, h3, this]
theorem eqOk_ints (n : Nat) (l : List Int) : (l.map D.int).all (eqOk (n + 1)) = true := by
  rw [List.all_eq_true]
  intro d hd
  obtain ⟨i, _, rfl⟩ := List.mem_map.mp hd
  rfl
theorem eqOk_tupZ (n : Nat) (l : List Int) : eqOk (n + 2) (tupZ l) = true := eqOk_ints n l
theorem eqOk_it (n : Nat) (p : Itm) : eqOk (n + 3) (it p) = true := by
  show ([.int p.1, tupZ p.2] : List D).all (eqOk (n + 2)) = true
  rw [List.all_cons, List.all_cons, List.all_nil, eqOk_tupZ]
  rfl
theorem eqOk_its (n : Nat) (l : List Itm) : (l.map it).all (eqOk (n + 3)) = true := by
  rw [List.all_eq_true]
  intro d hd
  obtain ⟨i, _, rfl⟩ := List.mem_map.mp hd
  exact eqOk_it n i
theorem alike_ints : ∀ a b : List Int, PySem.W.alikeAll (toPys (a.map .int)) (toPys (b.map .int)) = true
  | [], _ => by simp [toPys, PySem.W.alikeAll]
  | _ :: _, [] => by simp [toPys, PySem.W.alikeAll]
  | x :: a, y :: b => by
    show (PySem.W.alike (.int x) (.int y) && PySem.W.alikeAll (toPys (a.map .int)) (toPys (b.map .int))) = true
    rw [alike_ints a b]
    rfl
theorem alike_tupZ (a b : List Int) : PySem.W.alike (toPy (tupZ a)) (toPy (tupZ b)) = true := alike_ints a b
theorem alike_pair (v w : Int) (a b : List Int) : PySem.W.alike (toPy (.tup [.int v, tupZ a])) (toPy (.tup [.int w, tupZ b])) = true := by
  show (PySem.W.alike (.int v) (.int w) && (PySem.W.alike (toPy (tupZ a)) (toPy (tupZ b)) && true)) = true
  rw [alike_tupZ]
  rfl
theorem lt_tupZ (a b : List Int) : ltD (tupZ a) (tupZ b) = .ok (.bl (lexZ a b)) := by
  have h : ordOk (tupZ a) (tupZ b) = true := by
    unfold ordOk
    rw [eqOk_tupZ, eqOk_tupZ, alike_tupZ]
    rfl
  show (if ordOk (tupZ a) (tupZ b) then R.ok (D.bl (befD (tupZ a) (tupZ b))) else .bad) = _
  rw [h, bef_tupZ]
  rfl
theorem eqDs_ints : ∀ a b : List Int, eqDs (a.map .int) (b.map .int) = decide (a = b)
  | [], [] => rfl
  | [], _ :: _ => rfl
  | _ :: _, [] => rfl
  | x :: a, y :: b => by
    show ((x == y) && eqDs (a.map .int) (b.map .int)) = _
    rw [eqDs_ints a b]
    by_cases h : x = y <;> by_cases h2 : a = b <;> simp [h, h2]
theorem eqD_tupZ (a b : List Int) : eqD (tupZ a) (tupZ b) = decide (a = b) := eqDs_ints a b
theorem eqD_it (p q : Itm) : eqD (it p) (it q) = decide (p = q) := by
  show ((p.1 == q.1) && (eqD (tupZ p.2) (tupZ q.2) && true)) = _
  rw [eqD_tupZ]
  obtain ⟨a, b⟩ := p
  obtain ⟨c, d⟩ := q
  by_cases h : a = c <;> by_cases h2 : b = d <;> simp [h, h2]
theorem it_inj {p q : Itm} (h : it p = it q) : p = q := by
  have e : eqD (it p) (it q) = true := by
    rw [h, eqD_it]
    simp
  rw [eqD_it] at e
  exact of_decide_eq_true e
theorem neR_it (p q : Itm) : neR (it p) (it q) = .ok (.bl (!decide (p = q))) := by
  unfold neR
  rw [eqOk_it 57, eqOk_it 57, eqD_it]
  rfl
theorem in_tupZ (x : Int) (l : List Int) : inD (.int x) (tupZ l) = .ok (decide (x ∈ l)) := by
  show isinD (.int x) (l.map .int) = _
  unfold isinD
  rw [eqOk_ints 59]
  show R.ok _ = _
  congr 1
  induction l with
  | nil => rfl
  | cons y l ih =>
    rw [List.map_cons, List.any_cons, ih]
    show ((y == x) || _) = _
    by_cases h : y = x
    · simp [h]
    · have : ¬ x = y := fun z => h z.symm
      simp [h, this]
/-! #### the ranked list -/
def ins (p : Itm) : List Itm → List Itm
  | [] => [p]
  | q :: r => if bef q p then q :: ins p r else if q = p then q :: r else p :: q :: r
def rkA (acc : List Itm) (l : List Itm) : List Itm := l.foldl (fun acc p => ins p acc) acc
def rk (l : List Itm) : List Itm := rkA [] l
abbrev Rkd (l : List Itm) : Prop := l.Pairwise fun p q => bef p q = true
theorem ins_mem (p x : Itm) : ∀ l : List Itm, x ∈ ins p l ↔ x = p ∨ x ∈ l
  | [] => by simp [ins]
  | q :: r => by
    rw [ins]
    split
    · rw [List.mem_cons, ins_mem p x r, List.mem_cons]
      constructor
      · rintro (h | h | h)
        · exact .inr (.inl h)
        · exact .inl h
        · exact .inr (.inr h)
      · rintro (h | h | h)
        · exact .inr (.inl h)
        · exact .inl h
        · exact .inr (.inr h)
    · split
      · rename_i h
        subst h
        simp
      · simp
theorem ins_pw (p : Itm) : ∀ l : List Itm, Rkd l → Rkd (ins p l)
  | [], _ => by simp [ins]
  | q :: r, h => by
    rw [ins]
    have h' := List.pairwise_cons.mp h
    split
    · rename_i h1
      refine List.pairwise_cons.mpr ⟨fun x hx => ?_, ins_pw p r h'.2⟩
      rcases (ins_mem p x r).mp hx with e | hx
      · rw [e]; exact h1
      · exact h'.1 x hx
    · rename_i h1
      split
      · exact h
      · rename_i h2
        have h3 : bef p q = true := by
          cases c : bef p q with
          | true => rfl
          | false => exact absurd (bef_tot (by simpa using h1) c) h2
        refine List.pairwise_cons.mpr ⟨fun x hx => ?_, h⟩
        rcases List.mem_cons.mp hx with e | hx
        · rw [e]; exact h3
        · exact bef_trans h3 (h'.1 x hx)
theorem ins_len (p : Itm) : ∀ l : List Itm, (ins p l).length ≤ l.length + 1
  | [] => by simp [ins]
  | q :: r => by
    rw [ins]
    split
    · have := ins_len p r
      rw [List.length_cons, List.length_cons]
      omega
    · split
      · rw [List.length_cons]; omega
      · rw [List.length_cons, List.length_cons]; omega
theorem rkA_mem (x : Itm) : ∀ (l acc : List Itm), x ∈ rkA acc l ↔ x ∈ acc ∨ x ∈ l
  | [], acc => by simp [rkA]
  | p :: l, acc => by
    show x ∈ rkA (ins p acc) l ↔ _
    rw [rkA_mem x l, ins_mem, List.mem_cons]
    constructor
    · rintro ((h | h) | h)
      · exact .inr (.inl h)
      · exact .inl h
      · exact .inr (.inr h)
    · rintro (h | h | h)
      · exact .inl (.inr h)
      · exact .inl (.inl h)
      · exact .inr h
theorem rkA_pw : ∀ (l acc : List Itm), Rkd acc → Rkd (rkA acc l)
  | [], _, h => h
  | p :: l, acc, h => rkA_pw l (ins p acc) (ins_pw p acc h)
theorem rkA_len : ∀ (l acc : List Itm), (rkA acc l).length ≤ acc.length + l.length
  | [], _ => Nat.le_refl _
  | p :: l, acc => by
    have h1 := rkA_len l (ins p acc)
    have h2 := ins_len p acc
    show (rkA (ins p acc) l).length ≤ _
    rw [List.length_cons]
    omega
theorem rk_mem {x : Itm} {l : List Itm} : x ∈ rk l ↔ x ∈ l := by
  unfold rk
  rw [rkA_mem]
  simp
theorem rk_pw (l : List Itm) : Rkd (rk l) := rkA_pw l [] .nil
theorem rk_len (l : List Itm) : (rk l).length ≤ l.length := by
  have := rkA_len l []
  rw [List.length_nil] at this
  unfold rk
  omega
theorem rkd_uniq : ∀ {l m : List Itm}, Rkd l → Rkd m → (∀ x, x ∈ l ↔ x ∈ m) → l = m
  | [], [], _, _, _ => rfl
  | [], q :: m, _, _, h => by simpa using (h q).mpr List.mem_cons_self
  | p :: l, [], _, _, h => by simpa using (h p).mp List.mem_cons_self
  | p :: l, q :: m, hl, hm, h => by
    have a := List.pairwise_cons.mp hl
    have b := List.pairwise_cons.mp hm
    have e : p = q := by
      rcases List.mem_cons.mp ((h p).mp List.mem_cons_self) with e | h1
      · exact e
      · rcases List.mem_cons.mp ((h q).mpr List.mem_cons_self) with e | h2
        · exact e.symm
        · have := bef_trans (a.1 q h2) (b.1 p h1)
          rw [bef_irr] at this
          cases this
    subst e
    rw [rkd_uniq a.2 b.2 fun x => ?_]
    constructor
    · intro hx
      rcases List.mem_cons.mp ((h x).mp (List.mem_cons_of_mem _ hx)) with e | h1
      · have := a.1 x hx
        rw [e, bef_irr] at this
        cases this
      · exact h1
    · intro hx
      rcases List.mem_cons.mp ((h x).mpr (List.mem_cons_of_mem _ hx)) with e | h1
      · have := b.1 x hx
        rw [e, bef_irr] at this
        cases this
      · exact h1
theorem rk_ext {l m : List Itm} (h : ∀ x, x ∈ l ↔ x ∈ m) : rk l = rk m := rkd_uniq (rk_pw l) (rk_pw m) fun x => by rw [rk_mem, rk_mem]; exact h x
theorem rk_eq {l m : List Itm} (hl : Rkd l) (h : ∀ x, x ∈ l ↔ x ∈ m) : l = rk m := rkd_uniq hl (rk_pw m) fun x => by rw [rk_mem]; exact h x
/-! #### sorted(sorted(set(items)), key=rank) -/
theorem key_it (p : Itm) : keyD 8 (it p) = true := by
  show ([.int p.1, tupZ p.2] : List D).all (keyD 7) = true
  have : keyD 7 (tupZ p.2) = true := by
    show (p.2.map D.int).all (keyD 6) = true
    rw [List.all_eq_true]
    intro d hd
    obtain ⟨i, _, rfl⟩ := List.mem_map.mp hd
    rfl
  rw [List.all_cons, List.all_cons, List.all_nil, this]
  rfl
theorem sortOk_pairs (xs : List D) (h : ∀ d ∈ xs, ∃ v l, d = .tup [.int v, tupZ l]) : sortOk xs = true := by
  unfold sortOk
  simp only [Bool.and_eq_true, Bool.or_eq_true, List.all_eq_true]
  refine ⟨⟨fun d hd => ?_, fun d hd e he => ?_⟩, .inl fun d hd => ?_⟩
  · obtain ⟨v, l, rfl⟩ := h d hd
    exact eqOk_it 57 (v, l)
  · obtain ⟨v, l, rfl⟩ := h d hd
    obtain ⟨w, m, rfl⟩ := h e he
    exact alike_pair v w l m
  · obtain ⟨v, l, rfl⟩ := h d hd
    rfl
theorem sset_its (l : List Itm) (hl : l.length < 1000) : ssetD [.lst (l.map it)] = .ok (.lst ((dedD (l.map it)).mergeSort (PySem.W.dataLe false toPy))) := by
  unfold ssetD
  dsimp only
  rw [if_pos]
  have h1 : (l.map it).all (keyD 8) = true := by
    rw [List.all_eq_true]
    intro d hd
    obtain ⟨p, _, rfl⟩ := List.mem_map.mp hd
    exact key_it p
  have h2 : (l.map it).all isTup = true := by
    rw [List.all_eq_true]
    intro d hd
    obtain ⟨p, _, rfl⟩ := List.mem_map.mp hd
    rfl
  have h3 : sortOk (l.map it) = true := sortOk_pairs _ fun d hd => by
    obtain ⟨p, _, rfl⟩ := List.mem_map.mp hd
    exact ⟨p.1, p.2, rfl⟩
  rw [h1, h2, h3, decide_eq_true (by rw [List.length_map]; exact hl)]
  rfl
theorem all_its {xs : List D} (h : ∀ d ∈ xs, ∃ p, d = it p) : ∃ l : List Itm, xs = l.map it := by
  induction xs with
  | nil => exact ⟨[], rfl⟩
  | cons d xs ih =>
    obtain ⟨p, rfl⟩ := h d List.mem_cons_self
    obtain ⟨l, rfl⟩ := ih fun d hd => h d (List.mem_cons_of_mem _ hd)
    exact ⟨p :: l, rfl⟩
/-- what sorted(set(items)) holds: each item once -/
theorem sset_of (l : List Itm) (hl : l.length < 1000) : ∃ m : List Itm, ssetD [.lst (l.map it)] = .ok (.lst (m.map it)) ∧ m.Nodup ∧ ∀ x, x ∈ m ↔ x ∈ l := by
  have hk : (l.map it).all (keyD 8) = true := by
    rw [List.all_eq_true]
    intro d hd
    obtain ⟨p, _, rfl⟩ := List.mem_map.mp hd
    exact key_it p
  have pm := List.mergeSort_perm (dedD (l.map it)) (PySem.W.dataLe false toPy)
  have sub : ∀ d, d ∈ (dedD (l.map it)).mergeSort (PySem.W.dataLe false toPy) ↔ d ∈ l.map it := fun d => by
    rw [pm.mem_iff]
    exact ⟨ded_sub _ d, ded_all _ hk d⟩
  have nd : ((dedD (l.map it)).mergeSort (PySem.W.dataLe false toPy)).Nodup := pm.nodup_iff.mpr (ded_nodup _ hk)
  obtain ⟨m, hm⟩ := all_its (xs := (dedD (l.map it)).mergeSort (PySem.W.dataLe false toPy)) fun d hd => by
    obtain ⟨p, _, rfl⟩ := List.mem_map.mp ((sub d).mp hd)
    exact ⟨p, rfl⟩
  rw [hm] at sub nd
  refine ⟨m, by rw [sset_its l hl, hm], ?_, fun x => ?_⟩
  · exact List.Pairwise.imp (fun {a b} (h : it a ≠ it b) e => h (congrArg it e)) (List.pairwise_map.mp nd)
  · constructor
    · intro hx
      obtain ⟨p, hp, e⟩ := List.mem_map.mp ((sub (it x)).mp (List.mem_map_of_mem hx))
      rw [← it_inj e]
      exact hp
    · intro hx
      obtain ⟨p, hp, e⟩ := List.mem_map.mp ((sub (it x)).mpr (List.mem_map_of_mem hx))
      rw [← it_inj e]
      exact hp
theorem keysL_map {run : D → R D} {f g : Itm → D} (h : ∀ p, run (f p) = .ok (g p)) : ∀ m : List Itm, keysL run (m.map f) = .ok (m.map g)
  | [] => rfl
  | p :: m => by
    rw [List.map_cons, keysL, h, b_ok, keysL_map h m]
    rfl
theorem perm_map {α β : Type} {f : α → β} {z : List β} {l : List α} (h : z.Perm (l.map f)) : ∃ m : List α, m.Perm l ∧ z = m.map f := by
  have e : PySem.W.EachIs (fun b a => b = f a) (l.map f) l := by
    clear h
    induction l with
    | nil => exact .nil
    | cons a l ih => exact .cons rfl ih
  obtain ⟨m, hm, e⟩ := each_perm h e
  refine ⟨m, hm, ?_⟩
  clear h hm
  induction e with
  | nil => rfl
  | cons h _ ih => rw [List.map_cons, h, ih]
theorem sortK_rk (m : List Itm) (hm : m.Nodup) : sortK (m.map it) (m.map rkey) = (rk m).map it := by
  unfold sortK
  have hz : (m.map it).zip (m.map rkey) = m.map fun p => (it p, rkey p) := by
    rw [List.zip_map']
  rw [hz]
  obtain ⟨z, pz, ez⟩ := perm_map (List.mergeSort_perm (m.map fun p => (it p, rkey p)) (PySem.W.dataLe false fun p : D × D => toPy p.2))
  have pw := List.pairwise_mergeSort (dataLe_trans fun p : D × D => toPy p.2) (dataLe_total _) (m.map fun p => (it p, rkey p))
  rw [ez] at pw ⊢
  have pw := List.pairwise_map.mp pw
  have nd : z.Nodup := pz.nodup_iff.mpr hm
  have hr : Rkd z := by
    refine (pw.and nd).imp fun {p q} h => ?_
    obtain ⟨h1, h2⟩ := h
    rw [PySem.W.dataLe_eq] at h1
    simp only [cond, Bool.not_eq_true'] at h1
    have h1 : bef q p = false := by
      rw [← bef_rkey]
      exact h1
    cases c : bef p q with
    | true => rfl
    | false => exact absurd (bef_tot c h1) h2
  rw [List.map_map, rk_eq hr fun x => pz.mem_iff]
  rfl
end Mi
namespace Mi
open PySem L2
/-! ### a slot that is looked at -/
def Sn (d : D) (L : Slot) : Prop := L = .frz d ∨ L = .bor d
theorem Sn.f (d : D) : Sn d (.frz d) := .inl rfl
theorem Sn.b (d : D) : Sn d (.bor d) := .inr rfl
section
variable {d : D} {L : Slot} (h : Sn d L)
include h
theorem Sn.val : L.val = .ok d := by rcases h with h | h <;> (subst h; rfl)
theorem Sn.lk : lock L = L := by rcases h with h | h <;> (subst h; rfl)
theorem Sn.un (s : Slot) : un1 L s = s := by rcases h with h | h <;> (subst h; cases s <;> rfl)
theorem Sn.le : lendS d L = L := by rcases h with h | h <;> (subst h; rfl)
theorem Sn.mk (r : Env) (s : Slot) (r' : Env) : mask (L :: r) (s :: r') = s :: mask r r' := by rcases h with h | h <;> (subst h; rfl)
end
@[simp] theorem lend_peek (env : Env) (d : D) (i : Nat) : lend env d (.peek i) = lendS d (gt env i) := id rfl
@[simp] theorem lendS_own (d e : D) : lendS d (.own e) = .bor d := id rfl
@[simp] theorem lendS_bor (d e : D) : lendS d (.bor e) = .bor d := id rfl
@[simp] theorem lendS_frz (d e : D) : lendS d (.frz e) = .frz d := id rfl
/-! ### statements, one after the other -/
section
variable {Γ : Glob} {r : List S} {env e1 e2 e3 : Env} {o : Out} {d : D}
theorem ess_asg {i : Nat} {e : E} (h : evE Γ e env = .ok d) (he : env.set i (if frs e && isMut d then .own d else .frz d) = e1) (h2 : evSs Γ r e1 = o) : evSs Γ (.asg (.nm i) e :: r) env = o :=
  ess_nx (by rw [es_asg, h, o_ok', he]) h2
theorem ess_asgC {i : Nat} {e : E} (h : evE Γ e env = .ok d) (he : env.set i (if frs e && isMut d then .own d else .frz d) = e1) (h2 : evSs Γ r e1 = o) : evSs Γ (.asgC i e :: r) env = o :=
  ess_nx (by rw [es_asgC, h, o_ok', he]) h2
theorem ess_if {c : E} {a b : List S} {t : Bool} (h : evE Γ c env = .ok (.bl t)) (h2 : evSs Γ (if t then a else b) env = .nx e1) (h3 : evSs Γ r e1 = o) : evSs Γ (.ife c a b :: r) env = o :=
  ess_nx (es_if h (by cases t <;> exact h2)) h3
theorem ess_if_ret {c : E} {a b : List S} {t : Bool} {w : Bool} (h : evE Γ c env = .ok (.bl t)) (h2 : evSs Γ (if t then a else b) env = .ret d w) : evSs Γ (.ife c a b :: r) env = .ret d w :=
  ess_rt (es_if h (by cases t <;> exact h2))
theorem ess_for {t : Tgt} {it : E} {body : List S} {xs : List D} (h1 : (evE Γ it env).bind items = .ok xs) (h2 : onAll lock (pks it) env = e1) (h3 : evFor (evSs Γ body) (bindT t) env xs e1 = .nx e2) (h4 : unlock env (pks it) e2 = e3) (h5 : evSs Γ r e3 = o) : evSs Γ (.fr t it body :: r) env = o :=
  ess_nx (es_for h1 h2 h3 rfl) (by rw [h4]; exact h5)
theorem ess_ret {e : E} (h : evE Γ e env = .ok d) : evSs Γ (.ret e :: r) env = .ret d (frs e) := ess_rt (by rw [es_ret, h, o_ok'])
theorem ess_app {i : Nat} {e : E} {xs : List D} (h0 : gt env i = .own (.lst xs)) (h : evE Γ e env = .ok d) (hl : xs.length < 1000000) (he : env.set i (.own (.lst (xs ++ [d]))) = e1) (h2 : evSs Γ r e1 = o) : evSs Γ (.app i e :: r) env = o :=
  ess_nx (by rw [es_app, h0, ownL_own, y_ok, h, o_ok', if_pos (decide_eq_true hl), he]) h2
theorem ess_wf {is : List Nat} {s : S} (h : evSs Γ (s :: r) (onAll freeze is env) = o) (hs : ∃ e, evS Γ s (onAll freeze is env) = .nx e) : evSs Γ (.wf is s :: r) env = o := by
  obtain ⟨e, he⟩ := hs
  rw [ess_cons, he] at h
  exact ess_nx (by rw [es_wf, he]) h
end
/-! ### loops -/
section
variable {ι : Type} {body : Env → Out} {bd : D → Env → R Env} {e0 : Env}
theorem ef_find {env : Env} {d : D} {b : Bool} (f : ι → D) (p : ι → Bool) : ∀ xs : List ι, (∀ x ∈ xs, ∃ e1, bd (f x) env = .ok e1 ∧ (p x = true → body e1 = .ret d b) ∧ (p x = false → ∃ e2, body e1 = .nx e2 ∧ mask e0 e2 = env)) →
    evFor body bd e0 (xs.map f) env = if xs.any p then .ret d b else .nx env
  | [], _ => rfl
  | x :: xs, h => by
    obtain ⟨e1, h1, h2, h3⟩ := h x List.mem_cons_self
    rw [List.map_cons, List.any_cons]
    cases c : p x with
    | true => exact ef_ret h1 (h2 c)
    | false =>
      obtain ⟨e2, h4, h5⟩ := h3 c
      exact ef_nx h1 h4 h5 (ef_find f p xs fun y hy => h y (List.mem_cons_of_mem _ hy))
theorem ef_same {env : Env} (f : ι → D) : ∀ xs : List ι, (∀ x ∈ xs, ∃ e1 e2, bd (f x) env = .ok e1 ∧ body e1 = .nx e2 ∧ mask e0 e2 = env) → evFor body bd e0 (xs.map f) env = .nx env
  | [], _ => rfl
  | x :: xs, h => by
    obtain ⟨e1, e2, h1, h2, h3⟩ := h x List.mem_cons_self
    exact ef_nx h1 h2 h3 (ef_same f xs fun y hy => h y (List.mem_cons_of_mem _ hy))
theorem ef_fold {σ : Type} (f : ι → D) (step : σ → ι → σ) (St : σ → Env) (P : Nat → σ → Prop) (N : Nat) : ∀ (xs : List ι) (i : Nat) (s : σ), i + xs.length ≤ N → P i s → (∀ i s x, x ∈ xs → i < N → P i s → P (i + 1) (step s x) ∧ ∃ e1 e2, bd (f x) (St s) = .ok e1 ∧ body e1 = .nx e2 ∧ mask e0 e2 = St (step s x)) →
    evFor body bd e0 (xs.map f) (St s) = .nx (St (xs.foldl step s)) ∧ P (i + xs.length) (xs.foldl step s)
  | [], i, s, _, h0, _ => ⟨rfl, h0⟩
  | x :: xs, i, s, hN, h0, h => by
    rw [List.length_cons] at hN
    obtain ⟨hP, e1, e2, h1, h2, h3⟩ := h i s x List.mem_cons_self (by omega) h0
    obtain ⟨a, b⟩ := ef_fold f step St P N xs (i + 1) (step s x) (by omega) hP fun i s y hy => h i s y (List.mem_cons_of_mem _ hy)
    refine ⟨ef_nx h1 h2 h3 a, ?_⟩
    rw [List.length_cons, show i + (xs.length + 1) = i + 1 + xs.length by omega]
    exact b
/-- some state -/
theorem ef_ex {σ : Type} (f : ι → D) (St : σ → Env) (P : Nat → σ → Prop) (N : Nat) : ∀ (xs : List ι) (i : Nat) (s : σ), i + xs.length ≤ N → P i s → (∀ i s x, x ∈ xs → i < N → P i s → ∃ s', P (i + 1) s' ∧ ∃ e1 e2, bd (f x) (St s) = .ok e1 ∧ body e1 = .nx e2 ∧ mask e0 e2 = St s') →
    ∃ s', P (i + xs.length) s' ∧ evFor body bd e0 (xs.map f) (St s) = .nx (St s')
  | [], i, s, _, h0, _ => ⟨s, h0, rfl⟩
  | x :: xs, i, s, hN, h0, h => by
    rw [List.length_cons] at hN
    obtain ⟨s1, hP, e1, e2, h1, h2, h3⟩ := h i s x List.mem_cons_self (by omega) h0
    obtain ⟨s', a, b⟩ := ef_ex f St P N xs (i + 1) s1 (by omega) hP fun i s y hy => h i s y (List.mem_cons_of_mem _ hy)
    refine ⟨s', ?_, ef_nx h1 h2 h3 b⟩
    rw [List.length_cons, show i + (xs.length + 1) = i + 1 + xs.length by omega]
    exact a
/-- a list that grows by what each turn adds -/
theorem ef_acc {α : Type} (f : ι → D) (g : ι → List α) (St : List α → Env) (B : Nat) (xs : List ι) (acc : List α) (hb : acc.length + (xs.flatMap g).length ≤ B) (h : ∀ acc x, x ∈ xs → acc.length + (g x).length ≤ B → ∃ e1 e2, bd (f x) (St acc) = .ok e1 ∧ body e1 = .nx e2 ∧ mask e0 e2 = St (acc ++ g x)) :
    evFor body bd e0 (xs.map f) (St acc) = .nx (St (acc ++ xs.flatMap g)) := by
  induction xs generalizing acc with
  | nil => rw [List.flatMap_nil, List.append_nil]; rfl
  | cons x xs ih =>
    rw [List.flatMap_cons, List.length_append] at hb
    obtain ⟨e1, e2, h1, h2, h3⟩ := h acc x List.mem_cons_self (by omega)
    rw [List.flatMap_cons, ← List.append_assoc]
    exact ef_nx h1 h2 h3 (ih (acc ++ g x) (by rw [List.length_append]; omega) fun acc y hy => h acc y (List.mem_cons_of_mem _ hy))
end
theorem made_ok {ys : List D} (h : ys.length ≤ 1000000) : made ys = .ok (.lst ys) := by
  unfold made
  rw [show lenLine ys.length = true from decide_eq_true h]
  rfl
theorem add_lst {xs ys : List D} (h : xs.length + ys.length ≤ 1000000) : addD (.lst xs) (.lst ys) = .ok (.lst (xs ++ ys)) := by
  unfold addD
  dsimp only
  rw [show lenLine (xs.length + ys.length) = true from decide_eq_true h]
  rfl
theorem bin_add (x y : D) : binD .add x y = addD x y := rfl
theorem bin_mul (x y : D) : binD .mul x y = mulD x y := rfl
theorem bin_mod (x y : D) : binD .mod x y = modD x y := rfl
theorem mod_int {i j : Int} (h : 0 < j) : modD (.int i) (.int j) = .ok (.int (i % j)) := by
  unfold modD
  dsimp only
  rw [decide_eq_true h]
  rfl
theorem mul_small {i j : Int} (h : -18446744073709551616 < j ∧ j < 18446744073709551616) : mulD (.int i) (.int j) = .ok (.int (i * j)) := by
  unfold mulD fitMul
  dsimp only
  rw [show (decide (-(2 ^ 64) < j ∧ j < 2 ^ 64)) = true from decide_eq_true (by omega), Bool.or_true, Bool.true_or]
  rfl
theorem cut_map {ι : Type} (f : ι → D) (l : List ι) (lo hi : Option Int) : ∃ m : List ι, m.length ≤ l.length ∧ (∀ x ∈ m, x ∈ l) ∧ cutD (l.map f) lo hi = m.map f := by
  refine ⟨(l.drop (HT.sIx (l.map f).length 0 lo)).take (HT.sIx (l.map f).length (l.map f).length hi - HT.sIx (l.map f).length 0 lo), ?_, fun x hx => ?_, ?_⟩
  · rw [List.length_take, List.length_drop]
    omega
  · exact List.mem_of_mem_drop (List.mem_of_mem_take hx)
  · unfold cutD
    rw [List.map_take, List.map_drop]
/-- draws, one after the other -/
def Dr : List Int → List Int → Prop
  | [], [] => True
  | l :: ls, v :: vs => (0 ≤ v ∧ v < l) ∧ Dr ls vs
  | _, _ => False
theorem drawsL_dr : ∀ (ls : List Int) (r s : Int), (∀ l ∈ ls, 0 < l) → Dr ls (drawsL r s ls)
  | [], _, _, _ => trivial
  | l :: ls, r, s, h => by
    have hl := h l List.mem_cons_self
    rw [drawsL]
    split
    · exact ⟨⟨Int.emod_nonneg _ (by omega), Int.emod_lt_of_pos _ hl⟩, drawsL_dr ls _ _ fun l hl => h l (List.mem_cons_of_mem _ hl)⟩
    · exact ⟨⟨Int.emod_nonneg _ (by omega), Int.emod_lt_of_pos _ hl⟩, drawsL_dr ls _ _ fun l hl => h l (List.mem_cons_of_mem _ hl)⟩
theorem drawsN_dr {c : Int} {ls : List Int} (h : ∀ l ∈ ls, 0 < l) : Dr ls (drawsN c ls) := drawsL_dr ls _ _ h
theorem Dr.cons {l : Int} {ls vs : List Int} (h : Dr (l :: ls) vs) : ∃ v vs', vs = v :: vs' ∧ 0 ≤ v ∧ v < l ∧ Dr ls vs' := by
  cases vs with
  | nil => exact h.elim
  | cons v vs => exact ⟨v, vs, rfl, h.1.1, h.1.2, h.2⟩
theorem Dr.nil {vs : List Int} (h : Dr [] vs) : vs = [] := by
  cases vs with
  | nil => rfl
  | cons v vs => exact h.elim
theorem fit_small {ls : List Int} (h : ∀ l ∈ ls, 0 < l ∧ l < 18446744073709551616) : ∀ l ∈ ls, fitDiv l = true := fun l hl => by
  obtain ⟨a, b⟩ := h l hl
  unfold fitDiv
  refine decide_eq_true ⟨a, ?_⟩
  have h1 : l.natAbs < 2 ^ 64 := by omega
  have h2 : l.natAbs.log2 < 64 := (Nat.log2_lt (by omega)).mpr h1
  omega
theorem sortI_asc {l : List Int} (h : l.Nodup) : (sortI l).Pairwise (· < ·) := by
  have nd : (sortI l).Nodup := (sortI_perm l).nodup_iff.mpr h
  exact ((sortI_pw l).and nd).imp fun h => by
    have h1 := h.1
    have h2 : _ ≠ _ := h.2
    omega
theorem toInts_map : ∀ l : List Int, toInts (l.map .int) = some l
  | [] => rfl
  | i :: l => by
    show (toInts (l.map .int)).map (i :: ·) = _
    rw [toInts_map l]
    rfl
theorem sorted_ints (l : List Int) : sortedD [.lst (l.map .int)] = .ok (.lst ((sortI l).map .int)) := by
  unfold sortedD
  dsimp only
  rw [toInts_map]
theorem sortI_len (l : List Int) : (sortI l).length = l.length := (sortI_perm l).length_eq
/-! ### apart, joined -/
def apartB : Body := ⟨3, false, [.fr (.nm 2) (.peek 0) [.ife (.cmp .isin (.peek 2) (.peek 1)) [.ret (.cst (.bl false))] []], .ret (.cst (.bl true))], none⟩
def apZ (p q : List Int) : Bool := !(p.any fun x => decide (x ∈ q))
theorem apart_run (Γ : Glob) (p q : List Int) : runB Γ apartB [.frz (tupZ p), .frz (tupZ q)] = .ok (.bl (apZ p q)) := by
  have lp : evFor (evSs Γ [.ife (.cmp .isin (.peek 2) (.peek 1)) [.ret (.cst (.bl false))] []]) (bindT (.nm 2)) [.frz (tupZ p), .frz (tupZ q), .un] (p.map D.int) [.frz (tupZ p), .frz (tupZ q), .un] =
      if p.any (fun x => decide (x ∈ q)) then .ret (.bl false) false else .nx [.frz (tupZ p), .frz (tupZ q), .un] := by
    refine ef_find D.int (fun x => decide (x ∈ q)) p fun x _ => ⟨[.frz (tupZ p), .frz (tupZ q), .frz (.int x)], rfl, ?_⟩
    have c : evE Γ (.cmp .isin (.peek 2) (.peek 1)) [.frz (tupZ p), .frz (tupZ q), .frz (.int x)] = .ok (.bl (decide (x ∈ q))) := by
      simp [cmpD, in_tupZ]
    refine ⟨fun h => ?_, fun h => ?_⟩
    · rw [h] at c
      exact ess_if_ret c rfl
    · rw [h] at c
      exact ⟨_, ess_if c rfl rfl, rfl⟩
  refine run_ret (env := [.frz (tupZ p), .frz (tupZ q), .un]) (own := false) rfl ?_ rfl
  unfold apZ
  cases c : p.any fun x => decide (x ∈ q) with
  | true =>
    rw [c] at lp
    exact ess_rt (es_for_ret (xs := p.map D.int) rfl rfl lp)
  | false =>
    rw [c] at lp
    exact ess_for (xs := p.map D.int) rfl rfl lp rfl (ess_ret rfl)
def joinedB (ap : Nat) : Body := ⟨2, false, [.ife (.not (.call false ap [.peek 0, .peek 1])) [.ret (.cst .non)] [], .ret (.bi .tuple [.bi .sorted [.bin .add (.bi .list [.peek 0]) (.bi .list [.peek 1])]])], none⟩
def jn (p q : List Int) : Option (List Int) := if apZ p q then some (sortI (p ++ q)) else none
def optT : Option (List Int) → D
  | none => .non
  | some l => tupZ l
theorem joined_run {Γ : Glob} {ap : Nat} (ha : ∀ p q, Γ.call ap [.frz (tupZ p), .frz (tupZ q)] = .ok (.bl (apZ p q))) (p q : List Int) (hb : p.length + q.length ≤ 1000000) : runB Γ (joinedB ap) [.frz (tupZ p), .frz (tupZ q)] = .ok (optT (jn p q)) := by
  have c : evE Γ (.not (.call false ap [.peek 0, .peek 1])) [.frz (tupZ p), .frz (tupZ q)] = .ok (.bl (!apZ p q)) := by
    simp [ha]
  unfold jn
  cases h : apZ p q with
  | false =>
    rw [h] at c
    exact run_ret (own := false) rfl (ess_if_ret c rfl) rfl
  | true =>
    rw [h] at c
    refine run_ret (env := [.frz (tupZ p), .frz (tupZ q)]) (own := true) rfl (ess_if c rfl (ess_ret (d := tupZ (sortI (p ++ q))) ?_)) rfl
    have e1 : evE Γ (.bin .add (.bi .list [.peek 0]) (.bi .list [.peek 1])) [.frz (tupZ p), .frz (tupZ q)] = .ok (.lst ((p ++ q).map .int)) := by
      show addD (.lst (p.map .int)) (.lst (q.map .int)) = _
      rw [add_lst (by rw [List.length_map, List.length_map]; exact hb), List.map_append]
    rw [ev_bi, evs_cons, ev_bi, evs_cons, e1]
    rw [b_ok, evs_nil, m_ok, b_ok, show biD Bi.sorted [.lst ((p ++ q).map .int)] = sortedD [.lst ((p ++ q).map .int)] from rfl, sorted_ints]
    rfl
/-! ### rank, ranked -/
def rankB : Body := ⟨1, false, [.ret (.tup [.neg (.idx (.peek 0) (.cst (.int 0))), .idx (.peek 0) (.cst (.int 1))])], none⟩
theorem rank_run (Γ : Glob) (p : Itm) : runB Γ rankB [.frz (it p)] = .ok (rkey p) := rfl
def rankedB (k : Nat) : Body := ⟨1, true, [.ret (.srt k (.bi .sset [.peek 0]))], none⟩
theorem ranked_run {Γ : Glob} {k : Nat} (hr : ∀ p, Γ.call k [.frz (it p)] = .ok (rkey p)) (l : List Itm) (hl : l.length < 1000) {L : Slot} (h : Sn (.lst (l.map it)) L) : runB Γ (rankedB k) [L] = .ok (.lst ((rk l).map it)) := by
  obtain ⟨m, e1, nd, hm⟩ := sset_of l hl
  refine run_ret (own := true) rfl (ess_ret (d := .lst ((rk l).map it)) ?_) rfl
  rw [ev_srt, ev_bi, evs_cons, ev_peek]
  show R.bind (R.bind (R.bind L.val _) _) _ = _
  rw [h.val, b_ok, evs_nil, m_ok, b_ok]
  show R.bind (ssetD [.lst (l.map it)]) _ = _
  rw [e1, b_ok, srtD, keysL_map hr, n_ok, b_ok, if_pos (sortOk_pairs _ fun d hd => by
    obtain ⟨p, _, rfl⟩ := List.mem_map.mp hd
    exact ⟨-p.1, p.2, rfl⟩), sortK_rk m nd, rk_ext hm]
end Mi
namespace Mi
open PySem L2
/-! ### _law_same, by copies -/
def sameB (rec : E) : Body := ⟨3, false, [.ife (.isN false (.peek 1)) [.ret (.isN false (.peek 0))] [], .ife (.isi .bool (.peek 1)) [.ret (.and (.isi .bool (.peek 0)) (.cmp .eq (.peek 0) (.peek 1)))] [], .ife (.isi .int (.peek 1)) [.ret (.and (.isi .int (.peek 0)) (.and (.not (.isi .bool (.peek 0))) (.cmp .eq (.peek 0) (.peek 1))))] [],
  .ife (.isi .str (.peek 1)) [.ret (.and (.isi .str (.peek 0)) (.cmp .eq (.peek 0) (.peek 1)))] [], .ife (.and (.isi .tuple (.peek 1)) (.not (.isi .tuple (.peek 0)))) [.ret (.cst (.bl false))] [], .ife (.and (.isi .list (.peek 1)) (.not (.isi .list (.peek 0)))) [.ret (.cst (.bl false))] [], .ife (.cmp .ne (.bi .len [.peek 0]) (.bi .len [.peek 1])) [.ret (.cst (.bl false))] [],
  .fr (.nm 2) (.rng none (.bi .len [.peek 1]) none) [.ife (.not rec) [.ret (.cst (.bl false))] []], .ret (.cst (.bl true))], none⟩
def sameR (k : Nat) : E := .call false k [.idx (.peek 0) (.peek 2), .idx (.peek 1) (.peek 2)]
/-- data n deep -/
def sd : Nat → D → Bool
  | _, .non => true
  | _, .bl _ => true
  | _, .int _ => true
  | _, .str s => PyData.strOk s
  | 0, .tup xs => xs.isEmpty
  | 0, .lst xs => xs.isEmpty
  | n + 1, .tup xs => xs.all (sd n) && decide (xs.length ≤ 1000000)
  | n + 1, .lst xs => xs.all (sd n) && decide (xs.length ≤ 1000000)
  | _, _ => false
section
variable {Γ : Glob} {rec : E} {L M : Slot}
theorem same_seq {d : D} {xs : List D} (hd : d = .tup xs ∨ d = .lst xs) (hL : Sn d L) (hM : Sn d M) (hl : xs.length ≤ 1000000) (hr : ∀ (i : Nat) x, xs[i]? = some x → evE Γ rec [L, M, .frz (.int i)] = .ok (.bl true)) : runB Γ (sameB rec) [L, M] = .ok (.bl true) := by
  have lp : evFor (evSs Γ [.ife (.not rec) [.ret (.cst (.bl false))] []]) (bindT (.nm 2)) [L, M, .un] ((List.range xs.length).map fun (k : Nat) => D.int (k : Int)) [L, M, .un] = .nx [L, M, .un] := by
    rw [ef_find (fun (k : Nat) => D.int (k : Int)) (fun _ => false) (d := .non) (b := false) (List.range xs.length) fun k hk => ⟨[L, M, .frz (.int k)], rfl, fun h => (by cases h), fun _ => ⟨[L, M, .frz (.int k)], ?_, ?_⟩⟩]
    · simp
    · have hk := List.mem_range.mp hk
      have e : evE Γ (.not rec) [L, M, .frz (.int k)] = .ok (.bl false) := by
        rw [ev_not, hr k xs[k] (List.getElem?_eq_getElem hk), b_ok]
        rfl
      exact ess_if e rfl rfl
    · rw [hL.mk, hM.mk]
      rfl
  refine run_ret (env := [L, M, .un]) (own := false) rfl ?_ rfl
  have v1 : evE Γ (.peek 1) [L, M, .un] = .ok d := by rw [ev_peek, gt_succ, gt_zero, hM.val]
  have v0 : evE Γ (.peek 0) [L, M, .un] = .ok d := by rw [ev_peek, gt_zero, hL.val]
  have k1 : evE Γ (.isN false (.peek 1)) [L, M, .un] = .ok (.bl false) := by rw [ev_isN, v1]; rcases hd with h | h <;> (subst h; rfl)
  have k2 : evE Γ (.isi .bool (.peek 1)) [L, M, .un] = .ok (.bl false) := by rw [ev_isi, v1]; rcases hd with h | h <;> (subst h; rfl)
  have k3 : evE Γ (.isi .int (.peek 1)) [L, M, .un] = .ok (.bl false) := by rw [ev_isi, v1]; rcases hd with h | h <;> (subst h; rfl)
  have k4 : evE Γ (.isi .str (.peek 1)) [L, M, .un] = .ok (.bl false) := by rw [ev_isi, v1]; rcases hd with h | h <;> (subst h; rfl)
  have k5 : evE Γ (.and (.isi .tuple (.peek 1)) (.not (.isi .tuple (.peek 0)))) [L, M, .un] = .ok (.bl false) := by rw [ev_and, ev_isi, v1, ev_not, ev_isi, v0]; rcases hd with h | h <;> (subst h; rfl)
  have k6 : evE Γ (.and (.isi .list (.peek 1)) (.not (.isi .list (.peek 0)))) [L, M, .un] = .ok (.bl false) := by rw [ev_and, ev_isi, v1, ev_not, ev_isi, v0]; rcases hd with h | h <;> (subst h; rfl)
  have l0 : evE Γ (.bi .len [.peek 0]) [L, M, .un] = .ok (.int xs.length) := by rw [ev_bi, evs_cons, v0]; rcases hd with h | h <;> (subst h; rfl)
  have l1 : evE Γ (.bi .len [.peek 1]) [L, M, .un] = .ok (.int xs.length) := by rw [ev_bi, evs_cons, v1]; rcases hd with h | h <;> (subst h; rfl)
  have k7 : evE Γ (.cmp .ne (.bi .len [.peek 0]) (.bi .len [.peek 1])) [L, M, .un] = .ok (.bl false) := by
    rw [ev_cmp, l0, l1]
    exact neR_self (d := .int xs.length) rfl
  exact ess_if k1 rfl (ess_if k2 rfl (ess_if k3 rfl (ess_if k4 rfl (ess_if k5 rfl (ess_if k6 rfl (ess_if k7 rfl (ess_for (rng0 l1 (by omega)) rfl lp rfl (ess_ret rfl))))))))
theorem same_atom {d : D} (hd : (∃ i, d = .int i) ∨ (∃ b, d = .bl b) ∨ d = .non ∨ ∃ s, d = .str s ∧ PyData.strOk s = true) (hL : Sn d L) (hM : Sn d M) : runB Γ (sameB rec) [L, M] = .ok (.bl true) := by
  have v1 : evE Γ (.peek 1) [L, M, .un] = .ok d := by rw [ev_peek, gt_succ, gt_zero, hM.val]
  have v0 : evE Γ (.peek 0) [L, M, .un] = .ok d := by rw [ev_peek, gt_zero, hL.val]
  refine run_ret (env := [L, M, .un]) (own := false) rfl ?_ rfl
  rcases hd with ⟨i, rfl⟩ | ⟨b, rfl⟩ | rfl | ⟨s, rfl, hs⟩
  · have k1 : evE Γ (.isN false (.peek 1)) [L, M, .un] = .ok (.bl false) := by rw [ev_isN, v1]; rfl
    have k2 : evE Γ (.isi .bool (.peek 1)) [L, M, .un] = .ok (.bl false) := by rw [ev_isi, v1]; rfl
    have k3 : evE Γ (.isi .int (.peek 1)) [L, M, .un] = .ok (.bl true) := by rw [ev_isi, v1]; rfl
    refine ess_if k1 rfl (ess_if k2 rfl (ess_if_ret k3 (ess_ret ?_)))
    rw [ev_and, ev_isi, v0, b_ok]
    show evE Γ (.and (.not (.isi .bool (.peek 0))) (.cmp .eq (.peek 0) (.peek 1))) [L, M, .un] = _
    rw [ev_and, ev_not, ev_isi, v0, b_ok]
    show evE Γ (.cmp .eq (.peek 0) (.peek 1)) [L, M, .un] = _
    rw [ev_cmp, v0, v1]
    exact eqR_self (d := .int i) rfl
  · have k1 : evE Γ (.isN false (.peek 1)) [L, M, .un] = .ok (.bl false) := by rw [ev_isN, v1]; rfl
    have k2 : evE Γ (.isi .bool (.peek 1)) [L, M, .un] = .ok (.bl true) := by rw [ev_isi, v1]; rfl
    refine ess_if k1 rfl (ess_if_ret k2 (ess_ret ?_))
    rw [ev_and, ev_isi, v0, b_ok]
    show evE Γ (.cmp .eq (.peek 0) (.peek 1)) [L, M, .un] = _
    rw [ev_cmp, v0, v1]
    exact eqR_self (d := .bl b) rfl
  · have k1 : evE Γ (.isN false (.peek 1)) [L, M, .un] = .ok (.bl true) := by rw [ev_isN, v1]; rfl
    refine ess_if_ret k1 (ess_ret ?_)
    rw [ev_isN, v0]
    rfl
  · have k1 : evE Γ (.isN false (.peek 1)) [L, M, .un] = .ok (.bl false) := by rw [ev_isN, v1]; rfl
    have k2 : evE Γ (.isi .bool (.peek 1)) [L, M, .un] = .ok (.bl false) := by rw [ev_isi, v1]; rfl
    have k3 : evE Γ (.isi .int (.peek 1)) [L, M, .un] = .ok (.bl false) := by rw [ev_isi, v1]; rfl
    have k4 : evE Γ (.isi .str (.peek 1)) [L, M, .un] = .ok (.bl true) := by rw [ev_isi, v1]; rfl
    refine ess_if k1 rfl (ess_if k2 rfl (ess_if k3 rfl (ess_if_ret k4 (ess_ret ?_))))
    rw [ev_and, ev_isi, v0, b_ok]
    show evE Γ (.cmp .eq (.peek 0) (.peek 1)) [L, M, .un] = _
    rw [ev_cmp, v0, v1]
    exact eqR_self (d := .str s) hs
theorem same_run0 {d : D} (h : sd 0 d = true) (hL : Sn d L) (hM : Sn d M) : runB Γ (sameB rec) [L, M] = .ok (.bl true) := by
  cases d with
  | non => exact same_atom (.inr (.inr (.inl rfl))) hL hM
  | bl b => exact same_atom (.inr (.inl ⟨b, rfl⟩)) hL hM
  | int i => exact same_atom (.inl ⟨i, rfl⟩) hL hM
  | str s => exact same_atom (.inr (.inr (.inr ⟨s, rfl, h⟩))) hL hM
  | tup xs =>
    cases xs with
    | nil => exact same_seq (.inl rfl) hL hM (by simp) fun i x hx => by simp at hx
    | cons x r => cases h
  | lst xs =>
    cases xs with
    | nil => exact same_seq (.inr rfl) hL hM (by simp) fun i x hx => by simp at hx
    | cons x r => cases h
  | dct _ _ => cases h
  | ins _ _ _ => cases h
  | scr _ => cases h
  | itr _ => cases h
theorem same_runS {n k : Nat} (ih : ∀ d, sd n d = true → Γ.call k [.frz d, .frz d] = .ok (.bl true)) {d : D} (h : sd (n + 1) d = true) (hL : Sn d L) (hM : Sn d M) : runB Γ (sameB (sameR k)) [L, M] = .ok (.bl true) := by
  have go : ∀ xs, (d = .tup xs ∨ d = .lst xs) → xs.all (sd n) = true → ∀ (i : Nat) x, xs[i]? = some x → evE Γ (sameR k) [L, M, .frz (.int i)] = .ok (.bl true) := fun xs hd ha i x hx => by
    have hx' := ih x (List.all_eq_true.mp ha x (List.mem_of_getElem? hx))
    have e : ∀ N, Sn d N → (Mi.Slot.val N).bind (fun x => (evE Γ (.peek 2) [L, M, .frz (.int i)]).bind fun y => idxD x y) = .ok x := fun N hN => by
      rw [hN.val, b_ok, show evE Γ (.peek 2) [L, M, .frz (.int i)] = .ok (.int i) from rfl, b_ok]
      rcases hd with h | h
      · subst h
        show optR (L2.atI xs (i : Int)) = _
        rw [atI_nat, hx]
        rfl
      · subst h
        show optR (L2.atI xs (i : Int)) = _
        rw [atI_nat, hx]
        rfl
    have e0 : evE Γ (.idx (.peek 0) (.peek 2)) [L, M, .frz (.int i)] = .ok x := e L hL
    have e1 : evE Γ (.idx (.peek 1) (.peek 2)) [L, M, .frz (.int i)] = .ok x := e M hM
    unfold sameR
    rw [ev_call, eva_cons, e0, b_ok, eva_cons, e1, b_ok, eva_nil]
    exact hx'
  cases d with
  | non => exact same_atom (.inr (.inr (.inl rfl))) hL hM
  | bl b => exact same_atom (.inr (.inl ⟨b, rfl⟩)) hL hM
  | int i => exact same_atom (.inl ⟨i, rfl⟩) hL hM
  | str s => exact same_atom (.inr (.inr (.inr ⟨s, rfl, h⟩))) hL hM
  | tup xs =>
    rw [sd, Bool.and_eq_true, decide_eq_true_eq] at h
    exact same_seq (.inl rfl) hL hM h.2 (go xs (.inl rfl) h.1)
  | lst xs =>
    rw [sd, Bool.and_eq_true, decide_eq_true_eq] at h
    exact same_seq (.inr rfl) hL hM h.2 (go xs (.inr rfl) h.1)
  | dct _ _ => cases h
  | ins _ _ _ => cases h
  | scr _ => cases h
  | itr _ => cases h
theorem sd_ints (n : Nat) (l : List Int) : (l.map D.int).all (sd n) = true := by
  rw [List.all_eq_true]
  intro d hd
  obtain ⟨i, _, rfl⟩ := List.mem_map.mp hd
  cases n <;> rfl
theorem sd_tupZ (n : Nat) (l : List Int) (h : l.length ≤ 1000000) : sd (n + 1) (tupZ l) = true := by
  show ((l.map D.int).all (sd n) && decide ((l.map D.int).length ≤ 1000000)) = true
  rw [sd_ints, List.length_map, decide_eq_true h]
  rfl
theorem sd_it (n : Nat) (p : Itm) (h : p.2.length ≤ 1000000) : sd (n + 2) (it p) = true := by
  show ((sd (n + 1) (.int p.1) && (sd (n + 1) (tupZ p.2) && true)) && true) = true
  rw [sd_tupZ n p.2 h]
  rfl
theorem sd_its (n : Nat) (l : List Itm) (hl : l.length ≤ 1000000) (h : ∀ p ∈ l, p.2.length ≤ 1000000) : sd (n + 3) (.lst (l.map it)) = true := by
  show ((l.map it).all (sd (n + 2)) && decide ((l.map it).length ≤ 1000000)) = true
  rw [List.length_map, decide_eq_true hl, Bool.and_true, List.all_eq_true]
  intro d hd
  obtain ⟨p, hp, rfl⟩ := List.mem_map.mp hd
  exact sd_it n p (h p hp)
end
end Mi
namespace Mi
open PySem L2
/-! ### _law_before, _law_by_rank -/
def beforeB : Body := ⟨2, false, [.ife (.cmp .ne (.idx (.peek 0) (.cst (.int 0))) (.idx (.peek 1) (.cst (.int 0)))) [.ret (.cmp .gt (.idx (.peek 0) (.cst (.int 0))) (.idx (.peek 1) (.cst (.int 0))))] [], .ret (.cmp .lt (.idx (.peek 0) (.cst (.int 1))) (.idx (.peek 1) (.cst (.int 1))))], none⟩
theorem before_run (Γ : Glob) (p q : Itm) : runB Γ beforeB [.frz (it p), .frz (it q)] = .ok (.bl (bef p q)) := by
  have c : evE Γ (.cmp .ne (.idx (.peek 0) (.cst (.int 0))) (.idx (.peek 1) (.cst (.int 0)))) [.frz (it p), .frz (it q)] = .ok (.bl (!(p.1 == q.1))) := rfl
  unfold bef
  by_cases h : p.1 = q.1
  · have e : (!(p.1 == q.1)) = false := by simp [h]
    rw [e] at c
    refine run_ret (env := [.frz (it p), .frz (it q)]) (own := false) rfl (ess_if c rfl (ess_ret ?_)) rfl
    have : ¬ q.1 < p.1 := by omega
    rw [decide_eq_false this, decide_eq_true h, Bool.false_or, Bool.true_and]
    exact lt_tupZ p.2 q.2
  · have e : (!(p.1 == q.1)) = true := by simp [h]
    rw [e] at c
    refine run_ret (env := [.frz (it p), .frz (it q)]) (own := false) rfl (ess_if_ret c (ess_ret ?_)) rfl
    rw [decide_eq_false h, Bool.false_and, Bool.or_false]
    rfl
def pl (p : Itm) : List Itm → Nat
  | [] => 0
  | q :: r => if bef q p then pl p r + 1 else 0
theorem pl_lt {p : Itm} : ∀ {l : List Itm} {j : Nat}, j < pl p l → ∃ q, l[j]? = some q ∧ bef q p = true
  | [], j, h => by simp [pl] at h
  | q :: r, j, h => by
    rw [pl] at h
    split at h
    · rename_i c
      cases j with
      | zero => exact ⟨q, rfl, c⟩
      | succ j => exact pl_lt (l := r) (by omega)
    · omega
theorem pl_le {p : Itm} : ∀ l : List Itm, pl p l ≤ l.length
  | [] => Nat.le_refl _
  | q :: r => by
    rw [pl]
    have := pl_le (p := p) r
    rw [List.length_cons]
    split <;> omega
theorem pl_at {p : Itm} : ∀ {l : List Itm} {q : Itm}, l[pl p l]? = some q → bef q p = false
  | [], _, h => by simp [pl] at h
  | q :: r, x, h => by
    rw [pl] at h
    split at h
    · exact pl_at (l := r) (by simpa using h)
    · rename_i c
      simp at h
      subst h
      simpa using c
theorem ins_pl {p : Itm} : ∀ l : List Itm, ins p l = if l[pl p l]? = some p then l else l.take (pl p l) ++ [p] ++ l.drop (pl p l)
  | [] => rfl
  | q :: r => by
    rw [ins, pl]
    split
    · rw [ins_pl r]
      have e : (q :: r)[pl p r + 1]? = r[pl p r]? := by simp
      rw [e]
      split <;> rfl
    · have e : (q :: r)[0]? = some q := rfl
      rw [e]
      by_cases h : q = p
      · rw [if_pos h, if_pos (by rw [h])]
      · rw [if_neg h, if_neg (by simpa using h)]
        rfl
def byRankB (bf : Nat) : Body := ⟨4, true, [.asg (.nm 1) (.lst []), .fr (.nm 2) (.peek 0) [.asg (.nm 3) (.cst (.int 0)), .whl (.and (.cmp .lt (.peek 3) (.bi .len [.peek 1])) (.call false bf [.idx (.peek 1) (.peek 3), .peek 2])) [.asg (.nm 3) (.bin .add (.peek 3) (.cst (.int 1)))],
  .ife (.or (.cmp .eq (.peek 3) (.bi .len [.peek 1])) (.cmp .ne (.idx (.peek 1) (.peek 3)) (.peek 2))) [.ins 1 (.peek 3) (.var 2)] []], .retv 1], none⟩
section
variable {Γ : Glob} {bf : Nat} (hb : ∀ p q, Γ.call bf [.frz (it p), .frz (it q)] = .ok (.bl (bef p q))) {L : Slot} {d : D} (hL : Sn d L)
abbrev brE (L : Slot) (acc : List Itm) (p : Itm) (k : Nat) : Env := [L, .own (.lst (acc.map it)), .frz (it p), .frz (.int (k : Int))]
theorem br_at {acc : List Itm} {p q : Itm} {k : Nat} (h : acc[k]? = some q) : evE Γ (.idx (.peek 1) (.peek 3)) (brE L acc p k) = .ok (it q) := by
  show optR (L2.atI (acc.map it) (k : Int)) = _
  rw [atI_nat, List.getElem?_map, h]
  rfl
theorem br_len (acc : List Itm) (p : Itm) (k : Nat) : evE Γ (.bi .len [.peek 1]) (brE L acc p k) = .ok (.int acc.length) := by
  show lenD [.lst (acc.map it)] = _
  unfold lenD
  dsimp only
  rw [List.length_map]
include hb in
theorem br_cond (acc : List Itm) (p : Itm) (k : Nat) (hk : k ≤ pl p acc) : evE Γ (.and (.cmp .lt (.peek 3) (.bi .len [.peek 1])) (.call false bf [.idx (.peek 1) (.peek 3), .peek 2])) (brE L acc p k) = .ok (.bl (decide (k < pl p acc))) := by
  rw [ev_and, ev_cmp, br_len, show evE Γ (.peek 3) (brE L acc p k) = .ok (.int (k : Int)) from rfl, b_ok, b_ok]
  show R.bind (R.ok (D.bl (decide ((k : Int) < (acc.length : Int))))) _ = _
  rw [b_ok]
  have call : ∀ q, acc[k]? = some q → evE Γ (.call false bf [.idx (.peek 1) (.peek 3), .peek 2]) (brE L acc p k) = .ok (.bl (bef q p)) := fun q hq => by
    rw [ev_call, eva_cons, br_at hq, b_ok]
    exact hb q p
  by_cases h : k < acc.length
  · rw [decide_eq_true (show (k : Int) < (acc.length : Int) by omega)]
    obtain ⟨q, hq⟩ : ∃ q, acc[k]? = some q := ⟨_, List.getElem?_eq_getElem h⟩
    show evE Γ (.call false bf [.idx (.peek 1) (.peek 3), .peek 2]) (brE L acc p k) = _
    rw [call q hq]
    by_cases h2 : k < pl p acc
    · obtain ⟨q', h3, h4⟩ := pl_lt h2
      rw [hq] at h3
      cases h3
      rw [h4, decide_eq_true h2]
    · have e : k = pl p acc := by omega
      rw [e] at hq
      rw [pl_at hq, decide_eq_false h2]
  · have := pl_le (p := p) acc
    rw [decide_eq_false (show ¬ (k : Int) < (acc.length : Int) by omega), decide_eq_false (show ¬ k < pl p acc by omega)]
include hb hL in
theorem br_whl (acc : List Itm) (p : Itm) (k0 : Nat) : ∀ (n k m : Nat), k + m = pl p acc → m < n → evWhl (fun e => (evE Γ (.and (.cmp .lt (.peek 3) (.bi .len [.peek 1])) (.call false bf [.idx (.peek 1) (.peek 3), .peek 2])) e).bind truth) (evSs Γ [.asg (.nm 3) (.bin .add (.peek 3) (.cst (.int 1)))]) (brE L acc p k0) n (brE L acc p k) = .nx (brE L acc p (pl p acc))
  | 0, _, _, _, h => absurd h (Nat.not_lt_zero _)
  | n + 1, k, m, h, hn => by
    rw [evWhl, br_cond hb acc p k (by omega), b_ok, truth_bl, o_ok']
    cases m with
    | zero =>
      rw [decide_eq_false (show ¬ k < pl p acc by omega), ← h]
      rfl
    | succ m =>
      rw [decide_eq_true (show k < pl p acc by omega)]
      have e : evSs Γ [.asg (.nm 3) (.bin .add (.peek 3) (.cst (.int 1)))] (brE L acc p k) = .nx (brE L acc p (k + 1)) := rfl
      rw [if_pos rfl, e]
      show evWhl _ _ _ n (mask (brE L acc p k0) (brE L acc p (k + 1))) = _
      have em : mask (brE L acc p k0) (brE L acc p (k + 1)) = brE L acc p (k + 1) := by
        rw [brE, brE, hL.mk]
        rfl
      rw [em]
      exact br_whl acc p k0 n (k + 1) m (by omega) (by omega)
include hb hL in
theorem br_turn (acc : List Itm) (p : Itm) (ha : acc.length < 90000) : ∃ e2, evSs Γ [.asg (.nm 3) (.cst (.int 0)), .whl (.and (.cmp .lt (.peek 3) (.bi .len [.peek 1])) (.call false bf [.idx (.peek 1) (.peek 3), .peek 2])) [.asg (.nm 3) (.bin .add (.peek 3) (.cst (.int 1)))],
  .ife (.or (.cmp .eq (.peek 3) (.bi .len [.peek 1])) (.cmp .ne (.idx (.peek 1) (.peek 3)) (.peek 2))) [.ins 1 (.peek 3) (.var 2)] []] [L, .own (.lst (acc.map it)), .frz (it p), .un] = .nx (brE L (ins p acc) p e2) := by
  have hple := pl_le (p := p) acc
  refine ⟨pl p acc, ess_asg (e1 := brE L acc p 0) rfl rfl (ess_nx (e := brE L acc p (pl p acc)) ?_ ?_)⟩
  · rw [es_whl]
    exact br_whl hb hL acc p 0 fuel 0 (pl p acc) (by omega) (Nat.lt_of_le_of_lt hple (Nat.lt_trans ha (by decide)))
  · have c : evE Γ (.or (.cmp .eq (.peek 3) (.bi .len [.peek 1])) (.cmp .ne (.idx (.peek 1) (.peek 3)) (.peek 2))) (brE L acc p (pl p acc)) = .ok (.bl (!decide (acc[pl p acc]? = some p))) := by
      rw [ev_or, ev_cmp, br_len, show evE Γ (.peek 3) (brE L acc p (pl p acc)) = .ok (.int (pl p acc : Int)) from rfl, b_ok, b_ok]
      show R.bind (R.ok (D.bl ((pl p acc : Int) == (acc.length : Int)))) _ = _
      rw [b_ok]
      by_cases h : pl p acc = acc.length
      · have e : ((pl p acc : Int) == (acc.length : Int)) = true := by simp [h]
        have e2 : acc[pl p acc]? = none := List.getElem?_eq_none (by omega)
        rw [e, e2]
        rfl
      · have e : ((pl p acc : Int) == (acc.length : Int)) = false := by simpa using (by omega : ¬ (pl p acc : Int) = (acc.length : Int))
        obtain ⟨q, hq⟩ : ∃ q, acc[pl p acc]? = some q := ⟨_, List.getElem?_eq_getElem (by omega)⟩
        rw [e, hq]
        show evE Γ (.cmp .ne (.idx (.peek 1) (.peek 3)) (.peek 2)) (brE L acc p (pl p acc)) = _
        rw [ev_cmp, br_at hq, b_ok, show evE Γ (.peek 2) (brE L acc p (pl p acc)) = .ok (it p) from rfl, b_ok]
        show neR (it q) (it p) = _
        rw [neR_it]
        by_cases h2 : q = p <;> simp [h2]
    rw [ins_pl]
    by_cases h : acc[pl p acc]? = some p
    · rw [if_pos h]
      rw [decide_eq_true h] at c
      exact ess_if c rfl rfl
    · rw [if_neg h]
      rw [decide_eq_false h] at c
      refine ess_if (e1 := brE L (acc.take (pl p acc) ++ [p] ++ acc.drop (pl p acc)) p (pl p acc)) c (ess_nx ?_ rfl) rfl
      rw [es_ins]
      show R.only (R.ok (acc.map it)) _ = _
      rw [y_ok, show evE Γ (.peek 3) (brE L acc p (pl p acc)) = .ok (.int (pl p acc : Int)) from rfl, o_ok', intOf, y_ok, show evE Γ (.var 2) (brE L acc p (pl p acc)) = .ok (it p) from rfl, o_ok',
        if_pos (decide_eq_true ⟨by rw [List.length_map]; omega, by omega, by omega⟩), Int.toNat_natCast, ← List.map_take, ← List.map_drop]
      show Out.nx [L, .own (.lst (List.map it (List.take (pl p acc) acc) ++ [it p] ++ List.map it (List.drop (pl p acc) acc))), .frz (it p), .frz (.int (pl p acc : Int))] = _
      rw [show List.map it (List.take (pl p acc) acc) ++ [it p] ++ List.map it (List.drop (pl p acc) acc) = (acc.take (pl p acc) ++ [p] ++ acc.drop (pl p acc)).map it by simp]
include hb in
theorem by_rank_run (l : List Itm) (hl : l.length < 90000) {L : Slot} (h : Sn (.lst (l.map it)) L) : runB Γ (byRankB bf) [L] = .ok (.lst ((rk l).map it)) := by
  have lp := (ef_fold (body := evSs Γ [.asg (.nm 3) (.cst (.int 0)), .whl (.and (.cmp .lt (.peek 3) (.bi .len [.peek 1])) (.call false bf [.idx (.peek 1) (.peek 3), .peek 2])) [.asg (.nm 3) (.bin .add (.peek 3) (.cst (.int 1)))],
      .ife (.or (.cmp .eq (.peek 3) (.bi .len [.peek 1])) (.cmp .ne (.idx (.peek 1) (.peek 3)) (.peek 2))) [.ins 1 (.peek 3) (.var 2)] []]) (bd := bindT (.nm 2)) (e0 := [L, .own (.lst []), .un, .un])
    it (fun acc p => ins p acc) (fun acc => [L, .own (.lst (acc.map it)), .un, .un]) (fun i acc => acc.length ≤ i) l.length l 0 [] (by omega) (Nat.le_refl _) fun i acc p hp hN hi => ?_)
  · have e := lp.1
    refine run_ret (env := [L, .un, .un, .un]) (own := true) rfl (ess_asg (e1 := [L, .own (.lst []), .un, .un]) rfl rfl (ess_for (xs := l.map it) (e2 := [L, .own (.lst ((rk l).map it)), .un, .un]) (e3 := [L, .own (.lst ((rk l).map it)), .un, .un]) ?_ ?_ e ?_ (ess_rt ?_))) rfl
    · rw [ev_peek, gt_zero, h.val, b_ok, items_lst]
    · rw [pks_peek, onAll_cons, gt_zero, h.lk]
      rfl
    · rw [pks_peek, unlock_cons, gt_zero, gt_zero, h.un]
      rfl
    · rfl
  · have hi2 : acc.length ≤ i := hi
    refine ⟨Nat.le_trans (ins_len p acc) (by omega), ?_⟩
    obtain ⟨k, hk⟩ := br_turn hb h acc p (by omega)
    refine ⟨_, _, rfl, hk, ?_⟩
    rw [brE, h.mk]
    rfl
end
end Mi
namespace LawK68
open PySem L2 Mi
def top (i : Nat) : PySem.Stmt := PySem.Challenge.pw_fewserve_k68_meeting_sets.main.body.getD i (.Pass ⟨0, 0, 0, 0⟩)
def b_apart : Body := ⟨3, false, [.fr (.nm 2) (.peek 0) [.ife (.cmp .isin (.peek 2) (.peek 1)) [.ret (.cst (.bl false))] []], .ret (.cst (.bl true))], none⟩
def b_without : Body := ⟨3, false, [.ret (.bi .tuple [.comp (.var 2) (.nm 2) (.peek 0) [.cmp .notin (.peek 2) (.peek 1)] [2]])], none⟩
def b_meets : Body := ⟨4, false, [.ret (.cmp .eq (.bi .len [.comp (.var 3) (.tup [.nm 2, .nm 3]) (.peek 0) [.call false 0 [.peek 3, .peek 1]] [2, 3]]) (.cst (.int 0)))], none⟩
def b_branched_meetings : Body := ⟨11, true, [.asg (.nm 2) (.lst []), .asg (.nm 3) (.lst [.tup []]), .fr (.nm 4) (.rng none (.bin .add (.peek 1) (.cst (.int 1))) none) [.asg (.nm 5) (.lst []), .fr (.nm 6) (.peek 3) [.asgC 7 (.comp (.var 9) (.tup [.nm 8, .nm 9]) (.peek 0) [.call false 0 [.peek 9, .peek 6]] [8, 9]), .ife (.cmp .eq (.bi .len [.peek 7]) (.cst (.int 0))) [.app 2 (.var 6)] [.ext 5 (.comp (.bi .tuple [.bi .sorted [.bin .add (.peek 6) (.tup [.var 10])]]) (.nm 10) (.idx (.peek 7) (.cst (.int 0))) [] [10])]], .asg (.nm 3) (.bi .sset [.peek 5])], .retv 2], none⟩
def b_minimal_meetings : Body := ⟨6, true, [.asg (.nm 2) (.lst []), .fr (.nm 3) (.call true 3 [.peek 0, .peek 1]) [.asgC 4 (.comp (.var 5) (.nm 5) (.peek 3) [.call false 2 [.peek 0, .call false 1 [.peek 3, .tup [.var 5]]]] [5]), .ife (.cmp .eq (.bi .len [.peek 4]) (.cst (.int 0))) [.app 2 (.var 3)] []], .retv 2], none⟩
def b_cheapest_meeting : Body := ⟨7, false, [.asgC 3 (.comp (.tup [.bi .sum [.comp (.idx (.peek 1) (.peek 6)) (.nm 6) (.peek 5) [] [6]], .bi .len [.peek 5], .var 5]) (.nm 5) (.call true 4 [.peek 0, .peek 2]) [] [5]), .ife (.cmp .eq (.bi .len [.peek 3]) (.cst (.int 0))) [.ret (.cst .non)] [], .asg (.nm 4) (.bi .min [.peek 3]), .ret (.tup [.idx (.peek 4) (.cst (.int 0)), .idx (.peek 4) (.cst (.int 2))])], none⟩
def b__law_cell : Body := ⟨2, false, [.ife (.cmp .lt (.peek 1) (.bi .len [.peek 0])) [.ret (.idx (.peek 0) (.peek 1))] [], .ret (.bin .add (.bin .mul (.cst (.int 7919)) (.peek 1)) (.cst (.int 104729)))], none⟩
def b__law_draws : Body := ⟨6, true, [.asg (.nm 2) (.cst (.int 0)), .ife (.cmp .ge (.peek 0) (.bin .pow (.cst (.int 10)) (.cst (.int 18)))) [.asg (.nm 2) (.bin .sub (.peek 0) (.bin .pow (.cst (.int 10)) (.cst (.int 18))))] [], .asg (.nm 3) (.bin .mod (.bin .mul (.bi .int [.peek 0]) (.cst (.int 48271))) (.cst (.int 2147483647))), .asg (.nm 4) (.lst []), .fr (.nm 5) (.peek 1) [.asg (.nm 3) (.bin .mod (.bin .add (.bin .mul (.peek 3) (.cst (.int 16807))) (.cst (.int 10007))) (.cst (.int 2147483647))), .ife (.cmp .gt (.peek 2) (.cst (.int 0))) [.app 4 (.bin .mod (.peek 2) (.peek 5)), .asg (.nm 2) (.bin .fdiv (.peek 2) (.peek 5))] [.app 4 (.bin .mod (.bin .fdiv (.peek 3) (.cst (.int 64))) (.peek 5))]], .retv 4], none⟩
def b__law_tuples : Body := ⟨8, true, [.asg (.nm 2) (.lst [.tup []]), .asg (.nm 3) (.lst [.tup []]), .fr (.nm 4) (.rng none (.peek 1) none) [.asg (.nm 5) (.lst []), .fr (.nm 6) (.peek 3) [.fr (.nm 7) (.rng none (.peek 0) none) [.ife (.or (.cmp .eq (.bi .len [.peek 6]) (.cst (.int 0))) (.cmp .gt (.peek 7) (.idx (.peek 6) (.neg (.cst (.int 1)))))) [.app 5 (.bin .add (.peek 6) (.tup [.var 7]))] []]], .asg (.nm 2) (.bin .add (.peek 2) (.peek 5)), .asg (.nm 3) (.bi .list [.peek 5])], .retv 2], none⟩
def b__law_items : Body := ⟨10, true, [.asg (.nm 4) (.lst []), .fr (.nm 5) (.rng none (.peek 3) none) [.asg (.nm 6) (.call true 7 [.call false 6 [.peek 0, .bin .add (.cst (.int 3)) (.peek 5)], .bin .add (.lst [.cst (.int 6), .cst (.int 5), .cst (.int 2000001), .cst (.int 5)]) (.bin .mul (.lst [.cst (.int 5)]) (.peek 1))]), .asg (.nm 7) (.sl (.bi .tuple [.comp (.var 9) (.nm 9) (.rng none (.peek 1) none) [.cmp .lt (.idx (.peek 6) (.bin .add (.cst (.int 4)) (.peek 9))) (.peek 2)] [9]]) none (some (.cst (.int 4)))), .asg (.nm 8) (.bin .sub (.idx (.peek 6) (.cst (.int 1))) (.cst (.int 2))), .ife (.cmp .eq (.idx (.peek 6) (.cst (.int 0))) (.cst (.int 0))) [.asg (.nm 8) (.bin .sub (.idx (.peek 6) (.cst (.int 2))) (.cst (.int 1000000)))] [], .ife (.or (.cmp .gt (.bi .len [.peek 7]) (.cst (.int 0))) (.cmp .eq (.idx (.peek 6) (.cst (.int 3))) (.cst (.int 0)))) [.wf [7] (.app 4 (.tup [.var 8, .var 7]))] [], .ife (.and (.cmp .eq (.idx (.peek 6) (.cst (.int 0))) (.cst (.int 1))) (.cmp .gt (.bi .len [.peek 4]) (.cst (.int 0)))) [.app 4 (.idx (.peek 4) (.bin .mod (.idx (.peek 6) (.cst (.int 2))) (.bi .len [.peek 4])))] []], .retv 4], none⟩
def b__law_meets : Body := ⟨4, false, [.fr (.nm 2) (.peek 0) [.ife (.cmp .notin (.cst (.bl true)) (.comp (.cmp .isin (.peek 3) (.peek 1)) (.nm 3) (.idx (.peek 2) (.cst (.int 1))) [] [3])) [.ret (.cst (.bl false))] []], .ret (.cst (.bl true))], none⟩
def b__law_minimal : Body := ⟨4, false, [.fr (.nm 2) (.peek 1) [.ife (.call false 10 [.peek 0, .comp (.var 3) (.nm 3) (.peek 1) [.cmp .ne (.peek 3) (.peek 2)] [3]]) [.ret (.cst (.bl false))] []], .ret (.call false 10 [.peek 0, .peek 1])], none⟩
def b__law_cost : Body := ⟨3, false, [.ret (.bi .sum [.comp (.idx (.peek 0) (.peek 2)) (.nm 2) (.peek 1) [] [2]])], none⟩
def b__law_cheapest : Body := ⟨6, false, [.asg (.nm 3) (.cst .non), .fr (.nm 4) (.peek 2) [.ife (.call false 10 [.peek 0, .peek 4]) [.asg (.nm 5) (.tup [.call false 12 [.peek 1, .peek 4], .bi .len [.peek 4], .var 4]), .ife (.or (.isN false (.peek 3)) (.cmp .lt (.peek 5) (.peek 3))) [.asg (.nm 3) (.var 5)] []] []], .ife (.isN false (.peek 3)) [.ret (.cst .non)] [], .ret (.tup [.idx (.peek 3) (.cst (.int 0)), .idx (.peek 3) (.cst (.int 2))])], none⟩
def b__law_plain : Body := ⟨2, false, [.ret (.and (.isi .tuple (.peek 0)) (.cmp .notin (.cst (.bl true)) (.comp (.isi .bool (.peek 1)) (.nm 1) (.peek 0) [] [1])))], none⟩
def b__law_same : Body := ⟨2, false, [.ife (.isN false (.peek 1)) [.ret (.isN false (.peek 0))] [], .ife (.or (.not (.isi .tuple (.peek 0))) (.or (.cmp .ne (.bi .len [.peek 0]) (.cst (.int 2))) (.or (.isi .bool (.idx (.peek 0) (.cst (.int 0)))) (.cmp .ne (.peek 0) (.peek 1))))) [.ret (.cst (.bl false))] [], .ret (.call false 14 [.idx (.peek 0) (.cst (.int 1))])], none⟩
def b__law_answers_right : Body := ⟨10, false, [.asg (.nm 4) (.bi .list [.peek 0]), .asg (.nm 5) (.bi .list [.peek 1]), .fr (.nm 6) (.peek 3) [.asg (.nm 7) (.call false 2 [.peek 4, .peek 6]), .ife (.or (.not (.isi .bool (.peek 7))) (.cmp .ne (.peek 7) (.call false 10 [.peek 0, .peek 6]))) [.ret (.cst (.bl false))] [], .ife (.cmp .ne (.call false 2 [.peek 4, .bin .add (.rev (.peek 6)) (.sl (.peek 6) none (some (.cst (.int 1))))]) (.peek 7)) [.ret (.cst (.bl false))] [], .ife (.and (.cmp .lt (.bi .len [.peek 1]) (.cst (.int 12))) (.cmp .ne (.call false 2 [.peek 4, .bin .add (.peek 6) (.tup [.cst (.int 11)])]) (.peek 7))) [.ret (.cst (.bl false))] []], .asg (.nm 7) (.call true 4 [.peek 4, .peek 2]), .asgC 8 (.comp (.var 6) (.nm 6) (.peek 3) [.call false 11 [.peek 0, .peek 6]] [6]), .ife (.or (.not (.isi .list (.peek 7))) (.or (.cmp .ne (.peek 7) (.peek 8)) (.cmp .ne (.peek 4) (.peek 0)))) [.ret (.cst (.bl false))] [], .ife (.cmp .isin (.cst (.bl false)) (.comp (.call false 14 [.peek 6]) (.nm 6) (.peek 7) [] [6])) [.ret (.cst (.bl false))] [], .asg (.nm 9) (.call false 5 [.peek 4, .peek 5, .peek 2]), .ife (.not (.call false 15 [.peek 9, .call false 13 [.peek 0, .peek 1, .peek 3]])) [.ret (.cst (.bl false))] [], .app 7 (.tup [.cst (.int 0), .cst (.int 1)]), .ife (.cmp .ne (.call false 5 [.peek 4, .peek 5, .peek 2]) (.peek 9)) [.ret (.cst (.bl false))] [], .ret (.and (.cmp .eq (.call true 4 [.peek 4, .peek 2]) (.peek 8)) (.and (.cmp .eq (.peek 4) (.peek 0)) (.cmp .eq (.peek 5) (.peek 1))))], none⟩
def b_law : Body := ⟨14, false, [.asg (.nm 1) (.call true 7 [.call false 6 [.peek 0, .cst (.int 0)], .lst [.cst (.int 9), .cst (.int 12), .cst (.int 10), .cst (.int 4), .cst (.int 5), .cst (.int 16)]]), .asg (.nm 2) (.idx (.peek 1) (.cst (.int 0))), .asg (.nm 3) (.idx (.lst [.cst (.int 0), .cst (.int 1), .cst (.int 1), .cst (.int 2), .cst (.int 2), .cst (.int 2), .cst (.int 3), .cst (.int 3), .cst (.int 3), .cst (.int 4), .cst (.int 4), .cst (.int 6)]) (.idx (.peek 1) (.cst (.int 1)))), .ife (.cmp .eq (.peek 2) (.cst (.int 8))) [.asg (.nm 2) (.cst (.int 12)), .asg (.nm 3) (.bi .min2 [.peek 3, .cst (.int 3)])] [], .asg (.nm 4) (.sl (.call true 9 [.peek 0, .peek 2, .bin .add (.cst (.int 1)) (.idx (.peek 1) (.cst (.int 3))), .idx (.peek 1) (.cst (.int 2))]) none (some (.cst (.int 9)))), .asg (.nm 5) (.lst []), .fr (.nm 6) (.rng none (.peek 2) none) [.asg (.nm 11) (.call true 7 [.call false 6 [.peek 0, .bin .add (.cst (.int 13)) (.peek 6)], .lst [.cst (.int 4), .cst (.int 10), .bin .pow (.cst (.int 10)) (.cst (.int 15))]]), .app 5 (.idx (.peek 11) (.cst (.int 0))), .ife (.cmp .eq (.idx (.peek 11) (.cst (.int 1))) (.cst (.int 0))) [.setIt 5 (.neg (.cst (.int 1))) (.bin .add (.bin .pow (.cst (.int 10)) (.cst (.int 12))) (.idx (.peek 11) (.cst (.int 2))))] []], .asg (.nm 7) (.call true 8 [.peek 2, .peek 3]), .ife (.not (.call false 16 [.peek 4, .peek 5, .peek 3, .peek 7])) [.ret (.cst (.bl false))] [], .asgC 8 (.comp (.tup [.var 12]) (.nm 12) (.rng none (.peek 2) none) [] [12]), .asg (.nm 9) (.lst [.tup [.idx (.peek 1) (.cst (.int 4)), .idx (.bin .add (.peek 8) (.lst [.tup []])) (.bin .mod (.idx (.peek 1) (.cst (.int 5))) (.bin .add (.bi .len [.peek 8]) (.cst (.int 1))))]]), .ife (.not (.call false 16 [.bin .add (.peek 4) (.peek 9), .peek 5, .peek 3, .peek 7])) [.ret (.cst (.bl false))] [], .asg (.nm 10) (.call true 4 [.peek 4, .peek 3]), .ret (.cmp .eq (.peek 10) (.comp (.var 13) (.nm 13) (.peek 7) [.call false 11 [.peek 4, .peek 13]] [13]))], none⟩
def d_apart : Dn := ⟨"apart", "apart", top 1, ["lot", "other", "x"], ["lot", "other"], 0, b_apart⟩
def d_without : Dn := ⟨"without", "without", top 2, ["lot", "other", "x"], ["lot", "other"], 0, b_without⟩
def d_meets : Dn := ⟨"meets", "meets", top 4, ["items", "things", "worth", "lot"], ["items", "things"], 1, b_meets⟩
def d_branched_meetings : Dn := ⟨"branched_meetings", "branched_meetings", top 5, ["items", "most", "found", "level", "size", "longer", "things", "missed", "worth", "lot", "x"], ["items", "most"], 1, b_branched_meetings⟩
def d_minimal_meetings : Dn := ⟨"minimal_meetings", "minimal_meetings", top 6, ["items", "most", "minimal", "things", "smaller", "x"], ["items", "most"], 2, b_minimal_meetings⟩
def d_cheapest_meeting : Dn := ⟨"cheapest_meeting", "cheapest_meeting", top 7, ["items", "costs", "most", "keys", "best", "things", "x"], ["items", "costs", "most"], 3, b_cheapest_meeting⟩
def d__law_cell : Dn := ⟨"_law_cell", "_law_cell", top 9, ["script", "k"], ["script", "k"], 0, b__law_cell⟩
def d__law_draws : Dn := ⟨"_law_draws", "_law_draws", top 10, ["cell", "limits", "rest", "state", "drawn", "limit"], ["cell", "limits"], 0, b__law_draws⟩
def d__law_tuples : Dn := ⟨"_law_tuples", "_law_tuples", top 11, ["count", "most", "found", "level", "k", "longer", "few", "x"], ["count", "most"], 0, b__law_tuples⟩
def d__law_items : Dn := ⟨"_law_items", "_law_items", top 12, ["script", "things", "sizes", "many", "items", "k", "drawn", "lot", "worth", "x"], ["script", "things", "sizes", "many"], 1, b__law_items⟩
def d__law_meets : Dn := ⟨"_law_meets", "_law_meets", top 13, ["items", "few", "item", "x"], ["items", "few"], 0, b__law_meets⟩
def d__law_minimal : Dn := ⟨"_law_minimal", "_law_minimal", top 14, ["items", "few", "x", "y"], ["items", "few"], 1, b__law_minimal⟩
def d__law_cost : Dn := ⟨"_law_cost", "_law_cost", top 15, ["costs", "few", "x"], ["costs", "few"], 0, b__law_cost⟩
def d__law_cheapest : Dn := ⟨"_law_cheapest", "_law_cheapest", top 16, ["items", "costs", "tuples", "best", "few", "key"], ["items", "costs", "tuples"], 1, b__law_cheapest⟩
def d__law_plain : Dn := ⟨"_law_plain", "_law_plain", top 17, ["few", "x"], ["few"], 0, b__law_plain⟩
def d__law_same : Dn := ⟨"_law_same", "_law_same", top 18, ["told", "due"], ["told", "due"], 1, b__law_same⟩
def d__law_answers_right : Dn := ⟨"_law_answers_right", "_law_answers_right", top 19, ["items", "costs", "most", "tuples", "given", "money", "few", "told", "due", "cheapest"], ["items", "costs", "most", "tuples"], 4, b__law_answers_right⟩
def d_law : Dn := ⟨"law", "law", top 20, ["script", "drawn", "things", "most", "items", "costs", "k", "tuples", "lots", "more", "again", "price", "x", "few"], ["script"], 5, b_law⟩
def ds : List Dn := [d_apart, d_without, d_meets, d_branched_meetings, d_minimal_meetings, d_cheapest_meeting, d__law_cell, d__law_draws, d__law_tuples, d__law_items, d__law_meets, d__law_minimal, d__law_cost, d__law_cheapest, d__law_plain, d__law_same, d__law_answers_right, d_law]
def blts : List Str := ["bool", "int", "isinstance", "len", "list", "min", "range", "set", "sorted", "sum", "tuple"]
def cst : List (Str × D) := []
theorem checked : dnsC ds blts cst 400 ds.length = true := by decide +kernel
theorem told {K : PySem.W.Frag} {mg : Str → Option Value} {h : Heap} (X : K.In h) (G : h.Ns mainGlobals mg) {f0 f1 f2 f3 f4 f5 f6 f7 f8 f9 f10 f11 f12 f13 f14 f15 f16 f17 : Addr}
    {oc0 oc1 oc2 oc3 oc4 oc5 oc6 oc7 oc8 oc9 oc10 oc11 oc12 oc13 oc14 oc15 oc16 oc17 : Value}
    {od0 od1 od2 od3 od4 od5 od6 od7 od8 od9 od10 od11 od12 od13 od14 od15 od16 od17 : Option Addr}
    {an0 an1 an2 an3 an4 an5 an6 an7 an8 an9 an10 an11 an12 an13 an14 an15 an16 an17 : Option Addr}
    {sl0 sl1 sl2 sl3 sl4 sl5 sl6 sl7 sl8 sl9 sl10 sl11 sl12 sl13 sl14 sl15 sl16 sl17 : Array (Option Value)}
    {kV0 kV1 kV2 kV3 kV4 kV5 kV6 kV7 kV8 kV9 kV10 kV11 kV12 kV13 kV14 kV15 kV16 kV17 : Value}
    {dc0 dc1 dc2 dc3 dc4 dc5 dc6 dc7 dc8 dc9 dc10 dc11 dc12 dc13 dc14 dc15 dc16 dc17 : Value}
    {pm0 pm1 pm2 pm3 pm4 pm5 pm6 pm7 pm8 pm9 pm10 pm11 pm12 pm13 pm14 pm15 pm16 pm17 : Value}
    {cd0 cd1 cd2 cd3 cd4 cd5 cd6 cd7 cd8 cd9 cd10 cd11 cd12 cd13 cd14 cd15 cd16 cd17 : Value}
    {ct0 ct1 ct2 ct3 ct4 ct5 ct6 ct7 ct8 ct9 ct10 ct11 ct12 ct13 ct14 ct15 ct16 ct17 : Value}
    (a0 : PySem.W.nsIn K mainGlobals "apart" = some (some (.ref f0))) (l0 : K.lookup f0 = some ⟨oc0, od0, .func (PySem.W.fnOf "apart" "apart" (defArgs (top 1)) (defBody (top 1)) (defScope (top 1)) .none kV0 dc0 pm0 an0 cd0 ct0), sl0⟩) (c0 : PySem.W.codeIn K cd0 "apart" = true) (k0 : PySem.W.keepIn K (.ref f0) = true)
    (a1 : PySem.W.nsIn K mainGlobals "without" = some (some (.ref f1))) (l1 : K.lookup f1 = some ⟨oc1, od1, .func (PySem.W.fnOf "without" "without" (defArgs (top 2)) (defBody (top 2)) (defScope (top 2)) .none kV1 dc1 pm1 an1 cd1 ct1), sl1⟩) (c1 : PySem.W.codeIn K cd1 "without" = true) (k1 : PySem.W.keepIn K (.ref f1) = true)
    (a2 : PySem.W.nsIn K mainGlobals "meets" = some (some (.ref f2))) (l2 : K.lookup f2 = some ⟨oc2, od2, .func (PySem.W.fnOf "meets" "meets" (defArgs (top 4)) (defBody (top 4)) (defScope (top 4)) .none kV2 dc2 pm2 an2 cd2 ct2), sl2⟩) (c2 : PySem.W.codeIn K cd2 "meets" = true) (k2 : PySem.W.keepIn K (.ref f2) = true)
    (a3 : PySem.W.nsIn K mainGlobals "branched_meetings" = some (some (.ref f3))) (l3 : K.lookup f3 = some ⟨oc3, od3, .func (PySem.W.fnOf "branched_meetings" "branched_meetings" (defArgs (top 5)) (defBody (top 5)) (defScope (top 5)) .none kV3 dc3 pm3 an3 cd3 ct3), sl3⟩) (c3 : PySem.W.codeIn K cd3 "branched_meetings" = true) (k3 : PySem.W.keepIn K (.ref f3) = true)
    (a4 : PySem.W.nsIn K mainGlobals "minimal_meetings" = some (some (.ref f4))) (l4 : K.lookup f4 = some ⟨oc4, od4, .func (PySem.W.fnOf "minimal_meetings" "minimal_meetings" (defArgs (top 6)) (defBody (top 6)) (defScope (top 6)) .none kV4 dc4 pm4 an4 cd4 ct4), sl4⟩) (c4 : PySem.W.codeIn K cd4 "minimal_meetings" = true) (k4 : PySem.W.keepIn K (.ref f4) = true)
    (a5 : PySem.W.nsIn K mainGlobals "cheapest_meeting" = some (some (.ref f5))) (l5 : K.lookup f5 = some ⟨oc5, od5, .func (PySem.W.fnOf "cheapest_meeting" "cheapest_meeting" (defArgs (top 7)) (defBody (top 7)) (defScope (top 7)) .none kV5 dc5 pm5 an5 cd5 ct5), sl5⟩) (c5 : PySem.W.codeIn K cd5 "cheapest_meeting" = true) (k5 : PySem.W.keepIn K (.ref f5) = true)
    (a6 : PySem.W.nsIn K mainGlobals "_law_cell" = some (some (.ref f6))) (l6 : K.lookup f6 = some ⟨oc6, od6, .func (PySem.W.fnOf "_law_cell" "_law_cell" (defArgs (top 9)) (defBody (top 9)) (defScope (top 9)) .none kV6 dc6 pm6 an6 cd6 ct6), sl6⟩) (c6 : PySem.W.codeIn K cd6 "_law_cell" = true) (k6 : PySem.W.keepIn K (.ref f6) = true)
    (a7 : PySem.W.nsIn K mainGlobals "_law_draws" = some (some (.ref f7))) (l7 : K.lookup f7 = some ⟨oc7, od7, .func (PySem.W.fnOf "_law_draws" "_law_draws" (defArgs (top 10)) (defBody (top 10)) (defScope (top 10)) .none kV7 dc7 pm7 an7 cd7 ct7), sl7⟩) (c7 : PySem.W.codeIn K cd7 "_law_draws" = true) (k7 : PySem.W.keepIn K (.ref f7) = true)
    (a8 : PySem.W.nsIn K mainGlobals "_law_tuples" = some (some (.ref f8))) (l8 : K.lookup f8 = some ⟨oc8, od8, .func (PySem.W.fnOf "_law_tuples" "_law_tuples" (defArgs (top 11)) (defBody (top 11)) (defScope (top 11)) .none kV8 dc8 pm8 an8 cd8 ct8), sl8⟩) (c8 : PySem.W.codeIn K cd8 "_law_tuples" = true) (k8 : PySem.W.keepIn K (.ref f8) = true)
    (a9 : PySem.W.nsIn K mainGlobals "_law_items" = some (some (.ref f9))) (l9 : K.lookup f9 = some ⟨oc9, od9, .func (PySem.W.fnOf "_law_items" "_law_items" (defArgs (top 12)) (defBody (top 12)) (defScope (top 12)) .none kV9 dc9 pm9 an9 cd9 ct9), sl9⟩) (c9 : PySem.W.codeIn K cd9 "_law_items" = true) (k9 : PySem.W.keepIn K (.ref f9) = true)
    (a10 : PySem.W.nsIn K mainGlobals "_law_meets" = some (some (.ref f10))) (l10 : K.lookup f10 = some ⟨oc10, od10, .func (PySem.W.fnOf "_law_meets" "_law_meets" (defArgs (top 13)) (defBody (top 13)) (defScope (top 13)) .none kV10 dc10 pm10 an10 cd10 ct10), sl10⟩) (c10 : PySem.W.codeIn K cd10 "_law_meets" = true) (k10 : PySem.W.keepIn K (.ref f10) = true)
    (a11 : PySem.W.nsIn K mainGlobals "_law_minimal" = some (some (.ref f11))) (l11 : K.lookup f11 = some ⟨oc11, od11, .func (PySem.W.fnOf "_law_minimal" "_law_minimal" (defArgs (top 14)) (defBody (top 14)) (defScope (top 14)) .none kV11 dc11 pm11 an11 cd11 ct11), sl11⟩) (c11 : PySem.W.codeIn K cd11 "_law_minimal" = true) (k11 : PySem.W.keepIn K (.ref f11) = true)
    (a12 : PySem.W.nsIn K mainGlobals "_law_cost" = some (some (.ref f12))) (l12 : K.lookup f12 = some ⟨oc12, od12, .func (PySem.W.fnOf "_law_cost" "_law_cost" (defArgs (top 15)) (defBody (top 15)) (defScope (top 15)) .none kV12 dc12 pm12 an12 cd12 ct12), sl12⟩) (c12 : PySem.W.codeIn K cd12 "_law_cost" = true) (k12 : PySem.W.keepIn K (.ref f12) = true)
    (a13 : PySem.W.nsIn K mainGlobals "_law_cheapest" = some (some (.ref f13))) (l13 : K.lookup f13 = some ⟨oc13, od13, .func (PySem.W.fnOf "_law_cheapest" "_law_cheapest" (defArgs (top 16)) (defBody (top 16)) (defScope (top 16)) .none kV13 dc13 pm13 an13 cd13 ct13), sl13⟩) (c13 : PySem.W.codeIn K cd13 "_law_cheapest" = true) (k13 : PySem.W.keepIn K (.ref f13) = true)
    (a14 : PySem.W.nsIn K mainGlobals "_law_plain" = some (some (.ref f14))) (l14 : K.lookup f14 = some ⟨oc14, od14, .func (PySem.W.fnOf "_law_plain" "_law_plain" (defArgs (top 17)) (defBody (top 17)) (defScope (top 17)) .none kV14 dc14 pm14 an14 cd14 ct14), sl14⟩) (c14 : PySem.W.codeIn K cd14 "_law_plain" = true) (k14 : PySem.W.keepIn K (.ref f14) = true)
    (a15 : PySem.W.nsIn K mainGlobals "_law_same" = some (some (.ref f15))) (l15 : K.lookup f15 = some ⟨oc15, od15, .func (PySem.W.fnOf "_law_same" "_law_same" (defArgs (top 18)) (defBody (top 18)) (defScope (top 18)) .none kV15 dc15 pm15 an15 cd15 ct15), sl15⟩) (c15 : PySem.W.codeIn K cd15 "_law_same" = true) (k15 : PySem.W.keepIn K (.ref f15) = true)
    (a16 : PySem.W.nsIn K mainGlobals "_law_answers_right" = some (some (.ref f16))) (l16 : K.lookup f16 = some ⟨oc16, od16, .func (PySem.W.fnOf "_law_answers_right" "_law_answers_right" (defArgs (top 19)) (defBody (top 19)) (defScope (top 19)) .none kV16 dc16 pm16 an16 cd16 ct16), sl16⟩) (c16 : PySem.W.codeIn K cd16 "_law_answers_right" = true) (k16 : PySem.W.keepIn K (.ref f16) = true)
    (a17 : PySem.W.nsIn K mainGlobals "law" = some (some (.ref f17))) (l17 : K.lookup f17 = some ⟨oc17, od17, .func (PySem.W.fnOf "law" "law" (defArgs (top 20)) (defBody (top 20)) (defScope (top 20)) .none kV17 dc17 pm17 an17 cd17 ct17), sl17⟩) (c17 : PySem.W.codeIn K cd17 "law" = true) (k17 : PySem.W.keepIn K (.ref f17) = true)
    (z0 : PySem.W.nsIn K mainGlobals "bool" = some none)
    (z1 : PySem.W.nsIn K mainGlobals "int" = some none)
    (z2 : PySem.W.nsIn K mainGlobals "isinstance" = some none)
    (z3 : PySem.W.nsIn K mainGlobals "len" = some none)
    (z4 : PySem.W.nsIn K mainGlobals "list" = some none)
    (z5 : PySem.W.nsIn K mainGlobals "min" = some none)
    (z6 : PySem.W.nsIn K mainGlobals "range" = some none)
    (z7 : PySem.W.nsIn K mainGlobals "set" = some none)
    (z8 : PySem.W.nsIn K mainGlobals "sorted" = some none)
    (z9 : PySem.W.nsIn K mainGlobals "sum" = some none)
    (z10 : PySem.W.nsIn K mainGlobals "tuple" = some none)
    : Told K mg ds blts cst := by
  refine ⟨fun d hd => ?_, fun x hx => ?_, fun p hp => ?_⟩
  · simp only [ds, List.mem_cons, List.not_mem_nil, or_false] at hd
    rcases hd with rfl | rfl | rfl | rfl | rfl | rfl | rfl | rfl | rfl | rfl | rfl | rfl | rfl | rfl | rfl | rfl | rfl | rfl
    · exact dn_mk (d := d_apart) X G a0 l0 c0 k0 fun _ _ _ _ _ _ us hl => match us, hl with | [_, _], _ => rfl
    · exact dn_mk (d := d_without) X G a1 l1 c1 k1 fun _ _ _ _ _ _ us hl => match us, hl with | [_, _], _ => rfl
    · exact dn_mk (d := d_meets) X G a2 l2 c2 k2 fun _ _ _ _ _ _ us hl => match us, hl with | [_, _], _ => rfl
    · exact dn_mk (d := d_branched_meetings) X G a3 l3 c3 k3 fun _ _ _ _ _ _ us hl => match us, hl with | [_, _], _ => rfl
    · exact dn_mk (d := d_minimal_meetings) X G a4 l4 c4 k4 fun _ _ _ _ _ _ us hl => match us, hl with | [_, _], _ => rfl
    · exact dn_mk (d := d_cheapest_meeting) X G a5 l5 c5 k5 fun _ _ _ _ _ _ us hl => match us, hl with | [_, _, _], _ => rfl
    · exact dn_mk (d := d__law_cell) X G a6 l6 c6 k6 fun _ _ _ _ _ _ us hl => match us, hl with | [_, _], _ => rfl
    · exact dn_mk (d := d__law_draws) X G a7 l7 c7 k7 fun _ _ _ _ _ _ us hl => match us, hl with | [_, _], _ => rfl
    · exact dn_mk (d := d__law_tuples) X G a8 l8 c8 k8 fun _ _ _ _ _ _ us hl => match us, hl with | [_, _], _ => rfl
    · exact dn_mk (d := d__law_items) X G a9 l9 c9 k9 fun _ _ _ _ _ _ us hl => match us, hl with | [_, _, _, _], _ => rfl
    · exact dn_mk (d := d__law_meets) X G a10 l10 c10 k10 fun _ _ _ _ _ _ us hl => match us, hl with | [_, _], _ => rfl
    · exact dn_mk (d := d__law_minimal) X G a11 l11 c11 k11 fun _ _ _ _ _ _ us hl => match us, hl with | [_, _], _ => rfl
    · exact dn_mk (d := d__law_cost) X G a12 l12 c12 k12 fun _ _ _ _ _ _ us hl => match us, hl with | [_, _], _ => rfl
    · exact dn_mk (d := d__law_cheapest) X G a13 l13 c13 k13 fun _ _ _ _ _ _ us hl => match us, hl with | [_, _, _], _ => rfl
    · exact dn_mk (d := d__law_plain) X G a14 l14 c14 k14 fun _ _ _ _ _ _ us hl => match us, hl with | [_], _ => rfl
    · exact dn_mk (d := d__law_same) X G a15 l15 c15 k15 fun _ _ _ _ _ _ us hl => match us, hl with | [_, _], _ => rfl
    · exact dn_mk (d := d__law_answers_right) X G a16 l16 c16 k16 fun _ _ _ _ _ _ us hl => match us, hl with | [_, _, _, _], _ => rfl
    · exact dn_mk (d := d_law) X G a17 l17 c17 k17 fun _ _ _ _ _ _ us hl => match us, hl with | [_], _ => rfl
  · simp only [blts, List.mem_cons, List.not_mem_nil, or_false] at hx
    rcases hx with rfl | rfl | rfl | rfl | rfl | rfl | rfl | rfl | rfl | rfl | rfl
    · exact PySem.W.mg_none_of X G z0
    · exact PySem.W.mg_none_of X G z1
    · exact PySem.W.mg_none_of X G z2
    · exact PySem.W.mg_none_of X G z3
    · exact PySem.W.mg_none_of X G z4
    · exact PySem.W.mg_none_of X G z5
    · exact PySem.W.mg_none_of X G z6
    · exact PySem.W.mg_none_of X G z7
    · exact PySem.W.mg_none_of X G z8
    · exact PySem.W.mg_none_of X G z9
    · exact PySem.W.mg_none_of X G z10
  · simp [cst] at hp
abbrev Tu := List Int
abbrev Asc (l : Tu) : Prop := l.Pairwise (· < ·)
abbrev Lxd (l : List Tu) : Prop := l.Pairwise fun a b => lexZ a b = true
/-! ### lists in lexicographic order -/
theorem lxd_uniq : ∀ {l m : List Tu}, Lxd l → Lxd m → (∀ x, x ∈ l ↔ x ∈ m) → l = m
  | [], [], _, _, _ => rfl
  | [], q :: m, _, _, h => by simpa using (h q).mpr List.mem_cons_self
  | p :: l, [], _, _, h => by simpa using (h p).mp List.mem_cons_self
  | p :: l, q :: m, hl, hm, h => by
    have a := List.pairwise_cons.mp hl
    have b := List.pairwise_cons.mp hm
    have e : p = q := by
      rcases List.mem_cons.mp ((h p).mp List.mem_cons_self) with e | h1
      · exact e
      · rcases List.mem_cons.mp ((h q).mpr List.mem_cons_self) with e | h2
        · exact e.symm
        · have := lexZ_trans _ _ _ (a.1 q h2) (b.1 p h1)
          rw [lexZ_irr] at this
          cases this
    subst e
    rw [lxd_uniq a.2 b.2 fun x => ?_]
    constructor
    · intro hx
      rcases List.mem_cons.mp ((h x).mp (List.mem_cons_of_mem _ hx)) with e | h1
      · have := a.1 x hx
        rw [e, lexZ_irr] at this
        cases this
      · exact h1
    · intro hx
      rcases List.mem_cons.mp ((h x).mpr (List.mem_cons_of_mem _ hx)) with e | h1
      · have := b.1 x hx
        rw [e, lexZ_irr] at this
        cases this
      · exact h1
theorem lxd_nodup {l : List Tu} (h : Lxd l) : l.Nodup := h.imp fun {a b} h e => by
  rw [e, lexZ_irr] at h
  cases h
theorem sub_len {α : Type} [BEq α] [LawfulBEq α] : ∀ {l m : List α}, l.Nodup → (∀ x ∈ l, x ∈ m) → l.length ≤ m.length
  | [], _, _, _ => Nat.zero_le _
  | a :: l, m, hn, h => by
    have ha := h a List.mem_cons_self
    have hn' := List.nodup_cons.mp hn
    have := sub_len (l := l) (m := m.erase a) hn'.2 fun x hx => (List.mem_erase_of_ne (by intro e; rw [e] at hx; exact hn'.1 hx)).mpr (h x (List.mem_cons_of_mem _ hx))
    rw [List.length_erase_of_mem ha] at this
    have := List.length_pos_of_mem ha
    rw [List.length_cons]
    omega
/-! ### sorted(set(tuples)) -/
theorem key_tupZ (l : Tu) : keyD 8 (tupZ l) = true := by
  show (l.map D.int).all (keyD 7) = true
  rw [List.all_eq_true]
  intro d hd
  obtain ⟨i, _, rfl⟩ := List.mem_map.mp hd
  rfl
theorem tupZ_inj {a b : Tu} (h : tupZ a = tupZ b) : a = b := by
  have e : eqD (tupZ a) (tupZ b) = true := by
    rw [h, eqD_tupZ]
    simp
  rw [eqD_tupZ] at e
  exact of_decide_eq_true e
theorem sortOk_tups (xs : List D) (h : ∀ d ∈ xs, ∃ v l, d = tupZ (v :: l)) : sortOk xs = true := by
  unfold sortOk
  simp only [Bool.and_eq_true, Bool.or_eq_true, List.all_eq_true]
  refine ⟨⟨fun d hd => ?_, fun d hd e he => ?_⟩, .inl fun d hd => ?_⟩
  · obtain ⟨v, l, rfl⟩ := h d hd
    exact eqOk_tupZ 58 _
  · obtain ⟨v, l, rfl⟩ := h d hd
    obtain ⟨w, m, rfl⟩ := h e he
    exact alike_tupZ _ _
  · obtain ⟨v, l, rfl⟩ := h d hd
    rfl
theorem all_tups {xs : List D} (h : ∀ d ∈ xs, ∃ p, d = tupZ p) : ∃ l : List Tu, xs = l.map tupZ := by
  induction xs with
  | nil => exact ⟨[], rfl⟩
  | cons d xs ih =>
    obtain ⟨p, rfl⟩ := h d List.mem_cons_self
    obtain ⟨l, rfl⟩ := ih fun d hd => h d (List.mem_cons_of_mem _ hd)
    exact ⟨p :: l, rfl⟩
theorem sset_tups (l : List Tu) (hl : l.length < 1000) (hne : ∀ t ∈ l, t ≠ []) : ∃ m : List Tu, ssetD [.lst (l.map tupZ)] = .ok (.lst (m.map tupZ)) ∧ Lxd m ∧ ∀ x, x ∈ m ↔ x ∈ l := by
  have hk : (l.map tupZ).all (keyD 8) = true := by
    rw [List.all_eq_true]
    intro d hd
    obtain ⟨p, _, rfl⟩ := List.mem_map.mp hd
    exact key_tupZ p
  have h2 : (l.map tupZ).all isTup = true := by
    rw [List.all_eq_true]
    intro d hd
    obtain ⟨p, _, rfl⟩ := List.mem_map.mp hd
    rfl
  have h3 : sortOk (l.map tupZ) = true := sortOk_tups _ fun d hd => by
    obtain ⟨p, hp, rfl⟩ := List.mem_map.mp hd
    cases p with
    | nil => exact absurd rfl (hne _ hp)
    | cons v r => exact ⟨v, r, rfl⟩
  have pm := List.mergeSort_perm (dedD (l.map tupZ)) (PySem.W.dataLe false toPy)
  have sub : ∀ d, d ∈ (dedD (l.map tupZ)).mergeSort (PySem.W.dataLe false toPy) ↔ d ∈ l.map tupZ := fun d => by
    rw [pm.mem_iff]
    exact ⟨ded_sub _ d, ded_all _ hk d⟩
  have nd : ((dedD (l.map tupZ)).mergeSort (PySem.W.dataLe false toPy)).Nodup := pm.nodup_iff.mpr (ded_nodup _ hk)
  have pw := List.pairwise_mergeSort (dataLe_trans toPy) (dataLe_total toPy) (dedD (l.map tupZ))
  obtain ⟨m, hm⟩ := all_tups (xs := (dedD (l.map tupZ)).mergeSort (PySem.W.dataLe false toPy)) fun d hd => by
    obtain ⟨p, _, rfl⟩ := List.mem_map.mp ((sub d).mp hd)
    exact ⟨p, rfl⟩
  rw [hm] at sub nd pw
  refine ⟨m, ?_, ?_, fun x => ?_⟩
  · unfold ssetD
    dsimp only
    rw [if_pos (by rw [hk, h2, h3, decide_eq_true (by rw [List.length_map]; exact hl)]; rfl), hm]
  · have nd := List.pairwise_map.mp nd
    have pw := List.pairwise_map.mp pw
    refine (pw.and nd).imp fun {a b} h => ?_
    obtain ⟨h1, h2⟩ := h
    rw [PySem.W.dataLe_eq] at h1
    simp only [cond, Bool.not_eq_true'] at h1
    have h1 : lexZ b a = false := by
      rw [← bef_tupZ]
      exact h1
    cases c : lexZ a b with
    | true => rfl
    | false => exact absurd (congrArg tupZ (lexZ_tot _ _ c h1)) h2
  · constructor
    · intro hx
      obtain ⟨p, hp, e⟩ := List.mem_map.mp ((sub (tupZ x)).mp (List.mem_map_of_mem hx))
      rw [← tupZ_inj e]
      exact hp
    · intro hx
      obtain ⟨p, hp, e⟩ := List.mem_map.mp ((sub (tupZ x)).mpr (List.mem_map_of_mem hx))
      rw [← tupZ_inj e]
      exact hp
/-! ### the ascending tuples, level by level -/
def canExt (few : Tu) (x : Int) : Bool := few.isEmpty || decide (few.getLast?.getD 0 < x)
def extL (n : Nat) (few : Tu) : List Tu := (((List.range n).map fun (k : Nat) => (k : Int)).filter (canExt few)).map fun x => few ++ [x]
def lev (n : Nat) : Nat → List Tu
  | 0 => [[]]
  | k + 1 => (lev n k).flatMap (extL n)
theorem asc_snoc {l : Tu} {x : Int} : Asc (l ++ [x]) ↔ Asc l ∧ ∀ y ∈ l, y < x := by
  unfold Asc
  rw [List.pairwise_append]
  simp
theorem can_iff {few : Tu} (h : Asc few) (x : Int) : canExt few x = true ↔ ∀ y ∈ few, y < x := by
  unfold canExt
  rw [Bool.or_eq_true, decide_eq_true_eq]
  constructor
  · rintro (e | e) y hy
    · rw [List.isEmpty_iff] at e
      rw [e] at hy
      cases hy
    · have hne : few ≠ [] := fun z => by rw [z] at hy; cases hy
      rw [List.getLast?_eq_some_getLast hne, Option.getD_some] at e
      rw [← List.dropLast_concat_getLast hne] at h hy
      rcases List.mem_append.mp hy with z | z
      · have := (asc_snoc.mp h).2 y z
        omega
      · have := List.mem_singleton.mp z
        omega
  · intro hx
    by_cases hne : few = []
    · exact .inl (by rw [hne]; rfl)
    · right
      rw [List.getLast?_eq_some_getLast hne, Option.getD_some]
      exact hx _ (List.getLast_mem hne)
theorem ext_mem {n : Nat} {few t : Tu} (h : Asc few) : t ∈ extL n few ↔ ∃ x : Int, t = few ++ [x] ∧ 0 ≤ x ∧ x < n ∧ Asc t := by
  unfold extL
  simp only [List.mem_map, List.mem_filter, List.mem_range]
  constructor
  · rintro ⟨x, ⟨⟨k, hk, rfl⟩, hc⟩, rfl⟩
    exact ⟨k, rfl, by omega, by omega, asc_snoc.mpr ⟨h, (can_iff h _).mp hc⟩⟩
  · rintro ⟨x, rfl, h0, h1, ha⟩
    exact ⟨x, ⟨⟨x.toNat, by omega, by omega⟩, (can_iff h x).mpr (asc_snoc.mp ha).2⟩, rfl⟩
/-- ascending, of things below n -/
def Ok (n : Nat) (t : Tu) : Prop := Asc t ∧ ∀ x ∈ t, 0 ≤ x ∧ x < n
theorem lev_mem (n : Nat) : ∀ (k : Nat) (t : Tu), t ∈ lev n k ↔ Ok n t ∧ t.length = k
  | 0, t => by
    rw [lev, List.mem_singleton]
    constructor
    · rintro rfl
      exact ⟨⟨List.Pairwise.nil, fun x hx => by cases hx⟩, rfl⟩
    · rintro ⟨_, h⟩
      exact List.length_eq_zero_iff.mp h
  | k + 1, t => by
    rw [lev, List.mem_flatMap]
    constructor
    · rintro ⟨few, hf, ht⟩
      obtain ⟨⟨ha, hb⟩, hl⟩ := (lev_mem n k few).mp hf
      obtain ⟨x, rfl, h0, h1, h2⟩ := (ext_mem ha).mp ht
      refine ⟨⟨h2, fun y hy => ?_⟩, by rw [List.length_append, List.length_singleton, hl]⟩
      rcases List.mem_append.mp hy with z | z
      · exact hb y z
      · rw [List.mem_singleton.mp z]
        exact ⟨h0, h1⟩
    · rintro ⟨⟨ha, hb⟩, hl⟩
      have hne : t ≠ [] := fun z => by rw [z] at hl; cases hl
      have e := List.dropLast_concat_getLast hne
      rw [← e] at ha
      have h1 := asc_snoc.mp ha
      have hlast := hb _ (List.getLast_mem hne)
      refine ⟨t.dropLast, (lev_mem n k _).mpr ⟨⟨h1.1, fun y hy => hb y (List.dropLast_subset t hy)⟩, by rw [List.length_dropLast, hl]; rfl⟩, (ext_mem h1.1).mpr ⟨t.getLast hne, e.symm, hlast.1, hlast.2, by rw [← e]; exact ha⟩⟩
theorem lexZ_snoc : ∀ (a b : Tu) (x y : Int), a.length = b.length → lexZ a b = true → lexZ (a ++ [x]) (b ++ [y]) = true
  | [], [], _, _, _, h => by simp [lexZ] at h
  | [], _ :: _, _, _, h, _ => by simp at h
  | _ :: _, [], _, _, h, _ => by simp at h
  | u :: a, v :: b, x, y, hl, h => by
    show lexZ (u :: (a ++ [x])) (v :: (b ++ [y])) = true
    rw [lexZ] at *
    rw [Bool.or_eq_true, Bool.and_eq_true] at *
    rcases h with h | ⟨h1, h2⟩
    · exact .inl h
    · exact .inr ⟨h1, lexZ_snoc a b x y (by simpa using hl) h2⟩
theorem lexZ_last : ∀ (a : Tu) (x y : Int), x < y → lexZ (a ++ [x]) (a ++ [y]) = true
  | [], x, y, h => by
    show lexZ [x] [y] = true
    rw [lexZ, decide_eq_true h]
    rfl
  | u :: a, x, y, h => by
    show lexZ (u :: (a ++ [x])) (u :: (a ++ [y])) = true
    rw [lexZ, lexZ_last a x y h]
    simp
theorem ext_lx (n : Nat) (few : Tu) : Lxd (extL n few) := by
  unfold extL
  refine List.pairwise_map.mpr (List.Pairwise.filter _ (List.pairwise_map.mpr ?_))
  refine (List.pairwise_lt_range (n := n)).imp fun {i j} h => ?_
  exact lexZ_last few _ _ (by omega)
theorem lev_lx (n : Nat) : ∀ k : Nat, Lxd (lev n k)
  | 0 => by simp [lev]
  | k + 1 => by
    rw [lev]
    have ih := lev_lx n k
    have hm := fun t ht => ((lev_mem n k t).mp ht).2
    have go : ∀ l : List Tu, (∀ t ∈ l, t.length = k) → Lxd l → Lxd (l.flatMap (extL n)) := fun l => by
      induction l with
      | nil => intro _ _; exact .nil
      | cons a l ih =>
        intro hm hl
        rw [List.flatMap_cons]
        have hl' := List.pairwise_cons.mp hl
        refine List.pairwise_append.mpr ⟨ext_lx n a, ih (fun t ht => hm t (List.mem_cons_of_mem _ ht)) hl'.2, fun x hx y hy => ?_⟩
        obtain ⟨b, hb, hy⟩ := List.mem_flatMap.mp hy
        unfold extL at hx hy
        obtain ⟨u, _, rfl⟩ := List.mem_map.mp hx
        obtain ⟨v, _, rfl⟩ := List.mem_map.mp hy
        exact lexZ_snoc a b u v (by rw [hm a List.mem_cons_self, hm b (List.mem_cons_of_mem _ hb)]) (hl'.1 b hb)
    exact go _ hm ih
/-! ### meeting, branching -/
def MT (ls : List Tu) (t : Tu) : Bool := ls.all fun l => !apZ l t
def missed (ls : List Tu) (t : Tu) : List Tu := ls.filter fun l => apZ l t
def longer1 (ls : List Tu) (t : Tu) : List Tu := match missed ls t with
  | [] => []
  | lot :: _ => lot.map fun x => sortI (t ++ [x])
def longer (ls : List Tu) (level : List Tu) : List Tu := level.flatMap (longer1 ls)
def lxOf (l : List Tu) : List Tu := (rk (l.map fun t => ((0 : Int), t))).map (·.2)
def bl (ls : List Tu) : Nat → List Tu
  | 0 => [[]]
  | k + 1 => lxOf (longer ls (bl ls k))
def minB (ls : List Tu) (t : Tu) : Bool := MT ls t && t.all fun x => !MT ls (t.filter fun y => !decide (y = x))
theorem lxOf_mem {l : List Tu} {t : Tu} : t ∈ lxOf l ↔ t ∈ l := by
  unfold lxOf
  rw [List.mem_map]
  constructor
  · rintro ⟨p, hp, rfl⟩
    obtain ⟨t, ht, rfl⟩ := List.mem_map.mp (rk_mem.mp hp)
    exact ht
  · intro h
    exact ⟨(0, t), rk_mem.mpr (List.mem_map_of_mem h), rfl⟩
theorem lxOf_lx (l : List Tu) : Lxd (lxOf l) := by
  unfold lxOf
  have h0 : ∀ p ∈ rk (l.map fun t => ((0 : Int), t)), p.1 = 0 := fun p hp => by
    obtain ⟨t, _, rfl⟩ := List.mem_map.mp (rk_mem.mp hp)
    rfl
  have pw := rk_pw (l.map fun t => ((0 : Int), t))
  refine List.pairwise_map.mpr ?_
  generalize rk (l.map fun t => ((0 : Int), t)) = m at h0 pw
  induction m with
  | nil => exact .nil
  | cons p m ih =>
    have h' := List.pairwise_cons.mp pw
    refine List.pairwise_cons.mpr ⟨fun q hq => ?_, ih (fun q hq => h0 q (List.mem_cons_of_mem _ hq)) h'.2⟩
    have := h'.1 q hq
    unfold bef at this
    rw [h0 p List.mem_cons_self, h0 q (List.mem_cons_of_mem _ hq)] at this
    simpa using this
theorem apZ_false {l t : Tu} : apZ l t = false ↔ ∃ x ∈ l, x ∈ t := by
  unfold apZ
  simp
theorem apZ_true {l t : Tu} : apZ l t = true ↔ ∀ x ∈ l, x ∉ t := by
  unfold apZ
  simp
theorem MT_iff {ls : List Tu} {t : Tu} : MT ls t = true ↔ ∀ l ∈ ls, ∃ x ∈ l, x ∈ t := by
  unfold MT
  simp only [List.all_eq_true, Bool.not_eq_true', apZ_false]
theorem MT_mono {ls : List Tu} {s t : Tu} (h : MT ls s = true) (hs : ∀ x ∈ s, x ∈ t) : MT ls t = true := by
  rw [MT_iff] at *
  intro l hl
  obtain ⟨x, h1, h2⟩ := h l hl
  exact ⟨x, h1, hs x h2⟩
theorem missed_nil {ls : List Tu} {t : Tu} : missed ls t = [] ↔ MT ls t = true := by
  unfold missed MT
  rw [List.filter_eq_nil_iff]
  simp
theorem asc_nodup {t : Tu} (h : Asc t) : t.Nodup := h.imp fun {a b} h => by omega
theorem asc_eq {s t : Tu} (hs : Asc s) (ht : Asc t) (h : ∀ x, x ∈ s ↔ x ∈ t) : s = t :=
  sorted_uniq ((List.perm_ext_iff_of_nodup (asc_nodup hs) (asc_nodup ht)).mpr h) (hs.imp fun h => by omega) (ht.imp fun h => by omega)
section
variable {n : Nat} {ls : List Tu} (hls : ∀ l ∈ ls, ∀ x ∈ l, 0 ≤ x ∧ x < (n : Int))
include hls
theorem longer_ok {t s : Tu} (ht : Ok n t) (h : s ∈ longer1 ls t) : Ok n s ∧ s.length = t.length + 1 := by
  unfold longer1 at h
  split at h
  · cases h
  · rename_i lot r e
    obtain ⟨x, hx, rfl⟩ := List.mem_map.mp h
    have hm : lot ∈ missed ls t := by rw [e]; exact List.mem_cons_self
    unfold missed at hm
    obtain ⟨h1, h2⟩ := List.mem_filter.mp hm
    have hxt := apZ_true.mp h2 x hx
    have nd : (t ++ [x]).Nodup := List.nodup_append.mpr ⟨asc_nodup ht.1, by simp, fun a ha b hb e => hxt (by rw [List.mem_singleton] at hb; rw [← hb, ← e]; exact ha)⟩
    refine ⟨⟨sortI_asc nd, fun y hy => ?_⟩, by rw [sortI_len, List.length_append, List.length_singleton]⟩
    rcases List.mem_append.mp ((sortI_perm _).mem_iff.mp hy) with z | z
    · exact ht.2 y z
    · rw [List.mem_singleton.mp z]
      exact hls lot h1 x hx
theorem bl_ok : ∀ (k : Nat) (t : Tu), t ∈ bl ls k → Ok n t ∧ t.length = k
  | 0, t, h => by
    rw [bl, List.mem_singleton] at h
    subst h
    exact ⟨⟨List.Pairwise.nil, fun x hx => by cases hx⟩, rfl⟩
  | k + 1, t, h => by
    rw [bl, lxOf_mem] at h
    unfold longer at h
    obtain ⟨s, hs, ht⟩ := List.mem_flatMap.mp h
    obtain ⟨h1, h2⟩ := bl_ok k s hs
    obtain ⟨h3, h4⟩ := longer_ok hls h1 ht
    exact ⟨h3, by omega⟩
theorem bl_lx : ∀ k : Nat, Lxd (bl ls k)
  | 0 => by simp [bl]
  | k + 1 => by
    rw [bl]
    exact lxOf_lx _
theorem bl_sub (k : Nat) : ∀ t ∈ bl ls k, t ∈ lev n k := fun t ht => (lev_mem n k t).mpr (bl_ok hls k t ht)
theorem bl_len (k : Nat) : (bl ls k).length ≤ (lev n k).length := sub_len (lxd_nodup (bl_lx hls k)) (bl_sub hls k)
theorem min_path {t : Tu} (ht : Ok n t) (hm : minB ls t = true) : ∀ j : Nat, j ≤ t.length → ∃ s ∈ bl ls j, ∀ x ∈ s, x ∈ t
  | 0, _ => ⟨[], by rw [bl]; exact List.mem_singleton.mpr rfl, fun x hx => by cases hx⟩
  | j + 1, hj => by
    obtain ⟨s, hs, hst⟩ := min_path ht hm j (by omega)
    obtain ⟨so, sl⟩ := bl_ok hls j s hs
    unfold minB at hm
    rw [Bool.and_eq_true, List.all_eq_true] at hm
    obtain ⟨m1, m2⟩ := hm
    have hn : missed ls s ≠ [] := fun e => by
      have ms := missed_nil.mp e
      have : ¬ ∀ x ∈ t, x ∈ s := fun all => by
        have := sub_len (asc_nodup ht.1) all
        omega
      obtain ⟨x, hx⟩ := Classical.not_forall.mp this
      obtain ⟨hxt, hxs⟩ := Classical.not_imp.mp hx
      have := m2 x hxt
      rw [Bool.not_eq_true', MT_mono ms fun y hy => List.mem_filter.mpr ⟨hst y hy, by
        have : y ≠ x := fun e => hxs (e ▸ hy)
        simp [this]⟩] at this
      cases this
    cases e : missed ls s with
    | nil => exact absurd e hn
    | cons lot r =>
      have hl : lot ∈ missed ls s := by rw [e]; exact List.mem_cons_self
      unfold missed at hl
      obtain ⟨h1, h2⟩ := List.mem_filter.mp hl
      obtain ⟨x, hx, hxt⟩ := MT_iff.mp m1 lot h1
      refine ⟨sortI (s ++ [x]), ?_, fun y hy => ?_⟩
      · rw [bl, lxOf_mem]
        unfold longer
        refine List.mem_flatMap.mpr ⟨s, hs, ?_⟩
        unfold longer1
        rw [e]
        exact List.mem_map_of_mem hx
      · rcases List.mem_append.mp ((sortI_perm _).mem_iff.mp hy) with z | z
        · exact hst y z
        · rw [List.mem_singleton.mp z]
          exact hxt
theorem min_in {t : Tu} (ht : Ok n t) (hm : minB ls t = true) : t ∈ bl ls t.length := by
  obtain ⟨s, hs, hst⟩ := min_path hls ht hm t.length (Nat.le_refl _)
  obtain ⟨so, sl⟩ := bl_ok hls _ s hs
  have : s = t := asc_eq so.1 ht.1 fun x => ⟨hst x, fun hx => by
    by_cases c : x ∈ s
    · exact c
    · have nd : (x :: s).Nodup := List.nodup_cons.mpr ⟨c, asc_nodup so.1⟩
      have := sub_len (m := t) nd fun y hy => by
        rcases List.mem_cons.mp hy with z | z
        · rw [z]; exact hx
        · exact hst y z
      rw [List.length_cons] at this
      omega⟩
  rw [← this]
  rw [this]
  exact this ▸ hs
/-- what the program finds of one size -/
def found1 (ls : List Tu) (k : Nat) : List Tu := ((bl ls k).filter fun t => (missed ls t).isEmpty).filter fun t => (t.filter fun x => MT ls (t.filter fun y => !decide (y = x))).isEmpty
theorem found_eq (k : Nat) : found1 ls k = (lev n k).filter (minB ls) := by
  have hp : ∀ t, ((missed ls t).isEmpty && (t.filter fun x => MT ls (t.filter fun y => !decide (y = x))).isEmpty) = minB ls t := fun t => by
    unfold minB
    congr 1
    · rw [Bool.eq_iff_iff, List.isEmpty_iff, missed_nil]
    · rw [Bool.eq_iff_iff, List.isEmpty_iff, List.filter_eq_nil_iff, List.all_eq_true]
      simp
  unfold found1
  rw [List.filter_filter]
  refine lxd_uniq ((bl_lx hls k).filter _) ((lev_lx n k).filter _) fun t => ?_
  rw [List.mem_filter, List.mem_filter, Bool.and_comm, hp]
  constructor
  · rintro ⟨h1, h2⟩
    exact ⟨bl_sub hls k t h1, h2⟩
  · rintro ⟨h1, h2⟩
    obtain ⟨o, l⟩ := (lev_mem n k t).mp h1
    have := min_in hls o h2
    rw [l] at this
    exact ⟨this, h2⟩
end
/-! ### keys: cost, length, tuple -/
abbrev K3 := Int × Int × Tu
def kd (k : K3) : D := .tup [.int k.1, .int k.2.1, tupZ k.2.2]
def klt (a b : K3) : Bool := decide (a.1 < b.1) || (!decide (b.1 < a.1) && (decide (a.2.1 < b.2.1) || (!decide (b.2.1 < a.2.1) && lexZ a.2.2 b.2.2)))
theorem klt_irr (a : K3) : klt a a = false := by unfold klt; rw [lexZ_irr]; simp
theorem klt_trans {a b c : K3} (h1 : klt a b = true) (h2 : klt b c = true) : klt a c = true := by
  unfold klt at *
  simp only [Bool.or_eq_true, Bool.and_eq_true, Bool.not_eq_true', decide_eq_true_eq, decide_eq_false_iff_not] at *
  rcases h1 with h1 | ⟨h1, h3 | ⟨h3, h5⟩⟩ <;> rcases h2 with h2 | ⟨h2, h4 | ⟨h4, h6⟩⟩
  · left; omega
  · left; omega
  · left; omega
  · left; omega
  · by_cases h : a.1 < c.1
    · exact .inl h
    · exact .inr ⟨by omega, .inl (by omega)⟩
  · by_cases h : a.1 < c.1
    · exact .inl h
    · exact .inr ⟨by omega, .inl (by omega)⟩
  · left; omega
  · by_cases h : a.1 < c.1
    · exact .inl h
    · exact .inr ⟨by omega, .inl (by omega)⟩
  · by_cases h : a.1 < c.1
    · exact .inl h
    · refine .inr ⟨by omega, ?_⟩
      by_cases h' : a.2.1 < c.2.1
      · exact .inl h'
      · exact .inr ⟨by omega, lexZ_trans _ _ _ h5 h6⟩
theorem klt_tot {a b : K3} (h1 : klt a b = false) (h2 : klt b a = false) : a = b := by
  unfold klt at *
  simp only [Bool.or_eq_false_iff, Bool.and_eq_false_iff, Bool.not_eq_false', decide_eq_true_eq, decide_eq_false_iff_not] at *
  obtain ⟨a1, a2⟩ := h1
  obtain ⟨b1, b2⟩ := h2
  have e1 : a.1 = b.1 := by omega
  have a3 : ¬ a.2.1 < b.2.1 ∧ (b.2.1 < a.2.1 ∨ lexZ a.2.2 b.2.2 = false) := by
    rcases a2 with h | h
    · omega
    · exact h
  have b3 : ¬ b.2.1 < a.2.1 ∧ (a.2.1 < b.2.1 ∨ lexZ b.2.2 a.2.2 = false) := by
    rcases b2 with h | h
    · omega
    · exact h
  have e2 : a.2.1 = b.2.1 := by omega
  have a4 : lexZ a.2.2 b.2.2 = false := by
    rcases a3.2 with h | h
    · omega
    · exact h
  have b4 : lexZ b.2.2 a.2.2 = false := by
    rcases b3.2 with h | h
    · omega
    · exact h
  exact Prod.ext e1 (Prod.ext e2 (lexZ_tot _ _ a4 b4))
theorem bef_kd (a b : K3) : befD (kd a) (kd b) = klt a b := by
  unfold befD PySem.W.dataLt
  show PyProof.Rows.lexLt PyProof.Rows.itemOrd (.inl 1 :: .inl a.1 :: .inl 1 :: .inl a.2.1 :: .inl 1 :: (PySem.W.keyToksAll (toPys (a.2.2.map .int)) ++ [.inl 0])) (.inl 1 :: .inl b.1 :: .inl 1 :: .inl b.2.1 :: .inl 1 :: (PySem.W.keyToksAll (toPys (b.2.2.map .int)) ++ [.inl 0])) = _
  rw [toks_all, toks_all, PyProof.Rows.lex_self (O := PyProof.Rows.itemOrd), PyProof.Rows.lex_cons, PyProof.Rows.lex_self (O := PyProof.Rows.itemOrd), PyProof.Rows.lex_cons, PyProof.Rows.lex_self (O := PyProof.Rows.itemOrd), List.append_assoc, List.append_assoc]
  show (decide (a.1 < b.1) || (!decide (b.1 < a.1) && (decide (a.2.1 < b.2.1) || (!decide (b.2.1 < a.2.1) && PyProof.Rows.lexLt PyProof.Rows.itemOrd (toksZ a.2.2 ++ .inl 0 :: [.inl 0]) (toksZ b.2.2 ++ .inl 0 :: [.inl 0]))))) = _
  rw [lex_toks]
  have e : (if a.2.2 = b.2.2 then PyProof.Rows.lexLt PyProof.Rows.itemOrd [Sum.inl 0] [Sum.inl 0] else lexZ a.2.2 b.2.2) = lexZ a.2.2 b.2.2 := by
    split
    · rename_i h
      rw [h, lexZ_irr]
      rfl
    · rfl
  rw [e]
  rfl
theorem alike_kd (a b : K3) : PySem.W.alike (toPy (kd a)) (toPy (kd b)) = true := by
  show (PySem.W.alike (.int a.1) (.int b.1) && (PySem.W.alike (.int a.2.1) (.int b.2.1) && (PySem.W.alike (toPy (tupZ a.2.2)) (toPy (tupZ b.2.2)) && true))) = true
  rw [alike_tupZ]
  rfl
theorem ok_kd (n : Nat) (a : K3) : eqOk (n + 3) (kd a) = true := by
  show ([.int a.1, .int a.2.1, tupZ a.2.2] : List D).all (eqOk (n + 2)) = true
  rw [List.all_cons, List.all_cons, List.all_cons, List.all_nil, eqOk_tupZ]
  rfl
theorem lt_kd (a b : K3) : ltD (kd a) (kd b) = .ok (.bl (klt a b)) := by
  have h : ordOk (kd a) (kd b) = true := by
    unfold ordOk
    rw [ok_kd 57, ok_kd 57, alike_kd]
    rfl
  show (if ordOk (kd a) (kd b) then R.ok (D.bl (befD (kd a) (kd b))) else .bad) = _
  rw [h, bef_kd]
  rfl
def best (k : K3) (ks : List K3) : K3 := ks.foldl (fun a y => if klt y a then y else a) k
theorem best_mem : ∀ (ks : List K3) (k : K3), best k ks ∈ k :: ks
  | [], k => List.mem_singleton.mpr rfl
  | y :: ks, k => by
    show best (if klt y k then y else k) ks ∈ _
    have := best_mem ks (if klt y k then y else k)
    rcases List.mem_cons.mp this with e | h
    · rw [e]
      split
      · exact List.mem_cons_of_mem _ List.mem_cons_self
      · exact List.mem_cons_self
    · exact List.mem_cons_of_mem _ (List.mem_cons_of_mem _ h)
theorem best_least : ∀ (ks : List K3) (k : K3), ∀ y ∈ k :: ks, klt y (best k ks) = false
  | [], k, y, hy => by
    rw [List.mem_singleton.mp hy]
    exact klt_irr k
  | z :: ks, k, y, hy => by
    show klt y (best (if klt z k then z else k) ks) = false
    have ih := best_least ks (if klt z k then z else k)
    have h0 := ih _ List.mem_cons_self
    have nt : ∀ a b c : K3, klt a c = true → klt a b = true ∨ klt b c = true := fun a b c h => by
      cases h1 : klt a b with
      | true => exact .inl rfl
      | false =>
        cases h2 : klt b a with
        | true => exact .inr (klt_trans h2 h)
        | false =>
          rw [klt_tot h1 h2] at h
          exact .inr h
    rcases List.mem_cons.mp hy with e | hy
    · subst e
      by_cases c : klt z y = true
      · rw [if_pos c] at h0 ⊢
        cases d : klt y (best z ks) with
        | false => rfl
        | true =>
          have := klt_trans c d
          rw [this] at h0
          cases h0
      · rw [if_neg c] at h0 ⊢
        exact h0
    · rcases List.mem_cons.mp hy with e | hy
      · subst e
        by_cases c : klt y k = true
        · rw [if_pos c] at h0 ⊢
          exact h0
        · rw [if_neg c] at h0 ⊢
          cases d : klt y (best k ks) with
          | false => rfl
          | true =>
            rcases nt y k _ d with h | h
            · exact absurd h c
            · rw [h] at h0
              cases h0
      · exact ih y (List.mem_cons_of_mem _ hy)
theorem min_kd (k : K3) (ks : List K3) : minLD [.lst ((k :: ks).map kd)] = .ok (kd (best k ks)) := by
  have h1 : ((k :: ks).map kd).all (eqOk 60) = true := by
    rw [List.all_eq_true]
    intro d hd
    obtain ⟨a, _, rfl⟩ := List.mem_map.mp hd
    exact ok_kd 57 a
  have h2 : (((k :: ks).map kd).all fun a => ((k :: ks).map kd).all fun b => PySem.W.alike (toPy a) (toPy b)) = true := by
    rw [List.all_eq_true]
    intro d hd
    rw [List.all_eq_true]
    intro e he
    obtain ⟨a, _, rfl⟩ := List.mem_map.mp hd
    obtain ⟨b, _, rfl⟩ := List.mem_map.mp he
    exact alike_kd a b
  have h3 : (((k :: ks).map kd).all fun a => !isNon a && !isMut a) = true := by
    rw [List.all_eq_true]
    intro d hd
    obtain ⟨a, _, rfl⟩ := List.mem_map.mp hd
    rfl
  rw [List.map_cons] at h1 h2 h3 ⊢
  show (if _ then R.ok _ else .bad) = _
  rw [h1, h2, h3, Bool.and_self, Bool.and_self, if_pos rfl]
  congr 1
  have go : ∀ (ks : List K3) (k : K3), (ks.map kd).foldl (fun a y => if befD y a = true then y else a) (kd k) = kd (best k ks) := fun ks => by
    induction ks with
    | nil => intro k; rfl
    | cons y ks ih =>
      intro k
      rw [List.map_cons, List.foldl_cons, bef_kd]
      show _ = kd (best (if klt y k then y else k) ks)
      rw [← ih]
      split <;> rfl
  exact go ks k
def bestO : List K3 → Option K3
  | [] => none
  | k :: ks => some (best k ks)
def costT (cs : List Int) (t : Tu) : Int := (t.map fun x => cs.getD x.toNat 0).sum
def keyT (cs : List Int) (t : Tu) : K3 := (costT cs t, (t.length : Int), t)
def tups (n most : Nat) : List Tu := (List.range (most + 1)).flatMap (lev n)
theorem tups_mem {n most : Nat} {t : Tu} : t ∈ tups n most ↔ Ok n t ∧ t.length ≤ most := by
  unfold tups
  rw [List.mem_flatMap]
  constructor
  · rintro ⟨k, hk, h⟩
    obtain ⟨a, b⟩ := (lev_mem n k t).mp h
    have := List.mem_range.mp hk
    exact ⟨a, by omega⟩
  · rintro ⟨a, b⟩
    exact ⟨t.length, List.mem_range.mpr (by omega), (lev_mem n _ t).mpr ⟨a, rfl⟩⟩
theorem cost_filter {cs : List Int} (hc : ∀ i : Nat, 0 ≤ cs.getD i 0) (p : Int → Bool) : ∀ t : Tu, costT cs (t.filter p) ≤ costT cs t
  | [] => Int.le_refl _
  | x :: t => by
    have ih := cost_filter hc p t
    have h0 := hc x.toNat
    have e : costT cs (x :: t) = cs.getD x.toNat 0 + costT cs t := by
      unfold costT
      rw [List.map_cons, List.sum_cons]
    rw [List.filter_cons]
    split
    · have e2 : costT cs (x :: t.filter p) = cs.getD x.toNat 0 + costT cs (t.filter p) := by
        unfold costT
        rw [List.map_cons, List.sum_cons]
      rw [e, e2]
      omega
    · rw [e]
      omega
section
variable {n most : Nat} {ls : List Tu} {cs : List Int} (hc : ∀ i : Nat, 0 ≤ cs.getD i 0)
include hc
theorem reduce : ∀ (m : Nat) (t : Tu), t.length = m → t ∈ tups n most → MT ls t = true → ∃ s ∈ tups n most, minB ls s = true ∧ klt (keyT cs t) (keyT cs s) = false := by
  intro m
  induction m using Nat.strongRecOn with
  | _ m ih =>
    intro t hl ht hm
    by_cases c : minB ls t = true
    · exact ⟨t, ht, c, klt_irr _⟩
    · obtain ⟨o, l⟩ := tups_mem.mp ht
      obtain ⟨x, hx, hxm⟩ : ∃ x ∈ t, MT ls (t.filter fun y => !decide (y = x)) = true := by
        unfold minB at c
        rw [hm, Bool.true_and] at c
        have c : (t.all fun x => !MT ls (t.filter fun y => !decide (y = x))) = false := by simpa using c
        rw [List.all_eq_false] at c
        obtain ⟨x, h1, h2⟩ := c
        exact ⟨x, h1, by simpa using h2⟩
      have hlen : (t.filter fun y => !decide (y = x)).length < t.length := by
        have h1 := List.length_filter_le (fun y => !decide (y = x)) t
        have h2 : (t.filter fun y => !decide (y = x)).length ≠ t.length := fun e => by
          have := List.length_filter_eq_length_iff.mp e x hx
          simp at this
        omega
      have ht' : (t.filter fun y => !decide (y = x)) ∈ tups n most := tups_mem.mpr ⟨⟨o.1.filter _, fun y hy => o.2 y (List.mem_filter.mp hy).1⟩, by omega⟩
      obtain ⟨s, h1, h2, h3⟩ := ih _ (by omega) _ rfl ht' hxm
      refine ⟨s, h1, h2, ?_⟩
      have hk : klt (keyT cs (t.filter fun y => !decide (y = x))) (keyT cs t) = true := by
        have := cost_filter hc (fun y => !decide (y = x)) t
        unfold klt keyT
        simp only [Bool.or_eq_true, Bool.and_eq_true, Bool.not_eq_true', decide_eq_true_eq, decide_eq_false_iff_not]
        by_cases h : costT cs (t.filter fun y => !decide (y = x)) < costT cs t
        · exact .inl h
        · exact .inr ⟨by omega, .inl (by omega)⟩
      cases d : klt (keyT cs t) (keyT cs s) with
      | false => rfl
      | true =>
        rw [klt_trans hk d] at h3
        cases h3
theorem cheap_eq : bestO (((tups n most).filter (MT ls)).map (keyT cs)) = bestO (((tups n most).filter (minB ls)).map (keyT cs)) := by
  have sub : ∀ t, minB ls t = true → MT ls t = true := fun t h => by
    unfold minB at h
    rw [Bool.and_eq_true] at h
    exact h.1
  cases eA : ((tups n most).filter (MT ls)).map (keyT cs) with
  | nil =>
    cases eB : ((tups n most).filter (minB ls)).map (keyT cs) with
    | nil => rfl
    | cons b bs =>
      have hb : b ∈ ((tups n most).filter (minB ls)).map (keyT cs) := by rw [eB]; exact List.mem_cons_self
      obtain ⟨t, ht, rfl⟩ := List.mem_map.mp hb
      obtain ⟨h1, h2⟩ := List.mem_filter.mp ht
      have := List.mem_map_of_mem (f := keyT cs) (List.mem_filter.mpr ⟨h1, sub t h2⟩)
      rw [eA] at this
      cases this
  | cons a as =>
    have red : ∀ k ∈ a :: as, ∃ s ∈ ((tups n most).filter (minB ls)).map (keyT cs), klt k s = false := fun k hk => by
      rw [← eA] at hk
      obtain ⟨t, ht, rfl⟩ := List.mem_map.mp hk
      obtain ⟨h1, h2⟩ := List.mem_filter.mp ht
      obtain ⟨s, g1, g2, g3⟩ := reduce hc t.length t rfl h1 h2
      exact ⟨keyT cs s, List.mem_map_of_mem (List.mem_filter.mpr ⟨g1, g2⟩), g3⟩
    cases eB : ((tups n most).filter (minB ls)).map (keyT cs) with
    | nil =>
      obtain ⟨s, hs, _⟩ := red a List.mem_cons_self
      rw [eB] at hs
      cases hs
    | cons b bs =>
      rw [eB] at red
      show some (best a as) = some (best b bs)
      congr 1
      have hb : best b bs ∈ a :: as := by
        have := best_mem bs b
        rw [← eB] at this
        obtain ⟨t, ht, e⟩ := List.mem_map.mp this
        obtain ⟨h1, h2⟩ := List.mem_filter.mp ht
        rw [← eA, ← e]
        exact List.mem_map_of_mem (List.mem_filter.mpr ⟨h1, sub t h2⟩)
      have l1 := best_least as a _ hb
      obtain ⟨s, hs, h3⟩ := red _ (best_mem as a)
      have l2 := best_least bs b s hs
      refine klt_tot ?_ l1
      cases d : klt (best a as) (best b bs) with
      | false => rfl
      | true =>
        cases e : klt (best b bs) s with
        | true =>
          rw [klt_trans d e] at h3
          cases h3
        | false =>
          rw [klt_tot e l2] at d
          rw [d] at h3
          cases h3
end
abbrev lotsOf (l : List Itm) : List Tu := l.map (·.2)
/-- the lots are short -/
def Few (l : List Itm) : Prop := ∀ p ∈ l, p.2.length ≤ 4
theorem filter_missed (l : List Itm) (t : Tu) : (l.filter fun p => apZ p.2 t).map (fun p => tupZ p.2) = (missed (lotsOf l) t).map tupZ := by
  unfold missed lotsOf
  rw [List.filter_map, List.map_map]
  rfl
section
variable {Γ : Glob} (ha : ∀ p q, Γ.call 0 [.frz (tupZ p), .frz (tupZ q)] = .ok (.bl (apZ p q)))
include ha in
theorem meets_run (l : List Itm) (hl : l.length ≤ 1000) (t : Tu) {L : Mi.Slot} (h : Sn (.lst (l.map it)) L) : runB Γ b_meets [L, .frz (tupZ t)] = .ok (.bl (MT (lotsOf l) t)) := by
  refine run_ret (env := [L, .frz (tupZ t), .un, .un]) (own := false) rfl (ess_ret ?_) rfl
  have c : evE Γ (.comp (.var 3) (.tup [.nm 2, .nm 3]) (.peek 0) [.call false 0 [.peek 3, .peek 1]] [2, 3]) [L, .frz (tupZ t), .un, .un] = .ok (.lst ((missed (lotsOf l) t).map tupZ)) := by
    rw [ev_comp, ev_peek, gt_zero, h.val, b_ok, items_lst, b_ok, compL_filter it (fun p => apZ p.2 t) (fun p => tupZ p.2) l fun p _ => ⟨[L, .frz (tupZ t), .frz (.int p.1), .frz (tupZ p.2)], rfl, ?_, fun _ => rfl⟩, n_ok, b_ok, made_ok, filter_missed]
    · rw [List.length_map]
      have := List.length_filter_le (fun p : Itm => apZ p.2 t) l
      omega
    · rw [evi_cons, ev_call]
      show R.bind (R.bind (R.ok ([.frz (tupZ p.2), .frz (tupZ t)] : List Mi.Slot)) _) _ = _
      rw [b_ok, ha, b_ok, truth_bl, b_ok]
      cases apZ p.2 t <;> rfl
  rw [ev_cmp, ev_bi, evs_cons, c]
  show R.bind (lenD [.lst ((missed (lotsOf l) t).map tupZ)]) _ = _
  unfold lenD
  dsimp only
  rw [b_ok, ev_cst, b_ok, List.length_map]
  show R.ok (D.bl (((missed (lotsOf l) t).length : Int) == 0)) = _
  congr 2
  rw [Bool.eq_iff_iff, ← missed_nil, ← List.length_eq_zero_iff, beq_iff_eq]
  omega
theorem without_run (t u : Tu) (hl : t.length ≤ 1000000) : runB Γ b_without [.frz (tupZ t), .frz (tupZ u)] = .ok (tupZ (t.filter fun y => !decide (y ∈ u))) := by
  refine run_ret (env := [.frz (tupZ t), .frz (tupZ u), .un]) (own := true) rfl (ess_ret ?_) rfl
  have c : evE Γ (.comp (.var 2) (.nm 2) (.peek 0) [.cmp .notin (.peek 2) (.peek 1)] [2]) [.frz (tupZ t), .frz (tupZ u), .un] = .ok (.lst ((t.filter fun y => !decide (y ∈ u)).map .int)) := by
    rw [ev_comp, show evE Γ (.peek 0) [.frz (tupZ t), .frz (tupZ u), .un] = .ok (tupZ t) from rfl, b_ok, show items (tupZ t) = .ok (t.map D.int) from rfl, b_ok, compL_filter D.int (fun y => !decide (y ∈ u)) D.int t fun y _ => ⟨[.frz (tupZ t), .frz (tupZ u), .frz (.int y)], rfl, ?_, fun _ => rfl⟩, n_ok, b_ok, made_ok]
    · rw [List.length_map]
      have := List.length_filter_le (fun y => !decide (y ∈ u)) t
      omega
    · rw [evi_cons, ev_cmp]
      show R.bind ((inD (.int y) (tupZ u)).map _) _ = _
      rw [in_tupZ, m_ok, b_ok, truth_bl, b_ok]
      cases decide (y ∈ u) <;> rfl
  rw [ev_bi, evs_cons, c]
  rfl
theorem sorted_tup (l : List Int) : sortedD [.tup (l.map .int)] = .ok (.lst ((sortI l).map .int)) := by
  unfold sortedD
  dsimp only
  rw [toInts_map]
theorem add_tup {xs ys : List D} (h : xs.length + ys.length ≤ 1000000) : addD (.tup xs) (.tup ys) = .ok (.tup (xs ++ ys)) := by
  unfold addD
  dsimp only
  rw [show lenLine (xs.length + ys.length) = true from decide_eq_true h]
  rfl
/-! ### branching -/
def innB : List S := [.asgC 7 (.comp (.var 9) (.tup [.nm 8, .nm 9]) (.peek 0) [.call false 0 [.peek 9, .peek 6]] [8, 9]), .ife (.cmp .eq (.bi .len [.peek 7]) (.cst (.int 0))) [.app 2 (.var 6)] [.ext 5 (.comp (.bi .tuple [.bi .sorted [.bin .add (.peek 6) (.tup [.var 10])]]) (.nm 10) (.idx (.peek 7) (.cst (.int 0))) [] [10])]]
abbrev Eb (L : Mi.Slot) (most : Int) (f v : List Tu) (a4 a5 a6 a7 : Mi.Slot) : Mi.Env := [L, .frz (.int most), .own (.lst (f.map tupZ)), .own (.lst (v.map tupZ)), a4, a5, a6, a7, .un, .un, .un]
abbrev Ec (L : Mi.Slot) (most : Int) (f v : List Tu) (a4 a5 a6 a7 : Mi.Slot) : Mi.Env := [L, .frz (.int most), .own (.lst (f.map tupZ)), .bor (.lst (v.map tupZ)), a4, a5, a6, a7, .un, .un, .un]
def fnd1 (ls : List Tu) (t : Tu) : List Tu := if (missed ls t).isEmpty then [t] else []
include ha in
theorem inn_turn (l : List Itm) (hl : l.length ≤ 1000) (hf : Few l) (most : Int) (f v g : List Tu) (hf2 : f.length < 900000) (hg : g.length < 900000) (t : Tu) (ht : t.length ≤ 1000) (a4 : D) {L : Mi.Slot} (h : Sn (.lst (l.map it)) L) :
    ∃ a7, evSs Γ innB (Ec L most f v (.frz a4) (.own (.lst (g.map tupZ))) (.frz (tupZ t)) .un) = .nx (Ec L most (f ++ fnd1 (lotsOf l) t) v (.frz a4) (.own (.lst ((g ++ longer1 (lotsOf l) t).map tupZ))) (.frz (tupZ t)) a7) := by
  refine ⟨.own (.lst ((missed (lotsOf l) t).map tupZ)), ess_asgC (d := .lst ((missed (lotsOf l) t).map tupZ)) (e1 := Ec L most f v (.frz a4) (.own (.lst (g.map tupZ))) (.frz (tupZ t)) (.own (.lst ((missed (lotsOf l) t).map tupZ)))) ?_ rfl ?_⟩
  · rw [ev_comp, ev_peek, gt_zero, h.val, b_ok, items_lst, b_ok, compL_filter it (fun p => apZ p.2 t) (fun p => tupZ p.2) l fun p _ => ⟨[L, .frz (.int most), .own (.lst (f.map tupZ)), .bor (.lst (v.map tupZ)), .frz a4, .own (.lst (g.map tupZ)), .frz (tupZ t), .un, .frz (.int p.1), .frz (tupZ p.2), .un], rfl, ?_, fun _ => rfl⟩, n_ok, b_ok, made_ok, filter_missed]
    · rw [List.length_map]
      have := List.length_filter_le (fun p : Itm => apZ p.2 t) l
      omega
    · rw [evi_cons, ev_call]
      show R.bind (R.bind (R.ok ([.frz (tupZ p.2), .frz (tupZ t)] : List Mi.Slot)) _) _ = _
      rw [b_ok, ha, b_ok, truth_bl, b_ok]
      cases apZ p.2 t <;> rfl
  · have lots4 : ∀ lot ∈ missed (lotsOf l) t, lot.length ≤ 4 := fun lot hlot => by
      unfold missed at hlot
      obtain ⟨p, hp, rfl⟩ := List.mem_map.mp (List.mem_filter.mp hlot).1
      exact hf p hp
    unfold fnd1 longer1
    cases e : missed (lotsOf l) t with
    | nil =>
      refine ess_if (t := true) (e1 := Ec L most (f ++ [t]) v (.frz a4) (.own (.lst ((g ++ []).map tupZ))) (.frz (tupZ t)) (.own (.lst []))) rfl (ess_app (d := tupZ t) rfl rfl (by rw [List.length_map]; omega) ?_ rfl) rfl
      rw [List.append_nil]
      unfold Ec
      rw [List.map_append (l₁ := f)]
      rfl
    | cons lot r =>
      have l4 := lots4 lot (by rw [e]; exact List.mem_cons_self)
      refine ess_if (t := false) (e1 := Ec L most (f ++ []) v (.frz a4) (.own (.lst ((g ++ lot.map fun x => sortI (t ++ [x])).map tupZ))) (.frz (tupZ t)) (.own (.lst ((lot :: r).map tupZ)))) ?_ (ess_nx (e := Ec L most (f ++ []) v (.frz a4) (.own (.lst ((g ++ lot.map fun x => sortI (t ++ [x])).map tupZ))) (.frz (tupZ t)) (.own (.lst ((lot :: r).map tupZ)))) ?_ rfl) rfl
      · show R.ok (D.bl ((((lot :: r).map tupZ).length : Int) == 0)) = _
        congr 2
      · have c : evE Γ (.comp (.bi .tuple [.bi .sorted [.bin .add (.peek 6) (.tup [.var 10])]]) (.nm 10) (.idx (.peek 7) (.cst (.int 0))) [] [10]) (Ec L most f v (.frz a4) (.own (.lst (g.map tupZ))) (.frz (tupZ t)) (.own (.lst ((lot :: r).map tupZ)))) = .ok (.lst ((lot.map fun x => sortI (t ++ [x])).map tupZ)) := by
          rw [ev_comp, show evE Γ (.idx (.peek 7) (.cst (.int 0))) (Ec L most f v (.frz a4) (.own (.lst (g.map tupZ))) (.frz (tupZ t)) (.own (.lst ((lot :: r).map tupZ)))) = .ok (tupZ lot) by
            show optR (L2.atI ((lot :: r).map tupZ) ((0 : Nat) : Int)) = _
            rw [Mi.atI_nat]
            rfl, b_ok, show items (tupZ lot) = .ok (lot.map D.int) from rfl, b_ok,
            compL_map D.int (fun x => tupZ (sortI (t ++ [x]))) lot fun x _ => ⟨[L, .frz (.int most), .own (.lst (f.map tupZ)), .bor (.lst (v.map tupZ)), .frz a4, .own (.lst (g.map tupZ)), .frz (tupZ t), .own (.lst ((lot :: r).map tupZ)), .un, .un, .frz (.int x)], rfl, rfl, ?_⟩, n_ok, b_ok, made_ok, List.map_map]
          · rfl
          · rw [List.length_map]; omega
          · have e1 : ∀ env : Mi.Env, evE Γ (.peek 6) env = .ok (tupZ t) → evE Γ (.var 10) env = .ok (.int x) → evE Γ (.bin .add (.peek 6) (.tup [.var 10])) env = .ok (.tup ((t ++ [x]).map .int)) := fun env h1 h2 => by
              rw [ev_bin, h1, b_ok, ev_tup, evs_cons, h2]
              show addD (.tup (t.map .int)) (.tup [.int x]) = _
              rw [add_tup (by rw [List.length_map, List.length_singleton]; omega), List.map_append]
              rfl
            rw [ev_bi, evs_cons, ev_bi, evs_cons, e1 _ rfl rfl, b_ok, evs_nil, m_ok, b_ok, show biD Bi.sorted [.tup ((t ++ [x]).map .int)] = sortedD [.tup ((t ++ [x]).map .int)] from rfl, sorted_tup]
            rfl
        rw [es_ext]
        show R.only (R.ok (g.map tupZ)) _ = _
        rw [y_ok, c, o_ok']
        dsimp only
        rw [show lenLine ((g.map tupZ).length + ((lot.map fun x => sortI (t ++ [x])).map tupZ).length) = true from decide_eq_true (by rw [List.length_map, List.length_map, List.length_map]; omega), if_pos rfl, ← List.map_append, List.append_nil]
        rfl
theorem lens_le (ls : List Tu) (h4 : ∀ l ∈ ls, l.length ≤ 4) (t : Tu) : (longer1 ls t).length ≤ 4 := by
  unfold longer1
  split
  · simp
  · rename_i lot r e
    rw [List.length_map]
    have : lot ∈ missed ls t := by rw [e]; exact List.mem_cons_self
    exact h4 lot (List.mem_filter.mp this).1
include ha in
/-- one size -/
theorem size_turn (l : List Itm) (hl : l.length ≤ 1000) (hf : Few l) (most : Int) (f v : List Tu) (hf2 : f.length < 800000) (hv : v.length * 4 < 1000) (hv2 : ∀ t ∈ v, t.length ≤ 1000) (a4 : D) (b5 : Mi.Slot) {L : Mi.Slot} (h : Sn (.lst (l.map it)) L) :
    evSs Γ [.asg (.nm 5) (.lst []), .fr (.nm 6) (.peek 3) innB, .asg (.nm 3) (.bi .sset [.peek 5])] (Eb L most f v (.frz a4) .un .un .un) = .nx (Eb L most (f ++ v.flatMap (fnd1 (lotsOf l))) (lxOf (longer (lotsOf l) v)) (.frz a4) (.own (.lst ((longer (lotsOf l) v).map tupZ))) .un .un) := by
  have h4 : ∀ x ∈ lotsOf l, x.length ≤ 4 := fun x hx => by
    obtain ⟨p, hp, rfl⟩ := List.mem_map.mp hx
    exact hf p hp
  have lp := (ef_fold (body := evSs Γ innB) (bd := bindT (.nm 6)) (e0 := Eb L most f v (.frz a4) (.own (.lst [])) .un .un) tupZ (fun (s : List Tu × List Tu) t => (s.1 ++ fnd1 (lotsOf l) t, s.2 ++ longer1 (lotsOf l) t)) (fun s => Ec L most s.1 v (.frz a4) (.own (.lst (s.2.map tupZ))) .un .un)
    (fun i s => s.1.length ≤ f.length + i ∧ s.2.length ≤ 4 * i) v.length v 0 (f, []) (by omega) ⟨by simp, by simp⟩ fun i s t ht hN hP => by
      obtain ⟨a7, h7⟩ := inn_turn ha l hl hf most s.1 v s.2 (by omega) (by omega) t (hv2 t ht) a4 h
      have c1 : (fnd1 (lotsOf l) t).length ≤ 1 := by
        unfold fnd1
        split <;> simp
      have c2 := lens_le (lotsOf l) h4 t
      refine ⟨⟨by rw [List.length_append]; omega, by rw [List.length_append]; omega⟩, _, _, rfl, h7, ?_⟩
      rw [h.mk]
      rfl).1
  have fold : ∀ (v : List Tu) (f g : List Tu), v.foldl (fun (s : List Tu × List Tu) t => (s.1 ++ fnd1 (lotsOf l) t, s.2 ++ longer1 (lotsOf l) t)) (f, g) = (f ++ v.flatMap (fnd1 (lotsOf l)), g ++ longer (lotsOf l) v) := fun v => by
    induction v with
    | nil => intro f g; simp [longer]
    | cons t v ih =>
      intro f g
      rw [List.foldl_cons, ih, List.flatMap_cons]
      unfold longer
      rw [List.flatMap_cons, List.append_assoc, List.append_assoc]
  rw [fold, List.nil_append] at lp
  have ll : (longer (lotsOf l) v).length < 1000 := by
    have go : ∀ v : List Tu, (longer (lotsOf l) v).length ≤ v.length * 4 := fun v => by
      induction v with
      | nil => simp [longer]
      | cons t v ih =>
        unfold longer at *
        rw [List.flatMap_cons, List.length_append, List.length_cons]
        have := lens_le (lotsOf l) h4 t
        omega
    have := go v
    omega
  have ne : ∀ t ∈ longer (lotsOf l) v, t ≠ [] := fun t ht e => by
    unfold longer at ht
    obtain ⟨s, _, ht⟩ := List.mem_flatMap.mp ht
    unfold longer1 at ht
    split at ht
    · cases ht
    · obtain ⟨x, _, e2⟩ := List.mem_map.mp ht
      have := sortI_len (s ++ [x])
      rw [e2, e, List.length_append, List.length_singleton] at this
      simp at this
  obtain ⟨m, e1, lm, mm⟩ := sset_tups (longer (lotsOf l) v) ll ne
  have em : m = lxOf (longer (lotsOf l) v) := lxd_uniq lm (lxOf_lx _) fun x => (mm x).trans lxOf_mem.symm
  rw [em] at e1
  refine ess_asg (e1 := Eb L most f v (.frz a4) (.own (.lst [])) .un .un) rfl rfl (ess_for (xs := v.map tupZ) (e1 := Ec L most f v (.frz a4) (.own (.lst [])) .un .un) (e3 := Eb L most (f ++ v.flatMap (fnd1 (lotsOf l))) v (.frz a4) (.own (.lst ((longer (lotsOf l) v).map tupZ))) .un .un) rfl ?_ lp ?_ (ess_asg (d := .lst ((lxOf (longer (lotsOf l) v)).map tupZ)) ?_ rfl rfl))
  · rfl
  · rfl
  · rw [ev_bi, evs_cons, ev_peek]
    show R.bind (R.ok [D.lst ((longer (lotsOf l) v).map tupZ)]) _ = _
    rw [b_ok]
    exact e1
include ha in
theorem branched_run (n : Nat) (l : List Itm) (hl : l.length ≤ 1000) (hf : Few l) (hls : ∀ x ∈ lotsOf l, ∀ y ∈ x, 0 ≤ y ∧ y < (n : Int)) (most : Nat) (hm : most ≤ 100) (hlev : ∀ k, k ≤ most → (lev n k).length * 4 < 1000) {L : Mi.Slot} (h : Sn (.lst (l.map it)) L) :
    runB Γ b_branched_meetings [L, .frz (.int most)] = .ok (.lst (((List.range (most + 1)).flatMap fun k => (bl (lotsOf l) k).flatMap (fnd1 (lotsOf l))).map tupZ)) := by
  have tot : ∀ j, j ≤ most + 1 → ((List.range j).flatMap fun k => (bl (lotsOf l) k).flatMap (fnd1 (lotsOf l))).length ≤ j * 250 := fun j => by
    induction j with
    | zero => simp
    | succ j ih =>
      intro hj
      rw [List.range_succ, List.flatMap_append, List.length_append, List.flatMap_singleton]
      have := ih (by omega)
      have h1 := bl_len hls j
      have h2 := hlev j (by omega)
      have h3 : ∀ v : List Tu, (v.flatMap (fnd1 (lotsOf l))).length ≤ v.length := fun v => by
        induction v with
        | nil => simp
        | cons t v ih =>
          rw [List.flatMap_cons, List.length_append, List.length_cons]
          have : (fnd1 (lotsOf l) t).length ≤ 1 := by
            unfold fnd1
            split <;> simp
          omega
      have := h3 (bl (lotsOf l) j)
      omega
  have lp := ef_steps (body := evSs Γ [.asg (.nm 5) (.lst []), .fr (.nm 6) (.peek 3) innB, .asg (.nm 3) (.bi .sset [.peek 5])]) (bd := bindT (.nm 4)) (e0 := Eb L most [] [[]] .un .un .un .un)
    (fun j => Eb L most ((List.range j).flatMap fun k => (bl (lotsOf l) k).flatMap (fnd1 (lotsOf l))) (bl (lotsOf l) j) .un .un .un .un) ((List.range (most + 1)).map fun (k : Nat) => D.int (k : Int)) 0 fun j x hx => by
      have hj : j < most + 1 := by
        have := (List.getElem?_eq_some_iff.mp hx).1
        simpa using this
      rw [Nat.zero_add]
      have hb := bl_len hls j
      have h2 := hlev j (by omega)
      refine ⟨_, _, rfl, size_turn ha l hl hf most _ _ (by have := tot j (by omega); omega) (by omega) (fun t ht => by have := (bl_ok hls j t ht).2; omega) x .un h, ?_⟩
      rw [List.range_succ, List.flatMap_append, List.flatMap_singleton]
      show mask (L :: _) (L :: _) = _
      rw [h.mk]
      rfl
  rw [List.length_map, List.length_range, Nat.zero_add] at lp
  refine run_ret (env := [L, .frz (.int most), .un, .un, .un, .un, .un, .un, .un, .un, .un]) (own := true) rfl (ess_asg (e1 := [L, .frz (.int most), .own (.lst []), .un, .un, .un, .un, .un, .un, .un, .un]) rfl rfl (ess_asg (e1 := Eb L most [] [[]] .un .un .un .un) rfl rfl
    (ess_for (rng0 (n := most + 1) rfl (by omega)) rfl lp rfl (ess_rt rfl)))) rfl
end
theorem flat_ite {α : Type} (p : α → Bool) : ∀ v : List α, (v.flatMap fun t => if p t then [t] else []) = v.filter p
  | [] => rfl
  | t :: v => by
    rw [List.flatMap_cons, flat_ite p v, List.filter_cons]
    split <;> rfl
theorem filter_flat {α β : Type} (p : β → Bool) (g : α → List β) : ∀ v : List α, (v.flatMap g).filter p = v.flatMap fun a => (g a).filter p
  | [] => rfl
  | t :: v => by rw [List.flatMap_cons, List.flatMap_cons, List.filter_append, filter_flat p g v]
def smB (ls : List Tu) (t : Tu) : Bool := (t.filter fun x => MT ls (t.filter fun y => !decide (y = x))).isEmpty
/-- the circumstances: things, most, items -/
structure Sc (n most : Nat) (l : List Itm) : Prop where
  len : l.length ≤ 1000
  few : Few l
  ent : ∀ x ∈ lotsOf l, ∀ y ∈ x, 0 ≤ y ∧ y < (n : Int)
  m : most ≤ 100
  lev : ∀ k, k ≤ most → (lev n k).length * 4 < 1000
theorem tups_len {n most : Nat} (hm : most ≤ 100) (hlev : ∀ k, k ≤ most → (lev n k).length * 4 < 1000) : (tups n most).length ≤ 25250 := by
  have go : ∀ j, j ≤ most + 1 → ((List.range j).flatMap (lev n)).length ≤ j * 250 := fun j => by
    induction j with
    | zero => simp
    | succ j ih =>
      intro hj
      rw [List.range_succ, List.flatMap_append, List.length_append, List.flatMap_singleton]
      have := ih (by omega)
      have := hlev j (by omega)
      omega
  have := go (most + 1) (Nat.le_refl _)
  show ((List.range (most + 1)).flatMap (lev n)).length ≤ 25250
  omega
theorem len0 {α : Type} (xs : List α) : ((xs.length : Int) == 0) = xs.isEmpty := by
  cases xs with
  | nil => rfl
  | cons a r =>
    rw [List.length_cons]
    simp
    omega
theorem found_all {n most : Nat} {l : List Itm} (S : Sc n most l) : (((List.range (most + 1)).flatMap fun k => (bl (lotsOf l) k).flatMap (fnd1 (lotsOf l))).filter (smB (lotsOf l))) = (tups n most).filter (minB (lotsOf l)) := by
  rw [filter_flat]
  unfold tups
  rw [filter_flat]
  congr 1
  funext k
  rw [← found_eq S.ent k]
  unfold found1
  have : (bl (lotsOf l) k).flatMap (fnd1 (lotsOf l)) = (bl (lotsOf l) k).filter fun t => (missed (lotsOf l) t).isEmpty := flat_ite _ _
  rw [this]
  rfl
section
variable {Γ : Glob} (hw : ∀ (t u : Tu), t.length ≤ 1000 → Γ.call 1 [.frz (tupZ t), .frz (tupZ u)] = .ok (tupZ (t.filter fun y => !decide (y ∈ u))))
  (hm : ∀ (l : List Itm) (t : Tu) (L : Mi.Slot), l.length ≤ 1000 → Sn (.lst (l.map it)) L → Γ.call 2 [L, .frz (tupZ t)] = .ok (.bl (MT (lotsOf l) t)))
  (hb : ∀ (n most : Nat) (l : List Itm) (L : Mi.Slot), Sc n most l → Sn (.lst (l.map it)) L → Γ.call 3 [L, .frz (.int most)] = .ok (.lst (((List.range (most + 1)).flatMap fun k => (bl (lotsOf l) k).flatMap (fnd1 (lotsOf l))).map tupZ)))
include hw hm hb in
theorem minimal_run (n most : Nat) (l : List Itm) (S : Sc n most l) {L : Mi.Slot} (h : Sn (.lst (l.map it)) L) : runB Γ b_minimal_meetings [L, .frz (.int most)] = .ok (.lst (((tups n most).filter (minB (lotsOf l))).map tupZ)) := by
  rw [← found_all S]
  have mem : ∀ t ∈ (List.range (most + 1)).flatMap fun k => (bl (lotsOf l) k).flatMap (fnd1 (lotsOf l)), t ∈ tups n most := fun t ht => by
    obtain ⟨k, hk, ht⟩ := List.mem_flatMap.mp ht
    obtain ⟨s, hs, ht⟩ := List.mem_flatMap.mp ht
    unfold fnd1 at ht
    split at ht
    · rw [List.mem_singleton.mp ht]
      exact List.mem_flatMap.mpr ⟨k, hk, bl_sub S.ent k s hs⟩
    · cases ht
  have hlen : ((List.range (most + 1)).flatMap fun k => (bl (lotsOf l) k).flatMap (fnd1 (lotsOf l))).length ≤ 25250 := by
    have go : ∀ j, j ≤ most + 1 → ((List.range j).flatMap fun k => (bl (lotsOf l) k).flatMap (fnd1 (lotsOf l))).length ≤ j * 250 := fun j => by
      induction j with
      | zero => simp
      | succ j ih =>
        intro hj
        rw [List.range_succ, List.flatMap_append, List.length_append, List.flatMap_singleton]
        have := ih (by omega)
        have h1 := bl_len S.ent j
        have h2 := S.lev j (by omega)
        have e : (bl (lotsOf l) j).flatMap (fnd1 (lotsOf l)) = (bl (lotsOf l) j).filter fun t => (missed (lotsOf l) t).isEmpty := flat_ite _ _
        have := List.length_filter_le (fun t => (missed (lotsOf l) t).isEmpty) (bl (lotsOf l) j)
        rw [e]
        omega
    have := go (most + 1) (Nat.le_refl _)
    have := S.m
    omega
  generalize hF : ((List.range (most + 1)).flatMap fun k => (bl (lotsOf l) k).flatMap (fnd1 (lotsOf l))) = fnd at mem hlen
  have lp := ef_acc (body := evSs Γ [.asgC 4 (.comp (.var 5) (.nm 5) (.peek 3) [.call false 2 [.peek 0, .call false 1 [.peek 3, .tup [.var 5]]]] [5]), .ife (.cmp .eq (.bi .len [.peek 4]) (.cst (.int 0))) [.app 2 (.var 3)] []]) (bd := bindT (.nm 3)) (e0 := [L, .frz (.int most), .own (.lst []), .un, .un, .un])
    tupZ (fun t => if smB (lotsOf l) t then [t] else []) (fun acc => [L, .frz (.int most), .own (.lst (acc.map tupZ)), .un, .un, .un]) 30000 fnd [] (by
      rw [flat_ite]
      have := List.length_filter_le (smB (lotsOf l)) fnd
      rw [List.length_nil]
      omega) fun acc t ht hB => by
      have htl : t.length ≤ 1000 := by
        have := (tups_mem.mp (mem t ht)).2
        have := S.m
        omega
      have c : evE Γ (.comp (.var 5) (.nm 5) (.peek 3) [.call false 2 [.peek 0, .call false 1 [.peek 3, .tup [.var 5]]]] [5]) [L, .frz (.int most), .own (.lst (acc.map tupZ)), .frz (tupZ t), .un, .un] = .ok (.lst ((t.filter fun x => MT (lotsOf l) (t.filter fun y => !decide (y = x))).map .int)) := by
        rw [ev_comp, show evE Γ (.peek 3) [L, .frz (.int most), .own (.lst (acc.map tupZ)), .frz (tupZ t), .un, .un] = .ok (tupZ t) from rfl, b_ok, show items (tupZ t) = .ok (t.map D.int) from rfl, b_ok,
          compL_filter D.int (fun x => MT (lotsOf l) (t.filter fun y => !decide (y = x))) D.int t fun x _ => ⟨[L, .frz (.int most), .own (.lst (acc.map tupZ)), .frz (tupZ t), .un, .frz (.int x)], rfl, ?_, fun _ => rfl⟩, n_ok, b_ok, made_ok]
        · rw [List.length_map]
          have := List.length_filter_le (fun x => MT (lotsOf l) (t.filter fun y => !decide (y = x))) t
          omega
        · have e1 : evE Γ (.call false 1 [.peek 3, .tup [.var 5]]) [L, .frz (.int most), .own (.lst (acc.map tupZ)), .frz (tupZ t), .un, .frz (.int x)] = .ok (tupZ (t.filter fun y => !decide (y = x))) := by
            rw [ev_call]
            show R.bind (R.ok ([.frz (tupZ t), .frz (tupZ [x])] : List Mi.Slot)) _ = _
            rw [b_ok, hw t [x] htl]
            congr 3
            funext y
            simp
          rw [evi_cons, ev_call, eva_cons, ev_peek, gt_zero, h.val, b_ok, lend_peek, gt_zero, h.le, eva_cons, e1, b_ok, eva_nil, m_ok, m_ok, b_ok]
          show R.bind (Γ.call 2 [L, .frz (tupZ (t.filter fun y => !decide (y = x)))]) _ = _
          rw [hm l _ L S.len h, b_ok, truth_bl, b_ok]
          cases MT (lotsOf l) (t.filter fun y => !decide (y = x)) <;> rfl
      refine ⟨[L, .frz (.int most), .own (.lst (acc.map tupZ)), .frz (tupZ t), .un, .un], [L, .frz (.int most), .own (.lst ((acc ++ if smB (lotsOf l) t then [t] else []).map tupZ)), .frz (tupZ t), .own (.lst ((t.filter fun x => MT (lotsOf l) (t.filter fun y => !decide (y = x))).map .int)), .un], rfl, ess_asgC c rfl ?_, ?_⟩
      · have c2 : evE Γ (.cmp .eq (.bi .len [.peek 4]) (.cst (.int 0))) [L, .frz (.int most), .own (.lst (acc.map tupZ)), .frz (tupZ t), .own (.lst ((t.filter fun x => MT (lotsOf l) (t.filter fun y => !decide (y = x))).map .int)), .un] = .ok (.bl (smB (lotsOf l) t)) := by
          show R.ok (D.bl ((((t.filter fun x => MT (lotsOf l) (t.filter fun y => !decide (y = x))).map D.int).length : Int) == 0)) = _
          rw [List.length_map, len0]
          rfl
        cases hs : smB (lotsOf l) t with
        | true =>
          rw [hs] at c2
          exact ess_if c2 (ess_app (d := tupZ t) rfl rfl (by rw [List.length_map]; omega) rfl rfl) (by rw [if_pos rfl, List.map_append]; rfl)
        | false =>
          rw [hs] at c2
          exact ess_if c2 rfl (by
            show Out.nx [L, .frz (.int most), .own (.lst (acc.map tupZ)), .frz (tupZ t), .own (.lst ((t.filter fun x => MT (lotsOf l) (t.filter fun y => !decide (y = x))).map .int)), .un] = .nx [L, .frz (.int most), .own (.lst ((acc ++ []).map tupZ)), .frz (tupZ t), _, .un]
            rw [List.append_nil])
      · rw [h.mk]
        rfl
  rw [flat_ite] at lp
  refine run_ret (env := [L, .frz (.int most), .un, .un, .un, .un]) (own := true) rfl (ess_asg (e1 := [L, .frz (.int most), .own (.lst []), .un, .un, .un]) rfl rfl (ess_for (xs := fnd.map tupZ) (e1 := [L, .frz (.int most), .own (.lst []), .un, .un, .un]) ?_ rfl lp rfl (ess_rt rfl))) rfl
  rw [ev_call, eva_cons, ev_peek, gt_zero, h.val, b_ok, lend_peek, gt_zero, h.le]
  show R.bind (R.bind (R.ok ([L, .frz (.int most)] : List Mi.Slot)) _) _ = _
  rw [b_ok, hb n most l L S h, hF]
  rfl
def ansD (o : Option K3) : D := match o with
  | none => .non
  | some k => .tup [.int k.1, tupZ k.2.2]
theorem cost_comp {cs : List Int} {n : Nat} (hn : cs.length = n) {t : Tu} (ht : Ok n t) (hl : t.length ≤ 1000) (bd : D → R Mi.Env) (elt : Mi.Env → R D) (tst : Mi.Env → R Bool)
    (hx : ∀ x : Int, ∃ e, bd (.int x) = .ok e ∧ tst e = .ok true ∧ elt e = idxD (.lst (cs.map .int)) (.int x)) : ((compL bd tst elt (t.map .int)).nox.bind made).bind (fun x => (R.ok [x]).bind fun ds => biD .sum ds) = .ok (.int (costT cs t)) := by
  have e : compL bd tst elt (t.map .int) = .ok (t.map fun x => D.int (cs.getD x.toNat 0)) := compL_map D.int (fun x => D.int (cs.getD x.toNat 0)) t fun x hx' => by
    obtain ⟨e, h1, h2, h3⟩ := hx x
    refine ⟨e, h1, h2, ?_⟩
    obtain ⟨a, b⟩ := ht.2 x hx'
    rw [h3]
    show optR (L2.atI (cs.map D.int) x) = _
    rw [← Int.toNat_of_nonneg a, Mi.atI_nat, List.getElem?_map, List.getD_eq_getElem?_getD]
    have : x.toNat < cs.length := by omega
    rw [List.getElem?_eq_getElem this, Int.toNat_natCast, List.getElem?_eq_getElem this]
    rfl
  rw [e, n_ok, b_ok, made_ok (by rw [List.length_map]; omega), b_ok, b_ok]
  show sumD [.lst (t.map fun x => D.int (cs.getD x.toNat 0))] = _
  unfold sumD
  dsimp only
  have : (t.map fun x => D.int (cs.getD x.toNat 0)) = (t.map fun x => cs.getD x.toNat 0).map .int := by rw [List.map_map]; rfl
  rw [this, toInts_map]
  rfl
end
section
variable {Γ : Glob} (h4 : ∀ (n most : Nat) (l : List Itm) (L : Mi.Slot), Sc n most l → Sn (.lst (l.map it)) L → Γ.call 4 [L, .frz (.int most)] = .ok (.lst (((tups n most).filter (minB (lotsOf l))).map tupZ)))
include h4 in
theorem cheap_run (n most : Nat) (l : List Itm) (S : Sc n most l) (cs : List Int) (hn : cs.length = n) {L C : Mi.Slot} (h : Sn (.lst (l.map it)) L) (hC : Sn (.lst (cs.map .int)) C) : runB Γ b_cheapest_meeting [L, C, .frz (.int most)] = .ok (ansD (bestO (((tups n most).filter (minB (lotsOf l))).map (keyT cs)))) := by
  have hlen : ((tups n most).filter (minB (lotsOf l))).length ≤ 25250 := Nat.le_trans (List.length_filter_le _ _) (tups_len S.m S.lev)
  have mem : ∀ t ∈ (tups n most).filter (minB (lotsOf l)), t ∈ tups n most := fun t ht => (List.mem_filter.mp ht).1
  generalize hB : (tups n most).filter (minB (lotsOf l)) = B at hlen mem
  have c : evE Γ (.comp (.tup [.bi .sum [.comp (.idx (.peek 1) (.peek 6)) (.nm 6) (.peek 5) [] [6]], .bi .len [.peek 5], .var 5]) (.nm 5) (.call true 4 [.peek 0, .peek 2]) [] [5]) [L, C, .frz (.int most), .un, .un, .un, .un] = .ok (.lst ((B.map (keyT cs)).map kd)) := by
    have e4 : evE Γ (.call true 4 [.peek 0, .peek 2]) [L, C, .frz (.int most), .un, .un, .un, .un] = .ok (.lst (B.map tupZ)) := by
      rw [ev_call, eva_cons, ev_peek, gt_zero, h.val, b_ok, lend_peek, gt_zero, h.le]
      show R.bind (R.ok ([L, .frz (.int most)] : List Mi.Slot)) _ = _
      rw [b_ok, h4 n most l L S h, hB]
    rw [ev_comp, e4, b_ok, items_lst, b_ok, compL_map tupZ (fun t => kd (keyT cs t)) B fun t ht => ⟨[L, C, .frz (.int most), .un, .un, .frz (tupZ t), .un], rfl, rfl, ?_⟩, n_ok, b_ok, made_ok, List.map_map]
    · rfl
    · rw [List.length_map]; omega
    · obtain ⟨o, ol⟩ := tups_mem.mp (mem t ht)
      have om := S.m
      have cc := cost_comp hn o (by omega) (fun x => bindT (.nm 6) x (wipe [L, C, .frz (.int most), .un, .un, .frz (tupZ t), .un] [6])) (evE Γ (.idx (.peek 1) (.peek 6))) (evIfs Γ []) fun x => ⟨[L, C, .frz (.int most), .un, .un, .frz (tupZ t), .frz (.int x)], rfl, rfl, by
        rw [ev_idx, ev_peek, gt_succ, gt_zero, hC.val]
        rfl⟩
      have e1 : evE Γ (.bi .sum [.comp (.idx (.peek 1) (.peek 6)) (.nm 6) (.peek 5) [] [6]]) [L, C, .frz (.int most), .un, .un, .frz (tupZ t), .un] = .ok (.int (costT cs t)) := by
        rw [ev_bi, evs_cons, ev_comp, show evE Γ (.peek 5) [L, C, .frz (.int most), .un, .un, .frz (tupZ t), .un] = .ok (tupZ t) from rfl, b_ok, show items (tupZ t) = .ok (t.map D.int) from rfl, b_ok, evs_nil]
        generalize (compL _ _ _ (t.map D.int)).nox.bind made = r at cc ⊢
        cases r <;> exact cc
      have e2 : evE Γ (.bi .len [.peek 5]) [L, C, .frz (.int most), .un, .un, .frz (tupZ t), .un] = .ok (.int (t.length : Int)) := by
        show R.ok (D.int ((t.map D.int).length : Int)) = _
        rw [List.length_map]
      rw [ev_tup, evs_cons, e1, b_ok, evs_cons, e2]
      rfl
  refine run_ret (env := [L, C, .frz (.int most), .un, .un, .un, .un]) (own := false) rfl (ess_asgC (e1 := [L, C, .frz (.int most), .own (.lst ((B.map (keyT cs)).map kd)), .un, .un, .un]) c rfl ?_) rfl
  cases B.map (keyT cs) with
  | nil => exact ess_if_ret (t := true) rfl (ess_ret rfl)
  | cons k ks =>
    refine ess_if (t := false) ?_ rfl (ess_asg (d := kd (best k ks)) (e1 := [L, C, .frz (.int most), .own (.lst ((k :: ks).map kd)), .frz (kd (best k ks)), .un, .un]) ?_ rfl (ess_ret rfl))
    · show R.ok (D.bl ((((k :: ks).map kd).length : Int) == 0)) = _
      congr 2
    · rw [ev_bi]
      exact min_kd k ks
end
/-! ### the law's own defs -/
/-- a tuple or a list of the same things -/
def Sq (t : Tu) (d : D) : Prop := d = tupZ t ∨ d = .lst (t.map .int)
theorem Sq.items {t : Tu} {d : D} (h : Sq t d) : items d = .ok (t.map .int) := by rcases h with h | h <;> (subst h; rfl)
theorem Sq.inD {t : Tu} {d : D} (h : Sq t d) (x : Int) : cmpD .isin (.int x) d = .ok (.bl (decide (x ∈ t))) := by
  have : (Mi.inD (.int x) d).map D.bl = .ok (.bl (decide (x ∈ t))) := by
    rcases h with h | h
    · subst h
      rw [in_tupZ]
      rfl
    · subst h
      show (isinD (.int x) (t.map .int)).map D.bl = _
      have := in_tupZ x t
      unfold tupZ at this
      have e : Mi.inD (.int x) (.tup (t.map .int)) = isinD (.int x) (t.map .int) := rfl
      rw [e] at this
      rw [this]
      rfl
  exact this
theorem notin_bools (bs : List Bool) : cmpD .notin (.bl true) (.lst (bs.map .bl)) = .ok (.bl (!bs.any id)) := by
  have h1 : (bs.map D.bl).all (eqOk 60) = true := by
    rw [List.all_eq_true]
    intro d hd
    obtain ⟨i, _, rfl⟩ := List.mem_map.mp hd
    rfl
  have h2 : ((bs.map D.bl).any fun y => eqD y (.bl true)) = bs.any id := by
    clear h1
    induction bs with
    | nil => rfl
    | cons b bs ih =>
      rw [List.map_cons, List.any_cons, List.any_cons, ih]
      cases b <;> rfl
  show (isinD (.bl true) (bs.map D.bl)).map _ = _
  unfold isinD
  rw [h1, h2]
  rfl
theorem isin_bools (bs : List Bool) : cmpD .isin (.bl false) (.lst (bs.map .bl)) = .ok (.bl (bs.any (!·))) := by
  have h1 : (bs.map D.bl).all (eqOk 60) = true := by
    rw [List.all_eq_true]
    intro d hd
    obtain ⟨i, _, rfl⟩ := List.mem_map.mp hd
    rfl
  have h2 : ((bs.map D.bl).any fun y => eqD y (.bl false)) = bs.any (!·) := by
    clear h1
    induction bs with
    | nil => rfl
    | cons b bs ih =>
      rw [List.map_cons, List.any_cons, List.any_cons, ih]
      cases b <;> rfl
  show (isinD (.bl false) (bs.map D.bl)).map _ = _
  unfold isinD
  rw [h1, h2]
  rfl
theorem lmeets_run (Γ : Glob) (l : List Itm) (hf : Few l) (t : Tu) {d : D} (hd : Sq t d) {L : Mi.Slot} (h : Sn (.lst (l.map it)) L) : runB Γ b__law_meets [L, .frz d] = .ok (.bl (MT (lotsOf l) t)) := by
  have lp := ef_find (body := evSs Γ [.ife (.cmp .notin (.cst (.bl true)) (.comp (.cmp .isin (.peek 3) (.peek 1)) (.nm 3) (.idx (.peek 2) (.cst (.int 1))) [] [3])) [.ret (.cst (.bl false))] []]) (bd := bindT (.nm 2)) (e0 := [L, .frz d, .un, .un]) (env := [L, .frz d, .un, .un]) (d := .bl false) (b := false) it (fun p => apZ p.2 t) l fun p hp => by
    have c : evE Γ (.comp (.cmp .isin (.peek 3) (.peek 1)) (.nm 3) (.idx (.peek 2) (.cst (.int 1))) [] [3]) [L, .frz d, .frz (it p), .un] = .ok (.lst ((p.2.map fun x => decide (x ∈ t)).map .bl)) := by
      rw [ev_comp, show evE Γ (.idx (.peek 2) (.cst (.int 1))) [L, .frz d, .frz (it p), .un] = .ok (tupZ p.2) from rfl, b_ok, show items (tupZ p.2) = .ok (p.2.map D.int) from rfl, b_ok, compL_map D.int (fun x => D.bl (decide (x ∈ t))) p.2 fun x _ => ⟨[L, .frz d, .frz (it p), .frz (.int x)], rfl, rfl, by
        rw [ev_cmp]
        exact hd.inD x⟩, n_ok, b_ok, made_ok (by rw [List.length_map]; have := hf p hp; omega), List.map_map]
      rfl
    have c2 : evE Γ (.cmp .notin (.cst (.bl true)) (.comp (.cmp .isin (.peek 3) (.peek 1)) (.nm 3) (.idx (.peek 2) (.cst (.int 1))) [] [3])) [L, .frz d, .frz (it p), .un] = .ok (.bl (apZ p.2 t)) := by
      rw [ev_cmp, c, ev_cst, b_ok, b_ok, notin_bools]
      unfold apZ
      rw [List.any_map]
      rfl
    refine ⟨[L, .frz d, .frz (it p), .un], rfl, fun e => ?_, fun e => ?_⟩
    · rw [e] at c2
      exact ess_if_ret c2 rfl
    · rw [e] at c2
      refine ⟨[L, .frz d, .frz (it p), .un], ess_if c2 rfl rfl, ?_⟩
      rw [h.mk]
      rfl
  have hi : (evE Γ (.peek 0) [L, .frz d, .un, .un]).bind items = .ok (l.map it) := by rw [ev_peek, gt_zero, h.val, b_ok, items_lst]
  have hk : onAll lock (pks (.peek 0)) [L, .frz d, .un, .un] = [L, .frz d, .un, .un] := by
    rw [pks_peek, onAll_cons, gt_zero, h.lk]
    rfl
  have hu : unlock [L, .frz d, .un, .un] (pks (.peek 0)) [L, .frz d, .un, .un] = [L, .frz d, .un, .un] := by
    rw [pks_peek, unlock_cons, gt_zero, h.un]
    rfl
  have hM : MT (lotsOf l) t = !(l.any fun p => apZ p.2 t) := by
    unfold MT lotsOf
    rw [List.all_map, Bool.eq_iff_iff]
    simp
  refine run_ret (env := [L, .frz d, .un, .un]) (own := false) rfl ?_ rfl
  rw [hM]
  cases c : l.any fun p => apZ p.2 t with
  | true =>
    rw [c] at lp
    exact ess_rt (es_for_ret hi hk lp)
  | false =>
    rw [c] at lp
    exact ess_for hi hk lp hu (ess_ret rfl)
theorem lminimal_run {Γ : Glob} (hM : ∀ (l : List Itm) (t : Tu) (d : D) (L : Mi.Slot), Few l → Sq t d → Sn (.lst (l.map it)) L → Γ.call 10 [L, .frz d] = .ok (.bl (MT (lotsOf l) t))) (l : List Itm) (hf : Few l) (t : Tu) (hl : t.length ≤ 1000) {L : Mi.Slot} (h : Sn (.lst (l.map it)) L) : runB Γ b__law_minimal [L, .frz (tupZ t)] = .ok (.bl (minB (lotsOf l) t)) := by
  have lp := ef_find (body := evSs Γ [.ife (.call false 10 [.peek 0, .comp (.var 3) (.nm 3) (.peek 1) [.cmp .ne (.peek 3) (.peek 2)] [3]]) [.ret (.cst (.bl false))] []]) (bd := bindT (.nm 2)) (e0 := [L, .frz (tupZ t), .un, .un]) (env := [L, .frz (tupZ t), .un, .un]) (d := .bl false) (b := false) D.int (fun x => MT (lotsOf l) (t.filter fun y => !decide (y = x))) t fun x hx => by
    have c : evE Γ (.comp (.var 3) (.nm 3) (.peek 1) [.cmp .ne (.peek 3) (.peek 2)] [3]) [L, .frz (tupZ t), .frz (.int x), .un] = .ok (.lst ((t.filter fun y => !decide (y = x)).map .int)) := by
      rw [ev_comp, show evE Γ (.peek 1) [L, .frz (tupZ t), .frz (.int x), .un] = .ok (tupZ t) from rfl, b_ok, show items (tupZ t) = .ok (t.map D.int) from rfl, b_ok, compL_filter D.int (fun y => !decide (y = x)) D.int t fun y _ => ⟨[L, .frz (tupZ t), .frz (.int x), .frz (.int y)], rfl, ?_, fun _ => rfl⟩, n_ok, b_ok, made_ok]
      · rw [List.length_map]
        have := List.length_filter_le (fun y => !decide (y = x)) t
        omega
      · rw [evi_cons]
        show R.bind (R.ok (D.bl (!(y == x)))) _ = _
        rw [b_ok, truth_bl, b_ok]
        by_cases e : y = x <;> simp [e]
    have c2 : evE Γ (.call false 10 [.peek 0, .comp (.var 3) (.nm 3) (.peek 1) [.cmp .ne (.peek 3) (.peek 2)] [3]]) [L, .frz (tupZ t), .frz (.int x), .un] = .ok (.bl (MT (lotsOf l) (t.filter fun y => !decide (y = x)))) := by
      rw [ev_call, eva_cons, ev_peek, gt_zero, h.val, b_ok, lend_peek, gt_zero, h.le, eva_cons, c, b_ok, eva_nil, m_ok, m_ok, b_ok]
      exact hM l _ _ L hf (.inr rfl) h
    refine ⟨[L, .frz (tupZ t), .frz (.int x), .un], rfl, fun e => ?_, fun e => ?_⟩
    · rw [e] at c2
      exact ess_if_ret c2 rfl
    · rw [e] at c2
      refine ⟨[L, .frz (tupZ t), .frz (.int x), .un], ess_if c2 rfl rfl, ?_⟩
      rw [h.mk]
      rfl
  have hB : minB (lotsOf l) t = if (t.any fun x => MT (lotsOf l) (t.filter fun y => !decide (y = x))) then false else MT (lotsOf l) t := by
    unfold minB
    have : (t.all fun x => !MT (lotsOf l) (t.filter fun y => !decide (y = x))) = !(t.any fun x => MT (lotsOf l) (t.filter fun y => !decide (y = x))) := by
      rw [Bool.eq_iff_iff]
      simp
    rw [this]
    cases (t.any fun x => MT (lotsOf l) (t.filter fun y => !decide (y = x))) <;> simp
  refine run_ret (env := [L, .frz (tupZ t), .un, .un]) (own := false) rfl ?_ rfl
  rw [hB]
  cases c : t.any fun x => MT (lotsOf l) (t.filter fun y => !decide (y = x)) with
  | true =>
    rw [c] at lp
    exact ess_rt (es_for_ret (xs := t.map .int) rfl rfl lp)
  | false =>
    rw [c] at lp
    refine ess_for (xs := t.map .int) (e3 := [L, .frz (tupZ t), .un, .un]) rfl rfl lp rfl (ess_ret ?_)
    rw [ev_call, eva_cons, ev_peek, gt_zero, h.val, b_ok, lend_peek, gt_zero, h.le]
    exact hM l t _ L hf (.inl rfl) h
theorem lcost_run (Γ : Glob) {cs : List Int} {n : Nat} (hn : cs.length = n) {t : Tu} (ht : Ok n t) (hl : t.length ≤ 1000) {C : Mi.Slot} (hC : Sn (.lst (cs.map .int)) C) : runB Γ b__law_cost [C, .frz (tupZ t)] = .ok (.int (costT cs t)) := by
  refine run_ret (env := [C, .frz (tupZ t), .un]) (own := true) rfl (ess_ret ?_) rfl
  have cc := cost_comp hn ht hl (fun x => bindT (.nm 2) x (wipe [C, .frz (tupZ t), .un] [2])) (evE Γ (.idx (.peek 0) (.peek 2))) (evIfs Γ []) fun x => ⟨[C, .frz (tupZ t), .frz (.int x)], rfl, rfl, by
    rw [ev_idx, ev_peek, gt_zero, hC.val]
    rfl⟩
  rw [ev_bi, evs_cons, ev_comp, show evE Γ (.peek 1) [C, .frz (tupZ t), .un] = .ok (tupZ t) from rfl, b_ok, show items (tupZ t) = .ok (t.map D.int) from rfl, b_ok, evs_nil]
  generalize (compL _ _ _ (t.map D.int)).nox.bind made = r at cc ⊢
  cases r <;> exact cc
theorem lplain_run (Γ : Glob) (t : Tu) (hl : t.length ≤ 1000) : runB Γ b__law_plain [.frz (tupZ t)] = .ok (.bl true) := by
  refine run_ret (env := [.frz (tupZ t), .un]) (own := false) rfl (ess_ret ?_) rfl
  have c : evE Γ (.comp (.isi .bool (.peek 1)) (.nm 1) (.peek 0) [] [1]) [.frz (tupZ t), .un] = .ok (.lst ((t.map fun _ => false).map .bl)) := by
    rw [ev_comp, show evE Γ (.peek 0) [.frz (tupZ t), .un] = .ok (tupZ t) from rfl, b_ok, show items (tupZ t) = .ok (t.map D.int) from rfl, b_ok, compL_map D.int (fun _ => D.bl false) t fun x _ => ⟨[.frz (tupZ t), .frz (.int x)], rfl, rfl, rfl⟩, n_ok, b_ok, made_ok (by rw [List.length_map]; omega), List.map_map]
    rfl
  rw [ev_and, show evE Γ (.isi .tuple (.peek 0)) [.frz (tupZ t), .un] = .ok (.bl true) from rfl, b_ok]
  show evE Γ (.cmp .notin (.cst (.bl true)) _) _ = _
  rw [ev_cmp, c, ev_cst, b_ok, b_ok, notin_bools]
  congr 2
  rw [List.any_map]
  simp
theorem lsame_run {Γ : Glob} (hp : ∀ t : Tu, t.length ≤ 1000 → Γ.call 14 [.frz (tupZ t)] = .ok (.bl true)) (o : Option K3) (ho : ∀ k, o = some k → k.2.2.length ≤ 1000) : runB Γ b__law_same [.frz (ansD o), .frz (ansD o)] = .ok (.bl true) := by
  refine run_ret (env := [.frz (ansD o), .frz (ansD o)]) (own := false) rfl ?_ rfl
  cases o with
  | none => exact ess_if_ret (t := true) rfl (ess_ret rfl)
  | some k =>
    have hne : evE Γ (.cmp .ne (.peek 0) (.peek 1)) [.frz (ansD (some k)), .frz (ansD (some k))] = .ok (.bl false) := by
      rw [ev_cmp]
      exact neR_self (d := .tup [.int k.1, tupZ k.2.2]) (eqOk_it 57 (k.1, k.2.2))
    have hlen : evE Γ (.cmp .ne (.bi .len [.peek 0]) (.cst (.int 2))) [.frz (ansD (some k)), .frz (ansD (some k))] = .ok (.bl false) := rfl
    refine ess_if (t := false) rfl rfl (ess_if (t := false) ?_ rfl (ess_ret ?_))
    · rw [ev_or, show evE Γ (.not (.isi .tuple (.peek 0))) [.frz (ansD (some k)), .frz (ansD (some k))] = .ok (.bl false) from rfl, b_ok]
      show evE Γ (.or _ _) _ = _
      rw [ev_or, hlen, b_ok]
      show evE Γ (.or _ _) _ = _
      rw [ev_or, show evE Γ (.isi .bool (.idx (.peek 0) (.cst (.int 0)))) [.frz (ansD (some k)), .frz (ansD (some k))] = .ok (.bl false) from rfl, b_ok]
      exact hne
    · rw [ev_call]
      show R.bind (R.ok ([.frz (tupZ k.2.2)] : List Mi.Slot)) _ = _
      rw [b_ok]
      exact hp _ (ho k rfl)
def wantB (cs : List Int) (t : Tu) (o : Option K3) : Bool := match o with
  | none => true
  | some b => klt (keyT cs t) b
theorem lcheap_run {Γ : Glob} (hM : ∀ (l : List Itm) (t : Tu) (d : D) (L : Mi.Slot), Few l → Sq t d → Sn (.lst (l.map it)) L → Γ.call 10 [L, .frz d] = .ok (.bl (MT (lotsOf l) t)))
    (hC : ∀ (cs : List Int) (n : Nat) (t : Tu) (C : Mi.Slot), cs.length = n → Ok n t → t.length ≤ 1000 → Sn (.lst (cs.map .int)) C → Γ.call 12 [C, .frz (tupZ t)] = .ok (.int (costT cs t)))
    (n most : Nat) (l : List Itm) (S : Sc n most l) (cs : List Int) (hn : cs.length = n) {L C T : Mi.Slot} (h : Sn (.lst (l.map it)) L) (hc : Sn (.lst (cs.map .int)) C) (hT : Sn (.lst ((tups n most).map tupZ)) T) :
    runB Γ b__law_cheapest [L, C, T] = .ok (ansD (bestO (((tups n most).filter (MT (lotsOf l))).map (keyT cs)))) := by
  let od : Option K3 → D := fun o => match o with
    | none => .non
    | some k => kd k
  let up : Option K3 → Tu → Option K3 := fun o t => if MT (lotsOf l) t then (match o with
    | none => some (keyT cs t)
    | some b => if klt (keyT cs t) b then some (keyT cs t) else some b) else o
  have lp := (ef_fold (body := evSs Γ [.ife (.call false 10 [.peek 0, .peek 4]) [.asg (.nm 5) (.tup [.call false 12 [.peek 1, .peek 4], .bi .len [.peek 4], .var 4]), .ife (.or (.isN false (.peek 3)) (.cmp .lt (.peek 5) (.peek 3))) [.asg (.nm 3) (.var 5)] []] []]) (bd := bindT (.nm 4)) (e0 := [L, C, T, .frz .non, .un, .un])
    tupZ up (fun o => [L, C, T, .frz (od o), .un, .un]) (fun _ _ => True) (tups n most).length (tups n most) 0 none (by omega) trivial fun i o t ht _ _ => by
      obtain ⟨tok, tl⟩ := tups_mem.mp ht
      have sm := S.m
      have c1 : evE Γ (.call false 10 [.peek 0, .peek 4]) [L, C, T, .frz (od o), .frz (tupZ t), .un] = .ok (.bl (MT (lotsOf l) t)) := by
        rw [ev_call, eva_cons, ev_peek, gt_zero, h.val, b_ok, lend_peek, gt_zero, h.le]
        exact hM l t _ L S.few (.inl rfl) h
      have mk : ∀ o' s5, mask [L, C, T, .frz .non, .un, .un] [L, C, T, .frz (od o'), .frz (tupZ t), s5] = [L, C, T, .frz (od o'), .un, .un] := fun o' s5 => by
        rw [h.mk, hc.mk, hT.mk]
        rfl
      refine ⟨trivial, [L, C, T, .frz (od o), .frz (tupZ t), .un], ?_⟩
      cases hMT : MT (lotsOf l) t with
      | false =>
        rw [hMT] at c1
        refine ⟨_, rfl, ess_if c1 rfl rfl, ?_⟩
        show _ = [L, C, T, .frz (od (if MT (lotsOf l) t = true then _ else o)), .un, .un]
        rw [hMT]
        exact mk o .un
      | true =>
        rw [hMT] at c1
        have c12 : evE Γ (.call false 12 [.peek 1, .peek 4]) [L, C, T, .frz (od o), .frz (tupZ t), .un] = .ok (.int (costT cs t)) := by
          rw [ev_call, eva_cons, ev_peek, gt_succ, gt_zero, hc.val, b_ok, lend_peek, gt_succ, gt_zero, hc.le]
          exact hC cs n t C hn tok (by omega) hc
        have c2 : evE Γ (.tup [.call false 12 [.peek 1, .peek 4], .bi .len [.peek 4], .var 4]) [L, C, T, .frz (od o), .frz (tupZ t), .un] = .ok (kd (keyT cs t)) := by
          have e2 : evE Γ (.bi .len [.peek 4]) [L, C, T, .frz (od o), .frz (tupZ t), .un] = .ok (.int (t.length : Int)) := by
            show R.ok (D.int ((t.map D.int).length : Int)) = _
            rw [List.length_map]
          rw [ev_tup, evs_cons, c12, b_ok, evs_cons, e2]
          rfl
        have c3 : evE Γ (.or (.isN false (.peek 3)) (.cmp .lt (.peek 5) (.peek 3))) [L, C, T, .frz (od o), .frz (tupZ t), .frz (kd (keyT cs t))] = .ok (.bl (wantB cs t o)) := by
          cases o with
          | none => rfl
          | some b => exact lt_kd (keyT cs t) b
        have hup : up o t = if wantB cs t o then some (keyT cs t) else o := by
          show (if MT (lotsOf l) t = true then _ else o) = _
          rw [hMT, if_pos rfl]
          cases o with
          | none => rfl
          | some b => rfl
        rw [hup]
        generalize wantB cs t o = q at c3
        cases q with
        | true => exact ⟨[L, C, T, .frz (kd (keyT cs t)), .frz (tupZ t), .frz (kd (keyT cs t))], rfl, ess_if c1 (ess_asg c2 rfl (ess_if c3 rfl rfl)) rfl, mk (some (keyT cs t)) _⟩
        | false => exact ⟨[L, C, T, .frz (od o), .frz (tupZ t), .frz (kd (keyT cs t))], rfl, ess_if c1 (ess_asg c2 rfl (ess_if c3 rfl rfl)) rfl, mk o _⟩).1
  have fold : ∀ (ts : List Tu) (o : Option K3), ts.foldl up o = match o with
      | none => bestO ((ts.filter (MT (lotsOf l))).map (keyT cs))
      | some b => some (best b ((ts.filter (MT (lotsOf l))).map (keyT cs))) := fun ts => by
    induction ts with
    | nil => intro o; cases o <;> rfl
    | cons t ts ih =>
      intro o
      rw [List.foldl_cons, ih, List.filter_cons]
      cases hMT : MT (lotsOf l) t with
      | false =>
        have : up o t = o := by
          show (if MT (lotsOf l) t = true then _ else o) = o
          rw [hMT]
          rfl
        rw [this]
        rfl
      | true =>
        have : up o t = match o with
            | none => some (keyT cs t)
            | some b => if klt (keyT cs t) b then some (keyT cs t) else some b := by
          show (if MT (lotsOf l) t = true then _ else o) = _
          rw [hMT, if_pos rfl]
        rw [this]
        cases o with
        | none => rfl
        | some b =>
          show (match (if klt (keyT cs t) b then some (keyT cs t) else some b) with
            | none => _
            | some b => _) = some (best (if klt (keyT cs t) b then keyT cs t else b) _)
          split <;> rename_i h1 <;> cases h2 : klt (keyT cs t) b <;> rw [h2] at h1 <;> simp at h1 <;> subst h1 <;> rfl
  rw [fold] at lp
  refine run_ret (env := [L, C, T, .un, .un, .un]) (own := false) rfl (ess_asg (e1 := [L, C, T, .frz .non, .un, .un]) rfl rfl (ess_for (xs := (tups n most).map tupZ) (e1 := [L, C, T, .frz .non, .un, .un]) (e3 := [L, C, T, .frz (od (bestO (((tups n most).filter (MT (lotsOf l))).map (keyT cs)))), .un, .un]) ?_ ?_ lp ?_ ?_)) rfl
  · rw [ev_peek, gt_succ, gt_succ, gt_zero, hT.val, b_ok, items_lst]
  · rw [pks_peek, onAll_cons, gt_succ, gt_succ, gt_zero, hT.lk]
    rfl
  · rw [pks_peek, unlock_cons, gt_succ, gt_succ, gt_zero, gt_succ, gt_succ, gt_zero, hT.un]
    rfl
  · cases bestO (((tups n most).filter (MT (lotsOf l))).map (keyT cs)) with
    | none => exact ess_if_ret (t := true) rfl (ess_ret rfl)
    | some k => exact ess_if (t := false) rfl rfl (ess_ret rfl)
theorem flat_if {α β : Type} (p : α → Bool) (f : α → β) : ∀ v : List α, (v.flatMap fun t => if p t then [f t] else []) = (v.filter p).map f
  | [] => rfl
  | t :: v => by
    rw [List.flatMap_cons, flat_if p f v, List.filter_cons]
    split <;> rfl
theorem ext_flat (n : Nat) (few : Tu) : ((List.range n).flatMap fun (k : Nat) => if canExt few (k : Int) then [few ++ [(k : Int)]] else []) = extL n few := by
  rw [flat_if (fun (k : Nat) => canExt few (k : Int)) (fun (k : Nat) => few ++ [(k : Int)])]
  unfold extL
  rw [List.filter_map, List.map_map]
  rfl
abbrev Et (n most : Nat) (f v : List Tu) (a4 a5 a6 a7 : Mi.Slot) : Mi.Env := [.frz (.int (n : Int)), .frz (.int (most : Int)), .own (.lst (f.map tupZ)), .own (.lst (v.map tupZ)), a4, a5, a6, a7]
abbrev Eu (n most : Nat) (f v : List Tu) (a4 a5 a6 a7 : Mi.Slot) : Mi.Env := [.frz (.int (n : Int)), .frz (.int (most : Int)), .own (.lst (f.map tupZ)), .bor (.lst (v.map tupZ)), a4, a5, a6, a7]
def in3B : List S := [.ife (.or (.cmp .eq (.bi .len [.peek 6]) (.cst (.int 0))) (.cmp .gt (.peek 7) (.idx (.peek 6) (.neg (.cst (.int 1)))))) [.app 5 (.bin .add (.peek 6) (.tup [.var 7]))] []]
theorem can_ev (Γ : Glob) (n most : Nat) (f v : List Tu) (a4 a5 : Mi.Slot) (few : Tu) (x : Int) : evE Γ (.or (.cmp .eq (.bi .len [.peek 6]) (.cst (.int 0))) (.cmp .gt (.peek 7) (.idx (.peek 6) (.neg (.cst (.int 1)))))) (Eu n most f v a4 a5 (.frz (tupZ few)) (.frz (.int x))) = .ok (.bl (canExt few x)) := by
  have c1 : evE Γ (.cmp .eq (.bi .len [.peek 6]) (.cst (.int 0))) (Eu n most f v a4 a5 (.frz (tupZ few)) (.frz (.int x))) = .ok (.bl few.isEmpty) := by
    show R.ok (D.bl (((few.map D.int).length : Int) == 0)) = _
    rw [List.length_map, len0]
  rw [ev_or, c1, b_ok]
  unfold canExt
  cases few with
  | nil => rfl
  | cons a r =>
    show evE Γ (.cmp .gt (.peek 7) (.idx (.peek 6) (.neg (.cst (.int 1))))) _ = _
    rw [ev_cmp, show evE Γ (.peek 7) (Eu n most f v a4 a5 (.frz (tupZ (a :: r))) (.frz (.int x))) = .ok (.int x) from rfl, b_ok, ev_idx, show evE Γ (.peek 6) (Eu n most f v a4 a5 (.frz (tupZ (a :: r))) (.frz (.int x))) = .ok (tupZ (a :: r)) from rfl, b_ok]
    show R.bind (optR (L2.atI ((a :: r).map D.int) (-1))) _ = _
    rw [Mi.atI_last, List.getLast?_map, List.getLast?_eq_some_getLast (List.cons_ne_nil a r)]
    show gtD (.int x) (.int ((a :: r).getLast (List.cons_ne_nil a r))) = _
    unfold gtD
    dsimp only
    rfl
theorem few_turn (Γ : Glob) (n most : Nat) (hn : n ≤ 100) (f v g : List Tu) (hg : g.length < 900000) (few : Tu) (hf : few.length ≤ 1000) (a4 : D) :
    evSs Γ [.fr (.nm 7) (.rng none (.peek 0) none) in3B] (Eu n most f v (.frz a4) (.own (.lst (g.map tupZ))) (.frz (tupZ few)) .un) = .nx (Eu n most f v (.frz a4) (.own (.lst ((g ++ extL n few).map tupZ))) (.frz (tupZ few)) .un) := by
  have hl : ((List.range n).flatMap fun (k : Nat) => if canExt few (k : Int) then [few ++ [(k : Int)]] else []).length ≤ n := by
    rw [flat_if (fun (k : Nat) => canExt few (k : Int)) (fun (k : Nat) => few ++ [(k : Int)]), List.length_map]
    have := List.length_filter_le (fun (k : Nat) => canExt few (k : Int)) (List.range n)
    rw [List.length_range] at this
    exact this
  have lp := ef_acc (body := evSs Γ in3B) (bd := bindT (.nm 7)) (e0 := Eu n most f v (.frz a4) (.own (.lst (g.map tupZ))) (.frz (tupZ few)) .un) (fun (k : Nat) => D.int (k : Int)) (fun (k : Nat) => if canExt few (k : Int) then [few ++ [(k : Int)]] else [])
    (fun acc => Eu n most f v (.frz a4) (.own (.lst (acc.map tupZ))) (.frz (tupZ few)) .un) 950000 (List.range n) g (by omega) fun acc k hk hB => by
      have c := can_ev Γ n most f v (.frz a4) (.own (.lst (acc.map tupZ))) few (k : Int)
      refine ⟨Eu n most f v (.frz a4) (.own (.lst (acc.map tupZ))) (.frz (tupZ few)) (.frz (.int (k : Int))), Eu n most f v (.frz a4) (.own (.lst ((acc ++ if canExt few (k : Int) then [few ++ [(k : Int)]] else []).map tupZ))) (.frz (tupZ few)) (.frz (.int (k : Int))), rfl, ?_, rfl⟩
      cases h : canExt few (k : Int) with
      | true =>
        rw [h] at c
        refine ess_if c (ess_app (d := tupZ (few ++ [(k : Int)])) rfl ?_ (by rw [List.length_map]; omega) rfl rfl) (by rw [if_pos rfl, List.map_append]; rfl)
        show addD (.tup (few.map .int)) (.tup [.int (k : Int)]) = _
        rw [add_tup (by rw [List.length_map, List.length_singleton]; omega)]
        show _ = R.ok (D.tup ((few ++ [(k : Int)]).map .int))
        rw [List.map_append]
        rfl
      | false =>
        rw [h] at c
        refine ess_if c rfl ?_
        show Out.nx (Eu n most f v (.frz a4) (.own (.lst (acc.map tupZ))) (.frz (tupZ few)) (.frz (.int (k : Int)))) = .nx (Eu n most f v (.frz a4) (.own (.lst ((acc ++ []).map tupZ))) (.frz (tupZ few)) (.frz (.int (k : Int))))
        rw [List.append_nil]
  rw [ext_flat] at lp
  exact ess_for (rng0 (n := n) rfl (by omega)) rfl lp rfl rfl
theorem ltuples_run (Γ : Glob) (n most : Nat) (hn : n ≤ 100) (hm : most ≤ 100) (hlev : ∀ k, k ≤ most → (lev n k).length * 4 < 1000) : runB Γ b__law_tuples [.frz (.int (n : Int)), .frz (.int (most : Int))] = .ok (.lst ((tups n most).map tupZ)) := by
  have lp := ef_steps (body := evSs Γ [.asg (.nm 5) (.lst []), .fr (.nm 6) (.peek 3) [.fr (.nm 7) (.rng none (.peek 0) none) in3B], .asg (.nm 2) (.bin .add (.peek 2) (.peek 5)), .asg (.nm 3) (.bi .list [.peek 5])]) (bd := bindT (.nm 4)) (e0 := Et n most [[]] [[]] .un .un .un .un)
    (fun j => Et n most (tups n j) (lev n j) .un .un .un .un) ((List.range most).map fun (k : Nat) => D.int (k : Int)) 0 fun j x hx => by
      have hj : j < most := by
        have := (List.getElem?_eq_some_iff.mp hx).1
        simpa using this
      rw [Nat.zero_add]
      have h1 := hlev j (by omega)
      have h2 := hlev (j + 1) (by omega)
      have h3 := tups_len (n := n) (most := j) (by omega) fun k hk => hlev k (by omega)
      have hlen : (lev n j).flatMap (extL n) = lev n (j + 1) := rfl
      have l2 := ef_acc (body := evSs Γ [.fr (.nm 7) (.rng none (.peek 0) none) in3B]) (bd := bindT (.nm 6)) (e0 := Et n most (tups n j) (lev n j) (.frz x) (.own (.lst [])) .un .un) tupZ (extL n) (fun acc => Eu n most (tups n j) (lev n j) (.frz x) (.own (.lst (acc.map tupZ))) .un .un) 800000 (lev n j) [] (by rw [hlen, List.length_nil]; omega) fun acc few hfew hB =>
        ⟨_, _, rfl, few_turn Γ n most hn (tups n j) (lev n j) acc (by omega) few (by have := ((lev_mem n j few).mp hfew).2; omega) x, rfl⟩
      rw [hlen, List.nil_append] at l2
      have ht : tups n j ++ lev n (j + 1) = tups n (j + 1) := by
        unfold tups
        rw [List.range_succ (n := j + 1), List.flatMap_append, List.flatMap_singleton]
      refine ⟨Et n most (tups n j) (lev n j) (.frz x) .un .un .un, Et n most (tups n (j + 1)) (lev n (j + 1)) (.frz x) (.own (.lst ((lev n (j + 1)).map tupZ))) .un .un, rfl, ess_asg (e1 := Et n most (tups n j) (lev n j) (.frz x) (.own (.lst [])) .un .un) rfl rfl (ess_for (xs := (lev n j).map tupZ) (e1 := Eu n most (tups n j) (lev n j) (.frz x) (.own (.lst [])) .un .un) (e3 := Et n most (tups n j) (lev n j) (.frz x) (.own (.lst ((lev n (j + 1)).map tupZ))) .un .un) rfl rfl l2 rfl
        (ess_asg (d := .lst ((tups n (j + 1)).map tupZ)) (e1 := Et n most (tups n (j + 1)) (lev n j) (.frz x) (.own (.lst ((lev n (j + 1)).map tupZ))) .un .un) ?_ rfl (ess_asg (d := .lst ((lev n (j + 1)).map tupZ)) rfl rfl rfl))), rfl⟩
      show addD (.lst ((tups n j).map tupZ)) (.lst ((lev n (j + 1)).map tupZ)) = _
      rw [add_lst (by rw [List.length_map, List.length_map]; omega), ← ht, List.map_append]
  rw [List.length_map, List.length_range, Nat.zero_add] at lp
  exact run_ret (env := [.frz (.int (n : Int)), .frz (.int (most : Int)), .un, .un, .un, .un, .un, .un]) (own := true) rfl (ess_asg (e1 := [.frz (.int (n : Int)), .frz (.int (most : Int)), .own (.lst [.tup []]), .un, .un, .un, .un, .un]) rfl rfl (ess_asg (e1 := Et n most [[]] [[]] .un .un .un .un) rfl rfl
    (ess_for (rng0 (n := most) rfl (by omega)) rfl lp rfl (ess_rt rfl)))) rfl
/-- short lots of things below n -/
def Gd (n : Nat) (l : List Itm) : Prop := ∀ p ∈ l, p.2.length ≤ 4 ∧ ∀ y ∈ p.2, 0 ≤ y ∧ y < (n : Int)
theorem Gd.snoc {n : Nat} {l : List Itm} (h : Gd n l) {p : Itm} (h1 : p.2.length ≤ 4) (h2 : ∀ y ∈ p.2, 0 ≤ y ∧ y < (n : Int)) : Gd n (l ++ [p]) := fun q hq => by
  rcases List.mem_append.mp hq with hq | hq
  · exact h q hq
  · rw [List.mem_singleton.mp hq]
    exact ⟨h1, h2⟩
theorem cut4 (l : List Int) : ∃ m : List Int, m.length ≤ 4 ∧ (∀ x ∈ m, x ∈ l) ∧ cutD (l.map D.int) none (some 4) = m.map .int := by
  refine ⟨l.take (min 4 l.length), ?_, fun x hx => List.mem_of_mem_take hx, ?_⟩
  · rw [List.length_take]
    omega
  · unfold cutD
    rw [HT.sIx_none, show (some (4 : Int)) = some ((4 : Nat) : Int) from rfl, HT.sIx_nat, List.length_map, List.drop_zero, Nat.sub_zero, List.map_take]
abbrev Ei (sc : D) (n sz mn : Int) (acc : List D) (a5 a6 a7 a8 : Mi.Slot) : Mi.Env := [.frz sc, .frz (.int n), .frz (.int sz), .frz (.int mn), .own (.lst acc), a5, a6, a7, a8, .un]
def itB : List S := [.asg (.nm 6) (.call true 7 [.call false 6 [.peek 0, .bin .add (.cst (.int 3)) (.peek 5)], .bin .add (.lst [.cst (.int 6), .cst (.int 5), .cst (.int 2000001), .cst (.int 5)]) (.bin .mul (.lst [.cst (.int 5)]) (.peek 1))]), .asg (.nm 7) (.sl (.bi .tuple [.comp (.var 9) (.nm 9) (.rng none (.peek 1) none) [.cmp .lt (.idx (.peek 6) (.bin .add (.cst (.int 4)) (.peek 9))) (.peek 2)] [9]]) none (some (.cst (.int 4)))), .asg (.nm 8) (.bin .sub (.idx (.peek 6) (.cst (.int 1))) (.cst (.int 2))), .ife (.cmp .eq (.idx (.peek 6) (.cst (.int 0))) (.cst (.int 0))) [.asg (.nm 8) (.bin .sub (.idx (.peek 6) (.cst (.int 2))) (.cst (.int 1000000)))] [], .ife (.or (.cmp .gt (.bi .len [.peek 7]) (.cst (.int 0))) (.cmp .eq (.idx (.peek 6) (.cst (.int 3))) (.cst (.int 0)))) [.wf [7] (.app 4 (.tup [.var 8, .var 7]))] [], .ife (.and (.cmp .eq (.idx (.peek 6) (.cst (.int 0))) (.cst (.int 1))) (.cmp .gt (.bi .len [.peek 4]) (.cst (.int 0)))) [.app 4 (.idx (.peek 4) (.bin .mod (.idx (.peek 6) (.cst (.int 2))) (.bi .len [.peek 4])))] []]
theorem rep_five : ∀ k : Nat, (List.replicate k [D.int 5]).flatten = (List.replicate k (5 : Int)).map .int
  | 0 => rfl
  | k + 1 => by
    rw [List.replicate_succ, List.flatten_cons, rep_five k, List.replicate_succ, List.map_cons]
    rfl
section
variable {Γ : Glob} (hc : ∀ (ns : List Int) (k : Nat), Γ.call 6 [.frz (.scr ns), .frz (.int k)] = .ok (.int (cellN ns k)))
  (hd : ∀ (c : Int) (ls : List Int), (∀ l ∈ ls, fitDiv l = true) → ls.length < 1000000 → Γ.call 7 [.frz (.int c), .frz (.lst (ls.map .int))] = .ok (.lst ((drawsN c ls).map .int)))
include hc hd in
theorem it_turn (ns : List Int) (n : Nat) (hn : n ≤ 100) (sz mn : Int) (acc : List Itm) (ha : acc.length ≤ 100) (hf : Gd n acc) (k : Nat) : ∃ (acc' : List Itm) (a6 a8 : D) (a7 : D), acc'.length ≤ acc.length + 2 ∧ Gd n acc' ∧
    evSs Γ itB (Ei (.scr ns) n sz mn (acc.map it) (.frz (.int (k : Int))) .un .un .un) = .nx (Ei (.scr ns) n sz mn (acc'.map it) (.frz (.int (k : Int))) (.own a6) (.frz a7) (.frz a8)) := by
  have e6 : evE Γ (.call false 6 [.peek 0, .bin .add (.cst (.int 3)) (.peek 5)]) (Ei (.scr ns) n sz mn (acc.map it) (.frz (.int (k : Int))) .un .un .un) = .ok (.int (cellN ns (3 + k))) := by
    rw [ev_call]
    show R.bind (R.ok ([.frz (.scr ns), .frz (.int (3 + (k : Int)))] : List Mi.Slot)) _ = _
    rw [b_ok, show (3 + (k : Int)) = ((3 + k : Nat) : Int) by omega, hc]
  have hpos : ∀ l ∈ ([6, 5, 2000001, 5] ++ List.replicate n 5 : List Int), 0 < l ∧ l < 18446744073709551616 := fun l hl => by
    rcases List.mem_append.mp hl with hl | hl
    · simp only [List.mem_cons, List.not_mem_nil, or_false] at hl
      omega
    · rw [List.eq_of_mem_replicate hl]
      omega
  have elist : evE Γ (.bin .add (.lst [.cst (.int 6), .cst (.int 5), .cst (.int 2000001), .cst (.int 5)]) (.bin .mul (.lst [.cst (.int 5)]) (.peek 1))) (Ei (.scr ns) n sz mn (acc.map it) (.frz (.int (k : Int))) .un .un .un) = .ok (.lst (([6, 5, 2000001, 5] ++ List.replicate n 5 : List Int).map .int)) := by
    have em : evE Γ (.bin .mul (.lst [.cst (.int 5)]) (.peek 1)) (Ei (.scr ns) n sz mn (acc.map it) (.frz (.int (k : Int))) .un .un .un) = .ok (.lst ((List.replicate n (5 : Int)).map .int)) := by
      show mulD (.lst [.int 5]) (.int (n : Int)) = _
      unfold mulD
      dsimp only
      rw [decide_eq_true (show (-1000000 ≤ (n : Int) ∧ (n : Int) ≤ 1000000) by omega), show lenLine ([D.int 5].length * ((n : Int)).toNat) = true from decide_eq_true (by
        show 1 * ((n : Int)).toNat ≤ 1000000
        omega), Bool.and_self, if_pos rfl, Int.toNat_natCast, rep_five]
    rw [ev_bin, em]
    show addD (.lst [.int 6, .int 5, .int 2000001, .int 5]) (.lst ((List.replicate n (5 : Int)).map .int)) = _
    rw [add_lst (by rw [List.length_map, List.length_replicate]; simp; omega), List.map_append]
    rfl
  have e7 : evE Γ (.call true 7 [.call false 6 [.peek 0, .bin .add (.cst (.int 3)) (.peek 5)], .bin .add (.lst [.cst (.int 6), .cst (.int 5), .cst (.int 2000001), .cst (.int 5)]) (.bin .mul (.lst [.cst (.int 5)]) (.peek 1))]) (Ei (.scr ns) n sz mn (acc.map it) (.frz (.int (k : Int))) .un .un .un) = .ok (.lst ((drawsN (cellN ns (3 + k)) ([6, 5, 2000001, 5] ++ List.replicate n 5)).map .int)) := by
    rw [ev_call, eva_cons, e6, b_ok, eva_cons, elist, b_ok, eva_nil, m_ok, m_ok, b_ok]
    exact hd _ _ (fit_small hpos) (by rw [List.length_append, List.length_replicate]; simp; omega)
  have hlen := drawsN_len (cellN ns (3 + k)) ([6, 5, 2000001, 5] ++ List.replicate n 5)
  have dr := drawsN_dr (c := cellN ns (3 + k)) fun l hl => (hpos l hl).1
  rw [List.length_append, List.length_replicate] at hlen
  obtain ⟨x0, _, ed, b0, c0, dr⟩ := dr.cons
  rw [ed] at e7 hlen; clear ed
  obtain ⟨x1, _, rfl, b1, c1, dr⟩ := dr.cons
  obtain ⟨x2, _, rfl, b2, c2, dr⟩ := dr.cons
  obtain ⟨x3, ys, rfl, b3, c3, dr⟩ := dr.cons
  have hys : ys.length = n := by
    simp at hlen
    omega
  have er : (evE Γ (.rng none (.peek 1) none) (Ei (.scr ns) n sz mn (acc.map it) (.frz (.int (k : Int))) (.own (.lst ((x0 :: x1 :: x2 :: x3 :: ys).map .int))) .un .un)).bind items = .ok ((List.range n).map fun (k : Nat) => .int (k : Int)) := rng0 (n := n) rfl (by omega)
  have ec : evE Γ (.comp (.var 9) (.nm 9) (.rng none (.peek 1) none) [.cmp .lt (.idx (.peek 6) (.bin .add (.cst (.int 4)) (.peek 9))) (.peek 2)] [9]) (Ei (.scr ns) n sz mn (acc.map it) (.frz (.int (k : Int))) (.own (.lst ((x0 :: x1 :: x2 :: x3 :: ys).map .int))) .un .un) = .ok (.lst ((((List.range n).filter fun j => decide (ys.getD j 0 < sz)).map fun (j : Nat) => (j : Int)).map .int)) := by
    rw [ev_comp]
    have e := er
    cases q : evE Γ (.rng none (.peek 1) none) (Ei (.scr ns) n sz mn (acc.map it) (.frz (.int (k : Int))) (.own (.lst ((x0 :: x1 :: x2 :: x3 :: ys).map .int))) .un .un) with
    | ok v =>
      rw [q, b_ok] at e
      rw [b_ok, e, b_ok, compL_filter (fun (j : Nat) => D.int (j : Int)) (fun j => decide (ys.getD j 0 < sz)) (fun (j : Nat) => D.int (j : Int)) (List.range n) fun j hj => ⟨[.frz (.scr ns), .frz (.int n), .frz (.int sz), .frz (.int mn), .own (.lst (acc.map it)), .frz (.int (k : Int)), .own (.lst ((x0 :: x1 :: x2 :: x3 :: ys).map .int)), .un, .un, .frz (.int (j : Int))], rfl, ?_, fun _ => rfl⟩, n_ok, b_ok, made_ok, List.map_map]
      · rfl
      · rw [List.length_map]
        have := List.length_filter_le (fun j => decide (ys.getD j 0 < sz)) (List.range n)
        rw [List.length_range] at this
        omega
      · have hj := List.mem_range.mp hj
        have ei : evE Γ (.idx (.peek 6) (.bin .add (.cst (.int 4)) (.peek 9))) [.frz (.scr ns), .frz (.int n), .frz (.int sz), .frz (.int mn), .own (.lst (acc.map it)), .frz (.int (k : Int)), .own (.lst ((x0 :: x1 :: x2 :: x3 :: ys).map .int)), .un, .un, .frz (.int (j : Int))] = .ok (.int (ys.getD j 0)) := by
          show optR (L2.atI ((x0 :: x1 :: x2 :: x3 :: ys).map D.int) (4 + (j : Int))) = _
          rw [show (4 + (j : Int)) = ((j + 4 : Nat) : Int) by omega, Mi.atI_nat, List.getElem?_map]
          simp only [List.getElem?_cons_succ]
          rw [List.getD_eq_getElem?_getD, List.getElem?_eq_getElem (show j < ys.length by omega)]
          rfl
        rw [evi_cons, ev_cmp, ei]
        show R.bind (R.ok (D.bl (decide (ys.getD j 0 < sz)))) _ = _
        rw [b_ok, truth_bl, b_ok]
        cases decide (ys.getD j 0 < sz) <;> rfl
    | exc x => rw [q] at e; cases e
    | bad => rw [q] at e; cases e
  obtain ⟨lot, l4, lsub, el⟩ := cut4 (((List.range n).filter fun j => decide (ys.getD j 0 < sz)).map fun (j : Nat) => (j : Int))
  have lent : ∀ y ∈ lot, 0 ≤ y ∧ y < (n : Int) := fun y hy => by
    obtain ⟨j, hj, rfl⟩ := List.mem_map.mp (lsub y hy)
    have := List.mem_range.mp (List.mem_filter.mp hj).1
    omega
  have e7s : evE Γ (.sl (.bi .tuple [.comp (.var 9) (.nm 9) (.rng none (.peek 1) none) [.cmp .lt (.idx (.peek 6) (.bin .add (.cst (.int 4)) (.peek 9))) (.peek 2)] [9]]) none (some (.cst (.int 4)))) (Ei (.scr ns) n sz mn (acc.map it) (.frz (.int (k : Int))) (.own (.lst ((x0 :: x1 :: x2 :: x3 :: ys).map .int))) .un .un) = .ok (tupZ lot) := by
    rw [ev_sl, ev_bi, evs_cons, ec]
    show R.ok (D.tup (cutD ((((List.range n).filter fun j => decide (ys.getD j 0 < sz)).map fun (j : Nat) => (j : Int)).map D.int) none (some 4))) = _
    rw [el]
    rfl
  clear er ec
  generalize hDr : D.lst ((x0 :: x1 :: x2 :: x3 :: ys).map .int) = Dr6 at *
  have i0 : ∀ env : Mi.Env, gt env 6 = .own Dr6 → evE Γ (.idx (.peek 6) (.cst (.int 0))) env = .ok (.int x0) := fun env h => by
    rw [ev_idx, ev_peek, h, ← hDr, val_own, b_ok, ev_cst, b_ok]
    show optR (L2.atI ((x0 :: x1 :: x2 :: x3 :: ys).map D.int) ((0 : Nat) : Int)) = _
    rw [Mi.atI_nat]
    rfl
  have i1 : ∀ env : Mi.Env, gt env 6 = .own Dr6 → evE Γ (.idx (.peek 6) (.cst (.int 1))) env = .ok (.int x1) := fun env h => by
    rw [ev_idx, ev_peek, h, ← hDr, val_own, b_ok, ev_cst, b_ok]
    show optR (L2.atI ((x0 :: x1 :: x2 :: x3 :: ys).map D.int) ((1 : Nat) : Int)) = _
    rw [Mi.atI_nat]
    rfl
  have i2 : ∀ env : Mi.Env, gt env 6 = .own Dr6 → evE Γ (.idx (.peek 6) (.cst (.int 2))) env = .ok (.int x2) := fun env h => by
    rw [ev_idx, ev_peek, h, ← hDr, val_own, b_ok, ev_cst, b_ok]
    show optR (L2.atI ((x0 :: x1 :: x2 :: x3 :: ys).map D.int) ((2 : Nat) : Int)) = _
    rw [Mi.atI_nat]
    rfl
  have i3 : ∀ env : Mi.Env, gt env 6 = .own Dr6 → evE Γ (.idx (.peek 6) (.cst (.int 3))) env = .ok (.int x3) := fun env h => by
    rw [ev_idx, ev_peek, h, ← hDr, val_own, b_ok, ev_cst, b_ok]
    show optR (L2.atI ((x0 :: x1 :: x2 :: x3 :: ys).map D.int) ((3 : Nat) : Int)) = _
    rw [Mi.atI_nat]
    rfl
  have s8 : evE Γ (.bin .sub (.idx (.peek 6) (.cst (.int 1))) (.cst (.int 2))) (Ei (.scr ns) n sz mn (acc.map it) (.frz (.int (k : Int))) (.own Dr6) (.frz (tupZ lot)) .un) = .ok (.int (x1 - 2)) := by
    rw [ev_bin, i1 _ rfl]
    rfl
  obtain ⟨w, hw⟩ : ∃ w : Int, evS Γ (.ife (.cmp .eq (.idx (.peek 6) (.cst (.int 0))) (.cst (.int 0))) [.asg (.nm 8) (.bin .sub (.idx (.peek 6) (.cst (.int 2))) (.cst (.int 1000000)))] []) (Ei (.scr ns) n sz mn (acc.map it) (.frz (.int (k : Int))) (.own Dr6) (.frz (tupZ lot)) (.frz (.int (x1 - 2)))) =
      .nx (Ei (.scr ns) n sz mn (acc.map it) (.frz (.int (k : Int))) (.own Dr6) (.frz (tupZ lot)) (.frz (.int w))) := by
    have c : evE Γ (.cmp .eq (.idx (.peek 6) (.cst (.int 0))) (.cst (.int 0))) (Ei (.scr ns) n sz mn (acc.map it) (.frz (.int (k : Int))) (.own Dr6) (.frz (tupZ lot)) (.frz (.int (x1 - 2)))) = .ok (.bl (x0 == 0)) := by
      rw [ev_cmp, i0 _ rfl]
      rfl
    cases h : x0 == 0 with
    | false =>
      rw [h] at c
      exact ⟨x1 - 2, es_if c rfl⟩
    | true =>
      rw [h] at c
      refine ⟨x2 - 1000000, es_if c (ess_asg (d := .int (x2 - 1000000)) ?_ rfl rfl)⟩
      rw [ev_bin, i2 _ rfl]
      rfl
  obtain ⟨acc1, l1, f1, h1⟩ : ∃ acc1 : List Itm, acc1.length ≤ acc.length + 1 ∧ Gd n acc1 ∧ evS Γ (.ife (.or (.cmp .gt (.bi .len [.peek 7]) (.cst (.int 0))) (.cmp .eq (.idx (.peek 6) (.cst (.int 3))) (.cst (.int 0)))) [.wf [7] (.app 4 (.tup [.var 8, .var 7]))] []) (Ei (.scr ns) n sz mn (acc.map it) (.frz (.int (k : Int))) (.own Dr6) (.frz (tupZ lot)) (.frz (.int w))) =
      .nx (Ei (.scr ns) n sz mn (acc1.map it) (.frz (.int (k : Int))) (.own Dr6) (.frz (tupZ lot)) (.frz (.int w))) := by
    obtain ⟨q, c⟩ : ∃ q, evE Γ (.or (.cmp .gt (.bi .len [.peek 7]) (.cst (.int 0))) (.cmp .eq (.idx (.peek 6) (.cst (.int 3))) (.cst (.int 0)))) (Ei (.scr ns) n sz mn (acc.map it) (.frz (.int (k : Int))) (.own Dr6) (.frz (tupZ lot)) (.frz (.int w))) = .ok (.bl q) := by
      rw [ev_or]
      show ∃ q, R.bind (R.ok (D.bl (decide (0 < ((lot.map D.int).length : Int))))) _ = _
      rw [b_ok]
      cases decide (0 < ((lot.map D.int).length : Int)) with
      | true => exact ⟨true, rfl⟩
      | false =>
        refine ⟨x3 == 0, ?_⟩
        show evE Γ (.cmp .eq (.idx (.peek 6) (.cst (.int 3))) (.cst (.int 0))) _ = _
        rw [ev_cmp, i3 _ rfl]
        rfl
    cases q with
    | false => exact ⟨acc, by omega, hf, es_if c rfl⟩
    | true =>
      refine ⟨acc ++ [(w, lot)], by rw [List.length_append, List.length_singleton]; omega, hf.snoc l4 lent, es_if c (ess_nx (e := Ei (.scr ns) n sz mn ((acc ++ [(w, lot)]).map it) (.frz (.int (k : Int))) (.own Dr6) (.frz (tupZ lot)) (.frz (.int w))) ?_ rfl)⟩
      rw [es_wf, es_app]
      show (if decide ((acc.map it).length < 1000000) = true then Out.nx (Ei (.scr ns) n sz mn (acc.map it ++ [it (w, lot)]) (.frz (.int (k : Int))) (.own Dr6) (.frz (tupZ lot)) (.frz (.int w))) else .bad) = _
      rw [if_pos (decide_eq_true (by rw [List.length_map]; omega)), List.map_append]
      rfl
  obtain ⟨acc2, l2, f2, h2⟩ : ∃ acc2 : List Itm, acc2.length ≤ acc1.length + 1 ∧ Gd n acc2 ∧ evS Γ (.ife (.and (.cmp .eq (.idx (.peek 6) (.cst (.int 0))) (.cst (.int 1))) (.cmp .gt (.bi .len [.peek 4]) (.cst (.int 0)))) [.app 4 (.idx (.peek 4) (.bin .mod (.idx (.peek 6) (.cst (.int 2))) (.bi .len [.peek 4])))] []) (Ei (.scr ns) n sz mn (acc1.map it) (.frz (.int (k : Int))) (.own Dr6) (.frz (tupZ lot)) (.frz (.int w))) =
      .nx (Ei (.scr ns) n sz mn (acc2.map it) (.frz (.int (k : Int))) (.own Dr6) (.frz (tupZ lot)) (.frz (.int w))) := by
    have el : evE Γ (.bi .len [.peek 4]) (Ei (.scr ns) n sz mn (acc1.map it) (.frz (.int (k : Int))) (.own Dr6) (.frz (tupZ lot)) (.frz (.int w))) = .ok (.int (acc1.length : Int)) := by
      show R.ok (D.int ((acc1.map it).length : Int)) = _
      rw [List.length_map]
    obtain ⟨q, hq, c⟩ : ∃ q, (q = true → acc1 ≠ []) ∧ evE Γ (.and (.cmp .eq (.idx (.peek 6) (.cst (.int 0))) (.cst (.int 1))) (.cmp .gt (.bi .len [.peek 4]) (.cst (.int 0)))) (Ei (.scr ns) n sz mn (acc1.map it) (.frz (.int (k : Int))) (.own Dr6) (.frz (tupZ lot)) (.frz (.int w))) = .ok (.bl q) := by
      rw [ev_and, ev_cmp, i0 _ rfl]
      show ∃ q, _ ∧ R.bind (R.ok (D.bl (x0 == 1))) _ = _
      rw [b_ok]
      cases x0 == 1 with
      | false => exact ⟨false, (fun z => by cases z), rfl⟩
      | true =>
        refine ⟨decide (0 < (acc1.length : Int)), fun z e => ?_, ?_⟩
        · rw [e] at z
          simp at z
        · show evE Γ (.cmp .gt (.bi .len [.peek 4]) (.cst (.int 0))) _ = _
          rw [ev_cmp, el]
          rfl
    cases q with
    | false => exact ⟨acc1, by omega, f1, es_if c rfl⟩
    | true =>
      have hne := hq rfl
      have hlen : 0 < (acc1.length : Int) := by
        have := List.length_pos_iff.mpr hne
        omega
      have j0 : 0 ≤ x2 % (acc1.length : Int) := Int.emod_nonneg _ (by omega)
      have j1 := Int.emod_lt_of_pos x2 hlen
      obtain ⟨p, hp⟩ : ∃ p, acc1[(x2 % (acc1.length : Int)).toNat]? = some p := ⟨_, List.getElem?_eq_getElem (by omega)⟩
      have fp := f1 p (List.mem_of_getElem? hp)
      refine ⟨acc1 ++ [p], by rw [List.length_append, List.length_singleton]; omega, f1.snoc fp.1 fp.2, es_if c (ess_app (d := it p) rfl ?_ (by rw [List.length_map]; omega) rfl (by rw [List.map_append (l₁ := acc1)]; rfl))⟩
      rw [ev_idx, ev_bin, i2 _ rfl, el, b_ok, b_ok]
      show R.bind (R.ok (D.lst (acc1.map it))) (fun x => (modD (.int x2) (.int (acc1.length : Int))).bind fun y => idxD x y) = _
      rw [b_ok, mod_int hlen, b_ok]
      show optR (L2.atI (acc1.map it) (x2 % (acc1.length : Int))) = _
      rw [← Int.toNat_of_nonneg j0, Mi.atI_nat, List.getElem?_map, hp]
      rfl
  exact ⟨acc2, Dr6, .int w, tupZ lot, by omega, f2, ess_asg (e1 := Ei (.scr ns) n sz mn (acc.map it) (.frz (.int (k : Int))) (.own Dr6) .un .un) e7 (by rw [← hDr]; rfl) (ess_asg e7s rfl (ess_asg s8 rfl (ess_nx hw (ess_nx h1 (ess_nx h2 rfl)))))⟩
include hc hd in
theorem litems_run (ns : List Int) (n : Nat) (hn : n ≤ 100) (sz : Int) (mn : Nat) (hmn : mn ≤ 10) : ∃ l : List Itm, l.length ≤ 20 ∧ Gd n l ∧ runB Γ b__law_items [.frz (.scr ns), .frz (.int (n : Int)), .frz (.int sz), .frz (.int (mn : Int))] = .ok (.lst (l.map it)) := by
  obtain ⟨l, ⟨h1, h2⟩, lp⟩ := ef_ex (body := evSs Γ itB) (bd := bindT (.nm 5)) (e0 := Ei (.scr ns) n sz mn [] .un .un .un .un) (fun (k : Nat) => D.int (k : Int)) (fun acc : List Itm => Ei (.scr ns) n sz mn (acc.map it) .un .un .un .un)
    (fun i acc => acc.length ≤ 2 * i ∧ Gd n acc) 10 (List.range mn) 0 [] (by rw [List.length_range]; omega) ⟨Nat.le_refl _, fun p hp => by cases hp⟩ fun i acc k hk hN hP => by
      obtain ⟨acc', a6, a8, a7, l', f', h'⟩ := it_turn hc hd ns n hn sz mn acc (by omega) hP.2 k
      exact ⟨acc', ⟨by omega, f'⟩, _, _, rfl, h', rfl⟩
  rw [List.length_range, Nat.zero_add] at h1
  exact ⟨l, by omega, h2, run_ret (env := [.frz (.scr ns), .frz (.int (n : Int)), .frz (.int sz), .frz (.int (mn : Int)), .un, .un, .un, .un, .un, .un]) (own := true) rfl (ess_asg (e1 := Ei (.scr ns) n sz mn [] .un .un .un .un) rfl rfl (ess_for (rng0 (n := mn) rfl (by omega)) rfl lp rfl (ess_rt rfl))) rfl⟩
end
structure Calls (Γ : Glob) : Prop where
  c2 : ∀ (l : List Itm) (t : Tu) (L : Mi.Slot), l.length ≤ 1000 → Sn (.lst (l.map it)) L → Γ.call 2 [L, .frz (tupZ t)] = .ok (.bl (MT (lotsOf l) t))
  c4 : ∀ (n most : Nat) (l : List Itm) (L : Mi.Slot), Sc n most l → Sn (.lst (l.map it)) L → Γ.call 4 [L, .frz (.int most)] = .ok (.lst (((tups n most).filter (minB (lotsOf l))).map tupZ))
  c5 : ∀ (n most : Nat) (l : List Itm) (cs : List Int) (L C : Mi.Slot), Sc n most l → cs.length = n → Sn (.lst (l.map it)) L → Sn (.lst (cs.map .int)) C → Γ.call 5 [L, C, .frz (.int most)] = .ok (ansD (bestO (((tups n most).filter (minB (lotsOf l))).map (keyT cs))))
  c10 : ∀ (l : List Itm) (t : Tu) (d : D) (L : Mi.Slot), Few l → Sq t d → Sn (.lst (l.map it)) L → Γ.call 10 [L, .frz d] = .ok (.bl (MT (lotsOf l) t))
  c11 : ∀ (l : List Itm) (t : Tu) (L : Mi.Slot), Few l → t.length ≤ 1000 → Sn (.lst (l.map it)) L → Γ.call 11 [L, .frz (tupZ t)] = .ok (.bl (minB (lotsOf l) t))
  c13 : ∀ (n most : Nat) (l : List Itm) (cs : List Int) (L C T : Mi.Slot), Sc n most l → cs.length = n → Sn (.lst (l.map it)) L → Sn (.lst (cs.map .int)) C → Sn (.lst ((tups n most).map tupZ)) T → Γ.call 13 [L, C, T] = .ok (ansD (bestO (((tups n most).filter (MT (lotsOf l))).map (keyT cs))))
  c14 : ∀ t : Tu, t.length ≤ 1000 → Γ.call 14 [.frz (tupZ t)] = .ok (.bl true)
  c15 : ∀ o : Option K3, (∀ k, o = some k → k.2.2.length ≤ 1000) → Γ.call 15 [.frz (ansD o), .frz (ansD o)] = .ok (.bl true)
theorem ok_tups (l : List Tu) : eqOk 60 (.lst (l.map tupZ)) = true := by
  show (l.map tupZ).all (eqOk 59) = true
  rw [List.all_eq_true]
  intro d hd
  obtain ⟨t, _, rfl⟩ := List.mem_map.mp hd
  exact eqOk_tupZ 57 t
theorem ok_lsts (l : List Int) : eqOk 60 (.lst (l.map .int)) = true := eqOk_ints 58 l
theorem ok_its (l : List Itm) : eqOk 60 (.lst (l.map it)) = true := eqOk_its 56 l
theorem ok_ans (o : Option K3) : eqOk 60 (ansD o) = true := by
  cases o with
  | none => rfl
  | some k => exact eqOk_it 57 (k.1, k.2.2)
theorem mt_perm {ls : List Tu} {s t : Tu} (h : ∀ x, x ∈ s ↔ x ∈ t) : MT ls s = MT ls t := by
  rw [Bool.eq_iff_iff]
  exact ⟨fun q => MT_mono q fun x hx => (h x).mp hx, fun q => MT_mono q fun x hx => (h x).mpr hx⟩
theorem mt_more {ls : List Tu} {t : Tu} {y : Int} (h : ∀ l ∈ ls, y ∉ l) : MT ls (t ++ [y]) = MT ls t := by
  rw [Bool.eq_iff_iff]
  refine ⟨fun q => ?_, fun q => MT_mono q fun x hx => List.mem_append_left _ hx⟩
  rw [MT_iff] at *
  intro l hl
  obtain ⟨x, h1, h2⟩ := q l hl
  rcases List.mem_append.mp h2 with z | z
  · exact ⟨x, h1, z⟩
  · rw [List.mem_singleton.mp z] at h1
    exact absurd h1 (h l hl)
theorem cut1 (l : List Int) : cutD (l.map D.int) none (some 1) = (l.take 1).map .int := by
  unfold cutD
  rw [HT.sIx_none, show (some (1 : Int)) = some ((1 : Nat) : Int) from rfl, HT.sIx_nat, List.length_map, List.drop_zero, Nat.sub_zero, ← List.map_take]
  congr 1
  cases l with
  | nil => rfl
  | cons a r =>
    rw [List.length_cons, show min 1 (r.length + 1) = 1 by omega]
abbrev Ea (L C : Mi.Slot) (most : Nat) (T a4 a5 a6 a7 a8 a9 : Mi.Slot) : Mi.Env := [L, C, .frz (.int (most : Int)), T, a4, a5, a6, a7, a8, a9]
def ansB : List S := [.asg (.nm 7) (.call false 2 [.peek 4, .peek 6]), .ife (.or (.not (.isi .bool (.peek 7))) (.cmp .ne (.peek 7) (.call false 10 [.peek 0, .peek 6]))) [.ret (.cst (.bl false))] [], .ife (.cmp .ne (.call false 2 [.peek 4, .bin .add (.rev (.peek 6)) (.sl (.peek 6) none (some (.cst (.int 1))))]) (.peek 7)) [.ret (.cst (.bl false))] [], .ife (.and (.cmp .lt (.bi .len [.peek 1]) (.cst (.int 12))) (.cmp .ne (.call false 2 [.peek 4, .bin .add (.peek 6) (.tup [.cst (.int 11)])]) (.peek 7))) [.ret (.cst (.bl false))] []]
section
variable {Γ : Glob} (K : Calls Γ) {n most : Nat} {l : List Itm} (S : Sc n most l) {cs : List Int} (hn : cs.length = n) {L C T : Mi.Slot} (h : Sn (.lst (l.map it)) L) (hc : Sn (.lst (cs.map .int)) C) (hT : Sn (.lst ((tups n most).map tupZ)) T)
include K S hn h hc hT
theorem ans_turn (a5 : D) (t : Tu) (ht : t.length ≤ 1000) : evSs Γ ansB (Ea L C most T (.own (.lst (l.map it))) (.own a5) (.frz (tupZ t)) .un .un .un) = .nx (Ea L C most T (.own (.lst (l.map it))) (.own a5) (.frz (tupZ t)) (.frz (.bl (MT (lotsOf l) t))) .un .un) := by
  have c2 : ∀ (e : E) (u : Tu) (env : Mi.Env), gt env 4 = .own (.lst (l.map it)) → evE Γ e env = .ok (tupZ u) → (∀ d, lend env d e = .frz d) → evE Γ (.call false 2 [.peek 4, e]) env = .ok (.bl (MT (lotsOf l) u)) := fun e u env h4 he hl => by
    rw [ev_call, eva_cons, ev_peek, h4, val_own, b_ok, eva_cons, he, b_ok, eva_nil, m_ok, m_ok, b_ok, lend_peek, h4, lendS_own, hl]
    exact K.c2 l u _ S.len (Sn.b _)
  have k1 := c2 (.peek 6) t (Ea L C most T (.own (.lst (l.map it))) (.own a5) (.frz (tupZ t)) .un .un .un) rfl rfl (fun d => rfl)
  have c10 : evE Γ (.call false 10 [.peek 0, .peek 6]) (Ea L C most T (.own (.lst (l.map it))) (.own a5) (.frz (tupZ t)) (.frz (.bl (MT (lotsOf l) t))) .un .un) = .ok (.bl (MT (lotsOf l) t)) := by
    rw [ev_call, eva_cons, ev_peek, gt_zero, h.val, b_ok, lend_peek, gt_zero, h.le]
    exact K.c10 l t _ L S.few (.inl rfl) h
  have k2 : evE Γ (.or (.not (.isi .bool (.peek 7))) (.cmp .ne (.peek 7) (.call false 10 [.peek 0, .peek 6]))) (Ea L C most T (.own (.lst (l.map it))) (.own a5) (.frz (tupZ t)) (.frz (.bl (MT (lotsOf l) t))) .un .un) = .ok (.bl false) := by
    rw [ev_or, show evE Γ (.not (.isi .bool (.peek 7))) (Ea L C most T (.own (.lst (l.map it))) (.own a5) (.frz (tupZ t)) (.frz (.bl (MT (lotsOf l) t))) .un .un) = .ok (.bl false) from rfl, b_ok]
    show evE Γ (.cmp .ne (.peek 7) _) _ = _
    rw [ev_cmp, c10]
    exact neR_self (d := .bl (MT (lotsOf l) t)) rfl
  have e3 : evE Γ (.bin .add (.rev (.peek 6)) (.sl (.peek 6) none (some (.cst (.int 1))))) (Ea L C most T (.own (.lst (l.map it))) (.own a5) (.frz (tupZ t)) (.frz (.bl (MT (lotsOf l) t))) .un .un) = .ok (tupZ (t.reverse ++ t.take 1)) := by
    show addD (.tup (t.map D.int).reverse) (.tup (cutD (t.map D.int) none (some 1))) = _
    rw [cut1, ← List.map_reverse, add_tup (by rw [List.length_map, List.length_map, List.length_reverse, List.length_take]; omega), ← List.map_append]
    rfl
  have k3 : evE Γ (.cmp .ne (.call false 2 [.peek 4, .bin .add (.rev (.peek 6)) (.sl (.peek 6) none (some (.cst (.int 1))))]) (.peek 7)) (Ea L C most T (.own (.lst (l.map it))) (.own a5) (.frz (tupZ t)) (.frz (.bl (MT (lotsOf l) t))) .un .un) = .ok (.bl false) := by
    rw [ev_cmp, c2 _ (t.reverse ++ t.take 1) _ rfl e3 (fun d => rfl), mt_perm (s := t.reverse ++ t.take 1) (t := t) fun x => ?_]
    · exact neR_self (d := .bl (MT (lotsOf l) t)) rfl
    · rw [List.mem_append, List.mem_reverse]
      exact ⟨fun z => z.elim id List.mem_of_mem_take, .inl⟩
  have k4 : evE Γ (.and (.cmp .lt (.bi .len [.peek 1]) (.cst (.int 12))) (.cmp .ne (.call false 2 [.peek 4, .bin .add (.peek 6) (.tup [.cst (.int 11)])]) (.peek 7))) (Ea L C most T (.own (.lst (l.map it))) (.own a5) (.frz (tupZ t)) (.frz (.bl (MT (lotsOf l) t))) .un .un) = .ok (.bl false) := by
    have el : evE Γ (.bi .len [.peek 1]) (Ea L C most T (.own (.lst (l.map it))) (.own a5) (.frz (tupZ t)) (.frz (.bl (MT (lotsOf l) t))) .un .un) = .ok (.int (n : Int)) := by
      rw [ev_bi, evs_cons, ev_peek, gt_succ, gt_zero, hc.val, b_ok]
      show R.ok (D.int ((cs.map D.int).length : Int)) = _
      rw [List.length_map, hn]
    rw [ev_and, ev_cmp, el]
    show R.bind (R.ok (D.bl (decide ((n : Int) < 12)))) _ = _
    rw [b_ok]
    by_cases hlt : (n : Int) < 12
    · rw [decide_eq_true hlt]
      show evE Γ (.cmp .ne (.call false 2 [.peek 4, .bin .add (.peek 6) (.tup [.cst (.int 11)])]) (.peek 7)) _ = _
      have e4 : evE Γ (.bin .add (.peek 6) (.tup [.cst (.int 11)])) (Ea L C most T (.own (.lst (l.map it))) (.own a5) (.frz (tupZ t)) (.frz (.bl (MT (lotsOf l) t))) .un .un) = .ok (tupZ (t ++ [11])) := by
        show addD (.tup (t.map D.int)) (.tup [.int 11]) = _
        rw [add_tup (by rw [List.length_map, List.length_singleton]; omega)]
        show _ = R.ok (D.tup ((t ++ [11]).map .int))
        rw [List.map_append]
        rfl
      rw [ev_cmp, c2 _ (t ++ [11]) _ rfl e4 (fun d => rfl), mt_more fun x hx hy => by
        have := (S.ent x hx 11 hy).2
        omega]
      exact neR_self (d := .bl (MT (lotsOf l) t)) rfl
    · rw [decide_eq_false hlt]
  exact ess_asg (d := .bl (MT (lotsOf l) t)) k1 rfl (ess_if k2 rfl (ess_if k3 rfl (ess_if k4 rfl rfl)))
theorem answers_run (hcs : ∀ i : Nat, 0 ≤ cs.getD i 0) : runB Γ b__law_answers_right [L, C, .frz (.int (most : Int)), T] = .ok (.bl true) := by
  have tl : ∀ t ∈ tups n most, t.length ≤ 1000 := fun t ht => by
    have := (tups_mem.mp ht).2
    have := S.m
    omega
  have lp := ef_same (body := evSs Γ ansB) (bd := bindT (.nm 6)) (e0 := Ea L C most T (.own (.lst (l.map it))) (.own (.lst (cs.map .int))) .un .un .un .un) (env := Ea L C most T (.own (.lst (l.map it))) (.own (.lst (cs.map .int))) .un .un .un .un) tupZ (tups n most) fun t ht =>
    ⟨_, _, rfl, ans_turn K S hn h hc hT (.lst (cs.map .int)) t (tl t ht), by
      rw [h.mk, hc.mk]
      show _ :: _ :: _ :: mask (T :: _) (T :: _) = _
      rw [hT.mk]
      rfl⟩
  have hlenM : ((tups n most).filter (minB (lotsOf l))).length ≤ 25250 := Nat.le_trans (List.length_filter_le _ _) (tups_len S.m S.lev)
  have memM : ∀ t ∈ (tups n most).filter (minB (lotsOf l)), t.length ≤ 1000 := fun t ht => tl t (List.mem_filter.mp ht).1
  have c4 : ∀ a6 a7 a8 a9, evE Γ (.call true 4 [.peek 4, .peek 2]) (Ea L C most T (.own (.lst (l.map it))) (.own (.lst (cs.map .int))) a6 a7 a8 a9) = .ok (.lst (((tups n most).filter (minB (lotsOf l))).map tupZ)) := fun a6 a7 a8 a9 => by
    rw [ev_call]
    show R.bind (R.ok ([.bor (.lst (l.map it)), .frz (.int (most : Int))] : List Mi.Slot)) _ = _
    rw [b_ok]
    exact K.c4 n most l _ S (Sn.b _)
  have c8 : ∀ a7, evE Γ (.comp (.var 6) (.nm 6) (.peek 3) [.call false 11 [.peek 0, .peek 6]] [6]) (Ea L C most T (.own (.lst (l.map it))) (.own (.lst (cs.map .int))) .un a7 .un .un) = .ok (.lst (((tups n most).filter (minB (lotsOf l))).map tupZ)) := fun a7 => by
    rw [ev_comp, show evE Γ (.peek 3) (Ea L C most T (.own (.lst (l.map it))) (.own (.lst (cs.map .int))) .un a7 .un .un) = .ok (.lst ((tups n most).map tupZ)) by rw [ev_peek]; exact hT.val, b_ok, items_lst, b_ok,
      compL_filter tupZ (minB (lotsOf l)) tupZ (tups n most) fun t ht => ⟨Ea L C most T (.own (.lst (l.map it))) (.own (.lst (cs.map .int))) (.frz (tupZ t)) a7 .un .un, rfl, ?_, fun _ => rfl⟩, n_ok, b_ok, made_ok (by rw [List.length_map]; omega)]
    have c11 : evE Γ (.call false 11 [.peek 0, .peek 6]) (Ea L C most T (.own (.lst (l.map it))) (.own (.lst (cs.map .int))) (.frz (tupZ t)) a7 .un .un) = .ok (.bl (minB (lotsOf l) t)) := by
      rw [ev_call, eva_cons, ev_peek, gt_zero, h.val, b_ok, lend_peek, gt_zero, h.le]
      exact K.c11 l t L S.few (tl t ht) h
    rw [evi_cons, c11, b_ok, truth_bl, b_ok]
    cases minB (lotsOf l) t <;> rfl
  have cne40 : ∀ a6 a7 a8 a9, evE Γ (.cmp .ne (.peek 4) (.peek 0)) (Ea L C most T (.own (.lst (l.map it))) (.own (.lst (cs.map .int))) a6 a7 a8 a9) = .ok (.bl false) := fun a6 a7 a8 a9 => by
    rw [ev_cmp]
    show R.bind (R.ok (D.lst (l.map it))) (fun x => (Mi.Slot.val L).bind fun y => cmpD .ne x y) = _
    rw [h.val]
    exact neR_self (ok_its l)
  have ceq40 : ∀ a6 a7 a8 a9, evE Γ (.cmp .eq (.peek 4) (.peek 0)) (Ea L C most T (.own (.lst (l.map it))) (.own (.lst (cs.map .int))) a6 a7 a8 a9) = .ok (.bl true) := fun a6 a7 a8 a9 => by
    rw [ev_cmp]
    show R.bind (R.ok (D.lst (l.map it))) (fun x => (Mi.Slot.val L).bind fun y => cmpD .eq x y) = _
    rw [h.val]
    exact eqR_self (ok_its l)
  have ceq51 : ∀ a6 a7 a8 a9, evE Γ (.cmp .eq (.peek 5) (.peek 1)) (Ea L C most T (.own (.lst (l.map it))) (.own (.lst (cs.map .int))) a6 a7 a8 a9) = .ok (.bl true) := fun a6 a7 a8 a9 => by
    rw [ev_cmp]
    show R.bind (R.ok (D.lst (cs.map .int))) (fun x => (Mi.Slot.val C).bind fun y => cmpD .eq x y) = _
    rw [hc.val]
    exact eqR_self (ok_lsts cs)
  have okM := ok_tups ((tups n most).filter (minB (lotsOf l)))
  have cc := cheap_eq (n := n) (most := most) (ls := lotsOf l) hcs
  have bmem : ∀ k, bestO (((tups n most).filter (minB (lotsOf l))).map (keyT cs)) = some k → k.2.2.length ≤ 1000 := fun k hk => by
    cases e : ((tups n most).filter (minB (lotsOf l))).map (keyT cs) with
    | nil => rw [e] at hk; cases hk
    | cons a as =>
      rw [e] at hk
      have : best a as = k := Option.some.inj hk
      have hm := best_mem as a
      rw [this, ← e] at hm
      obtain ⟨t, ht, rfl⟩ := List.mem_map.mp hm
      exact memM t ht
  have c5 : ∀ a6 a7 a8 a9, evE Γ (.call false 5 [.peek 4, .peek 5, .peek 2]) (Ea L C most T (.own (.lst (l.map it))) (.own (.lst (cs.map .int))) a6 a7 a8 a9) = .ok (ansD (bestO (((tups n most).filter (minB (lotsOf l))).map (keyT cs)))) := fun a6 a7 a8 a9 => by
    rw [ev_call]
    show R.bind (R.ok ([.bor (.lst (l.map it)), .bor (.lst (cs.map .int)), .frz (.int (most : Int))] : List Mi.Slot)) _ = _
    rw [b_ok]
    exact K.c5 n most l cs _ _ S hn (Sn.b _) (Sn.b _)
  have c13 : ∀ a6 a7 a8 a9, evE Γ (.call false 13 [.peek 0, .peek 1, .peek 3]) (Ea L C most T (.own (.lst (l.map it))) (.own (.lst (cs.map .int))) a6 a7 a8 a9) = .ok (ansD (bestO (((tups n most).filter (minB (lotsOf l))).map (keyT cs)))) := fun a6 a7 a8 a9 => by
    have e : evAs Γ [.peek 0, .peek 1, .peek 3] (Ea L C most T (.own (.lst (l.map it))) (.own (.lst (cs.map .int))) a6 a7 a8 a9) = .ok [L, C, T] := by
      show R.bind (Mi.Slot.val L) (fun x => (R.bind (Mi.Slot.val C) fun y => (R.bind (Mi.Slot.val T) fun z => R.ok [lendS z T]).map (lendS y C :: ·)).map (lendS x L :: ·)) = _
      rw [h.val, hc.val, hT.val, b_ok, b_ok, b_ok, h.le, hc.le, hT.le]
      rfl
    rw [ev_call, e, b_ok, ← cc]
    exact K.c13 n most l cs L C T S hn h hc hT
  generalize bestO (((tups n most).filter (minB (lotsOf l))).map (keyT cs)) = o at bmem c5 c13
  have okA := ok_ans o
  have mutA : isMut (ansD o) = false := by cases o <;> rfl
  have c14 : ∀ a8, evE Γ (.comp (.call false 14 [.peek 6]) (.nm 6) (.peek 7) [] [6]) (Ea L C most T (.own (.lst (l.map it))) (.own (.lst (cs.map .int))) .un (.own (.lst (((tups n most).filter (minB (lotsOf l))).map tupZ))) a8 .un) = .ok (.lst ((((tups n most).filter (minB (lotsOf l))).map fun _ => true).map .bl)) := fun a8 => by
    rw [ev_comp, show evE Γ (.peek 7) (Ea L C most T (.own (.lst (l.map it))) (.own (.lst (cs.map .int))) .un (.own (.lst (((tups n most).filter (minB (lotsOf l))).map tupZ))) a8 .un) = .ok (.lst (((tups n most).filter (minB (lotsOf l))).map tupZ)) from rfl, b_ok, items_lst, b_ok, compL_map tupZ (fun _ => D.bl true) ((tups n most).filter (minB (lotsOf l))) fun t ht => ⟨Ea L C most T (.own (.lst (l.map it))) (.own (.lst (cs.map .int))) (.frz (tupZ t)) (.own (.lst (((tups n most).filter (minB (lotsOf l))).map tupZ))) a8 .un, rfl, rfl, by
      rw [ev_call]
      show R.bind (R.ok ([.frz (tupZ t)] : List Mi.Slot)) _ = _
      rw [b_ok]
      exact K.c14 t (memM t ht)⟩, n_ok, b_ok, made_ok (by rw [List.length_map]; omega), List.map_map]
    rfl
  generalize hM : ((tups n most).filter (minB (lotsOf l))) = M at *
  have q1 : evE Γ (.or (.not (.isi .list (.peek 7))) (.or (.cmp .ne (.peek 7) (.peek 8)) (.cmp .ne (.peek 4) (.peek 0)))) (Ea L C most T (.own (.lst (l.map it))) (.own (.lst (cs.map .int))) .un (.own (.lst (M.map tupZ))) (.own (.lst (M.map tupZ))) .un) = .ok (.bl false) := by
    rw [ev_or, show evE Γ (.not (.isi .list (.peek 7))) (Ea L C most T (.own (.lst (l.map it))) (.own (.lst (cs.map .int))) .un (.own (.lst (M.map tupZ))) (.own (.lst (M.map tupZ))) .un) = .ok (.bl false) from rfl, b_ok]
    show evE Γ (.or _ _) _ = _
    rw [ev_or, show evE Γ (.cmp .ne (.peek 7) (.peek 8)) (Ea L C most T (.own (.lst (l.map it))) (.own (.lst (cs.map .int))) .un (.own (.lst (M.map tupZ))) (.own (.lst (M.map tupZ))) .un) = .ok (.bl false) from neR_self okM, b_ok]
    exact cne40 _ _ _ _
  have q2 : evE Γ (.cmp .isin (.cst (.bl false)) (.comp (.call false 14 [.peek 6]) (.nm 6) (.peek 7) [] [6])) (Ea L C most T (.own (.lst (l.map it))) (.own (.lst (cs.map .int))) .un (.own (.lst (M.map tupZ))) (.own (.lst (M.map tupZ))) .un) = .ok (.bl false) := by
    rw [ev_cmp, ev_cst, b_ok, c14, b_ok, isin_bools, List.any_map]
    congr 2
    simp
  have q3 : evE Γ (.not (.call false 15 [.peek 9, .call false 13 [.peek 0, .peek 1, .peek 3]])) (Ea L C most T (.own (.lst (l.map it))) (.own (.lst (cs.map .int))) .un (.own (.lst (M.map tupZ))) (.own (.lst (M.map tupZ))) (.frz (ansD o))) = .ok (.bl false) := by
    rw [ev_not, ev_call, eva_cons, show evE Γ (.peek 9) (Ea L C most T (.own (.lst (l.map it))) (.own (.lst (cs.map .int))) .un (.own (.lst (M.map tupZ))) (.own (.lst (M.map tupZ))) (.frz (ansD o))) = .ok (ansD o) from rfl, b_ok, eva_cons, c13, b_ok, eva_nil, m_ok, m_ok, b_ok]
    show R.bind (Γ.call 15 [.frz (ansD o), .frz (ansD o)]) _ = _
    rw [K.c15 o bmem]
    rfl
  have q4 : evE Γ (.cmp .ne (.call false 5 [.peek 4, .peek 5, .peek 2]) (.peek 9)) (Ea L C most T (.own (.lst (l.map it))) (.own (.lst (cs.map .int))) .un (.own (.lst (M.map tupZ ++ [.tup [.int 0, .int 1]]))) (.own (.lst (M.map tupZ))) (.frz (ansD o))) = .ok (.bl false) := by
    rw [ev_cmp, c5]
    exact neR_self okA
  refine run_ret (env := Ea L C most T .un .un .un .un .un .un) (own := false) rfl (ess_asg (d := .lst (l.map it)) (e1 := Ea L C most T (.own (.lst (l.map it))) .un .un .un .un .un) ?_ rfl (ess_asg (d := .lst (cs.map .int)) (e1 := Ea L C most T (.own (.lst (l.map it))) (.own (.lst (cs.map .int))) .un .un .un .un) ?_ rfl
    (ess_for (xs := (tups n most).map tupZ) (e1 := Ea L C most T (.own (.lst (l.map it))) (.own (.lst (cs.map .int))) .un .un .un .un) (e3 := Ea L C most T (.own (.lst (l.map it))) (.own (.lst (cs.map .int))) .un .un .un .un) ?_ ?_ lp ?_
    (ess_asg (e1 := Ea L C most T (.own (.lst (l.map it))) (.own (.lst (cs.map .int))) .un (.own (.lst (M.map tupZ))) .un .un) (c4 _ _ _ _) rfl (ess_asgC (e1 := Ea L C most T (.own (.lst (l.map it))) (.own (.lst (cs.map .int))) .un (.own (.lst (M.map tupZ))) (.own (.lst (M.map tupZ))) .un) (c8 _) rfl
    (ess_if q1 rfl (ess_if q2 rfl (ess_asg (d := ansD o) (e1 := Ea L C most T (.own (.lst (l.map it))) (.own (.lst (cs.map .int))) .un (.own (.lst (M.map tupZ))) (.own (.lst (M.map tupZ))) (.frz (ansD o))) (c5 _ _ _ _) rfl
    (ess_if q3 rfl (ess_app (d := .tup [.int 0, .int 1]) (e1 := Ea L C most T (.own (.lst (l.map it))) (.own (.lst (cs.map .int))) .un (.own (.lst (M.map tupZ ++ [.tup [.int 0, .int 1]]))) (.own (.lst (M.map tupZ))) (.frz (ansD o))) rfl rfl (by rw [List.length_map]; omega) rfl
    (ess_if q4 rfl (ess_ret ?_)))))))))))) rfl
  · rw [ev_bi, evs_cons, ev_peek, gt_zero, h.val]
    rfl
  · rw [ev_bi, evs_cons, ev_peek, gt_succ, gt_zero, hc.val]
    rfl
  · show R.bind (Mi.Slot.val T) items = _
    rw [hT.val, b_ok, items_lst]
  · show [L, C, _, lock T, _, _, _, _, _, _] = _
    rw [hT.lk]
  · show [L, C, _, un1 T T, _, _, _, _, _, _] = _
    rw [hT.un]
  · have r1 : evE Γ (.cmp .eq (.call true 4 [.peek 4, .peek 2]) (.peek 8)) (Ea L C most T (.own (.lst (l.map it))) (.own (.lst (cs.map .int))) .un (.own (.lst (M.map tupZ ++ [.tup [.int 0, .int 1]]))) (.own (.lst (M.map tupZ))) (.frz (ansD o))) = .ok (.bl true) := by
      rw [ev_cmp, c4]
      exact eqR_self okM
    rw [ev_and, r1, b_ok]
    show evE Γ (.and _ _) _ = _
    rw [ev_and, ceq40, b_ok]
    exact ceq51 _ _ _ _
end
abbrev bs : List Body := ds.map (·.b)
theorem c_apart (n : Nat) (hn : 0 < n) (p q : List Int) : (globN bs n).call 0 [.frz (tupZ p), .frz (tupZ q)] = .ok (.bl (apZ p q)) := by
  rw [call_at hn]
  exact apart_run _ p q
theorem c_without (n : Nat) (hn : 1 < n) (t u : Tu) (h : t.length ≤ 1000) : (globN bs n).call 1 [.frz (tupZ t), .frz (tupZ u)] = .ok (tupZ (t.filter fun y => !decide (y ∈ u))) := by
  rw [call_at hn]
  exact without_run t u (by omega)
theorem c_meets (n : Nat) (hn : 2 < n) (l : List Itm) (t : Tu) (L : Mi.Slot) (hl : l.length ≤ 1000) (h : Sn (.lst (l.map it)) L) : (globN bs n).call 2 [L, .frz (tupZ t)] = .ok (.bl (MT (lotsOf l) t)) := by
  rw [call_at hn]
  exact meets_run (c_apart 2 (by omega)) l hl t h
theorem c_branched (m : Nat) (hm : 3 < m) (n most : Nat) (l : List Itm) (L : Mi.Slot) (S : Sc n most l) (h : Sn (.lst (l.map it)) L) : (globN bs m).call 3 [L, .frz (.int most)] = .ok (.lst (((List.range (most + 1)).flatMap fun k => (bl (lotsOf l) k).flatMap (fnd1 (lotsOf l))).map tupZ)) := by
  rw [call_at hm]
  exact branched_run (c_apart 3 (by omega)) n l S.len S.few S.ent most S.m S.lev h
theorem c_minimal (m : Nat) (hm : 4 < m) (n most : Nat) (l : List Itm) (L : Mi.Slot) (S : Sc n most l) (h : Sn (.lst (l.map it)) L) : (globN bs m).call 4 [L, .frz (.int most)] = .ok (.lst (((tups n most).filter (minB (lotsOf l))).map tupZ)) := by
  rw [call_at hm]
  exact minimal_run (fun t u a => c_without 4 (by omega) t u a) (fun l t L a b => c_meets 4 (by omega) l t L a b) (fun n most l L a b => c_branched 4 (by omega) n most l L a b) n most l S h
theorem c_lmeets (m : Nat) (hm : 10 < m) (l : List Itm) (t : Tu) (d : D) (L : Mi.Slot) (hf : Few l) (hd : Sq t d) (h : Sn (.lst (l.map it)) L) : (globN bs m).call 10 [L, .frz d] = .ok (.bl (MT (lotsOf l) t)) := by
  rw [call_at hm]
  exact lmeets_run _ l hf t hd h
theorem c_plain (m : Nat) (hm : 14 < m) (t : Tu) (h : t.length ≤ 1000) : (globN bs m).call 14 [.frz (tupZ t)] = .ok (.bl true) := by
  rw [call_at hm]
  exact lplain_run _ t h
theorem calls_ok (m : Nat) (hm : 15 < m) : Calls (globN bs m) where
  c2 l t L hl h := c_meets m (by omega) l t L hl h
  c4 n most l L S h := c_minimal m (by omega) n most l L S h
  c5 n most l cs L C S hn h hC := by
    rw [call_at (by omega)]
    exact cheap_run (fun n most l L a b => c_minimal 5 (by omega) n most l L a b) n most l S cs hn h hC
  c10 l t d L hf hd h := c_lmeets m (by omega) l t d L hf hd h
  c11 l t L hf hl h := by
    rw [call_at (by omega)]
    exact lminimal_run (fun l t d L a b c => c_lmeets 11 (by omega) l t d L a b c) l hf t hl h
  c13 n most l cs L C T S hn h hC hT := by
    rw [call_at (by omega)]
    exact lcheap_run (fun l t d L a b c => c_lmeets 13 (by omega) l t d L a b c) (fun cs n t C a b c d => by
      rw [call_at (by omega)]
      exact lcost_run _ a b c d) n most l S cs hn h hC hT
  c14 t h := c_plain m (by omega) t h
  c15 o ho := by
    rw [call_at (by omega)]
    exact lsame_run (fun t h => c_plain 15 (by omega) t h) o ho
theorem c_cell (n : Nat) (hn : 6 < n) (ns : List Int) (k : Nat) : (globN bs n).call 6 [.frz (.scr ns), .frz (.int k)] = .ok (.int (cellN ns k)) := by
  rw [call_at hn]
  exact cell_eq _ ns k
theorem c_draws (n : Nat) (hn : 7 < n) (c : Int) (ls : List Int) (h : ∀ l ∈ ls, fitDiv l = true) (hl : ls.length < 1000000) : (globN bs n).call 7 [.frz (.int c), .frz (.lst (ls.map .int))] = .ok (.lst ((drawsN c ls).map .int)) := by
  rw [call_at hn]
  exact draws_eq _ c ls (.inl rfl) h hl
/-- all that the law calls -/
structure Calls2 (Γ : Glob) : Prop extends Calls Γ where
  cell : ∀ (ns : List Int) (k : Nat), Γ.call 6 [.frz (.scr ns), .frz (.int k)] = .ok (.int (cellN ns k))
  draws : ∀ (c : Int) (ls : List Int), (∀ l ∈ ls, fitDiv l = true) → ls.length < 1000000 → Γ.call 7 [.frz (.int c), .frz (.lst (ls.map .int))] = .ok (.lst ((drawsN c ls).map .int))
  tuples : ∀ n most : Nat, n ≤ 100 → most ≤ 100 → (∀ k, k ≤ most → (lev n k).length * 4 < 1000) → Γ.call 8 [.frz (.int (n : Int)), .frz (.int (most : Int))] = .ok (.lst ((tups n most).map tupZ))
  items : ∀ (ns : List Int) (n : Nat) (sz : Int) (mn : Nat), n ≤ 100 → mn ≤ 10 → ∃ l : List Itm, l.length ≤ 20 ∧ Gd n l ∧ Γ.call 9 [.frz (.scr ns), .frz (.int (n : Int)), .frz (.int sz), .frz (.int (mn : Int))] = .ok (.lst (l.map it))
  answers : ∀ (n most : Nat) (l : List Itm) (cs : List Int) (L C T : Mi.Slot), Sc n most l → cs.length = n → (∀ i : Nat, 0 ≤ cs.getD i 0) → Sn (.lst (l.map it)) L → Sn (.lst (cs.map .int)) C → Sn (.lst ((tups n most).map tupZ)) T → Γ.call 16 [L, C, .frz (.int (most : Int)), T] = .ok (.bl true)
theorem calls2_ok : Calls2 (globN bs 17) where
  toCalls := calls_ok 17 (by omega)
  cell := c_cell 17 (by omega)
  draws := c_draws 17 (by omega)
  tuples n most h1 h2 h3 := by
    rw [call_at (by omega)]
    exact ltuples_run _ n most h1 h2 h3
  items ns n sz mn h1 h2 := by
    obtain ⟨l, a, b, c⟩ := litems_run (c_cell 9 (by omega)) (c_draws 9 (by omega)) ns n h1 sz mn h2
    refine ⟨l, a, b, ?_⟩
    rw [call_at (by omega)]
    exact c
  answers n most l cs L C T S hn hcs h hC hT := by
    rw [call_at (by omega)]
    exact answers_run (calls_ok 16 (by omega)) S hn h hC hT hcs
theorem lev_small : ∀ n k : Nat, n < 8 → k < 7 → (lev n k).length * 4 < 1000 := by
  have : ∀ n : Fin 8, ∀ k : Fin 7, (lev n.1 k.1).length * 4 < 1000 := by decide +kernel
  exact fun n k hn hk => this ⟨n, hn⟩ ⟨k, hk⟩
theorem lev_twelve : ∀ k : Nat, k < 4 → (lev 12 k).length * 4 < 1000 := by
  have : ∀ k : Fin 4, (lev 12 k.1).length * 4 < 1000 := by decide +kernel
  exact fun k hk => this ⟨k, hk⟩
theorem cut9 (l : List Itm) : ∃ m : List Itm, m.length ≤ 9 ∧ (∀ x ∈ m, x ∈ l) ∧ cutD (l.map it) none (some 9) = m.map it := by
  refine ⟨l.take (min 9 l.length), ?_, fun x hx => List.mem_of_mem_take hx, ?_⟩
  · rw [List.length_take]
    omega
  · unfold cutD
    rw [HT.sIx_none, show (some (9 : Int)) = some ((9 : Nat) : Int) from rfl, HT.sIx_nat, List.length_map, List.drop_zero, Nat.sub_zero, List.map_take]
abbrev El (a0 a1 a2 a3 a4 a5 a6 a7 a8 a9 a10 a11 a12 a13 : Mi.Slot) : Mi.Env := [a0, a1, a2, a3, a4, a5, a6, a7, a8, a9, a10, a11, a12, a13]
def coB : List S := [.asg (.nm 11) (.call true 7 [.call false 6 [.peek 0, .bin .add (.cst (.int 13)) (.peek 6)], .lst [.cst (.int 4), .cst (.int 10), .bin .pow (.cst (.int 10)) (.cst (.int 15))]]), .app 5 (.idx (.peek 11) (.cst (.int 0))), .ife (.cmp .eq (.idx (.peek 11) (.cst (.int 1))) (.cst (.int 0))) [.setIt 5 (.neg (.cst (.int 1))) (.bin .add (.bin .pow (.cst (.int 10)) (.cst (.int 12))) (.idx (.peek 11) (.cst (.int 2))))] []]
theorem p15 : powD (.int 10) (.int 15) = .ok (.int 1000000000000000) := by
  have e : (10 : Int) ^ 15 = 1000000000000000 := by decide +kernel
  have f : fitPow 10 15 = true := by decide +kernel
  simp [powD, f, e]
theorem p12 : powD (.int 10) (.int 12) = .ok (.int 1000000000000) := by
  have e : (10 : Int) ^ 12 = 1000000000000 := by decide +kernel
  have f : fitPow 10 12 = true := by decide +kernel
  simp [powD, f, e]
theorem bin_pow (x y : D) : binD .pow x y = powD x y := rfl
theorem set_last (cs : List Int) (p w : Int) : ∃ zs : List Int, zs.length = cs.length + 1 ∧ (∀ x ∈ zs, x ∈ cs ++ [p] ∨ x = w) ∧ setD ((cs ++ [p]).map D.int) (-1) (.int w) = .ok (zs.map .int) := by
  refine ⟨(cs ++ [p]).set cs.length w, by rw [List.length_set, List.length_append, List.length_singleton], fun x hx => List.mem_or_eq_of_mem_set hx, ?_⟩
  unfold setD L2.ixN
  rw [List.length_map, List.length_append, List.length_singleton, if_neg (by omega), if_pos (by omega)]
  have e : ((-1 : Int) + ((cs.length + 1 : Nat) : Int)).toNat = cs.length := by omega
  dsimp only
  rw [← List.map_set]
  first
    | rw [e]
    | (congr 3; omega)
section
variable {Γ : Glob} (K : Calls2 Γ)
include K
theorem co_turn (ns : List Int) (a1 n m l4 : D) (cs : List Int) (hl : cs.length ≤ 1000) (hp : ∀ x ∈ cs, 0 ≤ x) (k : Nat) : ∃ (cs' : List Int) (a11 : D), cs'.length = cs.length + 1 ∧ (∀ x ∈ cs', 0 ≤ x) ∧
    evSs Γ coB (El (.frz (.scr ns)) (.own a1) (.frz n) (.frz m) (.own l4) (.own (.lst (cs.map .int))) (.frz (.int (k : Int))) .un .un .un .un .un .un .un) = .nx (El (.frz (.scr ns)) (.own a1) (.frz n) (.frz m) (.own l4) (.own (.lst (cs'.map .int))) (.frz (.int (k : Int))) .un .un .un .un (.own a11) .un .un) := by
  have e6 : evE Γ (.call false 6 [.peek 0, .bin .add (.cst (.int 13)) (.peek 6)]) (El (.frz (.scr ns)) (.own a1) (.frz n) (.frz m) (.own l4) (.own (.lst (cs.map .int))) (.frz (.int (k : Int))) .un .un .un .un .un .un .un) = .ok (.int (cellN ns (13 + k))) := by
    rw [ev_call]
    show R.bind (R.ok ([.frz (.scr ns), .frz (.int (13 + (k : Int)))] : List Mi.Slot)) _ = _
    rw [b_ok, show (13 + (k : Int)) = ((13 + k : Nat) : Int) by omega, K.cell]
  have hpos : ∀ l ∈ ([4, 10, 1000000000000000] : List Int), 0 < l ∧ l < 18446744073709551616 := fun l hl => by
    simp only [List.mem_cons, List.not_mem_nil, or_false] at hl
    omega
  have elist : evE Γ (.lst [.cst (.int 4), .cst (.int 10), .bin .pow (.cst (.int 10)) (.cst (.int 15))]) (El (.frz (.scr ns)) (.own a1) (.frz n) (.frz m) (.own l4) (.own (.lst (cs.map .int))) (.frz (.int (k : Int))) .un .un .un .un .un .un .un) = .ok (.lst (([4, 10, 1000000000000000] : List Int).map .int)) := by
    simp [binD, p15]
  have e7 : evE Γ (.call true 7 [.call false 6 [.peek 0, .bin .add (.cst (.int 13)) (.peek 6)], .lst [.cst (.int 4), .cst (.int 10), .bin .pow (.cst (.int 10)) (.cst (.int 15))]]) (El (.frz (.scr ns)) (.own a1) (.frz n) (.frz m) (.own l4) (.own (.lst (cs.map .int))) (.frz (.int (k : Int))) .un .un .un .un .un .un .un) = .ok (.lst ((drawsN (cellN ns (13 + k)) [4, 10, 1000000000000000]).map .int)) := by
    rw [ev_call, eva_cons, e6, b_ok, eva_cons, elist, b_ok, eva_nil, m_ok, m_ok, b_ok]
    exact K.draws _ _ (fit_small hpos) (by decide)
  obtain ⟨x0, _, ed, b0, c0, dr⟩ := (drawsN_dr (c := cellN ns (13 + k)) fun l hl => (hpos l hl).1).cons
  obtain ⟨x1, _, rfl, b1, c1, dr⟩ := dr.cons
  obtain ⟨x2, _, rfl, b2, c2, dr⟩ := dr.cons
  cases dr.nil
  rw [ed] at e7
  have hp' : ∀ x ∈ cs ++ [x0], 0 ≤ x := fun x hx => by
    rcases List.mem_append.mp hx with z | z
    · exact hp x z
    · rw [List.mem_singleton.mp z]; exact b0
  have hb : x1 == 0 ∨ ¬ (x1 == 0) := Decidable.em _
  have cnd : evE Γ (.cmp .eq (.idx (.peek 11) (.cst (.int 1))) (.cst (.int 0))) (El (.frz (.scr ns)) (.own a1) (.frz n) (.frz m) (.own l4) (.own (.lst ((cs ++ [x0]).map .int))) (.frz (.int (k : Int))) .un .un .un .un (.own (.lst [.int x0, .int x1, .int x2])) .un .un) = .ok (.bl (x1 == 0)) := rfl
  obtain ⟨cs', h1, h2, h3⟩ : ∃ cs' : List Int, cs'.length = cs.length + 1 ∧ (∀ x ∈ cs', 0 ≤ x) ∧ evS Γ (.ife (.cmp .eq (.idx (.peek 11) (.cst (.int 1))) (.cst (.int 0))) [.setIt 5 (.neg (.cst (.int 1))) (.bin .add (.bin .pow (.cst (.int 10)) (.cst (.int 12))) (.idx (.peek 11) (.cst (.int 2))))] []) (El (.frz (.scr ns)) (.own a1) (.frz n) (.frz m) (.own l4) (.own (.lst ((cs ++ [x0]).map .int))) (.frz (.int (k : Int))) .un .un .un .un (.own (.lst [.int x0, .int x1, .int x2])) .un .un) =
      .nx (El (.frz (.scr ns)) (.own a1) (.frz n) (.frz m) (.own l4) (.own (.lst (cs'.map .int))) (.frz (.int (k : Int))) .un .un .un .un (.own (.lst [.int x0, .int x1, .int x2])) .un .un) := by
    cases h : x1 == 0 with
    | false =>
      rw [h] at cnd
      exact ⟨cs ++ [x0], by rw [List.length_append, List.length_singleton], hp', es_if cnd rfl⟩
    | true =>
      rw [h] at cnd
      obtain ⟨zs, z1, z2, z3⟩ := set_last cs x0 (1000000000000 + x2)
      refine ⟨zs, z1, fun x hx => ?_, es_if cnd (ess_nx (e := El (.frz (.scr ns)) (.own a1) (.frz n) (.frz m) (.own l4) (.own (.lst (zs.map .int))) (.frz (.int (k : Int))) .un .un .un .un (.own (.lst [.int x0, .int x1, .int x2])) .un .un) ?_ rfl)⟩
      · rcases z2 x hx with q | q
        · exact hp' x q
        · omega
      · have ev : evE Γ (.bin .add (.bin .pow (.cst (.int 10)) (.cst (.int 12))) (.idx (.peek 11) (.cst (.int 2)))) (El (.frz (.scr ns)) (.own a1) (.frz n) (.frz m) (.own l4) (.own (.lst ((cs ++ [x0]).map .int))) (.frz (.int (k : Int))) .un .un .un .un (.own (.lst [.int x0, .int x1, .int x2])) .un .un) = .ok (.int (1000000000000 + x2)) := by
          rw [ev_bin, ev_bin, ev_cst, b_ok, ev_cst, b_ok, bin_pow, p12, b_ok]
          rfl
        rw [es_setIt, ev, o_ok']
        show R.only (setD ((cs ++ [x0]).map D.int) (-1) (.int (1000000000000 + x2))) (fun ys => Out.nx (El (.frz (.scr ns)) (.own a1) (.frz n) (.frz m) (.own l4) (.own (.lst ys)) (.frz (.int (k : Int))) .un .un .un .un (.own (.lst [.int x0, .int x1, .int x2])) .un .un)) = _
        rw [z3, y_ok]
  refine ⟨cs', .lst [.int x0, .int x1, .int x2], h1, h2, ess_asg e7 rfl (ess_app (d := .int x0) (e1 := El (.frz (.scr ns)) (.own a1) (.frz n) (.frz m) (.own l4) (.own (.lst ((cs ++ [x0]).map .int))) (.frz (.int (k : Int))) .un .un .un .un (.own (.lst [.int x0, .int x1, .int x2])) .un .un) rfl rfl (by rw [List.length_map]; omega) (by rw [List.map_append]; rfl) (ess_nx h3 rfl))⟩
theorem law_run (ns : List Int) : runB Γ b_law [.frz (.scr ns)] = .ok (.bl true) := by
  have hpos : ∀ l ∈ ([9, 12, 10, 4, 5, 16] : List Int), 0 < l ∧ l < 18446744073709551616 := fun l hl => by
    simp only [List.mem_cons, List.not_mem_nil, or_false] at hl
    omega
  obtain ⟨x0, _, ed, b0, c0, dr⟩ := (drawsN_dr (c := cellN ns 0) fun l hl => (hpos l hl).1).cons
  obtain ⟨x1, _, rfl, b1, c1, dr⟩ := dr.cons
  obtain ⟨x2, _, rfl, b2, c2, dr⟩ := dr.cons
  obtain ⟨x3, _, rfl, b3, c3, dr⟩ := dr.cons
  obtain ⟨x4, _, rfl, b4, c4, dr⟩ := dr.cons
  obtain ⟨x5, _, rfl, b5, c5, dr⟩ := dr.cons
  cases dr.nil
  have e1 : evE Γ (.call true 7 [.call false 6 [.peek 0, .cst (.int 0)], .lst [.cst (.int 9), .cst (.int 12), .cst (.int 10), .cst (.int 4), .cst (.int 5), .cst (.int 16)]]) (El (.frz (.scr ns)) .un .un .un .un .un .un .un .un .un .un .un .un .un) = .ok (.lst [.int x0, .int x1, .int x2, .int x3, .int x4, .int x5]) := by
    have e6 : evE Γ (.call false 6 [.peek 0, .cst (.int 0)]) (El (.frz (.scr ns)) .un .un .un .un .un .un .un .un .un .un .un .un .un) = .ok (.int (cellN ns 0)) := by
      rw [ev_call]
      show R.bind (R.ok ([.frz (.scr ns), .frz (.int ((0 : Nat) : Int))] : List Mi.Slot)) _ = _
      rw [b_ok, K.cell]
    rw [ev_call, eva_cons, e6, b_ok]
    show R.bind (R.ok ([.frz (.int (cellN ns 0)), .frz (.lst (([9, 12, 10, 4, 5, 16] : List Int).map .int))] : List Mi.Slot)) _ = _
    rw [b_ok, K.draws _ _ (fit_small hpos) (by decide), ed]
    rfl
  obtain ⟨m0, hm0, e3⟩ : ∃ m0 : Nat, m0 ≤ 6 ∧ ∀ s2 s3, evE Γ (.idx (.lst [.cst (.int 0), .cst (.int 1), .cst (.int 1), .cst (.int 2), .cst (.int 2), .cst (.int 2), .cst (.int 3), .cst (.int 3), .cst (.int 3), .cst (.int 4), .cst (.int 4), .cst (.int 6)]) (.idx (.peek 1) (.cst (.int 1)))) (El (.frz (.scr ns)) (.own (.lst [.int x0, .int x1, .int x2, .int x3, .int x4, .int x5])) s2 s3 .un .un .un .un .un .un .un .un .un .un) = .ok (.int (m0 : Int)) := by
    have h : x1 = 0 ∨ x1 = 1 ∨ x1 = 2 ∨ x1 = 3 ∨ x1 = 4 ∨ x1 = 5 ∨ x1 = 6 ∨ x1 = 7 ∨ x1 = 8 ∨ x1 = 9 ∨ x1 = 10 ∨ x1 = 11 := by omega
    rcases h with rfl | rfl | rfl | rfl | rfl | rfl | rfl | rfl | rfl | rfl | rfl | rfl
    · exact ⟨0, by omega, fun _ _ => rfl⟩
    · exact ⟨1, by omega, fun _ _ => rfl⟩
    · exact ⟨1, by omega, fun _ _ => rfl⟩
    · exact ⟨2, by omega, fun _ _ => rfl⟩
    · exact ⟨2, by omega, fun _ _ => rfl⟩
    · exact ⟨2, by omega, fun _ _ => rfl⟩
    · exact ⟨3, by omega, fun _ _ => rfl⟩
    · exact ⟨3, by omega, fun _ _ => rfl⟩
    · exact ⟨3, by omega, fun _ _ => rfl⟩
    · exact ⟨4, by omega, fun _ _ => rfl⟩
    · exact ⟨4, by omega, fun _ _ => rfl⟩
    · exact ⟨6, by omega, fun _ _ => rfl⟩
  obtain ⟨n, most, hn, hm, hlev, e4⟩ : ∃ n most : Nat, n ≤ 12 ∧ most ≤ 6 ∧ (∀ k, k ≤ most → (lev n k).length * 4 < 1000) ∧ evS Γ (.ife (.cmp .eq (.peek 2) (.cst (.int 8))) [.asg (.nm 2) (.cst (.int 12)), .asg (.nm 3) (.bi .min2 [.peek 3, .cst (.int 3)])] []) (El (.frz (.scr ns)) (.own (.lst [.int x0, .int x1, .int x2, .int x3, .int x4, .int x5])) (.frz (.int x0)) (.frz (.int (m0 : Int))) .un .un .un .un .un .un .un .un .un .un) =
      .nx (El (.frz (.scr ns)) (.own (.lst [.int x0, .int x1, .int x2, .int x3, .int x4, .int x5])) (.frz (.int (n : Int))) (.frz (.int (most : Int))) .un .un .un .un .un .un .un .un .un .un) := by
    have c : evE Γ (.cmp .eq (.peek 2) (.cst (.int 8))) (El (.frz (.scr ns)) (.own (.lst [.int x0, .int x1, .int x2, .int x3, .int x4, .int x5])) (.frz (.int x0)) (.frz (.int (m0 : Int))) .un .un .un .un .un .un .un .un .un .un) = .ok (.bl (x0 == 8)) := rfl
    by_cases h : x0 = 8
    · have e : (x0 == 8) = true := by simp [h]
      rw [e] at c
      by_cases h3 : 3 < m0
      · refine ⟨12, 3, by omega, by omega, fun k hk => lev_twelve k (by omega), es_if c ((if_pos rfl).trans (ess_asg (d := .int 12) rfl rfl (ess_asg (d := .int 3) ?_ rfl rfl)))⟩
        show R.ok (D.int (if (3 : Int) < (m0 : Int) then 3 else (m0 : Int))) = _
        rw [if_pos (by omega)]
      · refine ⟨12, m0, by omega, by omega, fun k hk => lev_twelve k (by omega), es_if c ((if_pos rfl).trans (ess_asg (d := .int 12) rfl rfl (ess_asg (d := .int (m0 : Int)) ?_ rfl rfl)))⟩
        show R.ok (D.int (if (3 : Int) < (m0 : Int) then 3 else (m0 : Int))) = _
        rw [if_neg (by omega)]
    · have e : (x0 == 8) = false := by simp [h]
      rw [e] at c
      refine ⟨x0.toNat, m0, by omega, hm0, fun k hk => lev_small _ k (by omega) (by omega), es_if c ?_⟩
      rw [Int.toNat_of_nonneg b0]
      rfl
  obtain ⟨l0, a1, a2, a3⟩ := K.items ns n (1 + x3) x2.toNat (by omega) (by omega)
  obtain ⟨l, l9, lsub, el⟩ := cut9 l0
  have gd : Gd n l := fun p hp => a2 p (lsub p hp)
  have sc : ∀ l : List Itm, l.length ≤ 10 → Gd n l → Sc n most l := fun l hl gd => ⟨by omega, fun p hp => (gd p hp).1, fun x hx y hy => by
    obtain ⟨p, hp, rfl⟩ := List.mem_map.mp hx
    exact (gd p hp).2 y hy, by omega, hlev⟩
  have S1 := sc l (by omega) gd
  generalize hDr : D.lst [.int x0, .int x1, .int x2, .int x3, .int x4, .int x5] = Dd at *
  have i0 : evE Γ (.idx (.peek 1) (.cst (.int 0))) (El (.frz (.scr ns)) (.own Dd) .un .un .un .un .un .un .un .un .un .un .un .un) = .ok (.int x0) := by rw [← hDr]; rfl
  have e5 : evE Γ (.sl (.call true 9 [.peek 0, .peek 2, .bin .add (.cst (.int 1)) (.idx (.peek 1) (.cst (.int 3))), .idx (.peek 1) (.cst (.int 2))]) none (some (.cst (.int 9)))) (El (.frz (.scr ns)) (.own Dd) (.frz (.int (n : Int))) (.frz (.int (most : Int))) .un .un .un .un .un .un .un .un .un .un) = .ok (.lst (l.map it)) := by
    have e9 : evE Γ (.call true 9 [.peek 0, .peek 2, .bin .add (.cst (.int 1)) (.idx (.peek 1) (.cst (.int 3))), .idx (.peek 1) (.cst (.int 2))]) (El (.frz (.scr ns)) (.own Dd) (.frz (.int (n : Int))) (.frz (.int (most : Int))) .un .un .un .un .un .un .un .un .un .un) = .ok (.lst (l0.map it)) := by
      rw [ev_call, ← hDr]
      show R.bind (R.ok ([.frz (.scr ns), .frz (.int (n : Int)), .frz (.int (1 + x3)), .frz (.int x2)] : List Mi.Slot)) _ = _
      rw [b_ok, ← Int.toNat_of_nonneg b2]
      exact a3
    rw [ev_sl, e9]
    show R.ok (D.lst (cutD (l0.map it) none (some 9))) = _
    rw [el]
  obtain ⟨cs, ⟨k1, k2⟩, lp⟩ := ef_ex (body := evSs Γ coB) (bd := bindT (.nm 6)) (e0 := El (.frz (.scr ns)) (.own Dd) (.frz (.int (n : Int))) (.frz (.int (most : Int))) (.own (.lst (l.map it))) (.own (.lst [])) .un .un .un .un .un .un .un .un) (fun (k : Nat) => D.int (k : Int))
    (fun cs : List Int => El (.frz (.scr ns)) (.own Dd) (.frz (.int (n : Int))) (.frz (.int (most : Int))) (.own (.lst (l.map it))) (.own (.lst (cs.map .int))) .un .un .un .un .un .un .un .un) (fun i cs => cs.length = i ∧ ∀ x ∈ cs, 0 ≤ x) 12 (List.range n) 0 [] (by rw [List.length_range]; omega) ⟨rfl, fun x hx => by cases hx⟩ fun i cs k hk hN hP => by
      obtain ⟨cs', a11, q1, q2, q3⟩ := co_turn K ns Dd (.int (n : Int)) (.int (most : Int)) (.lst (l.map it)) cs (by omega) hP.2 k
      exact ⟨cs', ⟨by omega, q2⟩, _, _, rfl, q3, rfl⟩
  rw [List.length_range, Nat.zero_add] at k1
  have hcs : ∀ i : Nat, 0 ≤ cs.getD i 0 := fun i => by
    rw [List.getD_eq_getElem?_getD]
    cases h : cs[i]? with
    | none => exact Int.le_refl _
    | some v => exact k2 v (List.mem_of_getElem? h)
  have e7 : evE Γ (.call true 8 [.peek 2, .peek 3]) (El (.frz (.scr ns)) (.own Dd) (.frz (.int (n : Int))) (.frz (.int (most : Int))) (.own (.lst (l.map it))) (.own (.lst (cs.map .int))) .un .un .un .un .un .un .un .un) = .ok (.lst ((tups n most).map tupZ)) := by
    rw [ev_call]
    show R.bind (R.ok ([.frz (.int (n : Int)), .frz (.int (most : Int))] : List Mi.Slot)) _ = _
    rw [b_ok]
    exact K.tuples n most (by omega) (by omega) hlev
  have q1 : evE Γ (.not (.call false 16 [.peek 4, .peek 5, .peek 3, .peek 7])) (El (.frz (.scr ns)) (.own Dd) (.frz (.int (n : Int))) (.frz (.int (most : Int))) (.own (.lst (l.map it))) (.own (.lst (cs.map .int))) .un (.own (.lst ((tups n most).map tupZ))) .un .un .un .un .un .un) = .ok (.bl false) := by
    rw [ev_not, ev_call]
    show R.bind (R.bind (R.ok ([.bor (.lst (l.map it)), .bor (.lst (cs.map .int)), .frz (.int (most : Int)), .bor (.lst ((tups n most).map tupZ))] : List Mi.Slot)) _) _ = _
    rw [b_ok, K.answers n most l cs _ _ _ S1 k1 hcs (Sn.b _) (Sn.b _) (Sn.b _)]
    rfl
  have e8 : evE Γ (.comp (.tup [.var 12]) (.nm 12) (.rng none (.peek 2) none) [] [12]) (El (.frz (.scr ns)) (.own Dd) (.frz (.int (n : Int))) (.frz (.int (most : Int))) (.own (.lst (l.map it))) (.own (.lst (cs.map .int))) .un (.own (.lst ((tups n most).map tupZ))) .un .un .un .un .un .un) = .ok (.lst (((List.range n).map fun (k : Nat) => [(k : Int)]).map tupZ)) := by
    have er : (evE Γ (.rng none (.peek 2) none) (El (.frz (.scr ns)) (.own Dd) (.frz (.int (n : Int))) (.frz (.int (most : Int))) (.own (.lst (l.map it))) (.own (.lst (cs.map .int))) .un (.own (.lst ((tups n most).map tupZ))) .un .un .un .un .un .un)).bind items = .ok ((List.range n).map fun (k : Nat) => .int (k : Int)) := rng0 (n := n) rfl (by omega)
    rw [ev_comp]
    cases q : evE Γ (.rng none (.peek 2) none) (El (.frz (.scr ns)) (.own Dd) (.frz (.int (n : Int))) (.frz (.int (most : Int))) (.own (.lst (l.map it))) (.own (.lst (cs.map .int))) .un (.own (.lst ((tups n most).map tupZ))) .un .un .un .un .un .un) with
    | ok v =>
      rw [q, b_ok] at er
      rw [b_ok, er, b_ok, compL_map (fun (k : Nat) => D.int (k : Int)) (fun (k : Nat) => tupZ [(k : Int)]) (List.range n) fun k _ => ⟨El (.frz (.scr ns)) (.own Dd) (.frz (.int (n : Int))) (.frz (.int (most : Int))) (.own (.lst (l.map it))) (.own (.lst (cs.map .int))) .un (.own (.lst ((tups n most).map tupZ))) .un .un .un .un (.frz (.int (k : Int))) .un, rfl, rfl, rfl⟩, n_ok, b_ok, made_ok (by rw [List.length_map, List.length_range]; omega), List.map_map]
      rfl
    | exc x => rw [q] at er; cases er
    | bad => rw [q] at er; cases er
  obtain ⟨u, u1, u2, e9⟩ : ∃ u : Tu, u.length ≤ 4 ∧ (∀ y ∈ u, 0 ≤ y ∧ y < (n : Int)) ∧ evE Γ (.lst [.tup [.idx (.peek 1) (.cst (.int 4)), .idx (.bin .add (.peek 8) (.lst [.tup []])) (.bin .mod (.idx (.peek 1) (.cst (.int 5))) (.bin .add (.bi .len [.peek 8]) (.cst (.int 1))))]]) (El (.frz (.scr ns)) (.own Dd) (.frz (.int (n : Int))) (.frz (.int (most : Int))) (.own (.lst (l.map it))) (.own (.lst (cs.map .int))) .un (.own (.lst ((tups n most).map tupZ))) (.own (.lst (((List.range n).map fun (k : Nat) => [(k : Int)]).map tupZ))) .un .un .un .un .un) = .ok (.lst ([((x4, u) : Itm)].map it)) := by
    have hmod : 0 < ((n : Int) + 1) := by omega
    have j0 : 0 ≤ x5 % ((n : Int) + 1) := Int.emod_nonneg _ (by omega)
    have j1 := Int.emod_lt_of_pos x5 hmod
    obtain ⟨u, hu⟩ : ∃ u, (((List.range n).map fun (k : Nat) => [(k : Int)]) ++ [[]])[(x5 % ((n : Int) + 1)).toNat]? = some u := ⟨_, List.getElem?_eq_getElem (by rw [List.length_append, List.length_map, List.length_range, List.length_singleton]; omega)⟩
    have hmem := List.mem_of_getElem? hu
    have hu2 : u.length ≤ 4 ∧ ∀ y ∈ u, 0 ≤ y ∧ y < (n : Int) := by
      rcases List.mem_append.mp hmem with z | z
      · obtain ⟨k, hk, rfl⟩ := List.mem_map.mp z
        have := List.mem_range.mp hk
        refine ⟨by simp, fun y hy => ?_⟩
        rw [List.mem_singleton.mp hy]
        omega
      · rw [List.mem_singleton.mp z]
        exact ⟨by simp, fun y hy => by cases hy⟩
    refine ⟨u, hu2.1, hu2.2, ?_⟩
    have ea : evE Γ (.bin .add (.peek 8) (.lst [.tup []])) (El (.frz (.scr ns)) (.own Dd) (.frz (.int (n : Int))) (.frz (.int (most : Int))) (.own (.lst (l.map it))) (.own (.lst (cs.map .int))) .un (.own (.lst ((tups n most).map tupZ))) (.own (.lst (((List.range n).map fun (k : Nat) => [(k : Int)]).map tupZ))) .un .un .un .un .un) = .ok (.lst ((((List.range n).map fun (k : Nat) => [(k : Int)]) ++ [[]]).map tupZ)) := by
      show addD (.lst (((List.range n).map fun (k : Nat) => [(k : Int)]).map tupZ)) (.lst [.tup []]) = _
      rw [add_lst (by rw [List.length_map, List.length_map, List.length_range, List.length_singleton]; omega), List.map_append]
      rfl
    have em : evE Γ (.bin .mod (.idx (.peek 1) (.cst (.int 5))) (.bin .add (.bi .len [.peek 8]) (.cst (.int 1)))) (El (.frz (.scr ns)) (.own Dd) (.frz (.int (n : Int))) (.frz (.int (most : Int))) (.own (.lst (l.map it))) (.own (.lst (cs.map .int))) .un (.own (.lst ((tups n most).map tupZ))) (.own (.lst (((List.range n).map fun (k : Nat) => [(k : Int)]).map tupZ))) .un .un .un .un .un) = .ok (.int (x5 % ((n : Int) + 1))) := by
      rw [← hDr]
      show modD (.int x5) (.int (((((List.range n).map fun (k : Nat) => [(k : Int)]).map tupZ).length : Int) + 1)) = _
      rw [List.length_map, List.length_map, List.length_range, mod_int hmod]
    have ei : evE Γ (.idx (.bin .add (.peek 8) (.lst [.tup []])) (.bin .mod (.idx (.peek 1) (.cst (.int 5))) (.bin .add (.bi .len [.peek 8]) (.cst (.int 1))))) (El (.frz (.scr ns)) (.own Dd) (.frz (.int (n : Int))) (.frz (.int (most : Int))) (.own (.lst (l.map it))) (.own (.lst (cs.map .int))) .un (.own (.lst ((tups n most).map tupZ))) (.own (.lst (((List.range n).map fun (k : Nat) => [(k : Int)]).map tupZ))) .un .un .un .un .un) = .ok (tupZ u) := by
      rw [ev_idx, ea, b_ok, em, b_ok]
      show optR (L2.atI ((((List.range n).map fun (k : Nat) => [(k : Int)]) ++ [[]]).map tupZ) (x5 % ((n : Int) + 1))) = _
      rw [← Int.toNat_of_nonneg j0, Mi.atI_nat, List.getElem?_map, hu]
      rfl
    rw [ev_lst, evs_cons, ev_tup, evs_cons, evs_cons, ei, ← hDr]
    rfl
  have gd2 : Gd n (l ++ [(x4, u)]) := gd.snoc u1 u2
  have S2 := sc (l ++ [(x4, u)]) (by rw [List.length_append, List.length_singleton]; omega) gd2
  have q2 : evE Γ (.not (.call false 16 [.bin .add (.peek 4) (.peek 9), .peek 5, .peek 3, .peek 7])) (El (.frz (.scr ns)) (.own Dd) (.frz (.int (n : Int))) (.frz (.int (most : Int))) (.own (.lst (l.map it))) (.own (.lst (cs.map .int))) .un (.own (.lst ((tups n most).map tupZ))) (.own (.lst (((List.range n).map fun (k : Nat) => [(k : Int)]).map tupZ))) (.own (.lst ([((x4, u) : Itm)].map it))) .un .un .un .un) = .ok (.bl false) := by
    have ea : evE Γ (.bin .add (.peek 4) (.peek 9)) (El (.frz (.scr ns)) (.own Dd) (.frz (.int (n : Int))) (.frz (.int (most : Int))) (.own (.lst (l.map it))) (.own (.lst (cs.map .int))) .un (.own (.lst ((tups n most).map tupZ))) (.own (.lst (((List.range n).map fun (k : Nat) => [(k : Int)]).map tupZ))) (.own (.lst ([((x4, u) : Itm)].map it))) .un .un .un .un) = .ok (.lst ((l ++ [(x4, u)]).map it)) := by
      show addD (.lst (l.map it)) (.lst ([((x4, u) : Itm)].map it)) = _
      rw [add_lst (by rw [List.length_map, List.length_map, List.length_singleton]; omega), List.map_append]
    rw [ev_not, ev_call, eva_cons, ea]
    show R.bind (R.bind (R.ok ([.frz (.lst ((l ++ [(x4, u)]).map it)), .bor (.lst (cs.map .int)), .frz (.int (most : Int)), .bor (.lst ((tups n most).map tupZ))] : List Mi.Slot)) _) _ = _
    rw [b_ok, K.answers n most (l ++ [(x4, u)]) cs _ _ _ S2 k1 hcs (Sn.f _) (Sn.b _) (Sn.b _)]
    rfl
  have e10 : evE Γ (.call true 4 [.peek 4, .peek 3]) (El (.frz (.scr ns)) (.own Dd) (.frz (.int (n : Int))) (.frz (.int (most : Int))) (.own (.lst (l.map it))) (.own (.lst (cs.map .int))) .un (.own (.lst ((tups n most).map tupZ))) (.own (.lst (((List.range n).map fun (k : Nat) => [(k : Int)]).map tupZ))) (.own (.lst ([((x4, u) : Itm)].map it))) .un .un .un .un) = .ok (.lst (((tups n most).filter (minB (lotsOf l))).map tupZ)) := by
    rw [ev_call]
    show R.bind (R.ok ([.bor (.lst (l.map it)), .frz (.int (most : Int))] : List Mi.Slot)) _ = _
    rw [b_ok]
    exact K.c4 n most l _ S1 (Sn.b _)
  refine run_ret (env := El (.frz (.scr ns)) .un .un .un .un .un .un .un .un .un .un .un .un .un) (own := false) rfl (ess_asg (e1 := El (.frz (.scr ns)) (.own Dd) .un .un .un .un .un .un .un .un .un .un .un .un) e1 (by rw [← hDr]; rfl) (ess_asg (e1 := El (.frz (.scr ns)) (.own Dd) (.frz (.int x0)) .un .un .un .un .un .un .un .un .un .un .un) i0 rfl
    (ess_asg (e1 := El (.frz (.scr ns)) (.own Dd) (.frz (.int x0)) (.frz (.int (m0 : Int))) .un .un .un .un .un .un .un .un .un .un) (e3 _ _) rfl (ess_nx e4 (ess_asg (e1 := El (.frz (.scr ns)) (.own Dd) (.frz (.int (n : Int))) (.frz (.int (most : Int))) (.own (.lst (l.map it))) .un .un .un .un .un .un .un .un .un) e5 rfl
    (ess_asg (d := .lst []) (e1 := El (.frz (.scr ns)) (.own Dd) (.frz (.int (n : Int))) (.frz (.int (most : Int))) (.own (.lst (l.map it))) (.own (.lst [])) .un .un .un .un .un .un .un .un) rfl rfl (ess_for (rng0 (n := n) rfl (by omega)) rfl lp rfl
    (ess_asg (e1 := El (.frz (.scr ns)) (.own Dd) (.frz (.int (n : Int))) (.frz (.int (most : Int))) (.own (.lst (l.map it))) (.own (.lst (cs.map .int))) .un (.own (.lst ((tups n most).map tupZ))) .un .un .un .un .un .un) e7 rfl (ess_if q1 rfl
    (ess_asgC (e1 := El (.frz (.scr ns)) (.own Dd) (.frz (.int (n : Int))) (.frz (.int (most : Int))) (.own (.lst (l.map it))) (.own (.lst (cs.map .int))) .un (.own (.lst ((tups n most).map tupZ))) (.own (.lst (((List.range n).map fun (k : Nat) => [(k : Int)]).map tupZ))) .un .un .un .un .un) e8 rfl
    (ess_asg (e1 := El (.frz (.scr ns)) (.own Dd) (.frz (.int (n : Int))) (.frz (.int (most : Int))) (.own (.lst (l.map it))) (.own (.lst (cs.map .int))) .un (.own (.lst ((tups n most).map tupZ))) (.own (.lst (((List.range n).map fun (k : Nat) => [(k : Int)]).map tupZ))) (.own (.lst ([((x4, u) : Itm)].map it))) .un .un .un .un) e9 rfl
    (ess_if q2 rfl (ess_asg (e1 := El (.frz (.scr ns)) (.own Dd) (.frz (.int (n : Int))) (.frz (.int (most : Int))) (.own (.lst (l.map it))) (.own (.lst (cs.map .int))) .un (.own (.lst ((tups n most).map tupZ))) (.own (.lst (((List.range n).map fun (k : Nat) => [(k : Int)]).map tupZ))) (.own (.lst ([((x4, u) : Itm)].map it))) (.own (.lst (((tups n most).filter (minB (lotsOf l))).map tupZ))) .un .un .un) e10 rfl (ess_ret ?_)))))))))))))) rfl
  have ec : evE Γ (.comp (.var 13) (.nm 13) (.peek 7) [.call false 11 [.peek 4, .peek 13]] [13]) (El (.frz (.scr ns)) (.own Dd) (.frz (.int (n : Int))) (.frz (.int (most : Int))) (.own (.lst (l.map it))) (.own (.lst (cs.map .int))) .un (.own (.lst ((tups n most).map tupZ))) (.own (.lst (((List.range n).map fun (k : Nat) => [(k : Int)]).map tupZ))) (.own (.lst ([((x4, u) : Itm)].map it))) (.own (.lst (((tups n most).filter (minB (lotsOf l))).map tupZ))) .un .un .un) = .ok (.lst (((tups n most).filter (minB (lotsOf l))).map tupZ)) := by
    have hlenM : ((tups n most).filter (minB (lotsOf l))).length ≤ 25250 := Nat.le_trans (List.length_filter_le _ _) (tups_len S1.m S1.lev)
    rw [ev_comp, show evE Γ (.peek 7) (El (.frz (.scr ns)) (.own Dd) (.frz (.int (n : Int))) (.frz (.int (most : Int))) (.own (.lst (l.map it))) (.own (.lst (cs.map .int))) .un (.own (.lst ((tups n most).map tupZ))) (.own (.lst (((List.range n).map fun (k : Nat) => [(k : Int)]).map tupZ))) (.own (.lst ([((x4, u) : Itm)].map it))) (.own (.lst (((tups n most).filter (minB (lotsOf l))).map tupZ))) .un .un .un) = .ok (.lst ((tups n most).map tupZ)) from rfl, b_ok, items_lst, b_ok,
      compL_filter tupZ (minB (lotsOf l)) tupZ (tups n most) fun t ht => ⟨El (.frz (.scr ns)) (.own Dd) (.frz (.int (n : Int))) (.frz (.int (most : Int))) (.own (.lst (l.map it))) (.own (.lst (cs.map .int))) .un (.own (.lst ((tups n most).map tupZ))) (.own (.lst (((List.range n).map fun (k : Nat) => [(k : Int)]).map tupZ))) (.own (.lst ([((x4, u) : Itm)].map it))) (.own (.lst (((tups n most).filter (minB (lotsOf l))).map tupZ))) .un .un (.frz (tupZ t)), rfl, ?_, fun _ => rfl⟩, n_ok, b_ok, made_ok (by rw [List.length_map]; omega)]
    rw [evi_cons, ev_call]
    show R.bind (R.bind (R.ok ([.bor (.lst (l.map it)), .frz (tupZ t)] : List Mi.Slot)) _) _ = _
    rw [b_ok, K.c11 l t _ S1.few (by have := (tups_mem.mp ht).2; omega) (Sn.b _), b_ok, truth_bl, b_ok]
    cases minB (lotsOf l) t <;> rfl
  rw [ev_cmp, ec]
  exact eqR_self (ok_tups _)
end
theorem plain (ns : List Int) (hl : ns.length ≤ 63) : runB (globN (ds.map (·.b)) 17) b_law [.frz (.scr ns)] = .ok (.bl true) := law_run calls2_ok ns
end LawK68

open PySem PySem.W PyProof.Rows in
set_option maxRecDepth 100000 in
set_option maxHeartbeats 0 in
theorem PySem.Challenge.cw_fewserve_k68_meeting_sets_holds : PySem.Challenge.rw_fewserve_k68_meeting_sets.Holds := by
  w_on; o_law; k_head; (case hw => w_witness2)
  k_fill
  refine Mi.walk (l := PySem.Challenge.rw_fewserve_k68_meeting_sets) (n := 63) (k := 6) (x := "script") rfl (by decide) rfl ⟨rfl, by decide, by decide⟩ (fun w h Y => PySem.W.kIn_of Y) ?F
  case F =>
    intro w mg h KX G
    refine Mi.law_ok0 (x := "script") (ds := LawK68.ds) (blts := LawK68.blts) (cst := LawK68.cst) (fuel := 400) (i := 17) (d := LawK68.d_law) ?told LawK68.checked rfl rfl rfl (fun ns hl => LawK68.plain ns hl)
    case told =>
      refine' LawK68.told KX G ?a0 ?l0 ?c0 ?k0 ?a1 ?l1 ?c1 ?k1 ?a2 ?l2 ?c2 ?k2 ?a3 ?l3 ?c3 ?k3 ?a4 ?l4 ?c4 ?k4 ?a5 ?l5 ?c5 ?k5 ?a6 ?l6 ?c6 ?k6 ?a7 ?l7 ?c7 ?k7 ?a8 ?l8 ?c8 ?k8 ?a9 ?l9 ?c9 ?k9 ?a10 ?l10 ?c10 ?k10 ?a11 ?l11 ?c11 ?k11 ?a12 ?l12 ?c12 ?k12 ?a13 ?l13 ?c13 ?k13 ?a14 ?l14 ?c14 ?k14 ?a15 ?l15 ?c15 ?k15 ?a16 ?l16 ?c16 ?k16 ?a17 ?l17 ?c17 ?k17 ?z0 ?z1 ?z2 ?z3 ?z4 ?z5 ?z6 ?z7 ?z8 ?z9 ?z10
      (case a0 => k_is)
      (case l0 => k_is)
      (case c0 => k_is)
      (case k0 => k_is)
      (case a1 => k_is)
      (case l1 => k_is)
      (case c1 => k_is)
      (case k1 => k_is)
      (case a2 => k_is)
      (case l2 => k_is)
      (case c2 => k_is)
      (case k2 => k_is)
      (case a3 => k_is)
      (case l3 => k_is)
      (case c3 => k_is)
      (case k3 => k_is)
      (case a4 => k_is)
      (case l4 => k_is)
      (case c4 => k_is)
      (case k4 => k_is)
      (case a5 => k_is)
      (case l5 => k_is)
      (case c5 => k_is)
      (case k5 => k_is)
      (case a6 => k_is)
      (case l6 => k_is)
      (case c6 => k_is)
      (case k6 => k_is)
      (case a7 => k_is)
      (case l7 => k_is)
      (case c7 => k_is)
      (case k7 => k_is)
      (case a8 => k_is)
      (case l8 => k_is)
      (case c8 => k_is)
      (case k8 => k_is)
      (case a9 => k_is)
      (case l9 => k_is)
      (case c9 => k_is)
      (case k9 => k_is)
      (case a10 => k_is)
      (case l10 => k_is)
      (case c10 => k_is)
      (case k10 => k_is)
      (case a11 => k_is)
      (case l11 => k_is)
      (case c11 => k_is)
      (case k11 => k_is)
      (case a12 => k_is)
      (case l12 => k_is)
      (case c12 => k_is)
      (case k12 => k_is)
      (case a13 => k_is)
      (case l13 => k_is)
      (case c13 => k_is)
      (case k13 => k_is)
      (case a14 => k_is)
      (case l14 => k_is)
      (case c14 => k_is)
      (case k14 => k_is)
      (case a15 => k_is)
      (case l15 => k_is)
      (case c15 => k_is)
      (case k15 => k_is)
      (case a16 => k_is)
      (case l16 => k_is)
      (case c16 => k_is)
      (case k16 => k_is)
      (case a17 => k_is)
      (case l17 => k_is)
      (case c17 => k_is)
      (case k17 => k_is)
      (case z0 => k_is)
      (case z1 => k_is)
      (case z2 => k_is)
      (case z3 => k_is)
      (case z4 => k_is)
      (case z5 => k_is)
      (case z6 => k_is)
      (case z7 => k_is)
      (case z8 => k_is)
      (case z9 => k_is)
      (case z10 => k_is)
