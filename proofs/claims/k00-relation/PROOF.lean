import PyProof.Rows.All
import Wide.All
import OpenK.AllK
import Wide.FinOn
import HandS.ForMost
import HandS.Exc
import KE.SortData
import KE.DataCmp
import KE.DataMinMax
import HandS.TupAny
import HandS.Wide
import HandS.Deep
import HandS.TupLe
import HandS.Flow
import HandS.Conv
import HandS.CallSlots
import HandS.Words
import HandS.WordsExc
import HandS.ExcInit
import HandS.ExcOwn
import KE.KExcSuper
import HandS.Walk
import HandS.Zip
import HandS.More
import HandS.List
import KE.KRevSl
import HandS.SortInts
import HandS.IsInst
import HandS.ExcField
import HandS.ExcIs
import HandS.TryOnly
import KE.KExcIs
import HandS.TupSets
import KE.KeyNested
import KE.SortKeyHeap
import HandS.SortKw
import HandS.GenList
import HandS.Style
import PyProof.GenComp
import PySem.Challenge.RW_fewserve_k00_first_relation
set_option Elab.async false
set_option linter.all false
set_option maxRecDepth 100000
set_option maxHeartbeats 4000000
/-! A small interpreter over trees, and what it says. -/
namespace Mi
open PySem

/-- data as trees -/
inductive D where
  | non | bl (b : Bool) | int (i : Int) | str (s : Str)
  | tup (xs : List D) | lst (xs : List D)
  | dct (ks vs : List D)
  | ins (c : Nat) (ns : List Nat) (vs : List D)
  | scr (ns : List Int)
  | itr (xs : List D)
  deriving Inhabited

structure Xn where
  c : Nat
  f : Option (Nat × D)
/-- class 0: ValueError; 1: the program's base class under it; all others under that one -/
def subX (a b : Nat) : Bool := a == b || b == 0 || (b == 1 && a != 0)

inductive R (α : Type) where
  | ok (a : α) | exc (x : Xn) | bad
namespace R
def bind {α β : Type} : R α → (α → R β) → R β
  | .ok a, f => f a
  | .exc x, _ => .exc x
  | .bad, _ => .bad
def map {α β : Type} (f : α → β) : R α → R β
  | .ok a => .ok (f a)
  | .exc x => .exc x
  | .bad => .bad
/-- nothing is let out -/
def nox {α : Type} : R α → R α
  | .ok a => .ok a
  | _ => .bad
theorem bind_ok {α β : Type} (a : α) (f : α → R β) : (R.ok a).bind f = f a := rfl
theorem bind_exc {α β : Type} (x : Xn) (f : α → R β) : (R.exc x : R α).bind f = .exc x := rfl
theorem bind_bad {α β : Type} (f : α → R β) : (R.bad : R α).bind f = .bad := rfl
end R

inductive Slot where
  | un | own (d : D) | frz (d : D) | bor (d : D) | exn (x : Xn)
  deriving Inhabited
abbrev Env := List Slot
def Slot.val : Slot → R D
  | .un => .bad
  | .own d => .ok d
  | .frz d => .ok d
  | .bor d => .ok d
  | .exn _ => .bad
def gt (env : Env) (i : Nat) : Slot := env.getD i .un
/-- what changes in place -/
def isMut : D → Bool
  | .lst _ => true
  | .dct _ _ => true
  | _ => false

inductive Bop where
  | add | sub | mul | fdiv | mod | pow
inductive Cop where
  | eq | ne | lt | le | gt | ge | isin | notin
inductive Bi where
  | len | sum | int | str | abs | list | tuple | sorted | min2 | max2 | min | max | bool | sset
inductive Bm where
  | index
/-- built-in types, as isinstance asks -/
inductive Ty where
  | non | bool | int | str | tuple | list
inductive Tgt where
  | nm (i : Nat) | tup (ts : List Tgt)
  deriving Inhabited

inductive E where
  | var (i : Nat) | peek (i : Nat) | cst (d : D)
  | bin (o : Bop) (a b : E) | cmp (o : Cop) (a b : E) | chain (o o' : Cop) (a b c : E)
  | isN (neg : Bool) (a : E)
  | neg (a : E) | not (a : E) | and (a b : E) | or (a b : E) | ife (c a b : E)
  | tup (xs : List E) | lst (xs : List E)
  | idx (a i : E) | sl (a : E) (lo hi : Option E)
  | comp (elt : E) (t : Tgt) (it : E) (ifs : List E) (own : List Nat)
  | comp2 (elt : E) (t : Tgt) (it : E) (t1 : Tgt) (it1 : E) (ifs1 : List E) (own own1 : List Nat)
  | call (fr : Bool) (f : Nat) (xs : List E)
  | meth (fr : Bool) (m : Nat) (o : E) (xs : List E)
  | make (c : Nat) (xs : List E)
  | attr (f : Nat) (o : E)
  | bi (b : Bi) (xs : List E)
  | bm (b : Bm) (o : E) (xs : List E)
  | rng (lo : Option E) (hi : E) (st : Option E)
  | enum (a : E) | zip (a b : E)
  | tru (a : E)
  | isi (t : Ty) (a : E)
  | glist (f : Nat) (xs : List E)
  | srt (f : Nat) (a : E)
  | rev (a : E)
  | xattr (i k : Nat) | xisi (i c : Nat)
  | never
  deriving Inhabited

/-- what is new and may be changed, if it is a list -/
def frs : E → Bool
  | .lst _ => true
  | .sl _ _ _ => true
  | .bin _ _ _ => true
  | .comp .. => true
  | .comp2 .. => true
  | .call fr _ _ => fr
  | .meth fr _ _ _ => fr
  | .bi _ _ => true
  | .glist _ _ => true
  | .srt _ _ => true
  | .rev _ => true
  | _ => false

/-- the surroundings of a def -/
structure Glob where
  call : Nat → List Slot → R D
  gen : Nat → List Slot → R (List D)
  meth : Nat → Nat → Option Nat
  make : Nat → List Slot → R D

/-! ### operations on data -/
def lenLine (n : Nat) : Bool := decide (n ≤ 1000000)
def truth : D → R Bool
  | .non => .ok false
  | .bl b => .ok b
  | .int i => .ok (i != 0)
  | .str s => if lenLine s.length then .ok (s.length != 0) else .bad
  | .tup xs => .ok (!xs.isEmpty)
  | .lst xs => .ok (!xs.isEmpty)
  | _ => .bad

/-- data that == compares, n deep -/
def eqOk : Nat → D → Bool
  | 0, _ => false
  | _ + 1, .non => true
  | _ + 1, .bl _ => true
  | _ + 1, .int _ => true
  | _ + 1, .str s => PyData.strOk s
  | n + 1, .tup xs => xs.all (eqOk n)
  | n + 1, .lst xs => xs.all (eqOk n)
  | _ + 1, _ => false

mutual
def eqD : D → D → Bool
  | .non, .non => true
  | .bl a, .bl b => a == b
  | .bl a, .int j => (if a then 1 else 0) == j
  | .int i, .bl b => i == (if b then 1 else 0)
  | .int i, .int j => i == j
  | .str x, .str y => x == y
  | .lst xs, .lst ys => eqDs xs ys
  | .tup xs, .tup ys => eqDs xs ys
  | _, _ => false
def eqDs : List D → List D → Bool
  | [], [] => true
  | x :: xs, y :: ys => eqD x y && eqDs xs ys
  | _, _ => false
end
def eqR (a b : D) : R D := if eqOk 60 a && eqOk 60 b then .ok (.bl (eqD a b)) else .bad
def neR (a b : D) : R D := if eqOk 60 a && eqOk 60 b then .ok (.bl (!eqD a b)) else .bad

def ltInts : List Int → List Int → Bool := HT.lexLt
def toInts : List D → Option (List Int)
  | [] => some []
  | .int i :: r => (toInts r).map (i :: ·)
  | _ => none

def addD : D → D → R D
  | .int i, .int j => .ok (.int (i + j))
  | .str x, .str y => if lenLine (x.length + y.length) then .ok (.str (x ++ y)) else .bad
  | .tup xs, .tup ys => if lenLine (xs.length + ys.length) then .ok (.tup (xs ++ ys)) else .bad
  | .lst xs, .lst ys => if lenLine (xs.length + ys.length) then .ok (.lst (xs ++ ys)) else .bad
  | _, _ => .bad
def subD : D → D → R D
  | .int i, .int j => .ok (.int (i - j))
  | _, _ => .bad
/-- a product that fits -/
def fitMul (i j : Int) : Bool := (decide (-(2 ^ 64) < i ∧ i < 2 ^ 64) || decide (-(2 ^ 64) < j ∧ j < 2 ^ 64)) || decide (i.natAbs.log2 + j.natAbs.log2 < 1000000)
def mulD : D → D → R D
  | .int i, .int j => if fitMul i j then .ok (.int (i * j)) else .bad
  | .lst xs, .int k => if decide (-1000000 ≤ k ∧ k ≤ 1000000) && lenLine (xs.length * k.toNat) then .ok (.lst (List.replicate k.toNat xs).flatten) else .bad
  | _, _ => .bad
def fitDiv (j : Int) : Bool := decide (0 < j ∧ j.natAbs.log2 < 9000)
def fdivD : D → D → R D
  | .int i, .int j => if fitDiv j then .ok (.int (i / j)) else .bad
  | _, _ => .bad
def modD : D → D → R D
  | .int i, .int j => if decide (0 < j) then .ok (.int (i % j)) else .bad
  | _, _ => .bad
def fitPow (i j : Int) : Bool := decide (0 ≤ j ∧ j ≤ 1000000 ∧ i.natAbs < 2 ^ 64)
def powD : D → D → R D
  | .int i, .int j => if fitPow i j then .ok (.int (i ^ j.toNat)) else .bad
  | _, _ => .bad
def binD : Bop → D → D → R D
  | .add, x, y => addD x y
  | .sub, x, y => subD x y
  | .mul, x, y => mulD x y
  | .fdiv, x, y => fdivD x y
  | .mod, x, y => modD x y
  | .pow, x, y => powD x y

mutual
def toPy : D → PyData
  | .non => .none
  | .bl b => .bool b
  | .int i => .int i
  | .str s => .str s
  | .tup xs => .tuple (toPys xs)
  | .lst xs => .list (toPys xs)
  | .dct _ _ => .dict []
  | .ins _ _ _ => .dict []
  | .scr _ => .dict []
  | .itr _ => .dict []
def toPys : List D → List PyData
  | [] => []
  | d :: ds => toPy d :: toPys ds
end
/-- one before the other, by what they hold -/
def befD (a b : D) : Bool := PySem.W.dataLt (toPy a) (toPy b)
def isNon : D → Bool
  | .non => true
  | _ => false
/-- two that can be put in order -/
def ordOk (a b : D) : Bool := eqOk 60 a && eqOk 60 b && PySem.W.alike (toPy a) (toPy b) && !isNon a
def isinD (x : D) (ys : List D) : R Bool := if eqOk 60 x && ys.all (eqOk 60) then .ok (ys.any fun y => eqD y x) else .bad
def ltD : D → D → R D
  | .int i, .int j => .ok (.bl (decide (i < j)))
  | a, b => if ordOk a b then .ok (.bl (befD a b)) else .bad
def leD : D → D → R D
  | .int i, .int j => .ok (.bl (decide (i ≤ j)))
  | a, b => if ordOk a b then .ok (.bl (!befD b a)) else .bad
def gtD : D → D → R D
  | .int i, .int j => .ok (.bl (decide (j < i)))
  | a, b => if ordOk a b then .ok (.bl (befD b a)) else .bad
def geD : D → D → R D
  | .int i, .int j => .ok (.bl (decide (j ≤ i)))
  | a, b => if ordOk a b then .ok (.bl (!befD a b)) else .bad
def inD (x : D) : D → R Bool
  | .lst ys => isinD x ys
  | .tup ys => isinD x ys
  | _ => .bad
def cmpD : Cop → D → D → R D
  | .eq, a, b => eqR a b
  | .ne, a, b => neR a b
  | .lt, a, b => ltD a b
  | .le, a, b => leD a b
  | .gt, a, b => gtD a b
  | .ge, a, b => geD a b
  | .isin, a, b => (inD a b).map .bl
  | .notin, a, b => (inD a b).map fun k => .bl (!k)
def isNone : D → Bool
  | .non => true
  | _ => false
def optR {α : Type} : Option α → R α
  | some a => .ok a
  | none => .bad
def idxD : D → D → R D
  | .lst xs, .int i => optR (L2.atI xs i)
  | .tup xs, .int i => optR (L2.atI xs i)
  | .scr ns, .int i => (optR (L2.atI ns i)).map .int
  | _, _ => .bad
def cutD (xs : List D) (lo hi : Option Int) : List D := (xs.drop (HT.sIx xs.length 0 lo)).take (HT.sIx xs.length xs.length hi - HT.sIx xs.length 0 lo)
def slD : D → Option Int → Option Int → R D
  | .lst xs, lo, hi => .ok (.lst (cutD xs lo hi))
  | .tup xs, lo, hi => .ok (.tup (cutD xs lo hi))
  | _, _, _ => .bad
def intOf : D → R Int
  | .int i => .ok i
  | _ => .bad
/-- what a loop goes through -/
def items : D → R (List D)
  | .lst xs => .ok xs
  | .tup xs => .ok xs
  | .itr xs => .ok xs
  | _ => .bad
def small62 (i : Int) : Bool := decide (-(2 ^ 62) ≤ i ∧ i < 2 ^ 62)
def rngD (lo hi : Int) : R D := if small62 lo && small62 hi then .ok (.itr ((List.range (hi - lo).toNat).map fun (k : Nat) => .int (lo + (k : Int)))) else .bad
def enumL : Nat → List D → List D
  | _, [] => []
  | n, x :: r => .tup [.int n, x] :: enumL (n + 1) r
def zipL : List D → List D → List D
  | x :: xs, y :: ys => .tup [x, y] :: zipL xs ys
  | _, _ => []
def enumD : D → R D
  | .lst xs => .ok (.itr (enumL 0 xs))
  | _ => .bad
def zipD : D → D → R D
  | .lst xs, .lst ys => .ok (.itr (zipL xs ys))
  | .tup xs, .tup ys => .ok (.itr (zipL xs ys))
  | _, _ => .bad
def lenD : List D → R D
  | [.lst xs] => .ok (.int xs.length)
  | [.tup xs] => .ok (.int xs.length)
  | [.scr xs] => .ok (.int xs.length)
  | [.str s] => if lenLine s.length then .ok (.int s.length) else .bad
  | _ => .bad
def int1D : List D → R D
  | [.int i] => .ok (.int i)
  | [.bl b] => .ok (.int (if b then 1 else 0))
  | _ => .bad
def listD : List D → R D
  | [.lst xs] => .ok (.lst xs)
  | [.tup xs] => .ok (.lst xs)
  | _ => .bad
def tupleD : List D → R D
  | [.lst xs] => .ok (.tup xs)
  | [.tup xs] => .ok (.tup xs)
  | _ => .bad
def sumD : List D → R D
  | [.lst xs] => (optR (toInts xs)).map fun ns => .int ns.sum
  | _ => .bad
def absD : List D → R D
  | [.int i] => .ok (.int (if i < 0 then -i else i))
  | _ => .bad
def min2D : List D → R D
  | [.int i, .int j] => .ok (.int (if j < i then j else i))
  | _ => .bad
def max2D : List D → R D
  | [.int i, .int j] => .ok (.int (if j > i then j else i))
  | _ => .bad
def insI (i : Int) : List Int → List Int
  | [] => [i]
  | j :: r => if i ≤ j then i :: j :: r else j :: insI i r
def sortI : List Int → List Int
  | [] => []
  | i :: r => insI i (sortI r)
/-- all can be put in order, by one road -/
def sortOk (xs : List D) : Bool := xs.all (eqOk 60) && (xs.all fun a => xs.all fun b => PySem.W.alike (toPy a) (toPy b)) &&
  ((xs.all fun | .tup (_ :: _) => true | _ => false) || xs.all fun | .non => false | .tup _ => false | _ => true)
def sortedD : List D → R D
  | [.lst xs] => match toInts xs with
    | some ns => .ok (.lst ((sortI ns).map .int))
    | none => if sortOk xs then .ok (.lst (xs.mergeSort (PySem.W.dataLe false toPy))) else .bad
  | [.tup xs] => match toInts xs with
    | some ns => .ok (.lst ((sortI ns).map .int))
    | none => if sortOk xs then .ok (.lst (xs.mergeSort (PySem.W.dataLe false toPy))) else .bad
  | _ => .bad
/-- the first of the least -/
def minLD : List D → R D
  | [.lst (x :: xs)] => if (x :: xs).all (eqOk 60) && ((x :: xs).all fun a => (x :: xs).all fun b => PySem.W.alike (toPy a) (toPy b)) && ((x :: xs).all fun a => !isNon a && !isMut a) then
      .ok (xs.foldl (fun a y => if befD y a then y else a) x) else .bad
  | _ => .bad
def revD : D → R D
  | .lst xs => .ok (.lst xs.reverse)
  | .tup xs => .ok (.tup xs.reverse)
  | _ => .bad
/-- data without texts, truths and lists, n deep -/
def keyD : Nat → D → Bool
  | 0, _ => false
  | _ + 1, .non => true
  | _ + 1, .int _ => true
  | n + 1, .tup xs => xs.all (keyD n)
  | _ + 1, _ => false
def isTup : D → Bool
  | .tup _ => true
  | _ => false
/-- each once -/
def dedD : List D → List D
  | [] => []
  | x :: r => if r.any (eqD x) then dedD r else x :: dedD r
/-- sorted(set(xs)) -/
def ssetD : List D → R D
  | [.lst xs] => if xs.all (keyD 8) && xs.all isTup && sortOk xs && decide (xs.length < 1000) then .ok (.lst ((dedD xs).mergeSort (PySem.W.dataLe false toPy))) else .bad
  | _ => .bad
def biD : Bi → List D → R D
  | .len, ds => lenD ds
  | .int, ds => int1D ds
  | .list, ds => listD ds
  | .tuple, ds => tupleD ds
  | .sum, ds => sumD ds
  | .abs, ds => absD ds
  | .min2, ds => min2D ds
  | .max2, ds => max2D ds
  | .sorted, ds => sortedD ds
  | .sset, ds => ssetD ds
  | .min, ds => minLD ds
  | _, _ => .bad
def bmD : Bm → D → List D → R D
  | _, _, _ => .bad
def insGet (f : Nat) : List Nat → List D → R D
  | n :: ns, v :: vs => if n = f then .ok v else insGet f ns vs
  | _, _ => .bad
def attrD (f : Nat) : D → R D
  | .ins _ ns vs => insGet f ns vs
  | _ => .bad
def clsD : D → R Nat
  | .ins c _ _ => .ok c
  | _ => .bad

def isiD (t : Ty) : D → R D
  | .non => .ok (.bl (match t with | .non => true | _ => false))
  | .bl _ => .ok (.bl (match t with | .bool => true | .int => true | _ => false))
  | .int _ => .ok (.bl (match t with | .int => true | _ => false))
  | .str _ => .ok (.bl (match t with | .str => true | _ => false))
  | .tup _ => .ok (.bl (match t with | .tuple => true | _ => false))
  | .lst _ => .ok (.bl (match t with | .list => true | _ => false))
  | _ => .bad
/-! ### expressions -/
def wipe (env : Env) : List Nat → Env
  | [] => env
  | i :: r => (wipe env r).set i .un
mutual
def bindT : Tgt → D → Env → R Env
  | .nm i, d, env => .ok (env.set i (.frz d))
  | .tup ts, d, env => match d with
      | .tup xs => bindTs ts xs env
      | _ => .bad
def bindTs : List Tgt → List D → Env → R Env
  | [], [], env => .ok env
  | t :: ts, x :: xs, env => (bindT t x env).bind (bindTs ts xs)
  | _, _, _ => .bad
end
mutual
def tslots : Tgt → List Nat
  | .nm i => [i]
  | .tup ts => tslotsL ts
def tslotsL : List Tgt → List Nat
  | [] => []
  | t :: ts => tslots t ++ tslotsL ts
end
/-- a comprehension's turns -/
def compL (bd : D → R Env) (tst : Env → R Bool) (elt : Env → R D) : List D → R (List D)
  | [] => .ok []
  | x :: xs => (bd x).bind fun e => (tst e).bind fun b => if b then (elt e).bind fun y => (compL bd tst elt xs).map (y :: ·) else compL bd tst elt xs
/-- the outer turns of two clauses -/
def compL2 (bd : D → R Env) (inner : Env → R (List D)) : List D → R (List D)
  | [] => .ok []
  | x :: xs => (bd x).bind fun e => (inner e).bind fun ys => (compL2 bd inner xs).map (ys ++ ·)

def made (ys : List D) : R D := if lenLine ys.length then .ok (.lst ys) else .bad
/-- how an argument is handed over: a name's list is lent -/
def lendS (d : D) : Slot → Slot
  | .own _ => .bor d
  | .bor _ => .bor d
  | _ => .frz d
def lend (env : Env) (d : D) : E → Slot
  | .peek i => lendS d (gt env i)
  | _ => .frz d

/-- the keys of a sort -/
def keysL (run : D → R D) : List D → R (List D)
  | [] => .ok []
  | x :: xs => (run x).bind fun k => (keysL run xs).map (k :: ·)
def sortK (xs ks : List D) : List D := ((xs.zip ks).mergeSort (PySem.W.dataLe false fun p => toPy p.2)).map (·.1)
def srtD (run : D → R D) : D → R D
  | .lst xs => (keysL run xs).nox.bind fun ks => if sortOk ks then .ok (.lst (sortK xs ks)) else .bad
  | _ => .bad
/-- the field of the exception at hand; whether it is one of a class -/
def xfD (k : Nat) : Slot → R D
  | .exn ⟨c, some (j, d)⟩ => if (j == k && c != 0) = true then .ok d else .bad
  | _ => .bad
def xsD (c : Nat) : Slot → R D
  | .exn x => if (x.c != 0) = true then .ok (.bl (subX x.c c)) else .bad
  | _ => .bad
mutual
def evE (Γ : Glob) : E → Env → R D
  | .var i, env => match gt env i with
      | .frz d => .ok d
      | _ => .bad
  | .peek i, env => (gt env i).val
  | .cst d, _ => .ok d
  | .bin o a b, env => (evE Γ a env).bind fun x => (evE Γ b env).bind fun y => binD o x y
  | .cmp o a b, env => (evE Γ a env).bind fun x => (evE Γ b env).bind fun y => cmpD o x y
  | .chain o o' a b c, env => (evE Γ a env).bind fun x => (evE Γ b env).bind fun y => (cmpD o x y).bind fun r => match r with
      | .bl true => (evE Γ c env).bind fun z => cmpD o' y z
      | .bl false => .ok (.bl false)
      | _ => .bad
  | .isN ng a, env => (evE Γ a env).bind fun x => .ok (.bl (if ng then !isNone x else isNone x))
  | .neg a, env => (evE Γ a env).bind fun x => (intOf x).map fun i => .int (-i)
  | .not a, env => (evE Γ a env).bind fun x => (truth x).map fun b => .bl (!b)
  | .and a b, env => (evE Γ a env).bind fun x => match x with
      | .bl true => evE Γ b env
      | .bl false => .ok (.bl false)
      | _ => .bad
  | .or a b, env => (evE Γ a env).bind fun x => match x with
      | .bl true => .ok (.bl true)
      | .bl false => evE Γ b env
      | _ => .bad
  | .ife c a b, env => (evE Γ c env).bind fun x => (truth x).bind fun t => if t then evE Γ a env else evE Γ b env
  | .tup xs, env => (evEs Γ xs env).map .tup
  | .lst xs, env => (evEs Γ xs env).map .lst
  | .idx a i, env => (evE Γ a env).bind fun x => (evE Γ i env).bind fun y => idxD x y
  | .sl a lo hi, env => (evE Γ a env).bind fun x => (evO Γ lo env).bind fun l => (evO Γ hi env).bind fun h => slD x l h
  | .comp elt t it ifs own, env => (evE Γ it env).bind fun s => (items s).bind fun xs =>
      (compL (fun x => bindT t x (wipe env own)) (evIfs Γ ifs) (evE Γ elt) xs).nox.bind made
  | .comp2 elt t it t1 it1 ifs1 own own1, env => (evE Γ it env).bind fun s => (items s).bind fun xs =>
      (compL2 (fun x => bindT t x (wipe env own)) (fun e => (evE Γ it1 e).bind fun s1 => (items s1).bind fun ys =>
        compL (fun y => bindT t1 y (wipe e own1)) (evIfs Γ ifs1) (evE Γ elt) ys) xs).nox.bind made
  | .call _ f xs, env => (evAs Γ xs env).bind fun as => Γ.call f as
  | .meth _ m o xs, env => (evE Γ o env).bind fun d => (clsD d).bind fun c => match Γ.meth c m with
      | some f => (evAs Γ xs env).bind fun as => Γ.call f (lend env d o :: as)
      | none => .bad
  | .make c xs, env => (evAs Γ xs env).bind fun as => Γ.make c as
  | .attr f o, env => (evE Γ o env).bind fun d => attrD f d
  | .bi b xs, env => (evEs Γ xs env).bind fun ds => biD b ds
  | .bm b o xs, env => (evE Γ o env).bind fun d => (evEs Γ xs env).bind fun ds => bmD b d ds
  | .rng lo hi st, env => (evR Γ lo env).bind fun l => (evE Γ hi env).bind fun h => (intOf h).bind fun j => match st with
      | none => rngD l j
      | some _ => .bad
  | .enum a, env => (evE Γ a env).bind fun x => enumD x
  | .zip a b, env => (evE Γ a env).bind fun x => (evE Γ b env).bind fun y => zipD x y
  | .tru a, env => (evE Γ a env).bind fun x => (truth x).map .bl
  | .isi t a, env => (evE Γ a env).bind fun x => isiD t x
  | .glist f xs, env => (evAs Γ xs env).bind fun as => (Γ.gen f as).nox.bind made
  | .srt f a, env => (evE Γ a env).bind fun d => srtD (fun x => Γ.call f [.frz x]) d
  | .rev a, env => (evE Γ a env).bind revD
  | .xattr i k, env => xfD k (gt env i)
  | .xisi i c, env => xsD c (gt env i)
  | .never, _ => .bad
def evEs (Γ : Glob) : List E → Env → R (List D)
  | [], _ => .ok []
  | e :: r, env => (evE Γ e env).bind fun x => (evEs Γ r env).map (x :: ·)
def evAs (Γ : Glob) : List E → Env → R (List Slot)
  | [], _ => .ok []
  | e :: r, env => (evE Γ e env).bind fun x => (evAs Γ r env).map (lend env x e :: ·)
def evO (Γ : Glob) : Option E → Env → R (Option Int)
  | none, _ => .ok none
  | some e, env => (evE Γ e env).bind fun x => (intOf x).map some
def evR (Γ : Glob) : Option E → Env → R Int
  | none, _ => .ok 0
  | some e, env => (evE Γ e env).bind intOf
def evIfs (Γ : Glob) : List E → Env → R Bool
  | [], _ => .ok true
  | e :: r, env => (evE Γ e env).bind fun x => (truth x).bind fun b => if b then evIfs Γ r env else .ok false
end

/-! ### statements -/
inductive S where
  | asg (t : Tgt) (e : E) | asgC (i : Nat) (e : E)
  | par (i j : Nat) (a b : E)
  | setIt (i : Nat) (k e : E)
  | app (i : Nat) (e : E)
  | ins (i : Nat) (k e : E)
  | ext (i : Nat) (e : E)
  | expr (e : E)
  | ret (e : E) | retv (i : Nat) | retN
  | ife (c : E) (a b : List S)
  | whl (c : E) (body : List S)
  | fr (t : Tgt) (it : E) (body : List S)
  | brk | cnt | pass | never
  | rais (c : Nat) | raisF (c k : Nat) (e : E)
  | tri (c : Nat) (i : Option Nat) (body suite : List S)
  | wf (is : List Nat) (s : S)
  deriving Inhabited

inductive Out where
  | nx (e : Env) | ret (d : D) (own : Bool) | bk (e : Env) | ct (e : Env) | exc (x : Xn) (e : Env) | bad

def R.out {α : Type} (r : R α) (env : Env) (f : α → Out) : Out := match r with
  | .ok a => f a
  | .exc x => .exc x env
  | .bad => .bad
def R.only {α : Type} (r : R α) (f : α → Out) : Out := match r with
  | .ok a => f a
  | _ => .bad
theorem R.out_ok {α : Type} (a : α) (env : Env) (f : α → Out) : (R.ok a).out env f = f a := rfl
theorem R.out_exc {α : Type} (x : Xn) (env : Env) (f : α → Out) : (R.exc x : R α).out env f = .exc x env := rfl
theorem R.out_bad {α : Type} (env : Env) (f : α → Out) : (R.bad : R α).out env f = .bad := rfl

def mask : Env → Env → Env
  | .un :: r, _ :: r' => .un :: mask r r'
  | _ :: r, s :: r' => s :: mask r r'
  | [], r' => r'
  | _, [] => []
def freeze : Slot → Slot
  | .own d => .frz d
  | s => s
def lock : Slot → Slot
  | .own d => .bor d
  | s => s
/-- the lists that a loop goes through stay as they are meanwhile -/
def pks : E → List Nat
  | .peek i => [i]
  | .enum (.peek i) => [i]
  | .zip (.peek i) (.peek j) => [i, j]
  | .zip (.peek i) _ => [i]
  | .zip _ (.peek j) => [j]
  | _ => []
def onAllI (f : Nat → Slot → Slot) : List Nat → Env → Env
  | [], env => env
  | i :: r, env => onAllI f r (env.set i (f i (gt env i)))
def onAll (f : Slot → Slot) (is : List Nat) (env : Env) : Env := onAllI (fun _ => f) is env
def un1 : Slot → Slot → Slot
  | .own _, .bor d => .own d
  | _, s => s
/-- back: what was owned ahead of the loop and is lent still -/
def unlock (env0 : Env) (is : List Nat) (env : Env) : Env := onAllI (fun i => un1 (gt env0 i)) is env
def Out.onEnv (f : Env → Env) : Out → Out
  | .nx e => .nx (f e)
  | .bk e => .bk (f e)
  | .ct e => .ct (f e)
  | .exc x e => .exc x (f e)
  | .ret d o => .ret d o
  | .bad => .bad

def evFor (body : Env → Out) (bd : D → Env → R Env) (env0 : Env) : List D → Env → Out
  | [], env => .nx env
  | x :: xs, env => (bd x env).only fun e1 => match body e1 with
      | .nx e2 => evFor body bd env0 xs (mask env0 e2)
      | .ct e2 => evFor body bd env0 xs (mask env0 e2)
      | .bk e2 => .nx (mask env0 e2)
      | o => o
def evWhl (c : Env → R Bool) (body : Env → Out) (env0 : Env) : Nat → Env → Out
  | 0, _ => .bad
  | n + 1, env => (c env).out env fun b => if b then (match body env with
      | .nx e2 => evWhl c body env0 n (mask env0 e2)
      | .ct e2 => evWhl c body env0 n (mask env0 e2)
      | .bk e2 => .nx (mask env0 e2)
      | o => o) else .nx env
def fuel : Nat := 100000

def setD (xs : List D) (k : Int) (v : D) : R (List D) := match L2.ixN xs.length k with
  | some j => .ok (xs.set j v)
  | none => .bad
def ownL : Slot → R (List D)
  | .own (.lst xs) => .ok xs
  | _ => .bad

/-- no exception leaves a suite -/
def Out.nox : Out → Out
  | .exc _ _ => .bad
  | o => o
def noex (env : Env) : Env := env.map fun | .exn _ => .un | s => s
/-- try: behind the body -/
def triO (c : Nat) (i : Option Nat) (suite : Env → Out) : Out → Out
  | .exc x e => if subX x.c c then (match i with
      | some i => (suite (e.set i (.exn x))).nox.onEnv fun e => noex (e.set i .un)
      | none => (suite e).nox) else .exc x e
  | o => o
mutual
def evS (Γ : Glob) : S → Env → Out
  | .asg t e, env => (evE Γ e env).out env fun d => match t with
      | .nm i => .nx (env.set i (if frs e && isMut d then .own d else .frz d))
      | t => (bindT t d env).only .nx
  | .asgC i e, env => (evE Γ e env).out env fun d => .nx (env.set i (if frs e && isMut d then .own d else .frz d))
  | .par i j a b, env => (evE Γ a env).out env fun x => (evE Γ b env).out env fun y => .nx ((env.set i (.frz x)).set j (.frz y))
  | .setIt i k e, env => (evE Γ e env).out env fun d => (ownL (gt env i)).only fun xs => (evE Γ k env).out env fun kd => (intOf kd).only fun k =>
      (setD xs k d).only fun ys => .nx (env.set i (.own (.lst ys)))
  | .app i e, env => (ownL (gt env i)).only fun xs => (evE Γ e env).out env fun d => if decide (xs.length < 1000000) then .nx (env.set i (.own (.lst (xs ++ [d])))) else .bad
  | .ins i k e, env => (ownL (gt env i)).only fun xs => (evE Γ k env).out env fun kd => (intOf kd).only fun k => (evE Γ e env).out env fun d => if decide (xs.length < 1000000 ∧ 0 ≤ k ∧ k ≤ 1000000) then .nx (env.set i (.own (.lst (xs.take k.toNat ++ [d] ++ xs.drop k.toNat)))) else .bad
  | .ext i e, env => (ownL (gt env i)).only fun xs => (evE Γ e env).out env fun d => match d with
      | .lst ys => if lenLine (xs.length + ys.length) then .nx (env.set i (.own (.lst (xs ++ ys)))) else .bad
      | _ => .bad
  | .expr e, env => (evE Γ e env).out env fun _ => .nx env
  | .ret e, env => (evE Γ e env).out env fun d => .ret d (frs e)
  | .retv i, env => match gt env i with
      | .own d => .ret d true
      | .frz d => .ret d false
      | _ => .bad
  | .retN, _ => .ret .non false
  | .ife c a b, env => ((evE Γ c env).bind truth).out env fun t => if t then evSs Γ a env else evSs Γ b env
  | .whl c body, env => evWhl (fun e => (evE Γ c e).bind truth) (evSs Γ body) env fuel env
  | .fr t it body, env => ((evE Γ it env).bind items).out env fun xs =>
      (evFor (evSs Γ body) (bindT t) env xs (onAll lock (pks it) env)).onEnv (unlock env (pks it))
  | .brk, env => .bk env
  | .cnt, env => .ct env
  | .pass, env => .nx env
  | .never, _ => .bad
  | .rais c, env => .exc ⟨c, none⟩ env
  | .raisF c k e, env => (evE Γ e env).out env fun d => .exc ⟨c, some (k, d)⟩ env
  | .tri c i body suite, env => triO c i (fun e => evSs Γ suite e) (evSs Γ body env)
  | .wf is s, env => evS Γ s (onAll freeze is env)
def evSs (Γ : Glob) : List S → Env → Out
  | [], env => .nx env
  | s :: r, env => match evS Γ s env with
      | .nx e => evSs Γ r e
      | o => o
end

/-! ### generators -/
inductive G where
  | pl (s : S) | yld (e : E) | fr (t : Tgt) (it : E) (body : List G)
  deriving Inhabited
inductive GO where
  | nx (e : Env) (ys : List D) | bad
def GO.onEnv (f : Env → Env) : GO → GO
  | .nx e ys => .nx (f e) ys
  | .bad => .bad
def R.go {α : Type} (r : R α) (f : α → GO) : GO := match r with
  | .ok a => f a
  | _ => .bad
def evGFor (body : Env → List D → GO) (bd : D → Env → R Env) (env0 : Env) : List D → Env → List D → GO
  | [], env, ys => .nx env ys
  | x :: xs, env, ys => (bd x env).go fun e1 => match body e1 ys with
      | .nx e2 ys2 => evGFor body bd env0 xs (mask env0 e2) ys2
      | .bad => .bad
mutual
def evG (Γ : Glob) : G → Env → List D → GO
  | .pl s, env, ys => match evS Γ s env with
      | .nx e => .nx e ys
      | _ => .bad
  | .yld e, env, ys => (evE Γ e env).go fun d => if decide (ys.length < 1000000) then .nx env (ys ++ [d]) else .bad
  | .fr t it body, env, ys => ((evE Γ it env).bind items).go fun xs => (evGFor (evGs Γ body) (bindT t) env xs (onAll lock (pks it) env) ys).onEnv (unlock env (pks it))
def evGs (Γ : Glob) : List G → Env → List D → GO
  | [], env, ys => .nx env ys
  | s :: r, env, ys => match evG Γ s env ys with
      | .nx e ys2 => evGs Γ r e ys2
      | .bad => .bad
end
/-- a def: its names' number, what it hands back new, its body; a generator's -/
structure Body where
  n : Nat
  fresh : Bool
  code : List S
  gen : Option (List G) := none
  deriving Inhabited
def runB (Γ : Glob) (b : Body) (as : List Slot) : R D := match evSs Γ b.code (as ++ List.replicate (b.n - as.length) .un) with
  | .ret d own => if b.fresh && isMut d && !own then .bad else .ok d
  | .nx _ => .ok .non
  | .exc x _ => .exc x
  | _ => .bad
def runG (Γ : Glob) (b : Body) (as : List Slot) : R (List D) := match b.gen with
  | some g => (match evGs Γ g (as ++ List.replicate (b.n - as.length) .un) [] with
    | .nx _ ys => .ok ys
    | .bad => .bad)
  | none => .bad
end Mi
namespace Mi
open PySem L2

/-- the written things: attribute names, classes, exception classes with their field -/
structure Wd where
  K : PySem.W.Frag
  an : Nat → Str
  cl : Nat → Addr → Prop
  xc : Nat → Value
  ex : Addr → Value → Option Addr → Prop

/-- the addresses whose content is settled -/
abbrev Fz := Addr → Prop

mutual
def Rep (Z : Wd) (F : Fz) (H : Hp) : D → V → Prop
  | .non, v => v = .non
  | .bl b, v => v = .bl b
  | .int i, v => v = .int i
  | .str s, v => v = .str s
  | .tup ds, v => ∃ a vs, v = .ref a ∧ F a ∧ H a = some (.tup vs) ∧ Reps Z F H ds vs
  | .lst ds, v => ∃ a vs, v = .ref a ∧ F a ∧ H a = some (.lst vs) ∧ Reps Z F H ds vs
  | .ins c ns ds, v => ∃ a C dx fs, v = .ref a ∧ F a ∧ H a = some (.ins C dx fs) ∧ Z.cl c C ∧ fs.map (·.1) = ns.map Z.an ∧ Reps Z F H ds (fs.map (·.2))
  | .scr ns, v => (∃ a, v = .ref a ∧ (∃ o, H a = some (.frz o (.lst (ns.map V.int)))) ∧ F a) ∨ (∃ a, v = .ref a ∧ SqL Z.K (fun _ => none) a (ns.map V.int))
  | .dct _ _, _ => False
  | .itr _, _ => False
def Reps (Z : Wd) (F : Fz) (H : Hp) : List D → List V → Prop
  | [], vs => vs = []
  | d :: ds, vs => ∃ v r, vs = v :: r ∧ Rep Z F H d v ∧ Reps Z F H ds r
end

section
variable {Z : Wd} {F F' : Fz} {H H' : Hp}
mutual
theorem Rep.mono (hF : ∀ a, F a → F' a) (hH : ∀ a o, F a → H a = some o → H' a = some o) : ∀ (d : D) (v : V), Rep Z F H d v → Rep Z F' H' d v
  | .non, _, h => h
  | .bl _, _, h => h
  | .int _, _, h => h
  | .str _, _, h => h
  | .tup ds, _, ⟨a, vs, e, f, h, r⟩ => ⟨a, vs, e, hF a f, hH a _ f h, Reps.mono hF hH ds vs r⟩
  | .lst ds, _, ⟨a, vs, e, f, h, r⟩ => ⟨a, vs, e, hF a f, hH a _ f h, Reps.mono hF hH ds vs r⟩
  | .ins c ns ds, _, ⟨a, C, dx, fs, e, f, h, k, n, r⟩ => ⟨a, C, dx, fs, e, hF a f, hH a _ f h, k, n, Reps.mono hF hH ds _ r⟩
  | .scr ns, _, h => by
    rcases h with ⟨a, e, ⟨o, q⟩, f⟩ | h
    · exact .inl ⟨a, e, ⟨o, hH a _ f q⟩, hF a f⟩
    · exact .inr h
  | .dct _ _, _, h => h.elim
  | .itr _, _, h => h.elim
theorem Reps.mono (hF : ∀ a, F a → F' a) (hH : ∀ a o, F a → H a = some o → H' a = some o) : ∀ (ds : List D) (vs : List V), Reps Z F H ds vs → Reps Z F' H' ds vs
  | [], _, h => h
  | d :: ds, _, ⟨v, r, e, h1, h2⟩ => ⟨v, r, e, Rep.mono hF hH d v h1, Reps.mono hF hH ds r h2⟩
end

theorem reps_iff : ∀ {ds : List D} {vs : List V}, Reps Z F H ds vs ↔ ds.length = vs.length ∧ ∀ (i : Nat) (d : D) (v : V), ds[i]? = some d → vs[i]? = some v → Rep Z F H d v
  | [], vs => by
    constructor
    · intro h
      have e : vs = [] := h
      subst e
      exact ⟨rfl, fun i d v h1 => by simp at h1⟩
    · rintro ⟨h, _⟩
      cases vs with
      | nil => rfl
      | cons v r => simp at h
  | d :: ds, vs => by
    constructor
    · rintro ⟨v, r, e, h1, h2⟩
      subst e
      obtain ⟨l, g⟩ := reps_iff.mp h2
      refine ⟨by simp [l], fun i d' v' e1 e2 => ?_⟩
      cases i with
      | zero =>
        simp at e1 e2
        subst e1
        subst e2
        exact h1
      | succ i => exact g i d' v' (by simpa using e1) (by simpa using e2)
    · rintro ⟨l, g⟩
      cases vs with
      | nil => simp at l
      | cons v r =>
        refine ⟨v, r, rfl, g 0 d v rfl rfl, reps_iff.mpr ⟨by simpa using l, fun i d' v' e1 e2 => g (i + 1) d' v' (by simpa using e1) (by simpa using e2)⟩⟩
theorem Reps.length {ds : List D} {vs : List V} (h : Reps Z F H ds vs) : ds.length = vs.length := (reps_iff.mp h).1
theorem Reps.get {ds : List D} {vs : List V} (h : Reps Z F H ds vs) {i : Nat} {d : D} {v : V} (e1 : ds[i]? = some d) (e2 : vs[i]? = some v) : Rep Z F H d v := (reps_iff.mp h).2 i d v e1 e2
theorem Reps.at {ds : List D} {vs : List V} (h : Reps Z F H ds vs) {i : Nat} {d : D} (e1 : ds[i]? = some d) : ∃ v, vs[i]? = some v ∧ Rep Z F H d v := by
  have hi : i < vs.length := by
    rw [← h.length]
    exact (List.getElem?_eq_some_iff.mp e1).1
  exact ⟨vs[i], by simp [hi], h.get e1 (by simp [hi])⟩
theorem Reps.append {ds es : List D} {vs us : List V} (h1 : Reps Z F H ds vs) (h2 : Reps Z F H es us) : Reps Z F H (ds ++ es) (vs ++ us) := by
  induction ds generalizing vs with
  | nil =>
    have e : vs = [] := h1
    subst e
    exact h2
  | cons d ds ih =>
    obtain ⟨v, r, e, a, b⟩ := h1
    subst e
    exact ⟨v, r ++ us, rfl, a, ih b⟩
theorem Reps.one {d : D} {v : V} (h : Rep Z F H d v) : Reps Z F H [d] [v] := ⟨v, [], rfl, h, rfl⟩
theorem Reps.snoc {ds : List D} {vs : List V} {d : D} {v : V} (h1 : Reps Z F H ds vs) (h : Rep Z F H d v) : Reps Z F H (ds ++ [d]) (vs ++ [v]) := h1.append (.one h)
theorem Reps.take {ds : List D} {vs : List V} (n : Nat) (h : Reps Z F H ds vs) : Reps Z F H (ds.take n) (vs.take n) := by
  refine reps_iff.mpr ⟨by simp [h.length], fun i d v e1 e2 => ?_⟩
  rw [List.getElem?_take] at e1 e2
  split at e1
  · rename_i hi
    rw [if_pos hi] at e2
    exact h.get e1 e2
  · cases e1
theorem Reps.drop {ds : List D} {vs : List V} (n : Nat) (h : Reps Z F H ds vs) : Reps Z F H (ds.drop n) (vs.drop n) := by
  refine reps_iff.mpr ⟨by simp [h.length], fun i d v e1 e2 => ?_⟩
  rw [List.getElem?_drop] at e1 e2
  exact h.get e1 e2
theorem Reps.set {ds : List D} {vs : List V} {d : D} {v : V} (n : Nat) (h : Reps Z F H ds vs) (hd : Rep Z F H d v) : Reps Z F H (ds.set n d) (vs.set n v) := by
  refine reps_iff.mpr ⟨by simp [h.length], fun i d' v' e1 e2 => ?_⟩
  by_cases hi : n = i
  · subst hi
    have hl : n < ds.length := by
      have := (List.getElem?_eq_some_iff.mp e1).1
      simpa using this
    rw [List.getElem?_set_self hl] at e1
    rw [List.getElem?_set_self (by rw [← h.length]; exact hl)] at e2
    cases e1
    cases e2
    exact hd
  · rw [List.getElem?_set_ne hi] at e1 e2
    exact h.get e1 e2
theorem reps_ints (ns : List Int) : Reps Z F H (ns.map D.int) (ns.map V.int) := by
  induction ns with
  | nil => rfl
  | cons n ns ih => exact ⟨V.int n, ns.map V.int, rfl, rfl, ih⟩
theorem reps_toInts : ∀ {ds : List D} {vs : List V} {ns : List Int}, Reps Z F H ds vs → toInts ds = some ns → vs = ns.map V.int
  | [], vs, ns, h, e => by
    cases e
    exact h
  | d :: ds, vs, ns, h, e => by
    obtain ⟨v, r, e1, a, b⟩ := h
    subst e1
    cases d with
    | int i =>
      unfold toInts at e
      obtain ⟨ms, e2, rfl⟩ := Option.map_eq_some_iff.mp e
      have := reps_toInts b e2
      subst this
      have : v = .int i := a
      subst this
      rfl
    | _ => cases e
end

/-! ### steps of expressions: what stands stays -/
structure Ext (F : Fz) (H : Hp) (F' : Fz) (H' : Hp) : Prop where
  ob : ∀ a o, H a = some o → H' a = some o
  fz : ∀ a, F a → F' a
  nw : ∀ a, F' a → F a ∨ H a = none
  th : ∀ a, F' a → H' a ≠ none
section
variable {Z : Wd} {F F1 F2 Fb : Fz} {H H1 H2 : Hp}
theorem Ext.back (e : Ext F H F1 H1) {a : Addr} (h : H1 a = none) : H a = none := by
  cases q : H a with
  | none => rfl
  | some o =>
    rw [e.ob a o q] at h
    cases h
theorem Ext.trans (e : Ext F H F1 H1) (g : Ext F1 H1 F2 H2) : Ext F H F2 H2 :=
  ⟨fun a o h => g.ob a o (e.ob a o h), fun a f => g.fz a (e.fz a f), fun a f => (g.nw a f).elim (e.nw a) fun h => .inr (e.back h), g.th⟩
theorem Ext.refl (h : ∀ a, F a → H a ≠ none) : Ext F H F H := ⟨fun _ _ h => h, fun _ f => f, fun _ f => .inl f, h⟩
theorem Ext.rep (e : Ext F H F1 H1) {d : D} {v : V} (r : Rep Z F H d v) : Rep Z F1 H1 d v := r.mono e.fz fun a o _ h => e.ob a o h
theorem Ext.reps (e : Ext F H F1 H1) {d : List D} {v : List V} (r : Reps Z F H d v) : Reps Z F1 H1 d v := r.mono e.fz fun a o _ h => e.ob a o h
/-- the settled addresses and one more -/
def Fz.and (F : Fz) (p : Addr) : Fz := fun a => F a ∨ a = p
/-- a new object, settled -/
theorem Ext.newF {p : Addr} {o : HO} (th : ∀ a, F a → H a ≠ none) (hp : H p = none) : Ext F H (F.and p) (upd H p o) := by
  refine ⟨fun a u e => ?_, fun a f => .inl f, fun a f => ?_, fun a f => ?_⟩
  · rw [upd_ne (ne_of_none e hp)]
    exact e
  · rcases f with f | rfl
    · exact .inl f
    · exact .inr hp
  · by_cases e : a = p
    · subst e
      rw [upd_same]
      exact fun z => by cases z
    · rw [upd_ne e]
      rcases f with f | f
      · exact th a f
      · exact absurd f e
/-- a new object, not settled -/
theorem Ext.new {p : Addr} {o : HO} (th : ∀ a, F a → H a ≠ none) (hp : H p = none) : Ext F H F (upd H p o) := by
  have e := Ext.newF (o := o) th hp
  exact ⟨e.ob, fun _ f => f, fun _ f => .inl f, fun a f => e.th a (.inl f)⟩
end

/-! ### the frame -/
/-- a list that the frame alone holds -/
def Own (Z : Wd) (F : Fz) (H : Hp) : D → Addr → Prop
  | .lst ds, a => ∃ vs, H a = some (.lst vs) ∧ Reps Z F H ds vs
  | _, _ => False
/-- a value that is looked at -/
def Lnt (Z : Wd) (F : Fz) (H : Hp) : D → V → Prop
  | .lst ds, v => ∃ a vs, v = .ref a ∧ H a = some (.lst vs) ∧ Reps Z F H ds vs
  | d, v => Rep Z F H d v
def Brw (Z : Wd) (F Fb : Fz) (H : Hp) : D → V → Prop
  | .lst ds, v => ∃ a vs, v = .ref a ∧ (F a ∨ Fb a) ∧ H a = some (.lst vs) ∧ Reps Z F H ds vs
  | d, v => Rep Z F H d v
/-- an exception's field -/
def XF (Z : Wd) (F : Fz) (H : Hp) (x : Xn) (dd : Option Addr) : Prop := match x.f with
  | none => dd = none
  | some (k, d) => ∃ b v, dd = some b ∧ F b ∧ H b = some (.xd [(Z.an k, v)]) ∧ Rep Z F H d v
def XRep (Z : Wd) (F : Fz) (H : Hp) (x : Xn) (cls : Value) (dd : Option Addr) : Prop := cls = Z.xc x.c ∧ XF Z F H x dd
def SlotOk (Z : Wd) (F Fb : Fz) (H : Hp) (s : Slot) (w : Option (Option V)) : Prop := match s with
  | .un => True
  | .frz d => ∃ v, w = some (some v) ∧ Rep Z F H d v
  | .bor d => ∃ v, w = some (some v) ∧ Brw Z F Fb H d v
  | .own d => ∃ a, w = some (some (.ref a)) ∧ ¬ F a ∧ ¬ Fb a ∧ Own Z F H d a
  | .exn x => ∃ a dd, w = some (some (.ref a)) ∧ Z.ex a (Z.xc x.c) dd ∧ XF Z F H x dd
def OwnAt (env : Env) (σ : St) (i : Nat) (a : Addr) : Prop := (∃ d, gt env i = .own d) ∧ σ[i]? = some (some (.ref a))
structure Fr (Z : Wd) (F Fb : Fz) (H : Hp) (σ : St) (env : Env) : Prop where
  len : env.length = σ.length
  th : ∀ a, F a → H a ≠ none
  thb : ∀ a, Fb a → H a ≠ none
  sl : ∀ i, SlotOk Z F Fb H (gt env i) σ[i]?
  sep : ∀ i j a, OwnAt env σ i a → OwnAt env σ j a → i = j
section
variable {Z : Wd} {F F1 Fb : Fz} {H H1 : Hp} {σ : St} {env : Env}
theorem Lnt.of_rep {d : D} {v : V} (h : Rep Z F H d v) : Lnt Z F H d v := by
  cases d with
  | lst ds =>
    obtain ⟨a, vs, e, _, q, r⟩ := h
    exact ⟨a, vs, e, q, r⟩
  | _ => exact h
theorem Lnt.of_brw {d : D} {v : V} (h : Brw Z F Fb H d v) : Lnt Z F H d v := by
  cases d with
  | lst ds =>
    obtain ⟨a, vs, e, _, q, r⟩ := h
    exact ⟨a, vs, e, q, r⟩
  | _ => exact h
theorem Lnt.of_own {d : D} {a : Addr} (h : Own Z F H d a) : Lnt Z F H d (.ref a) := by
  cases d with
  | lst ds =>
    obtain ⟨vs, q, r⟩ := h
    exact ⟨a, vs, rfl, q, r⟩
  | _ => exact h.elim
theorem Ext.lnt (e : Ext F H F1 H1) {d : D} {v : V} (h : Lnt Z F H d v) : Lnt Z F1 H1 d v := by
  cases d with
  | lst ds =>
    obtain ⟨a, vs, e1, q, r⟩ := h
    exact ⟨a, vs, e1, e.ob a _ q, e.reps r⟩
  | _ => exact e.rep h
theorem Ext.brw (e : Ext F H F1 H1) {d : D} {v : V} (h : Brw Z F Fb H d v) : Brw Z F1 Fb H1 d v := by
  cases d with
  | lst ds =>
    obtain ⟨a, vs, e1, f, q, r⟩ := h
    exact ⟨a, vs, e1, f.imp (e.fz a) id, e.ob a _ q, e.reps r⟩
  | _ => exact e.rep h
theorem Own.there {d : D} {a : Addr} (h : Own Z F H d a) : H a ≠ none := by
  cases d with
  | lst ds =>
    obtain ⟨vs, q, r⟩ := h
    rw [q]
    exact fun z => by cases z
  | _ => exact h.elim
theorem Ext.own (e : Ext F H F1 H1) {d : D} {a : Addr} (h : Own Z F H d a) : Own Z F1 H1 d a := by
  cases d with
  | lst ds =>
    obtain ⟨vs, q, r⟩ := h
    exact ⟨vs, e.ob a _ q, e.reps r⟩
  | _ => exact h.elim
theorem XF.mono {F' : Fz} {H' : Hp} (hF : ∀ a, F a → F' a) (hH : ∀ a o, F a → H a = some o → H' a = some o) {x : Xn} {dd : Option Addr} (h : XF Z F H x dd) : XF Z F' H' x dd := by
  unfold XF at h ⊢
  split
  · rename_i e
    rw [e] at h
    exact h
  · rename_i k d e
    rw [e] at h
    obtain ⟨b, v, e1, f, q, r⟩ := h
    exact ⟨b, v, e1, hF b f, hH b _ f q, r.mono hF hH⟩
theorem Ext.xf (e : Ext F H F1 H1) {x : Xn} {dd : Option Addr} (h : XF Z F H x dd) : XF Z F1 H1 x dd := h.mono e.fz fun a o _ q => e.ob a o q
theorem Fr.ext (h : Fr Z F Fb H σ env) (e : Ext F H F1 H1) : Fr Z F1 Fb H1 σ env := by
  refine ⟨h.len, e.th, fun a f => ?_, fun i => ?_, h.sep⟩
  · cases q : H a with
    | none => exact absurd q (h.thb a f)
    | some o =>
      rw [e.ob a o q]
      exact fun z => by cases z
  · have q := h.sl i
    unfold SlotOk at q ⊢
    split
    · trivial
    · rename_i d hd
      rw [hd] at q
      obtain ⟨v, e1, r⟩ := q
      exact ⟨v, e1, e.rep r⟩
    · rename_i d hd
      rw [hd] at q
      obtain ⟨v, e1, r⟩ := q
      exact ⟨v, e1, e.brw r⟩
    · rename_i d hd
      rw [hd] at q
      obtain ⟨a, e1, n1, n2, o⟩ := q
      exact ⟨a, e1, fun f => (e.nw a f).elim n1 fun z => o.there z, n2, e.own o⟩
    · rename_i x hx
      rw [hx] at q
      obtain ⟨a, dd, e1, z, r⟩ := q
      exact ⟨a, dd, e1, z, e.xf r⟩
end

/-! ### readings -/
structure Sit where
  Z : Wd
  Γ : Glob
  W : WX
/-- what an answer asks -/
def Ans {α : Type} (S : Sit) (σ : St) (F : Fz) (H : Hp) (r : R α) (k : α → Prop) : Prop := match r with
  | .ok a => k a
  | .exc x => ∀ cls dd F' H', Ext F H F' H' → XRep S.Z F' H' x cls dd → S.W cls dd σ H'
  | .bad => False
section
variable {S : Sit} {σ : St} {F F1 : Fz} {H H1 : Hp} {α β : Type}
theorem ans_bind {r : R α} {f : α → R β} {k : β → Prop} : Ans S σ F H (r.bind f) k ↔ Ans S σ F H r fun a => Ans S σ F H (f a) k := by
  cases r <;> exact Iff.rfl
theorem ans_map {r : R α} {f : α → β} {k : β → Prop} : Ans S σ F H (r.map f) k ↔ Ans S σ F H r fun a => k (f a) := by
  cases r <;> exact Iff.rfl
theorem Ans.mono {r : R α} {k k' : α → Prop} (h : Ans S σ F H r k) (i : ∀ a, k a → k' a) : Ans S σ F H r k' := by
  cases r with
  | ok a => exact i a h
  | exc x => exact h
  | bad => exact h
theorem Ans.ext {r : R α} {k : α → Prop} (h : Ans S σ F H r k) (e : Ext F H F1 H1) : Ans S σ F1 H1 r k := by
  cases r with
  | ok a => exact h
  | exc x => exact fun cls dd F' H' g => h cls dd F' H' (e.trans g)
  | bad => exact h
end
/-- how a value comes back -/
inductive Kd where
  | val | fresh | lent
def kd : E → Kd
  | .peek _ => .lent
  | e => if frs e then .fresh else .val
def Post (Z : Wd) (k : Kd) (F' : Fz) (H H' : Hp) (d : D) (v : V) : Prop := match k with
  | .lent => Lnt Z F' H' d v
  | .val => Rep Z F' H' d v
  | .fresh => if isMut d then ∃ a, v = .ref a ∧ H a = none ∧ ¬ F' a ∧ Own Z F' H' d a else Rep Z F' H' d v
def tE (S : Sit) (m : E) : TE := fun σ H Q => ∃ F Fb env, Fr S.Z F Fb H σ env ∧
  Ans S σ F H (evE S.Γ m env) fun d => ∀ v F' H', Ext F H F' H' → Post S.Z (kd m) F' H H' d v → Q v H'
def tL (S : Sit) (m : E) : TE := fun σ H Q => ∃ F Fb env, Fr S.Z F Fb H σ env ∧
  Ans S σ F H (evE S.Γ m env) fun d => ∀ v F' H', Ext F H F' H' → Lnt S.Z F' H' d v → Q v H'
def tF (S : Sit) (m : E) : TE := fun σ H Q => ∃ F Fb env, Fr S.Z F Fb H σ env ∧
  Ans S σ F H (evE S.Γ m env) fun d => ∀ v F' H', Ext F H F' H' → Rep S.Z F' H' d v → Q v H'
/-- a test -/
def tT (S : Sit) (m : E) : TT := fun σ H Q => ∃ F Fb env, Fr S.Z F Fb H σ env ∧ Ans S σ F H ((evE S.Γ m env).bind truth) fun t => ∀ F' H', Ext F H F' H' → Q t H'
theorem PE.imp {X : Cx} {e : PySem.Expr} {t t' : TE} (h : PE X e t) (i : ∀ σ H Q, t' σ H Q → t σ H Q) : PE X e t' := ⟨fun pins s σ H Q I q => h.run pins s σ H Q I (i σ H Q q)⟩
theorem PA.imp {X : Cx} {e : List PySem.Expr} {t t' : TA} (h : PA X e t) (i : ∀ σ H Q, t' σ H Q → t σ H Q) : PA X e t' := ⟨fun pos pins s σ H Q I q => h.run pos pins s σ H Q I (i σ H Q q)⟩
theorem PT.imp {X : Cx} {e : PySem.Expr} {t t' : TT} (h : PT X e t) (i : ∀ σ H Q, t' σ H Q → t σ H Q) : PT X e t' := ⟨fun pins s σ H Q I q => h.run pins s σ H Q I (i σ H Q q)⟩
theorem PS.imp {X : Cx} {e : PySem.Stmt} {t t' : TS} (h : PS X e t) (i : ∀ D σ H, t' D σ H → t D σ H) : PS X e t' := ⟨fun pins s σ H D I q => h.run pins s σ H D I (i D σ H q)⟩
section
variable {X : Cx} {e : PySem.Expr} {S : Sit} {m : E}
theorem Post.lnt {Z : Wd} {k : Kd} {F' : Fz} {H H' : Hp} {d : D} {v : V} (h : Post Z k F' H H' d v) : Lnt Z F' H' d v := by
  cases k with
  | lent => exact h
  | val => exact .of_rep h
  | fresh =>
    unfold Post at h
    dsimp only at h
    split at h
    · obtain ⟨a, rfl, _, _, o⟩ := h
      exact .of_own o
    · exact .of_rep h
/-- a new list is settled -/
theorem Post.frz {Z : Wd} {k : Kd} {F F' : Fz} {H H' : Hp} {d : D} {v : V} (h : Post Z k F' H H' d v) (g : Ext F H F' H') (hk : k ≠ .lent) : ∃ F2, Ext F H F2 H' ∧ Rep Z F2 H' d v := by
  cases k with
  | lent => exact absurd rfl hk
  | val => exact ⟨F', g, h⟩
  | fresh =>
    unfold Post at h
    dsimp only at h
    split at h
    · obtain ⟨a, rfl, hn, hf, o⟩ := h
      cases d with
      | lst ds =>
        obtain ⟨vs, q, r⟩ := o
        refine ⟨F'.and a, ⟨g.ob, fun b f => .inl (g.fz b f), fun b f => ?_, fun b f => ?_⟩, a, vs, rfl, .inr rfl, q, r.mono (fun _ f => .inl f) fun _ _ _ z => z⟩
        · rcases f with f | rfl
          · exact g.nw b f
          · exact .inr hn
        · rcases f with f | rfl
          · exact g.th b f
          · rw [q]
            exact fun z => by cases z
      | _ => exact o.elim
    · exact ⟨F', g, h⟩
theorem lent_of (h : PE X e (tE S m)) : PE X e (tL S m) := PE.imp h fun σ H Q ⟨F, Fb, env, fr, a⟩ => ⟨F, Fb, env, fr, a.mono fun d k v F' H' g p => k v F' H' g p.lnt⟩
theorem frz_of (h : PE X e (tE S m)) (hk : kd m ≠ .lent) : PE X e (tF S m) := PE.imp h fun σ H Q ⟨F, Fb, env, fr, a⟩ => ⟨F, Fb, env, fr, a.mono fun d k v F' H' g p => by
  obtain ⟨F2, g2, r⟩ := p.frz g hk
  exact k v F2 H' g2 r⟩
end
end Mi
namespace Mi
open PySem L2

theorem line_le {n : Nat} (h : lenLine n = true) : n ≤ sizeLine := by
  have h1 : n ≤ 1000000 := of_decide_eq_true h
  rw [sizeLine_eq]
  omega
theorem line_lt {n : Nat} (h : lenLine n = true) : n < sizeLine := by
  have h1 : n ≤ 1000000 := of_decide_eq_true h
  rw [sizeLine_eq]
  omega
theorem Ans.ite {α : Type} {S : Sit} {σ : St} {F : Fz} {H : Hp} {b : Bool} {r : R α} {k : α → Prop} (h : Ans S σ F H (if b then r else .bad) k) : b = true ∧ Ans S σ F H r k := by
  cases b with
  | true => exact ⟨rfl, h⟩
  | false => exact h.elim

section
variable {S : Sit} {σ : St} {F F1 F2 Fb : Fz} {H H1 H2 : Hp} {env : Env} {Z : Wd}
theorem Ext.nof (e : Ext F H F2 H2) {p : Addr} (hp : H2 p = none) : ¬ F2 p := fun f => e.th p f hp
theorem newL (e : Ext F H F2 H2) {p : Addr} (hp : H2 p = none) {ds : List D} {vs : List V} (r : Reps Z F2 H2 ds vs) :
    Ext F H F2 (upd H2 p (.lst vs)) ∧ Post Z .fresh F2 H (upd H2 p (.lst vs)) (.lst ds) (.ref p) := by
  have g := Ext.new (o := .lst vs) e.th hp
  exact ⟨e.trans g, p, rfl, e.back hp, e.nof hp, vs, upd_same, g.reps r⟩
theorem newT (e : Ext F H F2 H2) {p : Addr} (hp : H2 p = none) {ds : List D} {vs : List V} (r : Reps Z F2 H2 ds vs) :
    Ext F H (F2.and p) (upd H2 p (.tup vs)) ∧ Rep Z (F2.and p) (upd H2 p (.tup vs)) (.tup ds) (.ref p) := by
  have g := Ext.newF (o := .tup vs) e.th hp
  exact ⟨e.trans g, p, vs, rfl, .inr rfl, upd_same, g.reps r⟩
/-- what is asked of a value and the heap behind it -/
def Hope (S : Sit) (k : Kd) (F : Fz) (H : Hp) (Q : VK) (d : D) : Prop := ∀ v F' H', Ext F H F' H' → Post S.Z k F' H H' d v → Q v H'
theorem Hope.rep {k : Kd} {Q : VK} {d : D} {v : V} (h : Hope S k F H Q d) (hm : isMut d = false) (e : Ext F H F1 H1) (r : Rep S.Z F1 H1 d v) : Q v H1 := by
  refine h v F1 H1 e ?_
  cases k with
  | lent => exact .of_rep r
  | val => exact r
  | fresh =>
    unfold Post
    rw [hm]
    exact r
theorem one_l {a : E} {P : V → Hp → Prop} (fr : Fr S.Z F Fb H σ env) (h : Ans S σ F H (evE S.Γ a env) fun x => ∀ v F1 H1, Ext F H F1 H1 → Lnt S.Z F1 H1 x v → P v H1) : tL S a σ H P := ⟨F, Fb, env, fr, h⟩
theorem two_l {a b : E} {P : V → V → Hp → Prop} (fr : Fr S.Z F Fb H σ env)
    (h : Ans S σ F H (evE S.Γ a env) fun x => Ans S σ F H (evE S.Γ b env) fun y => ∀ v u F2 H2, Ext F H F2 H2 → Lnt S.Z F2 H2 x v → Lnt S.Z F2 H2 y u → P v u H2) :
    tL S a σ H fun v H1 => tL S b σ H1 fun u H2 => P v u H2 := by
  refine one_l fr (h.mono fun x hx v F1 H1 e1 l1 => one_l (fr.ext e1) ((hx.ext e1).mono fun y hy u F2 H2 e2 l2 => ?_))
  exact hy v u F2 H2 (e1.trans e2) (e2.lnt l1) l2
theorem tE_def {m : E} {Q : VK} : tE S m σ H Q = ∃ F Fb env, Fr S.Z F Fb H σ env ∧ Ans S σ F H (evE S.Γ m env) (Hope S (kd m) F H Q) := rfl
end

/-! ### operators -/
def opOf : Bop → Operator
  | .add => .Add
  | .sub => .Sub
  | .mul => .Mult
  | .fdiv => .FloorDiv
  | .mod => .Mod
  | .pow => .Pow
section
variable {X : Cx} {S : Sit} {a b c : PySem.Expr} {ma mb mc : E} {pos : Pos}
theorem int_of {Z : Wd} {F : Fz} {H : Hp} {i : Int} {v : V} (h : Lnt Z F H (.int i) v) : v = .int i := h
theorem str_of {Z : Wd} {F : Fz} {H : Hp} {i : Str} {v : V} (h : Lnt Z F H (.str i) v) : v = .str i := h
theorem reps_flat {Z : Wd} {F : Fz} {H : Hp} {ds : List D} {vs : List V} (h : Reps Z F H ds vs) : ∀ n : Nat, Reps Z F H (List.replicate n ds).flatten (List.replicate n vs).flatten
  | 0 => rfl
  | n + 1 => by
    rw [List.replicate_succ, List.replicate_succ, List.flatten_cons, List.flatten_cons]
    exact h.append (reps_flat h n)
theorem s_op {o : Operator} {bo : Bop} {r : R2} (ha : PE X a (tE S ma)) (hb : PE X b (tE S mb)) (hr : OpR X (binaryOp o) r)
    (h : ∀ (σ : St) (F F2 : Fz) (H H2 : Hp) (x y : D) (v u : V) (Q : VK), Ans S σ F H (binD bo x y) (Hope S .fresh F H Q) → Ext F H F2 H2 → Lnt S.Z F2 H2 x v → Lnt S.Z F2 H2 y u → r v u H2 Q) :
    PE X (.BinOp a o b pos) (tE S (.bin bo ma mb)) := by
  refine PE.imp (pe_op hr (lent_of ha) (lent_of hb)) fun σ H Q ⟨F, Fb, env, fr, q⟩ => ?_
  rw [evE, ans_bind] at q
  exact two_l fr (q.mono fun x hx => (ans_bind.mp hx).mono fun y hy v u F2 H2 e l1 l2 => h σ F F2 H H2 x y v u Q hy e l1 l2)
theorem s_add (ha : PE X a (tE S ma)) (hb : PE X b (tE S mb)) : PE X (.BinOp a .Add b pos) (tE S (.bin .add ma mb)) := by
  refine s_op ha hb (op_add.or (op_add_str.or (op_catA.or op_cat))) fun σ F F2 H H2 x y v u Q q e l1 l2 => ?_
  rw [binD] at q
  unfold addD at q
  split at q
  · rename_i i j
    exact .inl ⟨i, j, l1, l2, q.rep rfl e rfl⟩
  · rename_i i j
    obtain ⟨z, q⟩ := q.ite
    exact .inr (.inl ⟨i, j, l1, l2, line_le z, q.rep rfl e rfl⟩)
  · rename_i xs ys
    obtain ⟨z, q⟩ := q.ite
    obtain ⟨p1, vs, e1, f1, h1, r1⟩ := l1
    obtain ⟨p2, us, e2, f2, h2, r2⟩ := l2
    subst e1 e2
    refine .inr (.inr (.inl ⟨p1, p2, vs, us, rfl, rfl, .of h1, .of h2, by rw [← r1.length, ← r2.length]; exact line_le z, fun n => ?_, fun n1 n2 => ?_, fun n1 n2 p hp => ?_⟩))
    · subst n
      have : xs = [] := by
        have := r1.length
        simpa using this
      subst this
      exact q.rep rfl e ⟨p2, us, rfl, f2, h2, r2⟩
    · subst n2
      have : ys = [] := by
        have := r2.length
        simpa using this
      subst this
      rw [List.append_nil] at q
      exact q.rep rfl e ⟨p1, vs, rfl, f1, h1, r1⟩
    · obtain ⟨g, r⟩ := newT e hp (r1.append r2)
      exact q.rep rfl g r
  · rename_i xs ys
    obtain ⟨z, q⟩ := q.ite
    obtain ⟨p1, vs, e1, h1, r1⟩ := l1
    obtain ⟨p2, us, e2, h2, r2⟩ := l2
    subst e1 e2
    refine .inr (.inr (.inr ⟨p1, p2, vs, us, rfl, rfl, h1, h2, by rw [← r1.length, ← r2.length]; exact line_le z, fun p hp => ?_⟩))
    obtain ⟨g, r⟩ := newL e hp (r1.append r2)
    exact q _ _ _ g r
  · exact q.elim

theorem s_sub (ha : PE X a (tE S ma)) (hb : PE X b (tE S mb)) : PE X (.BinOp a .Sub b pos) (tE S (.bin .sub ma mb)) := by
  refine s_op ha hb op_sub fun σ F F2 H H2 x y v u Q q e l1 l2 => ?_
  rw [binD] at q
  unfold subD at q
  split at q
  · rename_i i j
    exact ⟨i, j, l1, l2, q.rep rfl e rfl⟩
  · exact q.elim
theorem s_mul (ha : PE X a (tE S ma)) (hb : PE X b (tE S mb)) : PE X (.BinOp a .Mult b pos) (tE S (.bin .mul ma mb)) := by
  refine s_op ha hb (op_mul.or (op_mulW.or op_rep)) fun σ F F2 H H2 x y v u Q q e l1 l2 => ?_
  rw [binD] at q
  unfold mulD at q
  split at q
  · rename_i i j
    obtain ⟨z, q⟩ := q.ite
    unfold fitMul at z
    rw [Bool.or_eq_true, Bool.or_eq_true, decide_eq_true_eq, decide_eq_true_eq, decide_eq_true_eq] at z
    rcases z with z | z
    · exact .inl ⟨i, j, l1, l2, z, q.rep rfl e rfl⟩
    · exact .inr (.inl ⟨i, j, l1, l2, z, q.rep rfl e rfl⟩)
  · rename_i xs k
    obtain ⟨z, q⟩ := q.ite
    rw [Bool.and_eq_true, decide_eq_true_eq] at z
    obtain ⟨p1, vs, e1, h1, r1⟩ := l1
    subst e1
    refine .inr (.inr ⟨p1, k, vs, rfl, l2, h1, by omega, by omega, by rw [← r1.length]; exact line_le z.2, fun p hp => ?_⟩)
    obtain ⟨g, r⟩ := newL e hp (reps_flat r1 k.toNat)
    exact q _ _ _ g r
  · exact q.elim
theorem s_fdiv (ha : PE X a (tE S ma)) (hb : PE X b (tE S mb)) : PE X (.BinOp a .FloorDiv b pos) (tE S (.bin .fdiv ma mb)) := by
  refine s_op ha hb op_fdivW fun σ F F2 H H2 x y v u Q q e l1 l2 => ?_
  rw [binD] at q
  unfold fdivD at q
  split at q
  · rename_i i j
    obtain ⟨z, q⟩ := q.ite
    unfold fitDiv at z
    rw [decide_eq_true_eq] at z
    exact ⟨i, j, l1, l2, z, q.rep rfl e rfl⟩
  · exact q.elim
theorem s_mod (ha : PE X a (tE S ma)) (hb : PE X b (tE S mb)) : PE X (.BinOp a .Mod b pos) (tE S (.bin .mod ma mb)) := by
  refine s_op ha hb op_mod fun σ F F2 H H2 x y v u Q q e l1 l2 => ?_
  rw [binD] at q
  unfold modD at q
  split at q
  · rename_i i j
    obtain ⟨z, q⟩ := q.ite
    exact ⟨i, j, l1, l2, of_decide_eq_true z, q.rep rfl e rfl⟩
  · exact q.elim
theorem s_pow (ha : PE X a (tE S ma)) (hb : PE X b (tE S mb)) : PE X (.BinOp a .Pow b pos) (tE S (.bin .pow ma mb)) := by
  refine s_op ha hb op_pow fun σ F F2 H H2 x y v u Q q e l1 l2 => ?_
  rw [binD] at q
  unfold powD at q
  split at q
  · rename_i i j
    obtain ⟨z, q⟩ := q.ite
    unfold fitPow at z
    rw [decide_eq_true_eq] at z
    exact ⟨i, j, l1, l2, z, q.rep rfl e rfl⟩
  · exact q.elim

/-! ### == by PyData -/
theorem toPys_map : ∀ ds : List D, toPys ds = ds.map toPy
  | [] => rfl
  | d :: ds => by rw [toPys, toPys_map ds, List.map_cons]
mutual
theorem eqOk_lay : ∀ (n : Nat) (d : D), eqOk n d = true → (toPy d).canLay0 = true ∧ (toPy d).depth ≤ n
  | 0, _, h => by simp [eqOk] at h
  | _ + 1, .non, _ => by simp [toPy, PyData.canLay0, PyData.depth]
  | _ + 1, .bl _, _ => by simp [toPy, PyData.canLay0, PyData.depth]
  | _ + 1, .int _, _ => by simp [toPy, PyData.canLay0, PyData.depth]
  | _ + 1, .str s, h => by
    rw [eqOk] at h
    simp [toPy, PyData.canLay0, PyData.depth, h]
  | n + 1, .tup xs, h => by
    rw [eqOk] at h
    have := eqOk_lays n xs h
    rw [toPy, PyData.canLay0, PyData.depth]
    exact ⟨this.1, by omega⟩
  | n + 1, .lst xs, h => by
    rw [eqOk] at h
    have := eqOk_lays n xs h
    rw [toPy, PyData.canLay0, PyData.depth]
    exact ⟨this.1, by omega⟩
  | _ + 1, .dct _ _, h => by simp [eqOk] at h
  | _ + 1, .ins _ _ _, h => by simp [eqOk] at h
  | _ + 1, .scr _, h => by simp [eqOk] at h
  | _ + 1, .itr _, h => by simp [eqOk] at h
theorem eqOk_lays : ∀ (n : Nat) (ds : List D), ds.all (eqOk n) = true → PyData.canLayAll0 (toPys ds) = true ∧ PyData.depthAll (toPys ds) ≤ n
  | n, [], _ => by simp [toPys, PyData.canLayAll0, PyData.depthAll]
  | n, d :: ds, h => by
    rw [List.all_cons, Bool.and_eq_true] at h
    have h1 := eqOk_lay n d h.1
    have h2 := eqOk_lays n ds h.2
    rw [toPys, PyData.canLayAll0, PyData.depthAll, h1.1, h2.1]
    exact ⟨rfl, Nat.max_le.mpr ⟨h1.2, h2.2⟩⟩
end
mutual
theorem dp_of {Z : Wd} {F : Fz} {H : Hp} : ∀ (n : Nat) (d : D) (v : V), eqOk n d = true → Rep Z F H d v → Dp Z.K H v (toPy d)
  | 0, _, _, h, _ => by simp [eqOk] at h
  | _ + 1, .non, _, _, r => by cases r; exact .non
  | _ + 1, .bl _, _, _, r => by cases r; exact .bl _
  | _ + 1, .int _, _, _, r => by cases r; exact .int _
  | _ + 1, .str _, _, _, r => by cases r; exact .str _
  | n + 1, .tup xs, _, h, r => by
    obtain ⟨a, vs, rfl, _, q, r⟩ := r
    rw [eqOk] at h
    exact .tup (.of q) (dps_of n xs vs h r)
  | n + 1, .lst xs, _, h, r => by
    obtain ⟨a, vs, rfl, _, q, r⟩ := r
    rw [eqOk] at h
    exact .lst (.of q) (dps_of n xs vs h r)
  | _ + 1, .dct _ _, _, h, _ => by simp [eqOk] at h
  | _ + 1, .ins _ _ _, _, h, _ => by simp [eqOk] at h
  | _ + 1, .scr _, _, h, _ => by simp [eqOk] at h
  | _ + 1, .itr _, _, h, _ => by simp [eqOk] at h
theorem dps_of {Z : Wd} {F : Fz} {H : Hp} : ∀ (n : Nat) (ds : List D) (vs : List V), ds.all (eqOk n) = true → Reps Z F H ds vs → DpAll Z.K H vs (toPys ds)
  | _, [], _, _, r => by cases r; exact .nil
  | n, d :: ds, _, h, r => by
    obtain ⟨v, us, rfl, r1, r2⟩ := r
    rw [List.all_cons, Bool.and_eq_true] at h
    exact .cons (dp_of n d v h.1 r1) (dps_of n ds us h.2 r2)
end
theorem dp_lnt {Z : Wd} {F : Fz} {H : Hp} {n : Nat} {d : D} {v : V} (h : eqOk n d = true) (r : Lnt Z F H d v) : Dp Z.K H v (toPy d) := by
  cases d with
  | lst ds =>
    obtain ⟨a, vs, rfl, q, r⟩ := r
    cases n with
    | zero => simp [eqOk] at h
    | succ n =>
      rw [eqOk] at h
      exact .lst (.of q) (dps_of n ds vs h r)
  | _ => exact dp_of (F := F) n _ v h r
theorem shaped_of {d : D} (h : eqOk 60 d = true) : SeqAt.shaped (toPy d) = true := by
  have := eqOk_lay 60 d h
  unfold SeqAt.shaped
  rw [this.1, Bool.true_and, decide_eq_true_eq]
  omega
mutual
theorem eqD_py : ∀ (n : Nat) (a b : D), eqOk n a = true → eqOk n b = true → eqD a b = PyData.eqv (toPy a) (toPy b)
  | 0, _, _, h, _ => by simp [eqOk] at h
  | n + 1, .tup xs, .tup ys, h1, h2 => by
    rw [eqOk] at h1 h2
    rw [eqD, toPy, toPy, PyData.eqv, eqDs_py n xs ys h1 h2]
  | n + 1, .lst xs, .lst ys, h1, h2 => by
    rw [eqOk] at h1 h2
    rw [eqD, toPy, toPy, PyData.eqv, eqDs_py n xs ys h1 h2]
  | _ + 1, .dct _ _, _, h, _ => by simp [eqOk] at h
  | _ + 1, .ins _ _ _, _, h, _ => by simp [eqOk] at h
  | _ + 1, .scr _, _, h, _ => by simp [eqOk] at h
  | _ + 1, .itr _, _, h, _ => by simp [eqOk] at h
  | _ + 1, _, .dct _ _, _, h => by simp [eqOk] at h
  | _ + 1, _, .ins _ _ _, _, h => by simp [eqOk] at h
  | _ + 1, _, .scr _, _, h => by simp [eqOk] at h
  | _ + 1, _, .itr _, _, h => by simp [eqOk] at h
  | _ + 1, .non, .non, _, _ => by simp [eqD, toPy, PyData.eqv]
  | _ + 1, .non, .bl _, _, _ => by simp [eqD, toPy, PyData.eqv]
  | _ + 1, .non, .int _, _, _ => by simp [eqD, toPy, PyData.eqv]
  | _ + 1, .non, .str _, _, _ => by simp [eqD, toPy, PyData.eqv]
  | _ + 1, .non, .tup _, _, _ => by simp [eqD, toPy, PyData.eqv]
  | _ + 1, .non, .lst _, _, _ => by simp [eqD, toPy, PyData.eqv]
  | _ + 1, .bl _, .non, _, _ => by simp [eqD, toPy, PyData.eqv]
  | _ + 1, .bl _, .bl _, _, _ => by simp [eqD, toPy, PyData.eqv]
  | _ + 1, .bl _, .int _, _, _ => by simp [eqD, toPy, PyData.eqv]
  | _ + 1, .bl _, .str _, _, _ => by simp [eqD, toPy, PyData.eqv]
  | _ + 1, .bl _, .tup _, _, _ => by simp [eqD, toPy, PyData.eqv]
  | _ + 1, .bl _, .lst _, _, _ => by simp [eqD, toPy, PyData.eqv]
  | _ + 1, .int _, .non, _, _ => by simp [eqD, toPy, PyData.eqv]
  | _ + 1, .int _, .bl _, _, _ => by simp [eqD, toPy, PyData.eqv]
  | _ + 1, .int _, .int _, _, _ => by simp [eqD, toPy, PyData.eqv]
  | _ + 1, .int _, .str _, _, _ => by simp [eqD, toPy, PyData.eqv]
  | _ + 1, .int _, .tup _, _, _ => by simp [eqD, toPy, PyData.eqv]
  | _ + 1, .int _, .lst _, _, _ => by simp [eqD, toPy, PyData.eqv]
  | _ + 1, .str _, .non, _, _ => by simp [eqD, toPy, PyData.eqv]
  | _ + 1, .str _, .bl _, _, _ => by simp [eqD, toPy, PyData.eqv]
  | _ + 1, .str _, .int _, _, _ => by simp [eqD, toPy, PyData.eqv]
  | _ + 1, .str _, .str _, _, _ => by simp [eqD, toPy, PyData.eqv]
  | _ + 1, .str _, .tup _, _, _ => by simp [eqD, toPy, PyData.eqv]
  | _ + 1, .str _, .lst _, _, _ => by simp [eqD, toPy, PyData.eqv]
  | _ + 1, .tup _, .non, _, _ => by simp [eqD, toPy, PyData.eqv]
  | _ + 1, .tup _, .bl _, _, _ => by simp [eqD, toPy, PyData.eqv]
  | _ + 1, .tup _, .int _, _, _ => by simp [eqD, toPy, PyData.eqv]
  | _ + 1, .tup _, .str _, _, _ => by simp [eqD, toPy, PyData.eqv]
  | _ + 1, .tup _, .lst _, _, _ => by simp [eqD, toPy, PyData.eqv]
  | _ + 1, .lst _, .non, _, _ => by simp [eqD, toPy, PyData.eqv]
  | _ + 1, .lst _, .bl _, _, _ => by simp [eqD, toPy, PyData.eqv]
  | _ + 1, .lst _, .int _, _, _ => by simp [eqD, toPy, PyData.eqv]
  | _ + 1, .lst _, .str _, _, _ => by simp [eqD, toPy, PyData.eqv]
  | _ + 1, .lst _, .tup _, _, _ => by simp [eqD, toPy, PyData.eqv]
theorem eqDs_py : ∀ (n : Nat) (a b : List D), a.all (eqOk n) = true → b.all (eqOk n) = true → eqDs a b = PyData.eqvAll (toPys a) (toPys b)
  | _, [], [], _, _ => by rw [eqDs, toPys, PyData.eqvAll]
  | _, [], _ :: _, _, _ => by rw [eqDs, toPys, toPys, PyData.eqvAll] <;> simp
  | _, _ :: _, [], _, _ => by rw [eqDs, toPys, toPys, PyData.eqvAll] <;> simp
  | n, x :: xs, y :: ys, h1, h2 => by
    rw [List.all_cons, Bool.and_eq_true] at h1 h2
    rw [eqDs, toPys, toPys, PyData.eqvAll, eqD_py n x y h1.1 h2.1, eqDs_py n xs ys h1.2 h2.2]
end

/-! ### comparisons -/
/-- as a value and as a test -/
def Both (X : Cx) (e : PySem.Expr) (S : Sit) (m : E) : Prop := PE X e (tE S m) ∧ PT X e (tT S m)
theorem cmp_bl (S : Sit) (co : Cop) (x y d : D) (h : cmpD co x y = .ok d) : ∃ k, d = .bl k := by
  have go : ∀ {r : R Bool} {f : Bool → Bool}, (r.map fun k => D.bl (f k)) = .ok d → ∃ k, d = .bl k := fun {r f} h => by
    cases r with
    | ok a => exact ⟨f a, (R.ok.inj h).symm⟩
    | exc x => cases h
    | bad => cases h
  cases co with
  | eq =>
    rw [cmpD, eqR] at h
    split at h
    · exact ⟨_, (R.ok.inj h).symm⟩
    · cases h
  | ne =>
    rw [cmpD, neR] at h
    split at h
    · exact ⟨_, (R.ok.inj h).symm⟩
    · cases h
  | isin => exact go (f := id) h
  | notin => exact go h
  | lt =>
    rw [cmpD] at h
    unfold ltD at h
    split at h
    · exact ⟨_, (R.ok.inj h).symm⟩
    · split at h
      · exact ⟨_, (R.ok.inj h).symm⟩
      · cases h
  | le =>
    rw [cmpD] at h
    unfold leD at h
    split at h
    · exact ⟨_, (R.ok.inj h).symm⟩
    · split at h
      · exact ⟨_, (R.ok.inj h).symm⟩
      · cases h
  | gt =>
    rw [cmpD] at h
    unfold gtD at h
    split at h
    · exact ⟨_, (R.ok.inj h).symm⟩
    · split at h
      · exact ⟨_, (R.ok.inj h).symm⟩
      · cases h
  | ge =>
    rw [cmpD] at h
    unfold geD at h
    split at h
    · exact ⟨_, (R.ok.inj h).symm⟩
    · split at h
      · exact ⟨_, (R.ok.inj h).symm⟩
      · cases h
theorem bl_ok (S : Sit) {m : E} {co : Cop} {ma mb : E} {env : Env} {d : D} (h : evE S.Γ (.cmp co ma mb) env = .ok d) : ∃ k, d = .bl k := by
  rw [evE] at h
  cases h1 : evE S.Γ ma env with
  | ok x =>
    rw [h1, R.bind_ok] at h
    cases h2 : evE S.Γ mb env with
    | ok y =>
      rw [h2, R.bind_ok] at h
      exact cmp_bl S co x y d h
    | exc x => rw [h2] at h; cases h
    | bad => rw [h2] at h; cases h
  | exc x => rw [h1] at h; cases h
  | bad => rw [h1] at h; cases h
/-- a test of a bool -/
theorem test_bl {t : TE} {m : E} {e : PySem.Expr} (hp : PT X e (tTest t)) (hi : ∀ σ H Q, tE S m σ H Q → t σ H Q) (hk : kd m = .val) (hb : ∀ env d, evE S.Γ m env = .ok d → ∃ k, d = .bl k) : PT X e (tT S m) := by
  refine PT.imp hp fun σ H Q ⟨F, Fb, env, fr, q⟩ => hi σ H _ ⟨F, Fb, env, fr, ?_⟩
  rw [ans_bind] at q
  rw [hk]
  cases h : evE S.Γ m env with
  | ok d =>
    rw [h] at q
    obtain ⟨k, rfl⟩ := hb env d h
    exact fun v F' H' e r => ⟨k, r, q F' H' e⟩
  | exc x =>
    rw [h] at q
    exact q
  | bad =>
    rw [h] at q
    exact q
/-- a comparison's rule and what it tells -/
structure CopR (X : Cx) (S : Sit) (op : CmpOp) (co : Cop) : Prop where
  ex : ∃ r : R2, OpR X (compareOp op) r ∧ ∀ (σ : St) (F F2 : Fz) (H H2 : Hp) (x y : D) (v u : V) (Q : VK), Ans S σ F H (cmpD co x y) (Hope S .val F H Q) → Ext F H F2 H2 → Lnt S.Z F2 H2 x v → Lnt S.Z F2 H2 y u → r v u H2 Q
theorem s_cmp {op : CmpOp} {co : Cop} (c : CopR X S op co) (ha : PE X a (tE S ma)) (hb : PE X b (tE S mb)) (hm : behindInMarks op b = false) : Both X (.Compare a [op] [b] pos) S (.cmp co ma mb) := by
  obtain ⟨r, hr, h⟩ := c.ex
  have go : ∀ σ H Q, tE S (.cmp co ma mb) σ H Q → tOp r (tL S ma) (tL S mb) σ H Q := fun σ H Q ⟨F, Fb, env, fr, q⟩ => by
    rw [evE, ans_bind] at q
    exact two_l fr (q.mono fun x hx => (ans_bind.mp hx).mono fun y hy v u F2 H2 e l1 l2 => h σ F F2 H H2 x y v u Q hy e l1 l2)
  exact ⟨PE.imp (pe_cmpR hr (lent_of ha) (lent_of hb) hm) go, test_bl (pt_cmpR hr (lent_of ha) (lent_of hb) hm) go rfl fun env d h => bl_ok S (m := ma) h⟩
theorem chain_bl (S : Sit) {o o' : Cop} {mc : E} {env : Env} {d : D} (h : evE S.Γ (.chain o o' ma mb mc) env = .ok d) : ∃ k, d = .bl k := by
  rw [evE] at h
  cases h1 : evE S.Γ ma env with
  | ok x =>
    rw [h1, R.bind_ok] at h
    cases h2 : evE S.Γ mb env with
    | ok y =>
      rw [h2, R.bind_ok] at h
      cases h3 : cmpD o x y with
      | ok r =>
        rw [h3, R.bind_ok] at h
        split at h
        · cases h4 : evE S.Γ mc env with
          | ok z =>
            rw [h4, R.bind_ok] at h
            exact cmp_bl S o' y z d h
          | exc x => rw [h4] at h; cases h
          | bad => rw [h4] at h; cases h
        · exact ⟨false, (R.ok.inj h).symm⟩
        · cases h
      | exc x => rw [h3] at h; cases h
      | bad => rw [h3] at h; cases h
    | exc x => rw [h2] at h; cases h
    | bad => rw [h2] at h; cases h
  | exc x => rw [h1] at h; cases h
  | bad => rw [h1] at h; cases h
theorem s_chain {c : PySem.Expr} {mc : E} {op op' : CmpOp} {co co' : Cop} (c1 : CopR X S op co) (c2 : CopR X S op' co') (ha : PE X a (tE S ma)) (hb : PE X b (tE S mb)) (hc : PE X c (tE S mc)) (hm : lastMarks [op, op'] [b, c] = false) :
    Both X (.Compare a [op, op'] [b, c] pos) S (.chain co co' ma mb mc) := by
  obtain ⟨r, hr, h⟩ := c1.ex
  obtain ⟨r', hr', h'⟩ := c2.ex
  have go : ∀ σ H Q, tE S (.chain co co' ma mb mc) σ H Q → tChain r r' (tL S ma) (tL S mb) (tL S mc) σ H Q := fun σ H Q ⟨F, Fb, env, fr, q⟩ => by
    rw [evE, ans_bind] at q
    refine two_l fr (q.mono fun x hx => (ans_bind.mp hx).mono fun y hy v u F2 H2 e l1 l2 => ?_)
    rw [ans_bind] at hy
    refine h σ F2 F2 H2 H2 x y v u _ ?_ (Ext.refl e.th) l1 l2
    have hy := hy.ext e
    cases hc : cmpD co x y with
    | exc x =>
      rw [hc] at hy
      exact hy
    | bad =>
      rw [hc] at hy
      exact hy
    | ok d =>
      rw [hc] at hy
      obtain ⟨k, rfl⟩ := cmp_bl S co x y d hc
      intro z F3 H3 e3 p
      have p : z = .bl k := p
      refine ⟨k, p, ?_⟩
      cases k with
      | false =>
        have hy : Hope S .val F H Q (.bl false) := hy
        exact hy.rep rfl (e.trans e3) rfl
      | true =>
        have hy : Ans S σ F H ((evE S.Γ mc env).bind fun z => cmpD co' y z) (Hope S .val F H Q) := hy
        rw [ans_bind] at hy
        exact ⟨F3, Fb, env, (fr.ext e).ext e3, (hy.ext (e.trans e3)).mono fun w hw w' F4 H4 e4 l4 => h' σ F F4 H H4 y w u w' Q hw ((e.trans e3).trans e4) ((e3.trans e4).lnt l2) l4⟩
  exact ⟨PE.imp (pe_chain hr hr' (lent_of ha) (lent_of hb) (lent_of hc) hm) go, test_bl (pt_chain hr hr' (lent_of ha) (lent_of hb) (lent_of hc) hm) go rfl fun env d h => chain_bl S h⟩
theorem c_eq (hu : X.A.units + 64 < cLine) (hK : X.K = S.Z.K) : CopR X S .Eq .eq := by
  refine ⟨_, (op_eqD hu), fun σ F F2 H H2 x y v u Q q e l1 l2 => ?_⟩
  rw [cmpD, eqR] at q
  obtain ⟨z, q⟩ := q.ite
  rw [Bool.and_eq_true] at z
  rw [hK]
  refine ⟨toPy x, toPy y, dp_lnt z.1 l1, dp_lnt z.2 l2, shaped_of z.1, shaped_of z.2, ?_⟩
  rw [← eqD_py 60 x y z.1 z.2]
  exact q.rep rfl e rfl
theorem c_ne (hu : X.A.units + 64 < cLine) (hK : X.K = S.Z.K) : CopR X S .NotEq .ne := by
  refine ⟨_, (op_neD hu), fun σ F F2 H H2 x y v u Q q e l1 l2 => ?_⟩
  rw [cmpD, neR] at q
  obtain ⟨z, q⟩ := q.ite
  rw [Bool.and_eq_true] at z
  rw [hK]
  refine ⟨toPy x, toPy y, dp_lnt z.1 l1, dp_lnt z.2 l2, shaped_of z.1, shaped_of z.2, ?_⟩
  rw [← eqD_py 60 x y z.1 z.2]
  exact q.rep rfl e rfl
/-- an order of data, by what is read -/
def rOrd (K : PySem.W.Frag) (f : PyData → PyData → Bool) : R2 := fun x y H Q => ∃ d e, Dp K H x d ∧ Dp K H y e ∧ PySem.W.alike d e = true ∧ d ≠ .none ∧ d.depth ≤ 60 ∧ Q (.bl (f d e)) H
theorem ord_room {A : Around} {d e : PyData} (h : d.depth ≤ 60) (hu : A.units + 64 < cLine) : A.units + min d.depth e.depth < cLine := by
  have := Nat.min_le_left d.depth e.depth
  omega
theorem op_ltP (hu : X.A.units + 64 < cLine) : OpR X (compareOp .Lt) (rOrd X.K fun d e => PySem.W.dataLt d e) := by
  intro pins s σ H x y v u Q I rx ry h
  obtain ⟨d, e, hd, he, ha, hn, hz, q⟩ := h
  obtain ⟨as, r1⟩ := Dp.reads I d x v hd rx
  obtain ⟨bs, r2⟩ := Dp.reads I e y u he ry
  exact PySem.W.lt_data r1 r2 ha hn (ord_room hz hu) ⟨.bl _, H, I, rfl, q⟩
theorem op_leP (hu : X.A.units + 64 < cLine) : OpR X (compareOp .LtE) (rOrd X.K fun d e => !PySem.W.dataLt e d) := by
  intro pins s σ H x y v u Q I rx ry h
  obtain ⟨d, e, hd, he, ha, hn, hz, q⟩ := h
  obtain ⟨as, r1⟩ := Dp.reads I d x v hd rx
  obtain ⟨bs, r2⟩ := Dp.reads I e y u he ry
  exact PySem.W.le_data r1 r2 ha hn (ord_room hz hu) ⟨.bl _, H, I, rfl, q⟩
theorem op_gtP (hu : X.A.units + 64 < cLine) : OpR X (compareOp .Gt) (rOrd X.K fun d e => PySem.W.dataLt e d) := by
  intro pins s σ H x y v u Q I rx ry h
  obtain ⟨d, e, hd, he, ha, hn, hz, q⟩ := h
  obtain ⟨as, r1⟩ := Dp.reads I d x v hd rx
  obtain ⟨bs, r2⟩ := Dp.reads I e y u he ry
  exact PySem.W.gt_data r1 r2 ha hn (ord_room hz hu) ⟨.bl _, H, I, rfl, q⟩
theorem op_geP (hu : X.A.units + 64 < cLine) : OpR X (compareOp .GtE) (rOrd X.K fun d e => !PySem.W.dataLt d e) := by
  intro pins s σ H x y v u Q I rx ry h
  obtain ⟨d, e, hd, he, ha, hn, hz, q⟩ := h
  obtain ⟨as, r1⟩ := Dp.reads I d x v hd rx
  obtain ⟨bs, r2⟩ := Dp.reads I e y u he ry
  exact PySem.W.ge_data r1 r2 ha hn (ord_room hz hu) ⟨.bl _, H, I, rfl, q⟩
theorem ord_rd {Z : Wd} {F F2 : Fz} {H H2 : Hp} {σ : St} {x y : D} {v u : V} {Q : VK} {f : PyData → PyData → Bool} (q : Ans S σ F H (if ordOk x y then .ok (.bl (f (toPy x) (toPy y))) else .bad) (Hope S .val F H Q)) (e : Ext F H F2 H2) (l1 : Lnt S.Z F2 H2 x v) (l2 : Lnt S.Z F2 H2 y u) : rOrd S.Z.K f v u H2 Q := by
  obtain ⟨z, q⟩ := q.ite
  unfold ordOk at z
  simp only [Bool.and_eq_true, Bool.not_eq_true'] at z
  obtain ⟨⟨⟨z1, z2⟩, z3⟩, z4⟩ := z
  refine ⟨toPy x, toPy y, dp_lnt z1 l1, dp_lnt z2 l2, z3, fun h => ?_, (eqOk_lay 60 x z1).2, q.rep rfl e rfl⟩
  cases x <;> first | (cases z4; done) | (simp [toPy] at h; done)
theorem c_lt (hu : X.A.units + 64 < cLine) (hK : X.K = S.Z.K) : CopR X S .Lt .lt := by
  refine ⟨_, op_lt.or (op_ltP hu), fun σ F F2 H H2 x y v u Q q e l1 l2 => ?_⟩
  rw [cmpD] at q
  unfold ltD at q
  split at q
  · rename_i i j
    exact .inl ⟨i, j, l1, l2, q.rep rfl e rfl⟩
  · refine .inr ?_
    rw [hK]
    exact ord_rd (Z := S.Z) (f := fun d e => PySem.W.dataLt d e) q e l1 l2
theorem c_le (hu : X.A.units + 64 < cLine) (hK : X.K = S.Z.K) : CopR X S .LtE .le := by
  refine ⟨_, op_le.or (op_leP hu), fun σ F F2 H H2 x y v u Q q e l1 l2 => ?_⟩
  rw [cmpD] at q
  unfold leD at q
  split at q
  · rename_i i j
    exact .inl ⟨i, j, l1, l2, q.rep rfl e rfl⟩
  · refine .inr ?_
    rw [hK]
    exact ord_rd (Z := S.Z) (f := fun d e => !PySem.W.dataLt e d) q e l1 l2
theorem c_gt (hu : X.A.units + 64 < cLine) (hK : X.K = S.Z.K) : CopR X S .Gt .gt := by
  refine ⟨_, op_gt.or (op_gtP hu), fun σ F F2 H H2 x y v u Q q e l1 l2 => ?_⟩
  rw [cmpD] at q
  unfold gtD at q
  split at q
  · rename_i i j
    exact .inl ⟨i, j, l1, l2, q.rep rfl e rfl⟩
  · refine .inr ?_
    rw [hK]
    exact ord_rd (Z := S.Z) (f := fun d e => PySem.W.dataLt e d) q e l1 l2
theorem c_ge (hu : X.A.units + 64 < cLine) (hK : X.K = S.Z.K) : CopR X S .GtE .ge := by
  refine ⟨_, op_ge.or (op_geP hu), fun σ F F2 H H2 x y v u Q q e l1 l2 => ?_⟩
  rw [cmpD] at q
  unfold geD at q
  split at q
  · rename_i i j
    exact .inl ⟨i, j, l1, l2, q.rep rfl e rfl⟩
  · refine .inr ?_
    rw [hK]
    exact ord_rd (Z := S.Z) (f := fun d e => !PySem.W.dataLt d e) q e l1 l2
/-- in, not in, over a list or a tuple of data -/
def rAny (K : PySem.W.Frag) (ng : Bool) : R2 := fun x y H Q => ∃ d ds, Dp K H x d ∧ (Dp K H y (.list ds) ∨ Dp K H y (.tuple ds)) ∧ d.canLay0 = true ∧ d.depth ≤ 60 ∧ PyData.canLayAll0 ds = true ∧ Q (.bl (if ng then !ds.any fun z => PyData.eqv z d else ds.any fun z => PyData.eqv z d)) H
theorem room_any {A : Around} {d : PyData} {n : Nat} (h : d.depth ≤ 60) (hu : A.units + 65 < cLine) : A.units + min d.depth n + 1 < cLine := by
  have := Nat.min_le_left d.depth n
  omega
theorem op_any (hu : X.A.units + 65 < cLine) : OpR X (compareOp .In) (rAny X.K false) := by
  intro pins s σ H x y v u Q I rx ry h
  obtain ⟨d, ds, hd, he, sd, dd, se, q⟩ := h
  obtain ⟨as, r1⟩ := Dp.reads I d x v hd rx
  rcases he with he | he
  · obtain ⟨bs, r2⟩ := Dp.reads I (.list ds) y u he ry
    exact SeqAt.in_list_reads r2 r1 se sd (by omega) ⟨.bl _, H, I, rfl, q⟩
  · obtain ⟨bs, r2⟩ := Dp.reads I (.tuple ds) y u he ry
    exact SeqAt.in_tuple_reads r2 r1 se sd (by omega) ⟨.bl _, H, I, rfl, q⟩
theorem op_nany (hu : X.A.units + 65 < cLine) : OpR X (compareOp .NotIn) (rAny X.K true) := by
  intro pins s σ H x y v u Q I rx ry h
  obtain ⟨d, ds, hd, he, sd, dd, se, q⟩ := h
  obtain ⟨as, r1⟩ := Dp.reads I d x v hd rx
  rcases he with he | he
  · obtain ⟨bs, r2⟩ := Dp.reads I (.list ds) y u he ry
    exact SeqAt.notIn_list_reads r2 r1 se sd (by omega) ⟨.bl _, H, I, rfl, q⟩
  · obtain ⟨bs, r2⟩ := Dp.reads I (.tuple ds) y u he ry
    exact SeqAt.notIn_tuple_reads r2 r1 se sd (by omega) ⟨.bl _, H, I, rfl, q⟩
theorem any_py {x : D} : ∀ {ys : List D}, eqOk 60 x = true → ys.all (eqOk 60) = true → (ys.any fun y => eqD y x) = (toPys ys).any fun z => PyData.eqv z (toPy x)
  | [], _, _ => rfl
  | y :: ys, h1, h2 => by
    rw [List.all_cons, Bool.and_eq_true] at h2
    rw [toPys, List.any_cons, List.any_cons, any_py h1 h2.2, eqD_py 60 y x h2.1 h1]
theorem in_rd {Z : Wd} {F F2 : Fz} {H H2 : Hp} {σ : St} {x y : D} {v u : V} {Q : VK} {ng : Bool} (q : Ans S σ F H ((inD x y).map fun k => .bl (if ng then !k else k)) (Hope S .val F H Q)) (e : Ext F H F2 H2) (l1 : Lnt S.Z F2 H2 x v) (l2 : Lnt S.Z F2 H2 y u) :
    rAny S.Z.K ng v u H2 Q := by
  rw [ans_map] at q
  have go : ∀ ys, Ans S σ F H (isinD x ys) (fun a => Hope S Kd.val F H Q (D.bl (if ng = true then !a else a))) → (∀ n, ys.all (eqOk n) = true → Dp S.Z.K H2 u (.list (toPys ys)) ∨ Dp S.Z.K H2 u (.tuple (toPys ys))) → rAny S.Z.K ng v u H2 Q := fun ys q hy => by
    unfold isinD at q
    obtain ⟨z, q⟩ := q.ite
    rw [Bool.and_eq_true] at z
    have e1 := eqOk_lay 60 x z.1
    have e2 := eqOk_lays 60 ys z.2
    refine ⟨toPy x, toPys ys, dp_lnt z.1 l1, hy 60 z.2, e1.1, e1.2, e2.1, ?_⟩
    have q' := q.rep rfl e rfl
    rw [any_py z.1 z.2] at q'
    exact q'
  unfold inD at q
  split at q
  · rename_i ys
    refine go ys q fun n h => .inl ?_
    obtain ⟨a, vs, rfl, h1, r⟩ := l2
    exact .lst (.of h1) (dps_of n ys vs h r)
  · rename_i ys
    refine go ys q fun n h => .inr ?_
    obtain ⟨a, vs, rfl, f, h1, r⟩ := l2
    exact .tup (.of h1) (dps_of n ys vs h r)
  · exact q.elim
theorem c_isin (hu : X.A.units + 65 < cLine) (hK : X.K = S.Z.K) : CopR X S .In .isin := by
  refine ⟨_, (op_any hu), fun σ F F2 H H2 x y v u Q q e l1 l2 => ?_⟩
  rw [cmpD] at q
  rw [hK]
  exact in_rd (Z := S.Z) q e l1 l2
theorem c_notin (hu : X.A.units + 65 < cLine) (hK : X.K = S.Z.K) : CopR X S .NotIn .notin := by
  refine ⟨_, (op_nany hu), fun σ F F2 H H2 x y v u Q q e l1 l2 => ?_⟩
  rw [cmpD] at q
  rw [hK]
  exact in_rd (Z := S.Z) q e l1 l2
def isItr : D → Bool
  | .itr _ => true
  | .dct _ _ => true
  | _ => false
theorem non_iff {Z : Wd} {F : Fz} {H : Hp} : ∀ {d : D} {v : V}, Lnt Z F H d v → isItr d = false → decide (v = .non) = isNone d
  | .non, _, h, _ => by cases h; rfl
  | .bl _, _, h, _ => by cases h; rfl
  | .int _, _, h, _ => by cases h; rfl
  | .str _, _, h, _ => by cases h; rfl
  | .tup _, _, ⟨_, _, e, _⟩, _ => by subst e; rfl
  | .lst _, _, ⟨_, _, e, _⟩, _ => by subst e; rfl
  | .ins _ _ _, _, ⟨_, _, _, _, e, _⟩, _ => by subst e; rfl
  | .scr _, _, h, _ => by
    rcases h with ⟨_, e, _⟩ | ⟨_, e, _⟩ <;> (subst e; rfl)
  | .dct _ _, _, _, h => by cases h
  | .itr _, _, _, h => by cases h
theorem isN_ok (S : Sit) {ng : Bool} {ma : E} {env : Env} {d : D} (h : evE S.Γ (.isN ng ma) env = .ok d) : ∃ k, d = .bl k := by
  rw [evE] at h
  cases h1 : evE S.Γ ma env with
  | ok x =>
    rw [h1, R.bind_ok] at h
    exact ⟨_, (R.ok.inj h).symm⟩
  | exc x => rw [h1] at h; cases h
  | bad => rw [h1] at h; cases h
theorem s_isN {pos' : Pos} {k : Nat} (ha : PE X a (tE S ma)) : Both X (.Compare a [.Is] [.Constant .none k pos'] pos) S (.isN false ma) := by
  have go : ∀ σ H Q, tE S (.isN false ma) σ H Q → tOp (fun x y H Q => y = .non ∧ Q (.bl (decide (x = .non))) H) (tL S ma) (tC .non) σ H Q := fun σ H Q ⟨F, Fb, env, fr, q⟩ => by
    rw [evE, ans_bind] at q
    refine one_l fr (q.mono fun x hx v F1 H1 e l => ⟨rfl, ?_⟩)
    have h : Hope S .val F H Q (.bl (isNone x)) := hx
    rw [non_iff l (by cases x <;> first | rfl | exact l.elim)]
    exact h.rep rfl e rfl
  exact ⟨PE.imp (pe_cmpR op_isN (lent_of ha) pe_non (nomark _)) go, test_bl (pt_cmpR op_isN (lent_of ha) pe_non (nomark _)) go rfl fun env d h => isN_ok S h⟩
theorem s_notN {pos' : Pos} {k : Nat} (ha : PE X a (tE S ma)) : Both X (.Compare a [.IsNot] [.Constant .none k pos'] pos) S (.isN true ma) := by
  have go : ∀ σ H Q, tE S (.isN true ma) σ H Q → tOp (fun x y H Q => y = .non ∧ Q (.bl (!decide (x = .non))) H) (tL S ma) (tC .non) σ H Q := fun σ H Q ⟨F, Fb, env, fr, q⟩ => by
    rw [evE, ans_bind] at q
    refine one_l fr (q.mono fun x hx v F1 H1 e l => ⟨rfl, ?_⟩)
    have h : Hope S .val F H Q (.bl (!isNone x)) := hx
    rw [non_iff l (by cases x <;> first | rfl | exact l.elim)]
    exact h.rep rfl e rfl
  exact ⟨PE.imp (pe_cmpR op_notN (lent_of ha) pe_non (nomark _)) go, test_bl (pt_cmpR op_notN (lent_of ha) pe_non (nomark _)) go rfl fun env d h => isN_ok S h⟩
end
end Mi
namespace Mi
open PySem L2
section
variable {X : Cx} {S : Sit} {a b c : PySem.Expr} {ma mb mc : E} {pos : Pos}
/-! ### one operand -/
theorem s_one {e : PySem.Expr} {m : E} {k : Kd} {f : D → R D} {r : V → Hp → VK → Prop} (ha : PE X a (tE S ma)) (hp : PE X e (tUn r (tL S ma))) (he : ∀ env, evE S.Γ m env = (evE S.Γ ma env).bind f) (hk : kd m = k)
    (h : ∀ (σ : St) (F F2 : Fz) (H H2 : Hp) (x : D) (v : V) (Q : VK), Ans S σ F H (f x) (Hope S k F H Q) → Ext F H F2 H2 → Lnt S.Z F2 H2 x v → r v H2 Q) : PE X e (tE S m) := by
  refine PE.imp hp fun σ H Q ⟨F, Fb, env, fr, q⟩ => ?_
  rw [he, hk, ans_bind] at q
  exact one_l fr (q.mono fun x hx v F1 H1 e l => h σ F F1 H H1 x v Q hx e l)
theorem s_neg (ha : PE X a (tE S ma)) : PE X (.UnaryOp .USub a pos) (tE S (.neg ma)) := by
  refine s_one ha (pe_un un_neg (lent_of ha)) (fun _ => by rw [evE]) rfl fun σ F F2 H H2 x v Q q e l => ?_
  rw [ans_map] at q
  unfold intOf at q
  split at q
  · exact ⟨_, l, Hope.rep q rfl e rfl⟩
  · exact q.elim
theorem tru_of (hK : X.K = S.Z.K) {σ : St} {F F2 : Fz} {H H2 : Hp} {x : D} {v : V} {k : Bool → Prop} (q : Ans S σ F H (truth x) k) (l : Lnt S.Z F2 H2 x v) : ∃ t, TruV X.K v H2 t ∧ k t := by
  unfold truth at q
  split at q
  · cases l
    exact ⟨false, rfl, q⟩
  · cases l
    exact ⟨_, rfl, q⟩
  · cases l
    exact ⟨_, rfl, q⟩
  · rename_i s
    obtain ⟨z, q⟩ := q.ite
    cases l
    exact ⟨_, ⟨line_le z, rfl⟩, by
      have e : (((s.length : Nat) : Int) != 0) = (s.length != 0) := by
        cases h : s.length <;> simp
        omega
      rw [e]
      exact q⟩
  · obtain ⟨p, vs, rfl, f, h, r⟩ := l
    refine ⟨_, .inr (.inl ⟨vs, .of h, rfl⟩), ?_⟩
    have e := r.length
    cases vs with
    | nil =>
      have : ‹List D› = [] := by simpa using e
      subst this
      exact q
    | cons v vs =>
      cases ‹List D› with
      | nil => simp at e
      | cons d ds => exact q
  · obtain ⟨p, vs, rfl, h, r⟩ := l
    refine ⟨_, .inl ⟨vs, .of h, rfl⟩, ?_⟩
    have e := r.length
    cases vs with
    | nil =>
      have : ‹List D› = [] := by simpa using e
      subst this
      exact q
    | cons v vs =>
      cases ‹List D› with
      | nil => simp at e
      | cons d ds => exact q
  · exact q.elim
theorem s_not (hK : X.K = S.Z.K) (ha : PE X a (tE S ma)) : PE X (.UnaryOp .Not a pos) (tE S (.not ma)) := by
  refine PE.imp (pe_notT (lent_of ha)) fun σ H Q ⟨F, Fb, env, fr, q⟩ => ?_
  rw [evE, ans_bind] at q
  refine one_l fr (q.mono fun x hx v F1 H1 e l => ?_)
  rw [ans_map] at hx
  obtain ⟨t, h1, h2⟩ := tru_of hK hx l
  exact ⟨t, h1, Hope.rep (k := .val) h2 rfl e rfl⟩
/-! ### and, or -/
theorem bl_of {Z : Wd} {F : Fz} {H : Hp} {b : Bool} {v : V} (h : Lnt Z F H (.bl b) v) : v = .bl b := h
def tEr (S : Sit) (F0 : Fz) (H0 : Hp) (m : E) : TE := fun σ H Q => ∃ F Fb env, Fr S.Z F Fb H σ env ∧ Ext F0 H0 F H ∧ Ans S σ F H (evE S.Γ m env) (Hope S (kd m) F H Q)
/-- a result that is passed on -/
theorem Hope.pass {S : Sit} {k : Kd} {F F1 : Fz} {H H1 : Hp} {Q : VK} {d : D} (h : Hope S k F H Q d) (e : Ext F H F1 H1) : Hope S k F1 H1 Q d := fun v F' H' g p => h v F' H' (e.trans g) (by
  cases k with
  | lent => exact p
  | val => exact p
  | fresh =>
    unfold Post at p ⊢
    dsimp only at p ⊢
    split at p
    · rename_i hm
      rw [if_pos hm]
      obtain ⟨a, e1, n, f, o⟩ := p
      exact ⟨a, e1, e.back n, f, o⟩
    · rename_i hm
      rw [if_neg hm]
      exact p)
theorem Post.any {Z : Wd} {k : Kd} {F F' : Fz} {H H' : Hp} {d : D} {v : V} (h : Post Z k F' H H' d v) (g : Ext F H F' H') (hk : k ≠ .lent) : ∃ F2, Ext F H F2 H' ∧ Post Z .val F2 H H' d v := h.frz g hk
theorem s_and {p : Pos} {r : List PySem.Expr} (ha : PE X a (tE S ma)) (hb : PE X (.BoolOp .And (b :: r) p) (tE S mb)) (hk : kd mb ≠ .lent) : PE X (.BoolOp .And (a :: b :: r) p) (tE S (.and ma mb)) := by
  refine PE.imp (pe_and (lent_of ha) (frz_of hb hk)) fun σ H Q ⟨F, Fb, env, fr, q⟩ => ?_
  rw [evE, ans_bind] at q
  refine one_l fr (q.mono fun x hx v F1 H1 e l => ?_)
  split at hx
  · refine ⟨true, l, F1, Fb, env, fr.ext e, ?_⟩
    exact (hx.ext e).mono fun d hd v F' H' g p => Hope.pass (k := .val) hd e v F' H' g p
  · exact ⟨false, l, Hope.rep (k := .val) hx rfl e rfl⟩
  · exact hx.elim
theorem s_or {p : Pos} {r : List PySem.Expr} (ha : PE X a (tE S ma)) (hb : PE X (.BoolOp .Or (b :: r) p) (tE S mb)) (hk : kd mb ≠ .lent) : PE X (.BoolOp .Or (a :: b :: r) p) (tE S (.or ma mb)) := by
  refine PE.imp (pe_or (lent_of ha) (frz_of hb hk)) fun σ H Q ⟨F, Fb, env, fr, q⟩ => ?_
  rw [evE, ans_bind] at q
  refine one_l fr (q.mono fun x hx v F1 H1 e l => ?_)
  split at hx
  · exact ⟨true, l, Hope.rep (k := .val) hx rfl e rfl⟩
  · refine ⟨false, l, F1, Fb, env, fr.ext e, ?_⟩
    exact (hx.ext e).mono fun d hd v F' H' g p => Hope.pass (k := .val) hd e v F' H' g p
  · exact hx.elim
/-! ### tests -/
theorem t_plain (hK : X.K = S.Z.K) (ha : PE X a (tE S ma)) (he : ∀ whole, isTrue a X.env whole = (do let v ← whole; standAt a.pos; holding [v] (truthy v))) : PT X a (tT S ma) := by
  refine PT.imp (pt_truth (lent_of ha) he) fun σ H Q ⟨F, Fb, env, fr, q⟩ => ?_
  rw [ans_bind] at q
  refine one_l fr (q.mono fun x hx v F1 H1 e l => ?_)
  obtain ⟨t, h1, h2⟩ := tru_of hK hx l
  exact ⟨t, h1, h2 F1 H1 e⟩
theorem t_not (hc : PT X a (tT S ma)) : PT X (.UnaryOp .Not a pos) (tT S (.not ma)) := by
  refine PT.imp (pt_not hc) fun σ H Q ⟨F, Fb, env, fr, q⟩ => ?_
  refine ⟨F, Fb, env, fr, ?_⟩
  rw [evE, ans_bind, ans_bind] at q
  rw [ans_bind]
  refine q.mono fun x hx => ?_
  rw [ans_map] at hx
  exact hx
theorem s_ife (hc : PT X c (tT S mc)) (ha : PE X a (tE S ma)) (hb : PE X b (tE S mb)) (h1 : kd ma ≠ .lent) (h2 : kd mb ≠ .lent) : PE X (.IfExp c a b pos) (tE S (.ife mc ma mb)) := by
  refine PE.imp (pe_ifExp hc (frz_of ha h1) (frz_of hb h2)) fun σ H Q ⟨F, Fb, env, fr, q⟩ => ?_
  rw [evE, ans_bind] at q
  refine ⟨F, Fb, env, fr, ?_⟩
  rw [ans_bind]
  refine q.mono fun x hx => (ans_bind.mp hx).mono fun t ht F1 H1 e => ?_
  cases t with
  | true =>
    rw [if_pos rfl] at ht ⊢
    exact ⟨F1, Fb, env, fr.ext e, (ht.ext e).mono fun d hd v F' H' g p => Hope.pass (k := .val) hd e v F' H' g p⟩
  | false =>
    rw [if_neg Bool.false_ne_true] at ht ⊢
    exact ⟨F1, Fb, env, fr.ext e, (ht.ext e).mono fun d hd v F' H' g p => Hope.pass (k := .val) hd e v F' H' g p⟩
end
end Mi
namespace Mi
open PySem L2
/-! ### names and constants -/
section
variable {X : Cx} {S : Sit} {a b c : PySem.Expr} {ma mb mc : E} {pos : Pos}
theorem s_var {i : Nat} {x : Str} (hN : X.N[i]? = some x) (hv : Vis X.env.scope x) (hd : (x == ("__debug__" : Str)) = false) (hc : (x == ("__classdict__" : Str)) = false) : PE X (.Name x pos) (tE S (.var i)) := by
  refine PE.imp (pe_var hN hv hd hc) fun σ H Q ⟨F, Fb, env, fr, q⟩ => ?_
  rw [evE] at q
  have h := fr.sl i
  unfold SlotOk at h
  split at q
  · rename_i d hd
    rw [hd] at h
    obtain ⟨v, e, r⟩ := h
    exact ⟨v, e, q v F H (Ext.refl fr.th) r⟩
  · exact q.elim
theorem Fr.lnt {Z : Wd} {F Fb : Fz} {H : Hp} {σ : St} {env : Env} {i : Nat} {d : D} (fr : Fr Z F Fb H σ env) (h : (gt env i).val = .ok d) : ∃ v, σ[i]? = some (some v) ∧ Lnt Z F H d v := by
  have q := fr.sl i
  unfold SlotOk at q
  unfold Slot.val at h
  split at h <;> rename_i hd
  · cases h
  · rw [hd] at q
    cases h
    obtain ⟨a, e, _, _, o⟩ := q
    exact ⟨_, e, .of_own o⟩
  · rw [hd] at q
    cases h
    obtain ⟨v, e, r⟩ := q
    exact ⟨_, e, .of_rep r⟩
  · rw [hd] at q
    cases h
    obtain ⟨v, e, r⟩ := q
    exact ⟨_, e, .of_brw r⟩
  · cases h
theorem val_ans {S : Sit} {σ : St} {F : Fz} {H : Hp} {s : Slot} {k : D → Prop} (q : Ans S σ F H s.val k) : ∃ d, s.val = .ok d ∧ k d := by
  cases s with
  | un => exact q.elim
  | own d => exact ⟨d, rfl, q⟩
  | frz d => exact ⟨d, rfl, q⟩
  | bor d => exact ⟨d, rfl, q⟩
  | exn x => exact q.elim
theorem s_peek {i : Nat} {x : Str} (hN : X.N[i]? = some x) (hv : Vis X.env.scope x) (hd : (x == ("__debug__" : Str)) = false) (hc : (x == ("__classdict__" : Str)) = false) : PE X (.Name x pos) (tE S (.peek i)) := by
  refine PE.imp (pe_var hN hv hd hc) fun σ H Q ⟨F, Fb, env, fr, q⟩ => ?_
  rw [evE] at q
  obtain ⟨d, e, k⟩ := val_ans q
  obtain ⟨v, e1, l⟩ := fr.lnt e
  exact ⟨v, e1, k v F H (Ext.refl fr.th) l⟩
/-- a written value -/
def isCst : D → V → Prop
  | .non, v => v = .non
  | .bl b, v => v = .bl b
  | .int i, v => v = .int i
  | .str s, v => v = .str s
  | _, _ => False
theorem isCst.rep {Z : Wd} {F : Fz} {H : Hp} {d : D} {v : V} (h : isCst d v) : Rep Z F H d v := by
  cases d <;> first | exact h | exact h.elim
theorem s_cst {e : PySem.Expr} {d : D} {v : V} (h : isCst d v) (hp : PE X e (tC v)) : PE X e (tE S (.cst d)) := by
  refine PE.imp hp fun σ H Q ⟨F, Fb, env, fr, q⟩ => ?_
  rw [evE] at q
  exact q v F H (Ext.refl fr.th) h.rep
/-! ### argument lists -/
def notStar : PySem.Expr → Bool
  | .Starred _ _ => false
  | _ => true
theorem star_cons {e : PySem.Expr} {es : List PySem.Expr} {env : PySem.Env} (h : notStar e = true) : starEach (e :: es) env = (false, eval e env) :: starEach es env := by
  cases e <;> first | rfl | cases h
theorem star_any {env : PySem.Env} {pos : Pos} : ∀ {es : List PySem.Expr}, es.all notStar = true → (backTo pos (starEach es env)).any (·.1) = false
  | [], _ => rfl
  | e :: es, h => by
    rw [List.all_cons, Bool.and_eq_true] at h
    rw [star_cons h.1]
    have := star_any (env := env) (pos := pos) h.2
    unfold backTo at this ⊢
    rw [List.map_cons, List.any_cons, this]
    rfl
def ArgOk (Z : Wd) (F : Fz) (H : Hp) : Slot → V → Prop
  | .frz d, v => Rep Z F H d v
  | .bor d, v => Lnt Z F H d v
  | _, _ => False
def ArgsOk (Z : Wd) (F : Fz) (H : Hp) : List Slot → List V → Prop
  | [], vs => vs = []
  | s :: ss, vs => ∃ v r, vs = v :: r ∧ ArgOk Z F H s v ∧ ArgsOk Z F H ss r
def Lnts (Z : Wd) (F : Fz) (H : Hp) : List D → List V → Prop
  | [], vs => vs = []
  | d :: ds, vs => ∃ v r, vs = v :: r ∧ Lnt Z F H d v ∧ Lnts Z F H ds r
section
variable {Z : Wd} {F F1 : Fz} {H H1 : Hp}
theorem Ext.arg (e : Ext F H F1 H1) {s : Slot} {v : V} (h : ArgOk Z F H s v) : ArgOk Z F1 H1 s v := by
  cases s with
  | frz d => exact e.rep h
  | bor d => exact e.lnt h
  | un => exact h
  | own d => exact h
  | exn x => exact h
theorem ArgsOk.length : ∀ {as : List Slot} {vs : List V}, ArgsOk Z F H as vs → as.length = vs.length
  | [], _, h => by cases h; rfl
  | _ :: _, _, ⟨v, r, e, _, h⟩ => by
    subst e
    rw [List.length_cons, List.length_cons, ArgsOk.length h]
end
def tG (S : Sit) (m : E) : TE := fun σ H Q => ∃ F Fb env, Fr S.Z F Fb H σ env ∧
  Ans S σ F H (evE S.Γ m env) fun d => ∀ v F' H', Ext F H F' H' → ArgOk S.Z F' H' (lend env d m) v → Q v H'
def tAs (S : Sit) (ms : List E) : TA := fun σ H Q => ∃ F Fb env, Fr S.Z F Fb H σ env ∧
  Ans S σ F H (evAs S.Γ ms env) fun as => ∀ vs F' H', Ext F H F' H' → ArgsOk S.Z F' H' as vs → Q vs H'
def tLs (S : Sit) (ms : List E) : TA := fun σ H Q => ∃ F Fb env, Fr S.Z F Fb H σ env ∧
  Ans S σ F H (evEs S.Γ ms env) fun ds => ∀ vs F' H', Ext F H F' H' → Lnts S.Z F' H' ds vs → Q vs H'
def tFs (S : Sit) (ms : List E) : TA := fun σ H Q => ∃ F Fb env, Fr S.Z F Fb H σ env ∧
  Ans S σ F H (evEs S.Γ ms env) fun ds => ∀ vs F' H', Ext F H F' H' → Reps S.Z F' H' ds vs → Q vs H'
theorem lend_frz {m : E} {env : Env} {d : D} (h : kd m ≠ .lent) : lend env d m = .frz d := by
  cases m <;> first | rfl | exact absurd rfl h
theorem g_val (ha : PE X a (tE S ma)) (hk : kd ma ≠ .lent) : PE X a (tG S ma) := PE.imp (frz_of ha hk) fun σ H Q ⟨F, Fb, env, fr, q⟩ => ⟨F, Fb, env, fr, q.mono fun d k v F' H' e r => k v F' H' e (by rw [lend_frz hk]; exact r)⟩
theorem g_peek {i : Nat} {x : Str} (hN : X.N[i]? = some x) (hv : Vis X.env.scope x) (hd : (x == ("__debug__" : Str)) = false) (hc : (x == ("__classdict__" : Str)) = false) : PE X (.Name x pos) (tG S (.peek i)) := by
  refine PE.imp (pe_var hN hv hd hc) fun σ H Q ⟨F, Fb, env, fr, q⟩ => ?_
  rw [evE] at q
  have s := fr.sl i
  have e0 := Ext.refl fr.th
  unfold SlotOk at s
  have l : ∀ d, lend env d (.peek i) = lendS d (gt env i) := fun _ => rfl
  simp only [l] at q
  generalize gt env i = g at q s
  cases g with
  | un => exact q.elim
  | own d =>
    obtain ⟨a, e, _, _, o⟩ := s
    exact ⟨_, e, q (.ref a) F H e0 (Lnt.of_own o)⟩
  | frz d =>
    obtain ⟨v, e, r⟩ := s
    exact ⟨_, e, q v F H e0 r⟩
  | bor d =>
    obtain ⟨v, e, r⟩ := s
    exact ⟨_, e, q v F H e0 (Lnt.of_brw r)⟩
  | exn x => exact q.elim
theorem as_nil : PA X [] (tAs S []) := PA.imp pa_nil fun σ H Q ⟨F, Fb, env, fr, q⟩ => q [] F H (Ext.refl fr.th) rfl
theorem as_cons {e : PySem.Expr} {es : List PySem.Expr} {m : E} {ms : List E} (ha : PE X e (tG S m)) (hr : PA X es (tAs S ms)) (hs : notStar e = true) : PA X (e :: es) (tAs S (m :: ms)) := by
  refine PA.imp (pa_cons ha hr (star_cons hs)) fun σ H Q ⟨F, Fb, env, fr, q⟩ => ?_
  rw [evAs, ans_bind] at q
  refine ⟨F, Fb, env, fr, q.mono fun d k v F1 H1 e1 r1 => ⟨F1, Fb, env, fr.ext e1, ?_⟩⟩
  rw [ans_map] at k
  exact (k.ext e1).mono fun as k vs F2 H2 e2 r2 => k (v :: vs) F2 H2 (e1.trans e2) ⟨v, vs, rfl, e2.arg r1, r2⟩
theorem ls_nil : PA X [] (tLs S []) := PA.imp pa_nil fun σ H Q ⟨F, Fb, env, fr, q⟩ => q [] F H (Ext.refl fr.th) rfl
theorem ls_cons {e : PySem.Expr} {es : List PySem.Expr} {m : E} {ms : List E} (ha : PE X e (tE S m)) (hr : PA X es (tLs S ms)) (hs : notStar e = true) : PA X (e :: es) (tLs S (m :: ms)) := by
  refine PA.imp (pa_cons (lent_of ha) hr (star_cons hs)) fun σ H Q ⟨F, Fb, env, fr, q⟩ => ?_
  rw [evEs, ans_bind] at q
  refine ⟨F, Fb, env, fr, q.mono fun d k v F1 H1 e1 r1 => ⟨F1, Fb, env, fr.ext e1, ?_⟩⟩
  rw [ans_map] at k
  exact (k.ext e1).mono fun as k vs F2 H2 e2 r2 => k (v :: vs) F2 H2 (e1.trans e2) ⟨v, vs, rfl, e2.lnt r1, r2⟩
theorem fs_nil : PA X [] (tFs S []) := PA.imp pa_nil fun σ H Q ⟨F, Fb, env, fr, q⟩ => q [] F H (Ext.refl fr.th) rfl
theorem fs_cons {e : PySem.Expr} {es : List PySem.Expr} {m : E} {ms : List E} (ha : PE X e (tE S m)) (hk : kd m ≠ .lent) (hr : PA X es (tFs S ms)) (hs : notStar e = true) : PA X (e :: es) (tFs S (m :: ms)) := by
  refine PA.imp (pa_cons (frz_of ha hk) hr (star_cons hs)) fun σ H Q ⟨F, Fb, env, fr, q⟩ => ?_
  rw [evEs, ans_bind] at q
  refine ⟨F, Fb, env, fr, q.mono fun d k v F1 H1 e1 r1 => ⟨F1, Fb, env, fr.ext e1, ?_⟩⟩
  rw [ans_map] at k
  exact (k.ext e1).mono fun as k vs F2 H2 e2 r2 => k (v :: vs) F2 H2 (e1.trans e2) ⟨v, vs, rfl, e2.rep r1, r2⟩
/-! ### displays, items, slices -/
theorem evEs_length {Γ : Glob} : ∀ {ms : List E} {env : Env} {ds : List D}, evEs Γ ms env = .ok ds → ds.length = ms.length
  | [], _, _, h => by
    rw [evEs] at h
    cases h
    rfl
  | m :: ms, env, ds, h => by
    rw [evEs] at h
    cases h1 : evE Γ m env with
    | ok x =>
      rw [h1, R.bind_ok] at h
      cases h2 : evEs Γ ms env with
      | ok xs =>
        rw [h2] at h
        cases h
        rw [List.length_cons, List.length_cons, evEs_length h2]
      | exc x => rw [h2] at h; cases h
      | bad => rw [h2] at h; cases h
    | exc x => rw [h1] at h; cases h
    | bad => rw [h1] at h; cases h
theorem Ans.with {α : Type} {S : Sit} {σ : St} {F : Fz} {H : Hp} {r : R α} {k : α → Prop} (h : Ans S σ F H r k) : Ans S σ F H r fun a => r = .ok a ∧ k a := by
  cases r with
  | ok a => exact ⟨rfl, h⟩
  | exc x => exact h
  | bad => exact h
theorem s_tup {es : List PySem.Expr} {ms : List E} {x1 : Nat} (h : PA X es (tFs S ms)) (hl : ms.length ≤ 1000000) : PE X (.Tuple es x1 pos) (tE S (.tup ms)) := by
  refine PE.imp (pe_tup h) fun σ H Q ⟨F, Fb, env, fr, q⟩ => ?_
  rw [evE, ans_map] at q
  refine ⟨F, Fb, env, fr, q.with.mono fun ds ⟨el, k⟩ vs F' H' e r => ⟨?_, fun p hp => ?_⟩⟩
  · rw [← r.length, evEs_length el]
    exact line_le (decide_eq_true hl)
  · obtain ⟨g, r'⟩ := newT e hp r
    exact k _ _ _ g r'
theorem s_lst {es : List PySem.Expr} {ms : List E} (h : PA X es (tFs S ms)) (hl : ms.length ≤ 1000000) : PE X (.List es pos) (tE S (.lst ms)) := by
  refine PE.imp (pe_lst h) fun σ H Q ⟨F, Fb, env, fr, q⟩ => ?_
  rw [evE, ans_map] at q
  refine ⟨F, Fb, env, fr, q.with.mono fun ds ⟨el, k⟩ vs F' H' e r => ⟨?_, fun p hp => ?_⟩⟩
  · rw [← r.length, evEs_length el]
    exact line_le (decide_eq_true hl)
  · obtain ⟨g, r'⟩ := newL e hp r
    exact k _ _ _ g r'
theorem atI_reps {Z : Wd} {F : Fz} {H : Hp} {ds : List D} {vs : List V} {i : Int} {d : D} (r : Reps Z F H ds vs) (h : L2.atI ds i = some d) : ∃ v, L2.atI vs i = some v ∧ Rep Z F H d v := by
  unfold L2.atI at h ⊢
  rw [← r.length]
  cases e : L2.ixN ds.length i with
  | none => rw [e] at h; cases h
  | some j =>
    rw [e] at h
    exact r.at h
theorem optR_ans {α : Type} {S : Sit} {σ : St} {F : Fz} {H : Hp} {o : Option α} {k : α → Prop} (h : Ans S σ F H (optR o) k) : ∃ a, o = some a ∧ k a := by
  cases o with
  | none => exact h.elim
  | some a => exact ⟨a, rfl, h⟩
theorem scr_seq {Z : Wd} {F : Fz} {H : Hp} {ns : List Int} {v : V} (h : Lnt Z F H (.scr ns) v) : ∃ a, v = .ref a ∧ SqL Z.K H a (ns.map V.int) := by
  rcases h with ⟨a, e, ⟨o, q⟩, _⟩ | ⟨a, e, q⟩
  · exact ⟨a, e, .inl (.inr ⟨o, q⟩)⟩
  · refine ⟨a, e, .inr ?_⟩
    rcases q with q | q
    · rcases q with q | ⟨_, q⟩ <;> cases q
    · exact q
theorem s_idx (hK : X.K = S.Z.K) (ha : PE X a (tE S ma)) (hb : PE X b (tE S mb)) (hp : PlainIx b) : PE X (.Subscript a b pos) (tE S (.idx ma mb)) := by
  refine PE.imp (pe_ix (ix_list.or ix_tup) (lent_of ha) (lent_of hb) hp) fun σ H Q ⟨F, Fb, env, fr, q⟩ => ?_
  rw [evE, ans_bind] at q
  refine two_l fr (q.mono fun x hx => (ans_bind.mp hx).mono fun y hy v u F2 H2 e l1 l2 => ?_)
  unfold idxD at hy
  rw [hK]
  split at hy
  · rename_i xs i
    obtain ⟨d, hd, k⟩ := optR_ans hy
    obtain ⟨p, vs, rfl, h1, r1⟩ := l1
    obtain ⟨w, hw, r⟩ := atI_reps r1 hd
    exact .inl ⟨p, vs, i, w, rfl, l2, .of h1, hw, k _ _ _ e r⟩
  · rename_i xs i
    obtain ⟨d, hd, k⟩ := optR_ans hy
    obtain ⟨p, vs, rfl, _, h1, r1⟩ := l1
    obtain ⟨w, hw, r⟩ := atI_reps r1 hd
    exact .inr ⟨p, vs, i, w, rfl, l2, .of h1, hw, k _ _ _ e r⟩
  · rename_i ns i
    rw [ans_map] at hy
    obtain ⟨n, hn, k⟩ := optR_ans hy
    obtain ⟨p, rfl, h1⟩ := scr_seq l1
    refine .inl ⟨p, ns.map V.int, i, .int n, rfl, l2, h1, ?_, k _ _ _ e rfl⟩
    unfold L2.atI at hn ⊢
    rw [List.length_map]
    cases e : L2.ixN ns.length i with
    | none => rw [e] at hn; cases hn
    | some j =>
      rw [e] at hn
      have hn : ns[j]? = some n := hn
      show (ns.map V.int)[j]? = some (.int n)
      rw [List.getElem?_map, hn]
      rfl
  · exact hy.elim
theorem cut_reps {Z : Wd} {F : Fz} {H : Hp} {ds : List D} {vs : List V} {lo hi : Option Int} (r : Reps Z F H ds vs) : Reps Z F H (cutD ds lo hi) (cutV vs lo hi) := by
  unfold cutD cutV
  rw [← r.length]
  exact (r.drop _).take _
def tO (S : Sit) (m : Option E) : TO := fun σ H Q => ∃ F Fb env, Fr S.Z F Fb H σ env ∧
  Ans S σ F H (evO S.Γ m env) fun d => ∀ F' H', Ext F H F' H' → Q d H'
theorem PO.imp {X : Cx} {e : Option PySem.Expr} {t t' : TO} (h : PO X e t) (i : ∀ σ H Q, t' σ H Q → t σ H Q) : PO X e t' := ⟨fun pins s σ H Q I q => h.run pins s σ H Q I (i σ H Q q)⟩
theorem o_none : PO X none (tO S none) := PO.imp po_none fun σ H Q ⟨F, Fb, env, fr, q⟩ => q F H (Ext.refl fr.th)
theorem o_some (ha : PE X a (tE S ma)) : PO X (some a) (tO S (some ma)) := by
  refine PO.imp (po_some (lent_of ha)) fun σ H Q ⟨F, Fb, env, fr, q⟩ => ?_
  rw [evO, ans_bind] at q
  refine one_l fr (q.mono fun x hx v F1 H1 e l => ?_)
  rw [ans_map] at hx
  unfold intOf at hx
  split at hx
  · exact ⟨_, l, hx F1 H1 e⟩
  · exact hx.elim
theorem s_sl {lo hi : Option PySem.Expr} {ml mh : Option E} {p2 : Pos} (hK : X.K = S.Z.K) (ha : PE X a (tE S ma)) (hl : PO X lo (tO S ml)) (hh : PO X hi (tO S mh)) : PE X (.Subscript a (.Slice lo hi none p2) pos) (tE S (.sl ma ml mh)) := by
  refine PE.imp (pe_slice (sl_list.or sl_tupA) (lent_of ha) hl hh) fun σ H Q ⟨F, Fb, env, fr, q⟩ => ?_
  rw [evE, ans_bind] at q
  refine one_l fr (q.mono fun x hx v F1 H1 e1 l1 => ⟨F1, Fb, env, fr.ext e1, ((ans_bind.mp hx).ext e1).mono fun lo hx F2 H2 e2 => ⟨F2, Fb, env, (fr.ext e1).ext e2, ((ans_bind.mp hx).ext (e1.trans e2)).mono fun hi hx F3 H3 e3 => ?_⟩⟩)
  have e := (e1.trans e2).trans e3
  have l := (e2.trans e3).lnt l1
  rw [hK]
  unfold slD at hx
  split at hx
  · obtain ⟨p, vs, rfl, h1, r1⟩ := l
    refine .inl ⟨p, vs, rfl, .of h1, fun q hq => ?_⟩
    obtain ⟨g, r⟩ := newL e hq (cut_reps (lo := lo) (hi := hi) r1)
    exact hx _ _ _ g r
  · obtain ⟨p, vs, rfl, f, h1, r1⟩ := l
    refine .inr ⟨p, vs, rfl, .of h1, fun ⟨z1, z2⟩ => ?_, fun _ q hq => ?_⟩
    · have c : cutD ‹List D› lo hi = ‹List D› := by
        unfold cutD
        rw [r1.length, z1, z2, ← r1.length]
        simp
      rw [c] at hx
      exact Hope.rep hx rfl e ⟨p, vs, rfl, f, h1, r1⟩
    · obtain ⟨g, r⟩ := newT e hq (cut_reps (lo := lo) (hi := hi) r1)
      exact Hope.rep hx rfl g r
  · exact hx.elim
end
end Mi
namespace Mi
open PySem L2 PySem.Spec PyProof.Rows
/-! ### an exception class of our own over ValueError: super().__init__('..'); sf.f = x -/
/-- the text of its __init__ -/
def iniB (b : List PySem.Stmt) (sf x f : Str) : Bool := match b with
  | [.Expr (.Call (.Attribute (.Call (.Name s _) [] [] _) a p2) [.Constant (.str _) _ _] [] p4) _, .Assign [.Attribute (.Name s2 _) f2 _] (.Name y _) _] =>
      (p2.endLine == p4.line) && decide (s = ("super" : Str)) && decide (a = ("__init__" : Str)) && decide (s2 = sf) && decide (f2 = f) && decide (y = x)
  | _ => false
theorem iniB_ok {b : List PySem.Stmt} {sf x f : Str} (h : iniB b sf x f = true) : ∃ m j p0 p1 p2 p3 p4 p5 q0 q1 q2 q3,
    (p2.endLine == p4.line) = true ∧ b = [.Expr (.Call (.Attribute (.Call (.Name "super" p0) [] [] p1) "__init__" p2) [.Constant (.str m) j p3] [] p4) p5, .Assign [.Attribute (.Name sf q0) f q1] (.Name x q2) q3] := by
  unfold iniB at h
  split at h
  · simp only [Bool.and_eq_true, decide_eq_true_eq] at h
    obtain ⟨⟨⟨⟨⟨h0, h1⟩, h2⟩, h3⟩, h4⟩, h5⟩ := h
    subst h1 h2 h3 h4 h5
    exact ⟨_, _, _, _, _, _, _, _, _, _, _, _, h0, rfl⟩
  · cases h
def iniSc (sc : Scope) (sf x : Str) : Bool :=
  (match sc.kind with | .function => true | _ => false) && !sc.isCoroutine && !sc.isGenerator && decide (sc.names.lookup sf = some .local) && decide (sc.names.lookup x = some .local) &&
    decide (sc.names.lookup ("super" : Str) = some .globalImplicit) && decide (sc.names.lookup ("__class__" : Str) = some .free) && (sc.names.all fun y => match y.2 with | .free => decide (y.1 = ("__class__" : Str)) | .cell => false | _ => true) &&
    !(sf == x) && !(sf == ("__debug__" : Str)) && !(x == ("__debug__" : Str)) && !(sf == ("__classdict__" : Str)) && !(x == ("__classdict__" : Str))
structure ScI (sc : Scope) (sf x : Str) : Prop where
  kind : sc.kind = .function
  co : sc.isCoroutine = false
  gen : sc.isGenerator = false
  ls : sc.names.lookup sf = some .local
  lx : sc.names.lookup x = some .local
  sup : sc.names.lookup ("super" : Str) = some .globalImplicit
  cls : sc.names.lookup ("__class__" : Str) = some .free
  cell : ∀ y ∈ sc.names, y.2 ≠ .cell
  free : ∀ y ∈ sc.names, y.2 = .free → y.1 = ("__class__" : Str)
  ne : sf ≠ x
  ds : (sf == ("__debug__" : Str)) = false
  dx : (x == ("__debug__" : Str)) = false
  cs : (sf == ("__classdict__" : Str)) = false
  cx : (x == ("__classdict__" : Str)) = false
theorem iniSc_ok {sc : Scope} {sf x : Str} (h : iniSc sc sf x = true) : ScI sc sf x := by
  unfold iniSc at h
  simp only [Bool.and_eq_true, decide_eq_true_eq, Bool.not_eq_true', List.all_eq_true] at h
  obtain ⟨⟨⟨⟨⟨⟨⟨⟨⟨⟨⟨⟨h1, h2⟩, h3⟩, h4⟩, h5⟩, h6⟩, h7⟩, h8⟩, h9⟩, ha⟩, hb⟩, hc⟩, hd⟩ := h
  refine ⟨?_, h2, h3, h4, h5, h6, h7, fun y hy e => ?_, fun y hy e => ?_, fun e => ?_, ha, hb, hc, hd⟩
  · split at h1
    · assumption
    · cases h1
  · have q := h8 y hy
    rw [e] at q
    cases q
  · have q := h8 y hy
    rw [e] at q
    exact of_decide_eq_true q
  · rw [e] at h9
    simp at h9
/-- what the written part says of it -/
structure IniK (K : PySem.W.Frag) (P : Program) (C : Addr) (f : Str) (fI : Addr) (fd : FuncData) (sf x : Str) : Prop where
  T : OexC K C
  iC : PySem.W.findIn K (.ref C) "__init__" = some (some (.ref fI))
  tI : PySem.W.typeIn K (.ref fI) = some (.type "function")
  lk : ∃ oc od osl, K.lookup fI = some ⟨oc, od, .func fd, osl⟩
  cd : PySem.W.codeIn K fd.code fd.qualname = true
  body : ∃ b, fd.body = .stmts b ∧ iniB b sf x f = true
  sc : iniSc fd.scope sf x = true
  gl : fd.globals = mainGlobals
  bl : fd.builtins = builtinsNs
  ar : ∃ ar, (fd.params.posonlyargs ++ fd.params.args).head? = some ar ∧ ar.arg = sf
  cc : ∃ cc c d sl, fd.closure = [(("__class__" : Str), cc)] ∧ K.lookup cc = some ⟨c, d, .cell (some (.ref C)), sl⟩
  file : ∃ c0 c d sl vs file tf, fd.code = .ref c0 ∧ K.lookup c0 = some ⟨c, d, .fields vs, sl⟩ ∧ vs[2]? = some (.str file tf) ∧ ((P.main.file : Str) == file) = true
  top : (P.main.scope.names.lookup ("super" : Str)).isSome = false
  fno : PySem.W.findIn K (.ref C) f = some none
  sup : PySem.W.ks_superIn K C C "__init__" = some (some (.builtin "ValueError.__init__"))
  sV : PySem.W.subIn K (.ref C) (.type "ValueError") = some true
  sS : PySem.W.subIn K (.ref C) (.ref C) = some true
  opq : PySem.W.nsIn K cStatics "thirdparty.any" = some none
/-- what its __init__ promises -/
def spIni (C : Addr) (f : Str) : Sp := fun vs H Q _ => ∃ (a : Addr) (y : V), vs = [.ref a, y] ∧ H a = some (exo a C none) ∧ ∀ dx, H dx = none → dx ≠ a → Q .non (upd (upd H dx (exd dx [(f, y)])) a (exo a C (some dx)))
section
variable {P : Program} {w : World} {K : PySem.W.Frag} {mg : Str → Option Value} {base : Heap} {CX : CXT} {k : Nat} {C fI : Addr} {fd : FuncData} {f sf x : Str}
/-- the frame's context -/
def cxI (CX : CXT) (P : Program) (w : World) (K : PySem.W.Frag) (mg : Str → Option Value) (base : Heap) (N : List Str) (fd : FuncData) (fI : Addr) (A : Around) (outer : List PySem.Env) (s : Shared) (H : Hp) (Q : VK) (E : XK) : Cx where
  prog := P
  w := w
  K := K
  mg := mg
  base := base
  A := A.deeper (callEnv fd s.heap.objs.size fI)
  N := N
  s_0 := s
  H_0 := H
  env := callEnv fd s.heap.objs.size fI
  outer := outer
  stack := callEnv fd s.heap.objs.size fI :: outer
  ex := []
  fn := fun _ => false
  calm := true
  pn := []
  xe := fun e s' => wpAny (model P w) (A.deeper (callEnv fd s.heap.objs.size fI)) (leaving (callEnv fd s.heap.objs.size fI) e) (fun _ s'' => CR CX outer P w H s Q E (.error e) s'') (fun e' s'' => CR CX outer P w H s Q E (.error e') s'') s'
theorem inv_I {A : Around} {outer : List PySem.Env} {s : Shared} {H : Hp} {Q : VK} {E : XK} {a : Addr} {y : V} {u : Value} {h0 : Heap} (N : IniK K P C f fI fd sf x) (hd : A.handled = none) (e0 : Env0 P w K mg base A outer s H) (ry : RelV y u)
    (hns : h0.Ns s.heap.objs.size (fun z => ([sf, x].zip [Value.ref a, u]).reverse.lookup z)) (hk : ∀ b o, s.heap.get? b = some o → h0.get? b = some o) {t : Nat} :
    Inv (cxI CX P w K mg base [sf, x] fd fI A outer s H Q E) [] [some (.ref a), some y] H { s with heap := h0, toks := t } := by
  have S := iniSc_ok N.sc
  obtain ⟨cc, c, d, sl, ecc, lcc⟩ := N.cc
  have KX : K.In s.heap := e0.mod.kin.keeps fun b o e => (e0.bs b o e).1
  have cl : ∀ (z : Str) (c : Addr), (callEnv fd s.heap.objs.size fI).cells.lookup z = some c → z = ("__class__" : Str) ∧ c = cc := fun z c h => by
    have h : fd.closure.lookup z = some c := h
    rw [ecc] at h
    simp only [List.lookup] at h
    split at h
    · rename_i q
      cases h
      exact ⟨eq_of_beq q, rfl⟩
    · cases h
  have fr : ∀ z, (callEnv fd s.heap.objs.size fI).kindOf z = some .cell ∨ (callEnv fd s.heap.objs.size fI).kindOf z = some .free → z = ("__class__" : Str) := fun z h => by
    have h : fd.scope.names.lookup z = some .cell ∨ fd.scope.names.lookup z = some .free := h
    rcases h with h | h
    · exact absurd rfl (S.cell _ (PySem.mem_of_lookup h))
    · exact S.free _ (PySem.mem_of_lookup h) rfl
  have nx : ∀ b : Addr, b ∉ (cxI CX P w K mg base [sf, x] fd fI A outer s H Q E).ex := fun b z => absurd (show b ∈ ([] : List Addr) from z) (by simp)
  have gcc := KX _ _ lcc
  have bcc := e0.mod.kin _ _ lcc
  refine ⟨⟨e0.mod, S.kind, N.gl, N.bl, Nat.le_refl _, fun z1 z2 c h1 h2 => (cl z1 c h1).1.trans (cl z2 c h2).1.symm, fun z h => ⟨cc, ?_⟩, fun z c h => absurd (show false = true from h) Bool.false_ne_true, fun _ => hd, Around.frames_deeper e0.frames, .inr ⟨rfl, rfl⟩, fun b z => absurd z (nx b), e0.bs, e0.bsz, fun b _ _ => nx b, fun b z => absurd z (nx b), e0.funs, e0.frf⟩,
    rfl, e0.bare, Un.kept hk, ⟨_, hns, fun i z v h1 h2 h3 => ?_⟩, fun z c h => ⟨some (.ref C), ?_⟩, e0.hok.fresh (Nat.le_refl _), fun z c h => ?_, fun p hp => absurd (show p ∈ ([] : List (Addr × Obj)) from hp) (by simp), e0.hok.kept hk, rfl⟩
  · show fd.closure.lookup z = some cc
    rw [fr z h, ecc]
    rfl
  · have hne : (x == sf) = false := by simpa using fun e => S.ne e.symm
    rcases i with _ | _ | i
    · cases h1
      cases h2
      refine ⟨.ref a, rfl, .inl ⟨S.ls, ?_⟩⟩
      show List.lookup sf [(x, u), (sf, Value.ref a)] = some (.ref a)
      have e : (sf == x) = false := by simpa using S.ne
      rw [List.lookup_cons, e]
      simp
    · cases h1
      cases h2
      refine ⟨u, ry, .inl ⟨S.lx, ?_⟩⟩
      show List.lookup x [(x, u), (sf, Value.ref a)] = some u
      simp
    · cases h1
  · obtain ⟨_, rfl⟩ := cl z c h
    exact ⟨_, hk _ _ gcc, rfl⟩
  · obtain ⟨_, rfl⟩ := cl z c h
    exact (e0.bs _ _ bcc).2

theorem ini_body {X : Cx} {σ : L2.St} {H : Hp} {s : Shared} {a : Addr} {y : V} {D : Ends} {m : Str} {j : Nat} {p0 p1 p2 p3 p4 p5 q0 q1 q2 q3 : Pos} {b : List PySem.Stmt} (N : IniK X.K X.prog C f fI fd sf x) (hN : X.N = [sf, x]) (hfu : X.env.func = some fI) (hco : X.env.code = fd.code) (hcl : X.env.cells = fd.closure) (hsc : X.env.scope = fd.scope)
    (hln : (p2.endLine == p4.line) = true) (hin : interactive X.env = false) (hsu : X.mg "super" = none) (I : Inv X [] σ H s) (h0 : σ[0]? = some (some (.ref a))) (h1 : σ[1]? = some (some y)) (ha : H a = some (exo a C none)) (hq : ∀ dx, H dx = none → dx ≠ a → D.nx σ (upd (upd H dx (exd dx [(f, y)])) a (exo a C (some dx)))) :
    _root_.PySem.wpAt (model X.prog X.w) X.A (.func b X.env) (execs [.Expr (.Call (.Attribute (.Call (.Name "super" p0) [] [] p1) "__init__" p2) [.Constant (.str m) j p3] [] p4) p5, .Assign [.Attribute (.Name sf q0) f q1] (.Name x q2) q3] X.env) (SP X [] D) X.xe s := by
  have S := iniSc_ok N.sc
  obtain ⟨cc, c, d, sl, ecc, lcc⟩ := N.cc
  obtain ⟨oc, od, osl, lk⟩ := N.lk
  obtain ⟨c0, k1, k2, k3, vs, file, tf, ec0, lc0, hvs, hfile⟩ := N.file
  obtain ⟨ar, har, ear⟩ := N.ar
  have KX : X.K.In s.heap := I.kIn
  have kd : ∀ z, X.env.kindOf z = fd.scope.names.lookup z := fun z => by
    show X.env.scope.names.lookup z = _
    rw [hsc]
  have hkf : X.env.scope.kind = .function := by rw [hsc]; exact S.kind
  refine ks_wpAt_execs_cons ?_
  have he : eval (.Call (.Attribute (.Call (.Name "super" p0) [] [] p1) "__init__" p2) [.Constant (.str m) j p3] [] p4) X.env = (do
      let ov ← attributeBase (.Call (.Name "super" p0) [] [] p1) "__init__" X.env (eval (.Call (.Name "super" p0) [] [] p1) X.env)
      standAt p2.atName
      let (f, first) ← holding [ov] (getMethod ov "__init__" (do return (← importBound (.Call (.Name "super" p0) [] [] p1) X.env).getD true))
      callWith p4 f first (backTo p4 (starEach [.Constant (.str m) j p3] X.env)) []) := by
    show (do
      let ov ← attributeBase (.Call (.Name "super" p0) [] [] p1) "__init__" X.env (eval (.Call (.Name "super" p0) [] [] p1) X.env)
      standAt p2.atName
      methodCall _ _ p2 p4 X.env ov _ _ _) = _
    simp only [methodCall, methodCallPos, hln, Bool.or_true, if_true, pure_bind]
    rfl
  refine ks_wpAt_Expr_any (ks_wpAt_MethodCall ?_ he) hin
  refine ks_wpAt_super_base (fd := fd) (f := fI) (cc := c0) ((kd _).trans S.sup) ((kd _).trans S.cls) rfl hfu (KX _ _ lk) rfl har (hco.trans ec0) (KX _ _ lc0) rfl hvs hfile N.top ?_
  obtain ⟨mb, hb1, hb2⟩ := I.mod.blt
  refine PySem.W.ks_loadName_global hkf ((kd _).trans S.sup) (Calls.loadGlobal_builtin (by rw [I.ok.glob]; exact I.mod.glob.keeps I.bk) hsu (by rw [I.ok.blt]; exact hb1.keeps I.bk) ((hb2 _ (by decide +kernel)).trans PyProof.Rows.Boot.«super») ⟨rfl, ?_⟩)
  refine wpAny_loadName_free hkf ((kd _).trans S.cls) (by rw [hcl, ecc]; rfl) ⟨_, KX _ _ lcc, rfl⟩ ?_
  obtain ⟨mL, hnL, hlL⟩ := id I.loc
  obtain ⟨u0, r0, l0⟩ := hlL 0 sf _ (by rw [hN]; rfl) h0 (.inl ((kd _).trans S.ls))
  obtain rfl : u0 = Value.ref a := r0
  have l0' : mL sf = some (.ref a) := by
    rcases l0 with ⟨_, z⟩ | ⟨z | z, _⟩
    · exact z
    · rw [kd, S.ls] at z; cases z
    · rw [kd, S.ls] at z; cases z
  refine wpAny_loadName_local (v := .ref a) hkf (by rw [ear]; exact (kd _).trans S.ls) hnL (by rw [ear]; exact l0') ?_
  obtain ⟨nm, q, NN, bs, bm, sn, sub, ab, col, dd, z0, z1, z2, z3, z5, hC, hbm⟩ := N.T.cls
  have gC := KX _ _ hC
  obtain ⟨hh, g, dr, tk, os⟩ := s
  obtain ⟨t1, ho⟩ := exo_at I.hok ha
  refine ks_wpAny_isType_cls gC rfl ⟨rfl, ?_⟩
  refine ks_wpAny_call_super gC rfl ho rfl (fun c e => by cases e) (PySem.W.looks_subIn KX N.sS) (fun h' hso k => ?_)
  have I1 : Inv X [] σ H ⟨h', g, dr, tk, os⟩ := I.kept (t' := tk) k
  have KX1 := I1.kIn
  have ho1 := k _ _ ho
  have hcn : PySem.W.clsIn X.K C = some { name := nm, bases := bs, mro := .ref C :: bm, ns := NN, qualname := q, hasDict := true, slotNames := sn, subclasses := sub, abstract := ab, collection := col, hasDel := false } := by unfold PySem.W.clsIn; rw [hC]
  have sup := N.sup
  unfold PySem.W.ks_superIn at sup
  rw [hcn, Option.bind_some] at sup
  have J1 : PySem.W.InstAt h' a { cls := .ref C, dict := none, data := .fields #[.ref t1, .none, .none, .none, .bool false, .none] } C none := ⟨ho1, rfl, rfl, trivial⟩
  refine PySem.W.kxs_getMethod PySem.W.kxs_ValueError hso (PySem.W.looks_opaque KX1 N.opq) (l₀ := .ref C :: bm) (l := ((Value.ref C :: bm).dropWhile (· != .ref C)).drop 1) (fun A Q E s k q => wpAny_bind ((PySem.W.looks_clsIn KX1 hcn) A _ E s k (wpAny_pure q))) rfl KX1 sup (J1.type.andThen (PySem.W.looks_subIn KX1 N.sV)) (PySem.W.ks_ne KX1 J1 hcn) rfl ?_
  have hu : (h'.push (PySem.W.kxs_mw "ValueError.__init__" a)).get? h'.objs.size = some (PySem.W.kxs_mw "ValueError.__init__" a) := Heap.get?_push_at rfl rfl
  have k2 : ∀ b o, h'.get? b = some o → (h'.push (PySem.W.kxs_mw "ValueError.__init__" a)).get? b = some o := fun b o e => Heap.get?_push_of_some _ e
  have I2 : Inv X [] σ H ⟨h'.push (PySem.W.kxs_mw "ValueError.__init__" a), g, dr, tk + 1, os⟩ := I1.kept (t' := tk + 1) k2
  generalize h'.push (PySem.W.kxs_mw "ValueError.__init__" a) = h2 at hu k2 I2
  generalize h'.objs.size = uu at hu
  show wpAny _ _ (callWith p4 (.ref uu) [] (backTo p4 (starEach [.Constant (.str m) j p3] X.env)) []) _ _ _
  refine PySem.W.kxs_callWith (i := "ValueError.__init__") (x := a) rfl (Calls.evalArgs_plain (Calls.spliced_cons (Calls.Constant_str (k := j) (pos := p3) (Calls.spliced_nil ⟨hu, ?_⟩))))
  refine wpAny_call (codeAny_of_tree ?_)
  show wpAny _ X.A.in1 (callAny (.ref uu) ⟨[.str m (tk + 1)], []⟩) _ _ _
  simp only [callAny]
  refine wpAny_bind (wpAny_load hu ?_)
  simp only [PySem.W.kxs_mw, show (Value.type "method-wrapper" == Value.type "method" || Value.type "method-wrapper" == Value.type "builtin_function_or_method" || Value.type "method-wrapper" == Value.type "method-wrapper") = true by decide, if_true]
  refine PySem.W.KFB.if_so (by decide) ?_
  have ho2 := k2 _ _ ho1
  have gC2 := I2.kIn _ _ hC
  refine wpAny_bind (PySem.W.check_bound_init PySem.F.excBase_ValueError.toExcCallFacts gC2 ho2 rfl ?_)
  refine wpAny_bind (wpAny_pure (wpAny_pure ?_))
  refine ⟨plainId_quiet PySem.F.excBase_ValueError.init.plain _, codeAny_builtin PySem.F.excBase_ValueError.initEntry ?_⟩
  refine PySem.W.exc_init_tree (cls := .ref C) (t0 := t1) (dv := none) (c2 := .none) (c3 := .none) (b4 := .bool false) ho2 (by show 1 ≤ sizeLine; rw [sizeLine_eq]; omega) fun h3 k3 e3 _ => ?_
  have J := I2.write (t' := tk + 1 + 1) (x := a) (e := a) (o := exo a C none) (by rw [ha]; exact True.intro) (.inl rfl) k3 ⟨_, e3⟩ (exo_ok e3)
  have eu : upd H a (exo a C none) = H := by
    funext b
    by_cases hb : b = a
    · rw [hb, upd_same, ha]
    · rw [upd_ne hb]
  rw [eu] at J
  have v0 : Vis X.env.scope sf := .inl ((kd _).trans S.ls)
  have v1 : Vis X.env.scope x := .inl ((kd _).trans S.lx)
  have st : PS X (.Assign [.Attribute (.Name sf q0) f q1] (.Name x q2) q3) (tOst X.K f (tVar 0) (tVar 1)) := ps_ost (pe_var (by rw [hN]; rfl) v0 S.ds S.cs) (pe_var (by rw [hN]; rfl) v1 S.dx S.cx)
  refine ks_wpAt_execs_cons (wpAt_of_wpAny (wpAny_mono (st.run [] _ σ H D J ⟨y, h1, .ref a, h0, a, C, rfl, N.T, N.fno, .inl ⟨ha, hq⟩⟩) (fun fl s' z => ?_) fun _ _ z => z))
  cases fl with
  | next => exact wpAt_of_wpAny (wpAny_execs_nil z)
  | ret u => exact z
  | brk => exact z
  | cont => exact z
theorem ini_fn (hsu : mg "super" = none) (N : IniK K P C f fI fd sf x) : FnOk P w K mg base CX (k + 1) fI fd [sf, x] (spIni C f) := by
  refine ⟨fun vs H Q E h => by obtain ⟨a, y, rfl, _⟩ := h; rfl, fun A outer s H args us vs Q E hr e0 hb r hsp => ?_⟩
  obtain ⟨a, y, rfl, ha, hq⟩ := hsp
  cases r with
  | cons ra r1 =>
  cases r1 with
  | cons ry r2 =>
  cases r2
  rename_i u0 u
  obtain rfl : u0 = Value.ref a := ra
  have S := iniSc_ok N.sc
  have KX : K.In s.heap := e0.mod.kin.keeps fun b o e => (e0.bs b o e).1
  have lim : s.heap.NoLimit := e0.mod.nolimit.keeps fun b o e => (e0.bs b o e).1
  obtain ⟨oc, od, osl, lk⟩ := N.lk
  obtain ⟨b, eb, hB⟩ := N.body
  obtain ⟨m, j, p0, p1, p2, p3, p4, p5, q0, q1, q2, q3, hln, rfl⟩ := iniB_ok hB
  refine ks_codeAny_call_defAt hr.depth (KX _ _ lk) rfl lim (PySem.W.codeRec_of KX N.cd) eb hb S.cell ?_ (fun h0 hns hk => ?_) S.co S.gen S.kind
  · intro z hz
    simp only [List.zip_cons_cons, List.zip_nil_left, List.mem_cons, List.not_mem_nil, or_false] at hz
    rcases hz with rfl | rfl
    · exact S.ls
    · exact S.lx
  have I0 := inv_I (CX := CX) (Q := Q) (E := E) (t := s.toks + ([sf, x].zip [Value.ref a, u]).length) N hr.hd e0 ry hns hk
  refine ks_wpAt_mono (ini_body (X := cxI CX P w K mg base [sf, x] fd fI A outer s H Q E) (D := { nx := fun _ H' => Q .non H', rt := Q }) N rfl rfl rfl rfl rfl hln I0.quiet hsu I0 rfl rfl ha hq) (fun fl s' z => ?_) fun _ _ z => z
  cases fl with
  | next =>
    obtain ⟨σ', H', J, q⟩ := z
    exact ⟨.non, H', J.os, J.bare, J.base, J.hok, rfl, q⟩
  | ret u =>
    obtain ⟨v, σ', H', J, rv, q⟩ := z
    exact ⟨v, H', J.os, J.bare, J.base, J.hok, rv, q⟩
  | brk =>
    obtain ⟨_, _, _, q⟩ := z
    exact q.elim
  | cont =>
    obtain ⟨_, _, _, q⟩ := z
    exact q.elim
/-- C(e) -/
def tMkI (C : Addr) (f : Str) (te : TE) : L2.St → Hp → XK → Prop := fun σ H Q => te σ H fun y H1 => ∀ dx, H1 dx = none → Q (.ref C) (some dx) (upd H1 dx (.xd [(f, y)]))
theorem TE.two {X : Cx} {e : PySem.Expr} {te : TE} (h : PE X e te) (hs : notStar e = true) : PA X [e] (tCons te tNil) := pa_cons h pa_nil (star_cons hs)
theorem pmk_ini {X : Cx} {n : Str} {e : PySem.Expr} {te : TE} {p pos : Pos} (N : IniK X.K X.prog C f fI fd sf x) (hsu : X.mg "super" = none) (hr : Room 2 X.A) (hb : Binds X.K fd [sf, x] []) (hx : Passes (L2.CX X.prog X.w) X (fun _ _ _ => False)) (hg : Gl X n) (hm : X.mg n = some (.ref C)) (he : PE X e te)
    (mono : ∀ σ H Q Q', te σ H Q → (∀ y H1, Q y H1 → Q' y H1) → te σ H Q') (hs : notStar e = true) (hdb : (n == ("__debug__" : Str)) = false) :
    PMk X (.Call (.Name n p) [e] [] pos) (tMkI C f te) := by
  have q := pmk_oex (X := X) (CX := L2.CX X.prog X.w) (x := n) (e := e) (es := []) (p := p) (pos := pos) (k := 1) (ds := []) (dvs := []) N.T N.iC N.tI (ini_fn (k := 0) (base := X.base) (w := X.w) (CX := L2.CX X.prog X.w) hsu N) hr hb .nil hx hg hm (TE.two he hs) hdb (star_cons hs) rfl
  intro pins s σ H Q I h
  refine q pins s σ H Q I (mono _ _ _ _ h fun y H1 h => ?_)
  show _ ∧ _
  refine ⟨by simp, fun a ha => ⟨a, y, rfl, upd_same, fun dx hd ne => ⟨rfl, dx, [(f, y)], upd_same, ?_, ?_, ?_⟩⟩⟩
  · rw [upd_ne ne, upd_same]
  · rw [upd_ne ne] at hd
    exact hd
  · rw [upd_ne ne] at hd
    have e1 : upd (del (upd (upd (upd H1 a (exo a C none)) dx (exd dx [(f, y)])) a (exo a C (some dx))) a) dx (.xd [(f, y)]) = upd H1 dx (.xd [(f, y)]) := by
      funext b
      by_cases hb : b = dx
      · rw [hb, upd_same, upd_same]
      · rw [upd_ne hb, upd_ne hb]
        by_cases hba : b = a
        · rw [hba, del_same, ha]
        · rw [del_ne hba, upd_ne hba, upd_ne hb, upd_ne hba]
    rw [e1]
    exact h dx hd
end
end Mi
namespace Mi
open PySem L2
/-! ### what a def promises -/
def spF (Z : Wd) (fresh : Bool) (ar : Nat) (run : List Slot → R D) : Sp := fun vs H Q E => vs.length = ar ∧ ∃ (F : Fz) (as : List Slot), (∀ a, F a → H a ≠ none) ∧ ArgsOk Z F H as vs ∧
  match run as with
  | .ok d => ∀ v F' H', Ext F H F' H' → Post Z (if fresh then .fresh else .val) F' H H' d v → Q v H'
  | .exc x => ∀ cls dd F' H', Ext F H F' H' → XRep Z F' H' x cls dd → E cls dd H'
  | .bad => False
structure FnIs (X : Cx) (Z : Wd) (x : Str) (run : List Slot → R D) (fresh : Bool) (ar : Nat) : Prop where
  gl : ∃ k fa fd ps, FnOk X.prog X.w X.K X.mg X.base (L2.CX X.prog X.w) k fa fd ps (spF Z fresh ar run) ∧ Room k X.A ∧ X.mg x = some (.ref fa) ∧ PySem.W.keepIn X.K (.ref fa) = true ∧ Binds X.K fd ps []
section
variable {X : Cx} {S : Sit} {a b c : PySem.Expr} {ma mb mc : E} {pos : Pos}
theorem evAs_length {Γ : Glob} : ∀ {ms : List E} {env : Env} {as : List Slot}, evAs Γ ms env = .ok as → as.length = ms.length
  | [], _, _, h => by
    rw [evAs] at h
    cases h
    rfl
  | m :: ms, env, as, h => by
    rw [evAs] at h
    cases h1 : evE Γ m env with
    | ok x =>
      rw [h1, R.bind_ok] at h
      cases h2 : evAs Γ ms env with
      | ok xs =>
        rw [h2] at h
        cases h
        rw [List.length_cons, List.length_cons, evAs_length h2]
      | exc x => rw [h2] at h; cases h
      | bad => rw [h2] at h; cases h
    | exc x => rw [h1] at h; cases h
    | bad => rw [h1] at h; cases h
/-- the callee's promise is met -/
theorem sp_met {Z : Wd} {σ : St} {F F1 : Fz} {H H1 : Hp} {as : List Slot} {vs : List V} {Q : VK} {fresh : Bool} {run : List Slot → R D} (e : Ext F H F1 H1) (hS : S.Z = Z) (ha : ArgsOk Z F1 H1 as vs)
    (h : Ans S σ F H (run as) (Hope S (if fresh then .fresh else .val) F H Q)) : spF Z fresh as.length run vs H1 Q (WE S.W σ) := by
  subst hS
  refine ⟨ha.length.symm, F1, as, e.th, ha, ?_⟩
  cases q : run as with
  | ok d =>
    rw [q] at h
    exact fun v F' H' g p => Hope.pass h e v F' H' g p
  | exc x =>
    rw [q] at h
    exact fun cls dd F' H' g r => h cls dd F' H' (e.trans g) r
  | bad =>
    rw [q] at h
    exact h
theorem kd_call {fr : Bool} {f : Nat} {ms : List E} : kd (.call fr f ms) = if fr then .fresh else .val := by
  cases fr <;> rfl
theorem s_call {x : Str} {f ar : Nat} {fr : Bool} {e : PySem.Expr} {es : List PySem.Expr} {ms : List E} {p : Pos} (tk : Takes X S.W) (hf : FnIs X S.Z x (S.Γ.call f) fr ar) (hg : Gl X x) (hl : ms.length = ar)
    (ha : PA X (e :: es) (tAs S ms)) (hs : (e :: es).all notStar = true) (hd : (x == ("__debug__" : Str)) = false) : PE X (.Call (.Name x p) (e :: es) [] pos) (tE S (.call fr f ms)) := by
  obtain ⟨k, fa, fd, ps, G, hr, hm, hk, hb⟩ := hf.gl
  rw [List.all_cons, Bool.and_eq_true] at hs
  refine PE.imp (pe_callS G hr hg hm hk hb (fun σ => passAt tk σ) ha hd (star_cons hs.1) (star_any hs.2)) fun σ H Q ⟨F, Fb, env, fr', q⟩ => ?_
  rw [evE, ans_bind, kd_call] at q
  refine ⟨F, Fb, env, fr', q.with.mono fun as ⟨el, k⟩ vs F1 H1 e1 r1 => ?_⟩
  have := evAs_length el
  have := sp_met e1 rfl r1 k
  rw [show ar = as.length by omega]
  exact this
/-! ### built-in functions -/
theorem Lnts.one {Z : Wd} {F : Fz} {H : Hp} {d : D} {vs : List V} (h : Lnts Z F H [d] vs) : ∃ v, vs = [v] ∧ Lnt Z F H d v := by
  obtain ⟨v, r, e, l, h⟩ := h
  cases h
  exact ⟨v, e, l⟩
theorem Lnts.two {Z : Wd} {F : Fz} {H : Hp} {d e : D} {vs : List V} (h : Lnts Z F H [d, e] vs) : ∃ v u, vs = [v, u] ∧ Lnt Z F H d v ∧ Lnt Z F H e u := by
  obtain ⟨v, r, e1, l, h⟩ := h
  obtain ⟨u, e2, l2⟩ := Lnts.one h
  subst e2
  exact ⟨v, u, e1, l, l2⟩
theorem bi_imp {r : List V → Hp → VK → Prop} {b : Bi} {ms : List E}
    (h : ∀ (σ : St) (F F2 : Fz) (H H2 : Hp) (ds : List D) (vs : List V) (Q : VK), Ans S σ F H (biD b ds) (Hope S .fresh F H Q) → Ext F H F2 H2 → Lnts S.Z F2 H2 ds vs → r vs H2 Q) :
    ∀ σ H Q, tE S (.bi b ms) σ H Q → tCB r (tLs S ms) σ H Q := fun σ H Q ⟨F, Fb, env, fr, q⟩ => by
  rw [evE, ans_bind] at q
  exact ⟨F, Fb, env, fr, q.mono fun ds k vs F1 H1 e l => h σ F F1 H H1 ds vs Q k e l⟩
/-- a built-in's name, not one of the module's -/
structure BltIs (X : Cx) (x : Str) : Prop where
  gl : Gl X x
  no : X.mg x = none
section
variable {e : PySem.Expr} {es : List PySem.Expr} {ms : List E} {p : Pos} {x : Str}
theorem s_biB {id : String} {r : List V → Hp → VK → Prop} {b : Bi} (hc : CallR X (.builtin id) r) (hx : BltIs X x) (hv : bootBuiltins x = some (.builtin id)) (ha : PA X (e :: es) (tLs S ms)) (hs : (e :: es).all notStar = true) (hn : x ≠ "__name__") (hd : (x == ("__debug__" : Str)) = false)
    (h : ∀ (σ : St) (F F2 : Fz) (H H2 : Hp) (ds : List D) (vs : List V) (Q : VK), Ans S σ F H (biD b ds) (Hope S .fresh F H Q) → Ext F H F2 H2 → Lnts S.Z F2 H2 ds vs → r vs H2 Q) :
    PE X (.Call (.Name x p) (e :: es) [] pos) (tE S (.bi b ms)) := by
  rw [List.all_cons, Bool.and_eq_true] at hs
  exact PE.imp (pe_callB hc hx.gl hx.no hv ha hn hd (star_cons hs.1) (star_any hs.2)) (bi_imp h)
theorem s_biT {T : String} {r : List V → Hp → VK → Prop} {b : Bi} (hc : CallR X (.type T) r) (hx : BltIs X x) (hv : bootBuiltins x = some (.type T)) (ha : PA X (e :: es) (tLs S ms)) (hs : (e :: es).all notStar = true) (hn : x ≠ "__name__") (hd : (x == ("__debug__" : Str)) = false)
    (h : ∀ (σ : St) (F F2 : Fz) (H H2 : Hp) (ds : List D) (vs : List V) (Q : VK), Ans S σ F H (biD b ds) (Hope S .fresh F H Q) → Ext F H F2 H2 → Lnts S.Z F2 H2 ds vs → r vs H2 Q) :
    PE X (.Call (.Name x p) (e :: es) [] pos) (tE S (.bi b ms)) := by
  rw [List.all_cons, Bool.and_eq_true] at hs
  exact PE.imp (pe_callTy hc hx.gl hx.no hv ha hn hd (star_cons hs.1) (star_any hs.2)) (bi_imp h)
theorem s_len (hK : X.K = S.Z.K) (hx : BltIs X "len") (ha : PA X (e :: es) (tLs S ms)) (hs : (e :: es).all notStar = true) : PE X (.Call (.Name "len" p) (e :: es) [] pos) (tE S (.bi .len ms)) := by
  refine s_biB (call_len_seq.or call_len_str) hx (by decide +kernel) ha hs (by decide +kernel) (by decide +kernel) fun σ F F2 H H2 ds vs Q q g l => ?_
  rw [biD] at q
  unfold lenD at q
  rw [hK]
  split at q
  · obtain ⟨v, rfl, ⟨a, us, rfl, h1, r1⟩⟩ := l.one
    refine .inl ⟨a, us, rfl, .inl (.of h1), ?_⟩
    rw [r1.length] at q
    exact Hope.rep q rfl g rfl
  · obtain ⟨v, rfl, ⟨a, us, rfl, _, h1, r1⟩⟩ := l.one
    refine .inl ⟨a, us, rfl, .inr (.of h1), ?_⟩
    rw [r1.length] at q
    exact Hope.rep q rfl g rfl
  · obtain ⟨v, e1, l'⟩ := l.one
    subst e1
    obtain ⟨a, rfl, h⟩ := scr_seq l'
    refine .inl ⟨a, _, rfl, .inl h, ?_⟩
    rw [List.length_map]
    exact Hope.rep q rfl g rfl
  · obtain ⟨z, q⟩ := q.ite
    obtain ⟨v, e1, l'⟩ := l.one
    subst e1
    exact .inr ⟨_, by rw [str_of l'], line_le z, Hope.rep q rfl g rfl⟩
  · exact q.elim
theorem s_int1 (hx : BltIs X "int") (ha : PA X (e :: es) (tLs S ms)) (hs : (e :: es).all notStar = true) : PE X (.Call (.Name "int" p) (e :: es) [] pos) (tE S (.bi .int ms)) := by
  refine s_biT call_int1 hx (by decide +kernel) ha hs (by decide +kernel) (by decide +kernel) fun σ F F2 H H2 ds vs Q q g l => ?_
  rw [biD] at q
  unfold int1D at q
  split at q
  · obtain ⟨v, e1, l'⟩ := l.one
    subst e1
    exact .inl ⟨_, by rw [int_of l'], Hope.rep q rfl g rfl⟩
  · obtain ⟨v, e1, l'⟩ := l.one
    subst e1
    exact .inr ⟨_, by rw [bl_of l'], Hope.rep q rfl g rfl⟩
  · exact q.elim
theorem s_list1 (hK : X.K = S.Z.K) (hx : BltIs X "list") (ha : PA X (e :: es) (tLs S ms)) (hs : (e :: es).all notStar = true) : PE X (.Call (.Name "list" p) (e :: es) [] pos) (tE S (.bi .list ms)) := by
  refine s_biT call_list_of hx (by decide +kernel) ha hs (by decide +kernel) (by decide +kernel) fun σ F F2 H H2 ds vs Q q g l => ?_
  rw [biD] at q
  unfold listD at q
  rw [hK]
  split at q
  · obtain ⟨v, rfl, ⟨a, us, rfl, h1, r1⟩⟩ := l.one
    refine ⟨a, us, rfl, .inl (.of h1), fun p hp => ?_⟩
    obtain ⟨g, r⟩ := newL g hp r1
    exact q _ _ _ g r
  · obtain ⟨v, rfl, ⟨a, us, rfl, _, h1, r1⟩⟩ := l.one
    refine ⟨a, us, rfl, .inr (.of h1), fun p hp => ?_⟩
    obtain ⟨g, r⟩ := newL g hp r1
    exact q _ _ _ g r
  · exact q.elim
theorem s_tuple1 (hK : X.K = S.Z.K) (hx : BltIs X "tuple") (ha : PA X (e :: es) (tLs S ms)) (hs : (e :: es).all notStar = true) : PE X (.Call (.Name "tuple" p) (e :: es) [] pos) (tE S (.bi .tuple ms)) := by
  refine s_biT call_tuple_of hx (by decide +kernel) ha hs (by decide +kernel) (by decide +kernel) fun σ F F2 H H2 ds vs Q q g l => ?_
  rw [biD] at q
  unfold tupleD at q
  rw [hK]
  split at q
  · obtain ⟨v, rfl, ⟨a, us, rfl, h1, r1⟩⟩ := l.one
    refine ⟨a, us, rfl, .inl ⟨.of h1, fun p hp => ?_⟩⟩
    obtain ⟨g, r⟩ := newT g hp r1
    exact Hope.rep q rfl g r
  · obtain ⟨v, rfl, ⟨a, us, rfl, f, h1, r1⟩⟩ := l.one
    exact ⟨a, us, rfl, .inr ⟨.of h1, Hope.rep q rfl g ⟨a, us, rfl, f, h1, r1⟩⟩⟩
  · exact q.elim
theorem s_sum (hK : X.K = S.Z.K) (hc : X.calm = true) (hx : BltIs X "sum") (ha : PA X (e :: es) (tLs S ms)) (hs : (e :: es).all notStar = true) : PE X (.Call (.Name "sum" p) (e :: es) [] pos) (tE S (.bi .sum ms)) := by
  refine s_biB (cr_sum hc) hx (by decide +kernel) ha hs (by decide +kernel) (by decide +kernel) fun σ F F2 H H2 ds vs Q q g l => ?_
  rw [biD] at q
  unfold sumD at q
  rw [hK]
  split at q
  · obtain ⟨v, rfl, ⟨a, us, rfl, h1, r1⟩⟩ := l.one
    rw [ans_map] at q
    obtain ⟨ns, hn, q⟩ := optR_ans q
    have := reps_toInts r1 hn
    subst this
    exact ⟨a, ns, rfl, .of h1, Hope.rep q rfl g rfl⟩
  · exact q.elim
theorem s_abs (hx : BltIs X "abs") (ha : PA X (e :: es) (tLs S ms)) (hs : (e :: es).all notStar = true) : PE X (.Call (.Name "abs" p) (e :: es) [] pos) (tE S (.bi .abs ms)) := by
  refine s_biB call_abs hx (by decide +kernel) ha hs (by decide +kernel) (by decide +kernel) fun σ F F2 H H2 ds vs Q q g l => ?_
  rw [biD] at q
  unfold absD at q
  split at q
  · obtain ⟨v, e1, l'⟩ := l.one
    subst e1
    exact ⟨_, by rw [int_of l'], Hope.rep q rfl g rfl⟩
  · exact q.elim
theorem s_min2 (hc : X.calm = true) (hx : BltIs X "min") (ha : PA X (e :: es) (tLs S ms)) (hs : (e :: es).all notStar = true) : PE X (.Call (.Name "min" p) (e :: es) [] pos) (tE S (.bi .min2 ms)) := by
  refine s_biB (call_min2 hc) hx (by decide +kernel) ha hs (by decide +kernel) (by decide +kernel) fun σ F F2 H H2 ds vs Q q g l => ?_
  rw [biD] at q
  unfold min2D at q
  split at q
  · obtain ⟨v, u, rfl, l1, l2⟩ := l.two
    exact ⟨_, _, by rw [int_of l1, int_of l2], Hope.rep q rfl g rfl⟩
  · exact q.elim
theorem s_max2 (hc : X.calm = true) (hx : BltIs X "max") (ha : PA X (e :: es) (tLs S ms)) (hs : (e :: es).all notStar = true) : PE X (.Call (.Name "max" p) (e :: es) [] pos) (tE S (.bi .max2 ms)) := by
  refine s_biB (call_max2 hc) hx (by decide +kernel) ha hs (by decide +kernel) (by decide +kernel) fun σ F F2 H H2 ds vs Q q g l => ?_
  rw [biD] at q
  unfold max2D at q
  split at q
  · obtain ⟨v, u, rfl, l1, l2⟩ := l.two
    exact ⟨_, _, by rw [int_of l1, int_of l2], Hope.rep q rfl g rfl⟩
  · exact q.elim
end
end
end Mi
namespace Mi
open PySem L2
/-! ### targets -/
section
variable {Z : Wd} {F Fb : Fz} {H : Hp} {σ : St} {env : Env}
theorem gt_set {i j : Nat} {s : Slot} (hi : i < env.length) : gt (env.set i s) j = if i = j then s else gt env j := by
  unfold gt
  rw [List.getD_eq_getElem?_getD, List.getD_eq_getElem?_getD]
  by_cases h : i = j
  · subst h
    rw [List.getElem?_set_self hi, if_pos rfl]
    rfl
  · rw [List.getElem?_set_ne h, if_neg h]
theorem gt_none {i : Nat} (h : ¬ i < env.length) : gt env i = .un := by
  unfold gt
  rw [List.getD_eq_getElem?_getD, List.getElem?_eq_none (by omega)]
  rfl
theorem set_none {α : Type} {l : List α} {i : Nat} {a : α} (h : ¬ i < l.length) : l.set i a = l := List.set_eq_of_length_le (by omega)
/-- a slot is stored -/
theorem Fr.set (h : Fr Z F Fb H σ env) {i : Nat} {v : V} {s : Slot} (hs : SlotOk Z F Fb H s (some (some v))) (hn : ∀ d, s ≠ .own d) : Fr Z F Fb H (σ.set i (some v)) (env.set i s) := by
  by_cases hi : i < env.length
  · have hi' : i < σ.length := by rw [← h.len]; exact hi
    have at_ : ∀ j, (σ.set i (some v))[j]? = if i = j then some (some v) else σ[j]? := fun j => by
      by_cases e : i = j
      · subst e
        rw [List.getElem?_set_self hi', if_pos rfl]
      · rw [List.getElem?_set_ne e, if_neg e]
    refine ⟨by simp [h.len], h.th, h.thb, fun j => ?_, fun j k a h1 h2 => ?_⟩
    · rw [gt_set hi, at_]
      by_cases e : i = j
      · rw [if_pos e, if_pos e]
        exact hs
      · rw [if_neg e, if_neg e]
        exact h.sl j
    · have go : ∀ j, OwnAt (env.set i s) (σ.set i (some v)) j a → OwnAt env σ j a := fun j ⟨⟨d, hd⟩, hv⟩ => by
        rw [gt_set hi] at hd
        rw [at_] at hv
        by_cases e : i = j
        · rw [if_pos e] at hd
          exact absurd hd (hn d)
        · rw [if_neg e] at hd hv
          exact ⟨⟨d, hd⟩, hv⟩
      exact h.sep j k a (go j h1) (go k h2)
  · rw [set_none hi, set_none (by rw [← h.len]; exact hi)]
    exact h
theorem Fr.setF (h : Fr Z F Fb H σ env) {i : Nat} {v : V} {d : D} (r : Rep Z F H d v) : Fr Z F Fb H (σ.set i (some v)) (env.set i (.frz d)) := h.set ⟨v, rfl, r⟩ fun _ e => by cases e
end
def gT (S : Sit) (t : Tgt) : TG := fun v σ H Q => ∃ F Fb env d env', Fr S.Z F Fb H σ env ∧ Rep S.Z F H d v ∧ bindT t d env = .ok env' ∧
  ∀ σ', Fr S.Z F Fb H σ' env' → σ'.length = σ.length → (∀ i, i ∉ tslots t → σ'[i]? = σ[i]?) → Q σ' H
def gTs (S : Sit) (ts : List Tgt) : TGs := fun vs σ H Q => ∃ F Fb env ds env', Fr S.Z F Fb H σ env ∧ Reps S.Z F H ds vs ∧ bindTs ts ds env = .ok env' ∧
  ∀ σ', Fr S.Z F Fb H σ' env' → σ'.length = σ.length → (∀ i, i ∉ tslotsL ts → σ'[i]? = σ[i]?) → Q σ' H
theorem PG.imp {X : Cx} {e : PySem.Expr} {t t' : TG} (h : PG X e t) (i : ∀ v σ H Q, t' v σ H Q → t v σ H Q) : PG X e t' := ⟨fun pins s σ H v u Q I r q => h.run pins s σ H v u Q I r (i v σ H Q q)⟩
theorem PGs.imp {X : Cx} {e : List PySem.Expr} {t t' : TGs} (h : PGs X e t) (i : ∀ v σ H Q, t' v σ H Q → t v σ H Q) : PGs X e t' := ⟨fun pins s σ H v u Q I r q => h.run pins s σ H v u Q I r (i v σ H Q q)⟩
section
variable {X : Cx} {S : Sit} {pos : Pos}
theorem g_nm {i : Nat} {x : Str} (hN : X.N.Nodup) (hi : X.N[i]? = some x) (hx : Loc X.env.scope x) (hf : X.fn x = true ∨ X.env.scope.names.lookup x = some .local) : PG X (.Name x pos) (gT S (.nm i)) := by
  refine PG.imp (pg_name hN hi hx hf) fun v σ H Q ⟨F, Fb, env, d, env', fr, r, b, k⟩ => ?_
  rw [bindT] at b
  cases b
  refine k _ (fr.setF r) (by simp) fun j hj => ?_
  rw [List.getElem?_set_ne (fun e => hj (by rw [tslots, e]; exact List.mem_singleton.mpr rfl))]
theorem gs_nil : PGs X [] (gTs S []) := by
  refine PGs.imp pgs_nil fun vs σ H Q ⟨F, Fb, env, ds, env', fr, r, b, k⟩ => ?_
  cases ds with
  | nil =>
    rw [bindTs] at b
    cases b
    exact ⟨r, k σ fr rfl fun _ _ => rfl⟩
  | cons d ds =>
    simp [bindTs] at b
theorem gs_cons {e : PySem.Expr} {es : List PySem.Expr} {t : Tgt} {ts : List Tgt} (h1 : PG X e (gT S t)) (h2 : PGs X es (gTs S ts)) (hs : (assignEach (e :: es) X.env).map (·.2) = assign e X.env :: (assignEach es X.env).map (·.2)) : PGs X (e :: es) (gTs S (t :: ts)) := by
  refine PGs.imp (pgs_cons h1 h2 hs) fun vs σ H Q ⟨F, Fb, env, ds, env', fr, r, b, k⟩ => ?_
  cases ds with
  | nil => simp [bindTs] at b
  | cons d ds =>
    obtain ⟨v, us, e1, r1, r2⟩ := r
    subst e1
    rw [bindTs] at b
    cases b1 : bindT t d env with
    | ok env1 =>
      rw [b1, R.bind_ok] at b
      refine ⟨v, us, rfl, F, Fb, env, d, env1, fr, r1, b1, fun σ1 fr1 l1 k1 => ⟨F, Fb, env1, ds, env', fr1, r2, b, fun σ2 fr2 l2 k2 => k σ2 fr2 (l2.trans l1) fun i hi => ?_⟩⟩
      rw [tslotsL, List.mem_append, not_or] at hi
      rw [k2 i hi.2, k1 i hi.1]
    | exc x => rw [b1] at b; cases b
    | bad => rw [b1] at b; cases b
theorem bindTs_length : ∀ {ts : List Tgt} {ds : List D} {env env' : Env}, bindTs ts ds env = .ok env' → ts.length = ds.length
  | [], [], _, _, _ => rfl
  | [], _ :: _, _, _, h => by simp [bindTs] at h
  | _ :: _, [], _, _, h => by simp [bindTs] at h
  | t :: ts, d :: ds, env, env', h => by
    rw [bindTs] at h
    cases b1 : bindT t d env with
    | ok env1 =>
      rw [b1, R.bind_ok] at h
      rw [List.length_cons, List.length_cons, bindTs_length h]
    | exc x => rw [b1] at h; cases h
    | bad => rw [b1] at h; cases h
theorem g_tup {es : List PySem.Expr} {ts : List Tgt} {k : Nat} (hc : X.calm = true) (hK : X.K = S.Z.K) (h : PGs X es (gTs S ts)) (hn : (assignEach es X.env).length = ts.length) (hst : (assignEach es X.env).findIdx? (·.1) = none) : PG X (.Tuple es k pos) (gT S (.tup ts)) := by
  refine PG.imp (pg_tup hc h hn hst) fun v σ H Q ⟨F, Fb, env, d, env', fr, r, b, k⟩ => ?_
  cases d with
  | tup ds =>
    have b : bindTs ts ds env = .ok env' := by
      rw [bindT] at b
      exact b
    obtain ⟨a, vs, rfl, _, h1, r1⟩ := r
    exact ⟨a, vs, rfl, .of h1, by rw [← r1.length, bindTs_length b], F, Fb, env, ds, env', fr, r1, b, k⟩
  | _ => simp [bindT] at b
end
/-! ### what a loop goes through -/
/-- the walk J gives ds as long as what is settled or at L stays -/
def Yl (Z : Wd) (J : It) (ds : List D) (F : Fz) (H : Hp) (L : Fz) : Prop :=
  ∀ F' H', (∀ a, F a → F' a) → (∀ a o, F a ∨ L a → H a = some o → H' a = some o) → (∀ a, F' a → H' a ≠ none) →
    (∀ (i : Nat) d, ds[i]? = some d → J.go i H' ∧ ∀ x H'', J.yld i H' x H'' → ∃ F'', Ext F' H' F'' H'' ∧ Rep Z F'' H'' d x) ∧ J.stop ds.length H'
theorem PI.imp {X : Cx} {tg e : PySem.Expr} {t t' : TI} (h : PI X tg e t) (i : ∀ σ H Q, t' σ H Q → t σ H Q) : PI X tg e t' := ⟨fun pins s σ H R I q => h.run pins s σ H R I (i σ H R q)⟩
def tI (S : Sit) (m : E) : TI := fun σ H Rk => ∃ F Fb env, Fr S.Z F Fb H σ env ∧
  Ans S σ F H ((evE S.Γ m env).bind items) fun ds => ∀ J F' H' L, Ext F H F' H' → (∀ a, L a → (F' a ∨ Fb a ∨ ∃ i, i ∈ pks m ∧ OwnAt env σ i a) ∧ H' a ≠ none) → Yl S.Z J ds F' H' L → Rk J H'
theorem walk_yl {Z : Wd} {J : It} {n : Nat} {G : Hp → Prop} {Y : Nat → Hp → V → Hp → Prop} {ds : List D} {F : Fz} {H : Hp} {L : Fz} (w : Walk J n G Y) (hn : n = ds.length)
    (hG : ∀ H', (∀ a o, F a ∨ L a → H a = some o → H' a = some o) → G H')
    (hY : ∀ F' H', (∀ a, F a → F' a) → (∀ a o, F a ∨ L a → H a = some o → H' a = some o) → (∀ a, F' a → H' a ≠ none) → ∀ (i : Nat) d x H'', ds[i]? = some d → Y i H' x H'' → ∃ F'', Ext F' H' F'' H'' ∧ Rep Z F'' H'' d x) : Yl Z J ds F H L := by
  intro F' H' f1 f2 f3
  have g := hG H' f2
  refine ⟨fun i d hd => ?_, by rw [← hn]; exact w.stops H' g⟩
  have hi : i < n := by
    rw [hn]
    exact (List.getElem?_eq_some_iff.mp hd).1
  exact ⟨w.goes i H' hi g, fun x H'' y => hY F' H' f1 f2 f3 i d x H'' hd (w.yields i H' x H'' hi g y)⟩
/-- iter(x) of a list, a tuple -/
def iSeq (K : PySem.W.Frag) (tl : TE) : TI := fun σ H Rk => tl σ H fun x H1 => ∃ a, x = .ref a ∧ (((∃ xs, SqL K H1 a xs) ∧ Rk (Itl K a) H1) ∨ ((∃ xs, SqT K H1 a xs) ∧ Rk (Itt K a) H1))
theorem pi_seq {X : Cx} {tg l : PySem.Expr} {tl : TE} (hl : PE X l tl) : PI X tg l (iSeq X.K tl) := by
  refine ⟨fun pins s σ H Rk I h => ?_⟩
  refine thn (hl.run pins s σ H _ I h) fun u s1 ⟨x, H1, I1, r1, a, ex, q⟩ => ?_
  subst ex
  cases r1
  have new1 : ∀ c ∈ [s1.heap.objs.size], FpOk X pins H1 c := fun c hc => by
    cases List.mem_singleton.mp hc
    exact I1.fpOk (Nat.le_refl _) (I1.hok.fresh (Nat.le_refl _))
  rcases q with ⟨⟨xs, hq⟩, q⟩ | ⟨⟨xs, hq⟩, q⟩
  · obtain ⟨us, _, pl, _⟩ := I1.list hq
    exact wpAny_pyIter_list pl.isList ⟨_, [_], _, Itl X.K a, H1, rfl, I1.kept (t' := s1.toks) (fun _ _ e1 => Heap.get?_push_of_some _ e1), turn_list a _, ⟨_, Heap.get?_push_size _ rfl, rfl, rfl⟩, new1, q⟩
  · obtain ⟨us, _, pl, _⟩ := I1.tuple hq
    exact wpAny_pyIter_tuple (show s1.heap.IsTuple a us.toArray from pl) ⟨_, [_], _, Itt X.K a, H1, rfl, I1.kept (t' := s1.toks) (fun _ _ e1 => Heap.get?_push_of_some _ e1), turn_tuple a _, ⟨_, Heap.get?_push_size _ rfl, rfl, rfl⟩, new1, q⟩
section
variable {X : Cx} {S : Sit} {tg a b : PySem.Expr} {ma mb : E} {pos p : Pos}
theorem yl_at {Z : Wd} {F F' : Fz} {H H' : Hp} {ds : List D} {vs : List V} {L : Fz} (r : Reps Z F H ds vs) (f1 : ∀ a, F a → F' a) (f2 : ∀ a o, F a ∨ L a → H a = some o → H' a = some o) (f3 : ∀ a, F' a → H' a ≠ none) {i : Nat} {d : D} {x : V} {H'' : Hp} (hd : ds[i]? = some d)
    (y : H'' = H' ∧ vs[i]? = some x) : ∃ F'', Ext F' H' F'' H'' ∧ Rep Z F'' H'' d x := by
  obtain ⟨rfl, y⟩ := y
  exact ⟨F', Ext.refl f3, (r.get hd y).mono f1 fun a o f h => f2 a o (.inl f) h⟩
/-- the names whose lists are gone through -/
def pk : E → List Nat
  | .peek i => [i]
  | _ => []
def Src (Z : Wd) (F' Fb : Fz) (H' : Hp) (env : Env) (σ : St) (m : E) : D → V → Prop
  | .lst ds, v => ∃ a vs, v = .ref a ∧ (F' a ∨ Fb a ∨ ∃ i, i ∈ pk m ∧ OwnAt env σ i a) ∧ H' a = some (.lst vs) ∧ Reps Z F' H' ds vs
  | d, v => Rep Z F' H' d v
def tR (S : Sit) (m : E) : TE := fun σ H Q => ∃ F Fb env, Fr S.Z F Fb H σ env ∧
  Ans S σ F H (evE S.Γ m env) fun d => ∀ v F' H', Ext F H F' H' → Src S.Z F' Fb H' env σ m d v → Q v H'
theorem r_val (ha : PE X a (tE S ma)) (hk : kd ma ≠ .lent) : PE X a (tR S ma) := PE.imp (frz_of ha hk) fun σ H Q ⟨F, Fb, env, fr, q⟩ => ⟨F, Fb, env, fr, q.mono fun d k v F' H' e r => k v F' H' e (by
  cases d with
  | lst ds =>
    obtain ⟨a, vs, e1, f, h, r⟩ := r
    exact ⟨a, vs, e1, .inl f, h, r⟩
  | _ => exact r)⟩
theorem r_peek {i : Nat} {x : Str} (hN : X.N[i]? = some x) (hv : Vis X.env.scope x) (hd : (x == ("__debug__" : Str)) = false) (hc : (x == ("__classdict__" : Str)) = false) : PE X (.Name x pos) (tR S (.peek i)) := by
  refine PE.imp (pe_var hN hv hd hc) fun σ H Q ⟨F, Fb, env, fr, q⟩ => ?_
  rw [evE] at q
  have s := fr.sl i
  have e0 := Ext.refl fr.th
  unfold SlotOk at s
  cases g : gt env i with
  | un =>
    rw [g] at q
    exact q.elim
  | own d =>
    rw [g] at q s
    obtain ⟨a, e, _, _, o⟩ := s
    refine ⟨_, e, q (.ref a) F H e0 ?_⟩
    cases d with
    | lst ds =>
      obtain ⟨vs, h, r⟩ := o
      exact ⟨a, vs, rfl, .inr (.inr ⟨i, List.mem_singleton.mpr rfl, ⟨_, g⟩, e⟩), h, r⟩
    | _ => exact o.elim
  | frz d =>
    rw [g] at q s
    obtain ⟨v, e, r⟩ := s
    refine ⟨_, e, q v F H e0 ?_⟩
    cases d with
    | lst ds =>
      obtain ⟨a, vs, e1, f, h, r⟩ := r
      exact ⟨a, vs, e1, .inl f, h, r⟩
    | _ => exact r
  | bor d =>
    rw [g] at q s
    obtain ⟨v, e, r⟩ := s
    refine ⟨_, e, q v F H e0 ?_⟩
    cases d with
    | lst ds =>
      obtain ⟨a, vs, e1, f, h, r⟩ := r
      exact ⟨a, vs, e1, f.elim .inl fun z => .inr (.inl z), h, r⟩
    | _ => exact r
  | exn x =>
    rw [g] at q
    exact q.elim
theorem Ext.src {Z : Wd} {F F1 Fb : Fz} {H H1 : Hp} {env : Env} {σ : St} {m : E} {d : D} {v : V} (e : Ext F H F1 H1) (h : Src Z F Fb H env σ m d v) : Src Z F1 Fb H1 env σ m d v := by
  cases d with
  | lst ds =>
    obtain ⟨a, vs, e1, f, h, r⟩ := h
    exact ⟨a, vs, e1, f.imp (e.fz a) id, e.ob a _ h, e.reps r⟩
  | _ => exact e.rep h
theorem src_ne {H : Hp} {a : Addr} {o : HO} (h : H a = some o) : H a ≠ none := by
  rw [h]
  exact fun z => by cases z
/-- a list or a tuple as it stands -/
theorem i_seq (hK : X.K = S.Z.K) (ha : PE X a (tR S ma)) (hp : pks ma = pk ma) : PI X tg a (tI S ma) := by
  refine PI.imp (pi_seq ha) fun σ H Rk ⟨F, Fb, env, fr, q⟩ => ?_
  rw [ans_bind] at q
  refine ⟨F, Fb, env, fr, q.mono fun d hd v F1 H1 e r => ?_⟩
  rw [hK]
  unfold items at hd
  split at hd
  · obtain ⟨a, vs, rfl, f, h1, r1⟩ := r
    refine ⟨a, rfl, .inl ⟨⟨vs, .of h1⟩, hd _ F1 H1 (fun c => c = a) e (fun c hc => ?_) (walk_yl (walk_list (xs := vs)) r1.length.symm (fun H' k => .of (k a _ (.inr rfl) h1)) fun F' H' f1 f2 f3 i d x H'' hd y => yl_at r1 f1 f2 f3 hd y)⟩⟩
    subst hc
    rw [hp]
    exact ⟨f, src_ne h1⟩
  · obtain ⟨a, vs, rfl, f, h1, r1⟩ := r
    refine ⟨a, rfl, .inr ⟨⟨vs, .of h1⟩, hd _ F1 H1 (fun c => c = a) e (fun c hc => ?_) (walk_yl (walk_tup (xs := vs)) r1.length.symm (fun H' k => .of (k a _ (.inr rfl) h1)) fun F' H' f1 f2 f3 i d x H'' hd y => yl_at r1 f1 f2 f3 hd y)⟩⟩
    subst hc
    exact ⟨.inl f, e.th c f⟩
  · exact r.elim
  · exact hd.elim
/-! ### range -/
theorem rng_yl {Z : Wd} {lo hi : Int} {F : Fz} {H : Hp} : Yl Z (Itr lo (hi - lo).toNat) ((List.range (hi - lo).toNat).map fun (k : Nat) => D.int (lo + (k : Int))) F H fun _ => False := by
  refine walk_yl walk_range (by simp) (fun _ _ => trivial) fun F' H' f1 f2 f3 i d x H'' hd y => ?_
  obtain ⟨rfl, rfl⟩ := y
  refine ⟨F', Ext.refl f3, ?_⟩
  rw [List.getElem?_map] at hd
  obtain ⟨k, hk, rfl⟩ := Option.map_eq_some_iff.mp hd
  have := (List.getElem?_eq_some_iff.mp hk).2
  rw [List.getElem_range] at this
  subst this
  rfl
theorem small_of {i : Int} (h : small62 i = true) : -(2 ^ 62) ≤ i ∧ i < 2 ^ 62 := of_decide_eq_true h
theorem i_rng1 (hx : BltIs X "range") (ha : PE X a (tE S ma)) (hs : notStar a = true) : PI X tg (.Call (.Name "range" p) [a] [] pos) (tI S (.rng none ma none)) := by
  refine PI.imp (pi_range1 hx.gl hx.no (pa_cons (lent_of ha) pa_nil (star_cons hs)) (star_cons hs)) fun σ H Rk ⟨F, Fb, env, fr, q⟩ => ?_
  rw [evE, evR, R.bind_ok, ans_bind, ans_bind] at q
  refine one_l fr (q.mono fun x hx v F1 H1 e l => ?_)
  rw [ans_bind] at hx
  unfold intOf at hx
  split at hx
  · rename_i j
    have hx : Ans S σ F H (rngD 0 j) _ := hx
    unfold rngD at hx
    obtain ⟨z, hx⟩ := hx.ite
    rw [Bool.and_eq_true] at z
    have z2 := small_of z.2
    refine ⟨j, by rw [int_of l], z2.1, z2.2, ?_⟩
    have k := hx (Itr 0 (j - 0).toNat) F1 H1 _ e (fun _ z => z.elim) rng_yl
    rw [Int.sub_zero] at k
    exact k
  · exact hx.elim
theorem i_rng2 (hx : BltIs X "range") (ha : PE X a (tE S ma)) (hb : PE X b (tE S mb)) (hs : notStar a = true) (hs2 : notStar b = true) : PI X tg (.Call (.Name "range" p) [a, b] [] pos) (tI S (.rng (some ma) mb none)) := by
  refine PI.imp (pi_range2 hx.gl hx.no (pa_cons (lent_of ha) (pa_cons (lent_of hb) pa_nil (star_cons hs2)) (star_cons hs)) (by rw [star_cons hs, star_cons hs2]; rfl) (star_cons hs2)) fun σ H Rk ⟨F, Fb, env, fr, q⟩ => ?_
  rw [evE, evR, ans_bind, ans_bind, ans_bind] at q
  refine one_l fr (q.mono fun x hx v F1 H1 e l => ?_)
  unfold intOf at hx
  split at hx
  · rename_i i
    refine one_l (fr.ext e) (((ans_bind.mp hx).ext e).mono fun y hy u F2 H2 e2 l2 => ?_)
    rw [ans_bind] at hy
    split at hy
    · rename_i j
      have hy : Ans S σ F H (rngD i j) _ := hy
      unfold rngD at hy
      obtain ⟨z, hy⟩ := hy.ite
      rw [Bool.and_eq_true] at z
      have z1 := small_of z.1
      have z2 := small_of z.2
      have l1 : v = .int i := int_of l
      have l2 : u = .int j := int_of l2
      subst l1 l2
      exact ⟨i, j, rfl, ⟨z1.1, z1.2, z2.1, z2.2⟩, hy (Itr i (j - i).toNat) F2 H2 _ (e.trans e2) (fun _ z => z.elim) rng_yl⟩
    · exact hy.elim
  · exact hx.elim
/-! ### enumerate, zip -/
theorem enumL_get : ∀ (n : Nat) (ds : List D) (i : Nat), (enumL n ds)[i]? = ds[i]?.map fun d => D.tup [.int ((n + i : Nat) : Int), d]
  | _, [], i => by simp [enumL]
  | n, d :: ds, 0 => by simp [enumL]
  | n, d :: ds, i + 1 => by
    rw [enumL, List.getElem?_cons_succ, List.getElem?_cons_succ, enumL_get (n + 1) ds i, show n + 1 + i = n + (i + 1) by omega]
theorem enumL_length : ∀ (n : Nat) (ds : List D), (enumL n ds).length = ds.length
  | _, [] => rfl
  | n, d :: ds => by rw [enumL, List.length_cons, List.length_cons, enumL_length]
theorem pair_yl {Z : Wd} {F' : Fz} {H' : Hp} {d1 d2 : D} {x1 x2 : V} {T : Addr} (f3 : ∀ a, F' a → H' a ≠ none) (hT : H' T = none) (r1 : Rep Z F' H' d1 x1) (r2 : Rep Z F' H' d2 x2) :
    ∃ F'', Ext F' H' F'' (upd H' T (.tup [x1, x2])) ∧ Rep Z F'' (upd H' T (.tup [x1, x2])) (.tup [d1, d2]) (.ref T) := by
  obtain ⟨g, r⟩ := newT (Z := Z) (ds := [d1, d2]) (vs := [x1, x2]) (Ext.refl f3) hT ⟨x1, [x2], rfl, r1, x2, [], rfl, r2, rfl⟩
  exact ⟨_, g, r⟩
theorem i_enum {elts : List PySem.Expr} {kk : Nat} {tpos : Pos} (hK : X.K = S.Z.K) (hx : BltIs X "enumerate") (ha : PE X a (tR S ma)) (hs : notStar a = true) (hp : pks (.enum ma) = pk ma) : PI X (.Tuple elts kk tpos) (.Call (.Name "enumerate" p) [a] [] pos) (tI S (.enum ma)) := by
  refine PI.imp (pi_enum hx.gl hx.no (pa_cons ha pa_nil (star_cons hs)) (star_cons hs)) fun σ H Rk ⟨F, Fb, env, fr, q⟩ => ?_
  rw [evE, ans_bind, ans_bind] at q
  refine ⟨F, Fb, env, fr, q.mono fun d hd v F1 H1 e r => ?_⟩
  rw [hK]
  unfold enumD at hd
  split at hd
  · rename_i ds
    obtain ⟨a, vs, rfl, f, h1, r1⟩ := r
    have hd : ∀ (J : It) (F' : Fz) (H' : Hp) (L : Fz), Ext F H F' H' → (∀ a, L a → (F' a ∨ Fb a ∨ ∃ i, i ∈ pks (.enum ma) ∧ OwnAt env σ i a) ∧ H' a ≠ none) → Yl S.Z J (enumL 0 ds) F' H' L → Rk J H' := hd
    refine ⟨a, vs, rfl, .of h1, hd _ F1 H1 (fun c => c = a) e (fun c hc => ?_) (walk_yl (walk_enum (xs := vs)) (by rw [enumL_length, r1.length]) (fun H' k => .of (k a _ (.inr rfl) h1)) fun F' H' f1 f2 f3 i d x H'' hd y => ?_)⟩
    · subst hc
      rw [hp]
      exact ⟨f, src_ne h1⟩
    · obtain ⟨T, x1, x2, rfl, hT, rfl, y1, y2⟩ := y
      rw [enumL_get] at hd
      obtain ⟨d2, hd2, rfl⟩ := Option.map_eq_some_iff.mp hd
      have : x1 = .int (i : Nat) := (Option.some.inj y1).symm
      subst this
      rw [Nat.zero_add]
      exact pair_yl f3 hT rfl ((r1.get hd2 y2).mono f1 fun a o f h => f2 a o (.inl f) h)
  · exact hd.elim
theorem zipL_get : ∀ (ds es : List D) (i : Nat) (x : D), (zipL ds es)[i]? = some x → ∃ d e, x = .tup [d, e] ∧ ds[i]? = some d ∧ es[i]? = some e
  | [], _, i, x, h => by simp [zipL] at h
  | _ :: _, [], i, x, h => by simp [zipL] at h
  | d :: ds, e :: es, 0, x, h => by
    simp [zipL] at h
    exact ⟨d, e, h.symm, rfl, rfl⟩
  | d :: ds, e :: es, i + 1, x, h => by
    rw [zipL, List.getElem?_cons_succ] at h
    exact zipL_get ds es i x h
theorem zipL_length : ∀ (ds es : List D), (zipL ds es).length = min ds.length es.length
  | [], _ => by simp [zipL]
  | _ :: _, [] => by simp [zipL]
  | d :: ds, e :: es => by
    rw [zipL, List.length_cons, zipL_length, List.length_cons, List.length_cons]
    omega
theorem walk_zipT {K : PySem.W.Frag} {a b : Addr} {xs ys : List V} {n : Nat} (hn : n = min xs.length ys.length) : Walk (RZ.ItzT K a b) n (fun H => SqT K H a xs ∧ SqT K H b ys) (YPair (fun i => xs[i]?) (fun i => ys[i]?)) := by
  subst hn
  refine ⟨fun i _ hi q => ?_, fun _ q => ⟨xs, ys, q.1, q.2, by omega⟩, fun i H v H' _ q y => ?_⟩
  · have l1 : i < xs.length := by omega
    have l2 : i < ys.length := by omega
    exact ⟨xs, ys, xs[i], ys[i], q.1, q.2, List.getElem?_eq_getElem l1, List.getElem?_eq_getElem l2⟩
  · obtain ⟨T, x, z, g1, g2, g3, g4, g5⟩ := y
    exact ⟨T, x, z, g1, g2, g3, g4 _ q.1, g5 _ q.2⟩
theorem zip_yl {Z : Wd} {F1 : Fz} {H1 : Hp} {ds es : List D} {vs us : List V} {L : Fz} (r1 : Reps Z F1 H1 ds vs) (r2 : Reps Z F1 H1 es us) {F' : Fz} {H' : Hp} (f1 : ∀ a, F1 a → F' a) (f2 : ∀ a o, F1 a ∨ L a → H1 a = some o → H' a = some o) (f3 : ∀ a, F' a → H' a ≠ none)
    {i : Nat} {d : D} {x : V} {H'' : Hp} (hd : (zipL ds es)[i]? = some d) (y : YPair (fun i => vs[i]?) (fun i => us[i]?) i H' x H'') : ∃ F'', Ext F' H' F'' H'' ∧ Rep Z F'' H'' d x := by
  obtain ⟨T, x1, x2, rfl, hT, rfl, y1, y2⟩ := y
  obtain ⟨d1, d2, rfl, h1, h2⟩ := zipL_get ds es i d hd
  exact pair_yl f3 hT ((r1.get h1 y1).mono f1 fun a o f h => f2 a o (.inl f) h) ((r2.get h2 y2).mono f1 fun a o f h => f2 a o (.inl f) h)
theorem i_zip {elts : List PySem.Expr} {kk : Nat} {tpos : Pos} (hK : X.K = S.Z.K) (hx : BltIs X "zip") (ha : PE X a (tR S ma)) (hb : PE X b (tR S mb)) (hs : notStar a = true) (hs2 : notStar b = true) (hp : ∀ i, i ∈ pk ma ∨ i ∈ pk mb → i ∈ pks (.zip ma mb)) :
    PI X (.Tuple elts kk tpos) (.Call (.Name "zip" p) [a, b] [] pos) (tI S (.zip ma mb)) := by
  refine PI.imp (RZ.pi_zipA hx.gl hx.no (pa_cons ha (pa_cons hb pa_nil (star_cons hs2)) (star_cons hs)) (star_cons hs) (star_any (by rw [List.all_cons, hs2]; rfl))) fun σ H Rk ⟨F, Fb, env, fr, q⟩ => ?_
  rw [evE, ans_bind, ans_bind] at q
  refine ⟨F, Fb, env, fr, q.mono fun x hx v F1 H1 e1 r1 => ⟨F1, Fb, env, fr.ext e1, (((ans_bind.mp hx).ext e1).mono fun y hy u F2 H2 e2 r2 => ?_)⟩⟩
  rw [hK]
  have r3 := e2.src r1
  clear r1
  have e := e1.trans e2
  unfold zipD at hy
  split at hy
  · rename_i ds es
    obtain ⟨a, vs, rfl, f, h1, r1⟩ := r3
    obtain ⟨b, us, rfl, g, h2, r2⟩ := r2
    have hy : ∀ (J : It) (F' : Fz) (H' : Hp) (L : Fz), Ext F H F' H' → (∀ a, L a → (F' a ∨ Fb a ∨ ∃ i, i ∈ pks (.zip ma mb) ∧ OwnAt env σ i a) ∧ H' a ≠ none) → Yl S.Z J (zipL ds es) F' H' L → Rk J H' := hy
    refine ⟨a, b, vs, us, rfl, .inl ⟨.of h1, .of h2, hy _ F2 H2 (fun c => c = a ∨ c = b) e (fun c hc => ?_) (walk_yl (walk_zip (xs := vs) (ys := us) (by rw [← r1.length, ← r2.length, ← zipL_length])) rfl (fun H' k => ⟨.of (k a _ (.inr (.inl rfl)) h1), .of (k b _ (.inr (.inr rfl)) h2)⟩) fun F' H' f1 f2 f3 i d x H'' hd y => zip_yl r1 r2 f1 f2 f3 hd y)⟩⟩
    rcases hc with rfl | rfl
    · exact ⟨f.imp id fun z => z.imp id fun ⟨i, hi, o⟩ => ⟨i, hp i (.inl hi), o⟩, src_ne h1⟩
    · exact ⟨g.imp id fun z => z.imp id fun ⟨i, hi, o⟩ => ⟨i, hp i (.inr hi), o⟩, src_ne h2⟩
  · rename_i ds es
    obtain ⟨a, vs, rfl, f, h1, r1⟩ := r3
    obtain ⟨b, us, rfl, g, h2, r2⟩ := r2
    have hy : ∀ (J : It) (F' : Fz) (H' : Hp) (L : Fz), Ext F H F' H' → (∀ a, L a → (F' a ∨ Fb a ∨ ∃ i, i ∈ pks (.zip ma mb) ∧ OwnAt env σ i a) ∧ H' a ≠ none) → Yl S.Z J (zipL ds es) F' H' L → Rk J H' := hy
    refine ⟨a, b, vs, us, rfl, .inr ⟨.of h1, .of h2, hy _ F2 H2 (fun c => c = a ∨ c = b) e (fun c hc => ?_) (walk_yl (walk_zipT (xs := vs) (ys := us) (by rw [← r1.length, ← r2.length, ← zipL_length])) rfl (fun H' k => ⟨.of (k a _ (.inr (.inl rfl)) h1), .of (k b _ (.inr (.inr rfl)) h2)⟩) fun F' H' f1 f2 f3 i d x H'' hd y => zip_yl r1 r2 f1 f2 f3 hd y)⟩⟩
    rcases hc with rfl | rfl
    · exact ⟨.inl f, src_ne h1⟩
    · exact ⟨.inl g, src_ne h2⟩
  · exact hy.elim
end
end Mi
namespace Mi
open PySem L2
/-! ### comprehensions -/
/-- nothing may be raised -/
abbrev Sit.calm (S : Sit) : Sit := { S with W := fun _ _ _ _ => False }
def tTs (S : Sit) (ms : List E) : TT := fun σ H Q => ∃ F Fb env, Fr S.Z F Fb H σ env ∧ Ans S σ F H (evIfs S.Γ ms env) fun t => ∀ F' H', Ext F H F' H' → Q t H'
theorem PTs.imp {X : Cx} {e : List PySem.Expr} {t t' : TT} (h : PTs X e t) (i : ∀ σ H Q, t' σ H Q → t σ H Q) : PTs X e t' := ⟨fun pins s σ H Q I q => h.run pins s σ H Q I (i σ H Q q)⟩
section
variable {X : Cx} {S : Sit} {c : PySem.Expr} {mc : E}
theorem ts_nil : PTs X [] (tTs S []) := PTs.imp pts_nil fun σ H Q ⟨F, Fb, env, fr, q⟩ => q F H (Ext.refl fr.th)
theorem ts_one (h : PT X c (tT S mc)) : PTs X [c] (tTs S [mc]) := PTs.imp (pts_one h) fun σ H Q ⟨F, Fb, env, fr, q⟩ => ⟨F, Fb, env, fr, by
  rw [evIfs, ans_bind] at q
  rw [ans_bind]
  refine q.mono fun x hx => (ans_bind.mp hx).mono fun b hb => ?_
  cases b with
  | true => exact hb
  | false => exact hb⟩
end
section
variable {Z : Wd} {F Fb : Fz} {H : Hp} {σ : St} {env : Env}
theorem wipe_len : ∀ (l : List Nat) (env : Env), (wipe env l).length = env.length
  | [], _ => rfl
  | i :: r, env => by rw [wipe, List.length_set, wipe_len r]
theorem gt_wipe : ∀ (l : List Nat) (env : Env) (j : Nat), gt (wipe env l) j = if j ∈ l then .un else gt env j
  | [], env, j => by simp [wipe]
  | i :: r, env, j => by
    rw [wipe]
    by_cases hi : i < (wipe env r).length
    · rw [gt_set hi, gt_wipe r]
      by_cases e : i = j
      · simp [e]
      · rw [if_neg e]
        simp [Ne.symm e]
    · rw [set_none hi, gt_wipe r]
      by_cases e : i = j
      · subst e
        have : gt env i = .un := gt_none (by rw [wipe_len] at hi; exact hi)
        simp [this]
      · simp [Ne.symm e]
theorem Fr.wipe (h : Fr Z F Fb H σ env) (l : List Nat) : Fr Z F Fb H (L2.wipe σ l) (Mi.wipe env l) := by
  have at_ : ∀ (l : List Nat) (j : Nat), j ∉ l → (L2.wipe σ l)[j]? = σ[j]? := fun l j hj => wipe_out hj
  refine ⟨by rw [wipe_len, wipe_length, h.len], h.th, h.thb, fun j => ?_, fun j k a h1 h2 => ?_⟩
  · rw [gt_wipe]
    by_cases e : j ∈ l
    · rw [if_pos e]
      trivial
    · rw [if_neg e, at_ l j e]
      exact h.sl j
  · have go : ∀ j, OwnAt (Mi.wipe env l) (L2.wipe σ l) j a → OwnAt env σ j a := fun j ⟨⟨d, hd⟩, hv⟩ => by
      rw [gt_wipe] at hd
      by_cases e : j ∈ l
      · rw [if_pos e] at hd
        cases hd
      · rw [if_neg e] at hd
        rw [at_ l j e] at hv
        exact ⟨⟨d, hd⟩, hv⟩
    exact h.sep j k a (go j h1) (go k h2)
theorem wipe_get : ∀ (l : List Nat) (σ : St) (j : Nat), (L2.wipe σ l)[j]? = if j ∈ l ∧ j < σ.length then some none else σ[j]?
  | [], σ, j => by simp [L2.wipe]
  | i :: r, σ, j => by
    rw [L2.wipe]
    by_cases e : i = j
    · subst e
      by_cases hi : i < σ.length
      · rw [List.getElem?_set_self (by rw [wipe_length]; exact hi)]
        simp [hi]
      · rw [List.set_eq_of_length_le (by rw [wipe_length]; omega), wipe_get r]
        simp [hi]
    · rw [List.getElem?_set_ne e, wipe_get r]
      simp [Ne.symm e]
theorem wipe_eq {l : List Nat} {σ σ2 : St} (hl : σ2.length = (L2.wipe σ l).length) (h : ∀ i, i ∉ l → σ2[i]? = (L2.wipe σ l)[i]?) : L2.wipe σ2 l = L2.wipe σ l := by
  refine List.ext_getElem? fun j => ?_
  rw [wipe_length] at hl
  by_cases e : j ∈ l
  · rw [wipe_get, wipe_get, hl]
    by_cases z : j < σ.length
    · rw [if_pos ⟨e, z⟩, if_pos ⟨e, z⟩]
    · rw [if_neg fun q => z q.2, if_neg fun q => z q.2, List.getElem?_eq_none (by omega), List.getElem?_eq_none (by omega)]
  · rw [wipe_out e, h j e]
end
mutual
theorem bindT_not : ∀ (t : Tgt) (x : D) (env env' : Env) (i : Nat) (d : Slot), bindT t x env = .ok env' → gt env' i = d → (d ≠ .un ∧ ∀ y, d ≠ .frz y) → gt env i = d ∧ i ∉ tslots t
  | .nm j, x, env, env', i, d, h, g, n => by
    rw [bindT] at h
    cases h
    rw [tslots]
    by_cases hj : j < env.length
    · rw [gt_set hj] at g
      by_cases e : j = i
      · rw [if_pos e] at g
        exact absurd g.symm (n.2 _)
      · rw [if_neg e] at g
        exact ⟨g, by simp [Ne.symm e]⟩
    · rw [set_none hj] at g
      refine ⟨g, fun z => ?_⟩
      rw [List.mem_singleton.mp z, gt_none hj] at g
      exact n.1 g.symm
  | .tup ts, .tup xs, env, env', i, d, h, g, n => by
    rw [bindT] at h
    rw [tslots]
    exact bindTs_not ts xs env env' i d h g n
  | .tup ts, .non, _, _, _, _, h, _, _ => by simp [bindT] at h
  | .tup ts, .bl _, _, _, _, _, h, _, _ => by simp [bindT] at h
  | .tup ts, .int _, _, _, _, _, h, _, _ => by simp [bindT] at h
  | .tup ts, .str _, _, _, _, _, h, _, _ => by simp [bindT] at h
  | .tup ts, .lst _, _, _, _, _, h, _, _ => by simp [bindT] at h
  | .tup ts, .dct _ _, _, _, _, _, h, _, _ => by simp [bindT] at h
  | .tup ts, .ins _ _ _, _, _, _, _, h, _, _ => by simp [bindT] at h
  | .tup ts, .scr _, _, _, _, _, h, _, _ => by simp [bindT] at h
  | .tup ts, .itr _, _, _, _, _, h, _, _ => by simp [bindT] at h
theorem bindTs_not : ∀ (t : List Tgt) (x : List D) (env env' : Env) (i : Nat) (d : Slot), bindTs t x env = .ok env' → gt env' i = d → (d ≠ .un ∧ ∀ y, d ≠ .frz y) → gt env i = d ∧ i ∉ tslotsL t
  | [], [], env, env', i, d, h, g, _ => by
    rw [bindTs] at h
    cases h
    exact ⟨g, by simp [tslotsL]⟩
  | [], _ :: _, _, _, _, _, h, _, _ => by simp [bindTs] at h
  | _ :: _, [], _, _, _, _, h, _, _ => by simp [bindTs] at h
  | t :: ts, x :: xs, env, env', i, d, h, g, n => by
    rw [bindTs] at h
    cases b1 : bindT t x env with
    | ok env1 =>
      rw [b1, R.bind_ok] at h
      obtain ⟨g1, n1⟩ := bindTs_not ts xs env1 env' i d h g n
      obtain ⟨g2, n2⟩ := bindT_not t x env env1 i d b1 g1 n
      refine ⟨g2, ?_⟩
      rw [tslotsL, List.mem_append, not_or]
      exact ⟨n2, n1⟩
    | exc z => rw [b1] at h; cases h
    | bad => rw [b1] at h; cases h
end
theorem bindT_own (t : Tgt) (x : D) (env env' : Env) (i : Nat) (d : D) (h : bindT t x env = .ok env') (g : gt env' i = .own d) : gt env i = .own d ∧ i ∉ tslots t := bindT_not t x env env' i _ h g ⟨(fun z => by cases z), (fun _ z => by cases z)⟩
theorem nox_ok {α : Type} {S : Sit} {σ : St} {F : Fz} {H : Hp} {r : R α} {k : α → Prop} (h : Ans S σ F H r.nox k) : ∃ a, r = .ok a ∧ k a := by
  cases r with
  | ok a => exact ⟨a, rfl, h⟩
  | exc x => exact h.elim
  | bad => exact h.elim
theorem map_ok {α β : Type} {r : R α} {f : α → β} {b : β} (h : r.map f = .ok b) : ∃ a, r = .ok a ∧ f a = b := by
  cases r with
  | ok a => exact ⟨a, rfl, R.ok.inj h⟩
  | exc x => cases h
  | bad => cases h
theorem bnd_ok {α β : Type} {r : R α} {f : α → R β} {b : β} (h : r.bind f = .ok b) : ∃ a, r = .ok a ∧ f a = .ok b := by
  cases r with
  | ok a => exact ⟨a, rfl, h⟩
  | exc x => cases h
  | bad => cases h
theorem ok_ans {α : Type} {S : Sit} {σ : St} {F : Fz} {H : Hp} {r : R α} {a : α} {k : α → Prop} (e : r = .ok a) (h : k a) : Ans S σ F H r k := by
  rw [e]
  exact h
theorem drop_at {α : Type} {l : List α} {i : Nat} (h : i < l.length) : l.drop i = l[i] :: l.drop (i + 1) := by
  rw [List.drop_eq_getElem_cons h]
section
variable {F F1 F4 : Fz} {H H1 H4 : Hp} {Z : Wd}
/-- a new list of our own is lengthened -/
theorem Ext.grow (e : Ext F1 H1 F4 H4) {p : Addr} (h1 : H1 p = none) (hf : ¬ F4 p) {o : HO} : Ext F1 H1 F4 (upd H4 p o) := by
  refine ⟨fun a u z => ?_, e.fz, e.nw, fun a f => ?_⟩
  · rw [upd_ne (ne_of_none z h1)]
    exact e.ob a u z
  · rw [upd_ne (fun z => hf (by rw [← z]; exact f))]
    exact e.th a f
theorem reps_upd {p : Addr} {o : HO} {ds : List D} {vs : List V} (hf : ¬ F p) (r : Reps Z F H ds vs) : Reps Z F (upd H p o) ds vs := r.mono (fun _ f => f) fun a u f z => by
  rw [upd_ne (fun q => hf (by rw [← q]; exact f))]
  exact z
end
theorem some_ne {H : Hp} {a : Addr} {o : HO} (h : H a = some o) : H a ≠ none := by
  rw [h]
  exact fun z => by cases z
theorem not_new {F F1 : Fz} {H H1 : Hp} {p : Addr} {o : HO} (e : Ext F H F1 H1) (h : H p = some o) (hf : ¬ F p) : ¬ F1 p := fun f => (e.nw p f).elim hf (some_ne h)
theorem Fr.updp {Z : Wd} {F Fb : Fz} {H : Hp} {σ : St} {env : Env} {p : Addr} {o : HO} (h : Fr Z F Fb H σ env) (hf : ¬ F p) (hb : ¬ Fb p) (ho : ∀ i, ¬ OwnAt env σ i p) : Fr Z F Fb (upd H p o) σ env := by
  have th : ∀ a, H a ≠ none → upd H p o a ≠ none := fun a k => by
    by_cases e : a = p
    · rw [e, upd_same]
      exact fun z => by cases z
    · rw [upd_ne e]
      exact k
  have mo : ∀ a u, F a → H a = some u → upd H p o a = some u := fun a u f z => by
    rw [upd_ne (fun q => hf (by rw [← q]; exact f))]
    exact z
  refine ⟨h.len, fun a f => th a (h.th a f), fun a f => th a (h.thb a f), fun i => ?_, h.sep⟩
  have q := h.sl i
  unfold SlotOk at q ⊢
  split
  · trivial
  · rename_i d hd
    rw [hd] at q
    obtain ⟨v, e1, r⟩ := q
    exact ⟨v, e1, r.mono (fun _ f => f) mo⟩
  · rename_i d hd
    rw [hd] at q
    obtain ⟨v, e1, r⟩ := q
    refine ⟨v, e1, ?_⟩
    cases d with
    | lst ds =>
      obtain ⟨a, vs, e2, f, z, r⟩ := r
      refine ⟨a, vs, e2, f, ?_, r.mono (fun _ f => f) mo⟩
      rw [upd_ne (fun q => by subst q; exact f.elim hf hb)]
      exact z
    | _ => exact Rep.mono (fun _ f => f) mo _ _ r
  · rename_i d hd
    rw [hd] at q
    obtain ⟨a, e1, n1, n2, r⟩ := q
    refine ⟨a, e1, n1, n2, ?_⟩
    cases d with
    | lst ds =>
      obtain ⟨vs, z, r⟩ := r
      refine ⟨vs, ?_, r.mono (fun _ f => f) mo⟩
      rw [upd_ne (fun q => by subst q; exact ho i ⟨⟨_, hd⟩, e1⟩)]
      exact z
    | _ => exact r.elim
  · rename_i x hx
    rw [hx] at q
    obtain ⟨a, dd, e1, z, r⟩ := q
    exact ⟨a, dd, e1, z, r.mono (fun _ f => f) mo⟩
/-- a new list's turns: where the loop stands -/
def Turn (Z : Wd) (F1 : Fz) (H1 : Hp) (p : Addr) (k : List D → Prop) (H' : Hp) : Prop :=
  ∃ (F' : Fz) (acc : List V) (dn : List D), Ext F1 H1 F' H' ∧ ¬ F' p ∧ H' p = some (.lst acc) ∧ Reps Z F' H' dn acc ∧ k dn
section
variable {X : Cx} {S : Sit}
theorem lc_imp {me mi : E} {mifs : List E} {t : Tgt} {vs : List Nat} {σ : St} {H : Hp} {Q : VK} (hw : ∀ i ∈ tslots t, i ∈ vs) (q : tE S (.comp me t mi mifs vs) σ H Q) : tLc (tI S mi) (gT S.calm t) (tTs S.calm mifs) (tF S.calm me) vs σ H Q := by
  obtain ⟨F, Fb, env, fr, q⟩ := q
  rw [evE, ans_bind] at q
  refine ⟨F, Fb, env, fr, ans_bind.mpr (q.mono fun s hs => (ans_bind.mp hs).mono fun ds hq J F1 H1 L e hL yl p hp => ?_)⟩
  rw [ans_bind] at hq
  obtain ⟨ys, ey, hq⟩ := nox_ok hq
  unfold made at hq
  obtain ⟨hz, hq⟩ := hq.ite
  have hq : ∀ v F' H', Ext F H F' H' → Post S.Z .fresh F' H H' (.lst ys) v → Q v H' := hq
  have hz := line_le hz
  have h1p : ¬ F1 p := fun f => e.th p f hp
  refine ⟨fun i m H' => m + i = ds.length ∧ Turn S.Z F1 H1 p (fun dn => ∃ rest, compL (fun x => bindT t x (Mi.wipe env vs)) (evIfs S.Γ mifs) (evE S.Γ me) (ds.drop i) = .ok rest ∧ ys = dn ++ rest) H',
    ⟨ds.length, rfl, F1, [], [], Ext.new e.th hp, h1p, upd_same, rfl, ys, ey, rfl⟩, ?_⟩
  rintro i m H2 ⟨hm, F2, acc, dn, e2, n2, h2, r2, rest, er, rfl⟩
  have y2 := yl F2 H2 e2.fz (fun a o _ h => e2.ob a o h) e2.th
  by_cases hi : i < ds.length
  · obtain ⟨go, yd⟩ := y2.1 i ds[i] (List.getElem?_eq_getElem hi)
    rw [drop_at hi, compL] at er
    obtain ⟨e1, eb, er⟩ := bnd_ok er
    obtain ⟨b, et, er⟩ := bnd_ok er
    refine .inr ⟨go, Turn S.Z F1 H1 p (fun dn' => ∃ rest', compL (fun x => bindT t x (Mi.wipe env vs)) (evIfs S.Γ mifs) (evE S.Γ me) (ds.drop (i + 1)) = .ok rest' ∧ dn ++ rest = dn' ++ rest'), fun H' nx => ⟨m - 1, by omega, by omega, nx⟩, fun x H3 y => ?_⟩
    obtain ⟨F3, e3, r3⟩ := yd x H3 y
    refine ⟨F3, Fb, Mi.wipe env vs, ds[i], e1, (((fr.ext e).ext e2).ext e3).wipe vs, r3, eb, fun σ' fr' len keep => ⟨wipe_eq len fun j hj => keep j fun z => hj (hw j z), F3, Fb, e1, fr', ok_ans et fun F4 H4 e4 => ?_⟩⟩
    cases b with
    | false =>
      have er : compL _ _ _ _ = R.ok rest := er
      exact ⟨F4, acc, dn, (e2.trans e3).trans e4, not_new (e3.trans e4) h2 n2, (e3.trans e4).ob _ _ h2, (e3.trans e4).reps r2, rest, er, rfl⟩
    | true =>
      obtain ⟨w, ew, er⟩ := bnd_ok er
      obtain ⟨rest', er', rfl⟩ := map_ok er
      refine ⟨F4, Fb, e1, fr'.ext e4, ok_ans ew fun v F5 H5 e5 r5 => ?_⟩
      have g := (e3.trans e4).trans e5
      have n5 := not_new g h2 n2
      have h5 := g.ob _ _ h2
      have r6 := g.reps r2
      refine ⟨acc, h5, ?_, F5, acc ++ [v], dn ++ [w], (e2.trans g).grow hp n5, n5, upd_same, reps_upd n5 (r6.snoc r5), rest', er', by simp⟩
      have := r2.length
      simp at hz
      omega
  · have : i = ds.length := by omega
    subst this
    refine .inl ⟨y2.2, ?_⟩
    rw [List.drop_of_length_le (Nat.le_refl _), compL] at er
    cases er
    rw [List.append_nil] at hq
    exact hq (.ref p) F2 H2 (e.trans e2) ⟨p, rfl, e.back hp, n2, acc, h2, r2⟩
theorem lc2_imp {me mi mi1 : E} {mifs1 : List E} {t t1 : Tgt} {vs vs1 : List Nat} {σ : St} {H : Hp} {Q : VK} (hw : ∀ i ∈ tslots t, i ∈ vs) (hw1 : ∀ i ∈ tslots t1, i ∈ vs1) (q : tE S (.comp2 me t mi t1 mi1 mifs1 vs vs1) σ H Q) :
    tLc2 (tI S mi) (gT S.calm t) (tTs S.calm []) (tI S.calm mi1) (gT S.calm t1) (tTs S.calm mifs1) (tF S.calm me) vs vs1 σ H Q := by
  obtain ⟨F, Fb, env, fr, q⟩ := q
  rw [evE, ans_bind] at q
  refine ⟨F, Fb, env, fr, ans_bind.mpr (q.mono fun s hs => (ans_bind.mp hs).mono fun ds hq J F1 H1 L e hL yl p hp => ?_)⟩
  rw [ans_bind] at hq
  obtain ⟨ys, ey, hq⟩ := nox_ok hq
  unfold made at hq
  obtain ⟨hz, hq⟩ := hq.ite
  have hq : ∀ v F' H', Ext F H F' H' → Post S.Z .fresh F' H H' (.lst ys) v → Q v H' := hq
  have hz := line_le hz
  have h1p : ¬ F1 p := fun f => e.th p f hp
  generalize hin : (fun e => (evE S.Γ mi1 e).bind fun s1 => (items s1).bind fun ys => compL (fun y => bindT t1 y (Mi.wipe e vs1)) (evIfs S.Γ mifs1) (evE S.Γ me) ys) = inner at ey
  refine ⟨fun i m H' => m + i = ds.length ∧ Turn S.Z F1 H1 p (fun dn => ∃ rest, compL2 (fun x => bindT t x (Mi.wipe env vs)) inner (ds.drop i) = .ok rest ∧ ys = dn ++ rest) H',
    ⟨ds.length, rfl, F1, [], [], Ext.new e.th hp, h1p, upd_same, rfl, ys, ey, rfl⟩, ?_⟩
  rintro i m H2 ⟨hm, F2, acc, dn, e2, n2, h2, r2, rest, er, rfl⟩
  have y2 := yl F2 H2 e2.fz (fun a o _ h => e2.ob a o h) e2.th
  by_cases hi : i < ds.length
  · obtain ⟨go, yd⟩ := y2.1 i ds[i] (List.getElem?_eq_getElem hi)
    rw [drop_at hi, compL2] at er
    obtain ⟨e1, eb, er⟩ := bnd_ok er
    obtain ⟨zs, ez, er⟩ := bnd_ok er
    obtain ⟨rest', er', rfl⟩ := map_ok er
    refine .inr ⟨go, Turn S.Z F1 H1 p (fun dn' => ∃ rest'', compL2 (fun x => bindT t x (Mi.wipe env vs)) inner (ds.drop (i + 1)) = .ok rest'' ∧ dn ++ (zs ++ rest') = dn' ++ rest''), fun H' nx => ⟨m - 1, by omega, by omega, nx⟩, fun x H3 y => ?_⟩
    obtain ⟨F3, e3, r3⟩ := yd x H3 y
    refine ⟨F3, Fb, Mi.wipe env vs, ds[i], e1, (((fr.ext e).ext e2).ext e3).wipe vs, r3, eb, fun σ' fr' len keep => ⟨wipe_eq len fun j hj => keep j fun z => hj (hw j z), F3, Fb, e1, fr', ?_⟩⟩
    refine ok_ans (a := true) rfl fun F4 H4 e4 => ?_
    show ite _ _ _
    rw [if_pos rfl]
    rw [← hin] at ez
    obtain ⟨s1, es1, ez⟩ := bnd_ok ez
    obtain ⟨es, ees, ez⟩ := bnd_ok ez
    refine ⟨F4, Fb, e1, fr'.ext e4, ok_ans (a := es) (by rw [es1, R.bind_ok]; exact ees) fun J1 F5 H5 L1 e5 hL1 yl1 => ?_⟩
    have g := (e3.trans e4).trans e5
    have n5 := not_new g h2 n2
    have h5 := g.ob _ _ h2
    have r5 := g.reps r2
    have nb : ¬ Fb p := fun z => (fr.ext e).thb p z hp
    have no : ∀ i, ¬ OwnAt e1 σ' i p := fun i ⟨⟨d, gd⟩, z⟩ => by
      obtain ⟨gd, nt⟩ := bindT_own t _ _ _ i d eb gd
      rw [gt_wipe] at gd
      have nv : i ∉ vs := fun k => by
        rw [if_pos k] at gd
        cases gd
      rw [if_neg nv] at gd
      rw [keep i nt, wipe_out nv] at z
      have q := (fr.ext e).sl i
      rw [gd, z] at q
      obtain ⟨a', ea, _, _, o⟩ := q
      cases ea
      exact o.there hp
    obtain ⟨P, hP⟩ : ∃ P : Nat → Hp → Prop, P = fun j H' => ∃ (F' : Fz) (acc' : List V) (dn' : List D), Ext F1 H1 F' H' ∧ (∀ a, F5 a → F' a) ∧ (∀ a o, a ≠ p → H5 a = some o → H' a = some o) ∧ Fr S.Z F' Fb H' σ' e1 ∧ ¬ F' p ∧ H' p = some (.lst acc') ∧ Reps S.Z F' H' dn' acc' ∧
        ∃ rest'', compL (fun y => bindT t1 y (Mi.wipe e1 vs1)) (evIfs S.Γ mifs1) (evE S.Γ me) (es.drop j) = .ok rest'' ∧ dn ++ zs = dn' ++ rest'' := ⟨_, rfl⟩
    refine ⟨fun j k H' => k + j = es.length ∧ P j H', ⟨es.length, rfl, by
      rw [hP]
      exact ⟨F5, acc, dn, e2.trans g, fun _ f => f, fun _ _ _ h => h, (fr'.ext e4).ext e5, n5, h5, r5, zs, ez, rfl⟩⟩, ?_⟩
    rintro j k H6 ⟨hk, pj⟩
    have pj' := pj
    rw [hP] at pj'
    obtain ⟨F6, acc', dn', e6, f6, b6, fr6, n6, h6, r6, rest6, er6, eq6⟩ := pj'
    have hLp : ∀ a, L1 a → a ≠ p := fun a l => by
      rintro rfl
      rcases (hL1 a l).1 with z | z | ⟨i, _, z⟩
      · exact n5 z
      · exact nb z
      · exact no i z
    have y6 := yl1 F6 H6 f6 (fun a o fl h => b6 a o (by
      rcases fl with f | l
      · rintro rfl
        exact n5 f
      · exact hLp a l) h) e6.th
    by_cases hj : j < es.length
    · obtain ⟨go1, yd1⟩ := y6.1 j es[j] (List.getElem?_eq_getElem hj)
      rw [drop_at hj, compL] at er6
      obtain ⟨e7, eb7, er6⟩ := bnd_ok er6
      obtain ⟨b, et, er6⟩ := bnd_ok er6
      refine .inr ⟨go1, P (j + 1), fun H' nx => ⟨k - 1, by omega, by omega, nx⟩, fun x1 H7 y7 => ?_⟩
      obtain ⟨F7, x7, r7⟩ := yd1 x1 H7 y7
      refine ⟨F7, Fb, Mi.wipe e1 vs1, es[j], e7, (fr6.ext x7).wipe vs1, r7, eb7, fun σ3 fr3 len3 keep3 => ⟨wipe_eq len3 fun j hj => keep3 j fun z => hj (hw1 j z), F7, Fb, e7, fr3, ok_ans et fun F8 H8 x8 => ?_⟩⟩
      cases b with
      | false =>
        have er6 : compL _ _ _ _ = R.ok rest6 := er6
        show P (j + 1) H8
        rw [hP]
        have g := x7.trans x8
        exact ⟨F8, acc', dn', e6.trans g, fun a f => g.fz a (f6 a f), fun a o n h => g.ob a o (b6 a o n h), fr6.ext g, not_new g h6 n6, g.ob _ _ h6, g.reps r6, rest6, er6, eq6⟩
      | true =>
        obtain ⟨w, ew, er6⟩ := bnd_ok er6
        obtain ⟨rest7, er7, rfl⟩ := map_ok er6
        refine ⟨F8, Fb, e7, fr3.ext x8, ok_ans ew fun v F9 H9 x9 r9 => ?_⟩
        have g := (x7.trans x8).trans x9
        have n9 := not_new g h6 n6
        have h9 := g.ob _ _ h6
        have r10 := g.reps r6
        refine ⟨acc', h9, ?_, ?_⟩
        · have := r6.length
          have q := congrArg List.length eq6
          simp at hz q
          omega
        · rw [hP]
          refine ⟨F9, acc' ++ [v], dn' ++ [w], (e6.trans g).grow hp n9, fun a f => g.fz a (f6 a f), fun a o n h => ?_, (fr6.ext g).updp n9 nb no, n9, upd_same, reps_upd n9 (r10.snoc r9), rest7, er7, by rw [eq6]; simp⟩
          rw [upd_ne n]
          exact g.ob a o (b6 a o n h)
    · have : j = es.length := by omega
      subst this
      refine .inl ⟨y6.2, ?_⟩
      rw [List.drop_of_length_le (Nat.le_refl _), compL] at er6
      cases er6
      rw [List.append_nil] at eq6
      exact ⟨F6, acc', dn', e6, n6, h6, r6, rest', er', by rw [← eq6, List.append_assoc]⟩
  · have : i = ds.length := by omega
    subst this
    refine .inl ⟨y2.2, ?_⟩
    rw [List.drop_of_length_le (Nat.le_refl _), compL2] at er
    cases er
    rw [List.append_nil] at hq
    exact hq (.ref p) F2 H2 (e.trans e2) ⟨p, rfl, e.back hp, n2, acc, h2, r2⟩
end
section
variable {X : Cx} {S : Sit} {elt tg iter tg1 iter1 : PySem.Expr} {ifs ifs1 : List PySem.Expr} {scope : Scope} {own : List (Str × Nat)} {pos : Pos} {me mi mi1 : E} {mifs mifs1 : List E} {t t1 : Tgt} {vs1 : List Nat}
theorem s_comp (hc : X.calm = true) (hN : X.N.Nodup) (hi : PI X tg iter (tI S mi)) (ok : BlkOk X.N X.env.scope scope own) (hw : ∀ i ∈ tslots t, i ∈ own.map (·.2))
    (hg : ∀ (s : Shared) (H : Hp) (C : Addr) (cl : List (Str × Addr)) (fp : List Addr), PG (X.blk s H scope (compEnvC scope cl C X.env) fp) tg (gT S.calm t)) (ht : ∀ (s : Shared) (H : Hp) (C : Addr) (cl : List (Str × Addr)) (fp : List Addr), PTs (X.blk s H scope (compEnvC scope cl C X.env) fp) ifs (tTs S.calm mifs))
    (he : ∀ (s : Shared) (H : Hp) (C : Addr) (cl : List (Str × Addr)) (fp : List Addr), PE (X.blk s H scope (compEnvC scope cl C X.env) fp) elt (tF S.calm me)) (hs : ∀ x, foldedSetIterable iter X.env x = pure x) :
    PE X (.ListComp elt [⟨tg, iter, ifs, 0⟩] scope pos) (tE S (.comp me t mi mifs (own.map (·.2)))) := PE.imp (pe_lc hc hN hi ok hg ht he hs) fun _ _ _ q => lc_imp hw q
theorem s_comp2 (hc : X.calm = true) (hN : X.N.Nodup) (hi : PI X tg iter (tI S mi)) (ok : BlkOk X.N X.env.scope scope own) (hv : ∀ i ∈ vs1, i ∈ own.map (·.2)) (hw : ∀ i ∈ tslots t, i ∈ own.map (·.2)) (hw1 : ∀ i ∈ tslots t1, i ∈ vs1)
    (hg : ∀ (s : Shared) (H : Hp) (C : Addr) (cl : List (Str × Addr)) (fp : List Addr), PG (X.blk s H scope (compEnvC scope cl C X.env) fp) tg (gT S.calm t)) (ht : ∀ (s : Shared) (H : Hp) (C : Addr) (cl : List (Str × Addr)) (fp : List Addr), PTs (X.blk s H scope (compEnvC scope cl C X.env) fp) [] (tTs S.calm []))
    (hi1 : ∀ (s : Shared) (H : Hp) (C : Addr) (cl : List (Str × Addr)) (fp : List Addr), PI (X.blk s H scope (compEnvC scope cl C X.env) fp) tg1 iter1 (tI S.calm mi1))
    (hg1 : ∀ (s : Shared) (H : Hp) (C : Addr) (cl : List (Str × Addr)) (fp : List Addr), PG (X.blk s H scope (compEnvC scope cl C X.env) fp) tg1 (gT S.calm t1)) (ht1 : ∀ (s : Shared) (H : Hp) (C : Addr) (cl : List (Str × Addr)) (fp : List Addr), PTs (X.blk s H scope (compEnvC scope cl C X.env) fp) ifs1 (tTs S.calm mifs1))
    (he : ∀ (s : Shared) (H : Hp) (C : Addr) (cl : List (Str × Addr)) (fp : List Addr), PE (X.blk s H scope (compEnvC scope cl C X.env) fp) elt (tF S.calm me)) (hs : ∀ x, foldedSetIterable iter X.env x = pure x) (hs1 : ∀ env x, foldedSetIterable iter1 env x = pure x) :
    PE X (.ListComp elt [⟨tg, iter, [], 0⟩, ⟨tg1, iter1, ifs1, 0⟩] scope pos) (tE S (.comp2 me t mi t1 mi1 mifs1 (own.map (·.2)) vs1)) := PE.imp (pe_lc2 hc hN hi ok hv hg ht hi1 hg1 ht1 he hs hs1) fun _ _ _ q => lc2_imp hw hw1 q
end
end Mi
namespace Mi
open PySem L2
/-! ### statements -/
structure Step (F Fb : Fz) (H : Hp) (F' : Fz) (H' : Hp) : Prop where
  ob : ∀ a o, F a ∨ Fb a → H a = some o → H' a = some o
  fz : ∀ a, F a → F' a
  nw : ∀ a, F' a → F a ∨ ¬ Fb a
  th : ∀ a, F' a → H' a ≠ none
section
variable {Z : Wd} {F F1 F2 Fb : Fz} {H H1 H2 : Hp} {σ σ1 σ2 : St} {env env1 env2 : Env}
theorem Step.trans (a : Step F Fb H F1 H1) (b : Step F1 Fb H1 F2 H2) : Step F Fb H F2 H2 :=
  ⟨fun x o f h => b.ob x o (f.imp (a.fz x) id) (a.ob x o f h), fun x f => b.fz x (a.fz x f), fun x f => (b.nw x f).elim (a.nw x) .inr, b.th⟩
theorem Ext.step (e : Ext F H F1 H1) (h : ∀ a, Fb a → H a ≠ none) : Step F Fb H F1 H1 :=
  ⟨fun a o _ q => e.ob a o q, e.fz, fun a f => (e.nw a f).imp id fun z b => h a b z, e.th⟩
theorem Step.rep (e : Step F Fb H F1 H1) {d : D} {v : V} (r : Rep Z F H d v) : Rep Z F1 H1 d v := r.mono e.fz fun a o f h => e.ob a o (.inl f) h
structure Go (Z : Wd) (F Fb : Fz) (H : Hp) (σ : St) (env : Env) (σ' : St) (F' : Fz) (H' : Hp) (env' : Env) : Prop where
  st : Step F Fb H F' H'
  fr : Fr Z F' Fb H' σ' env'
  bk : ∀ i d, gt env' i = .bor d → gt env i = .bor d ∧ σ'[i]? = σ[i]?
theorem Go.trans (a : Go Z F Fb H σ env σ1 F1 H1 env1) (b : Go Z F1 Fb H1 σ1 env1 σ2 F2 H2 env2) : Go Z F Fb H σ env σ2 F2 H2 env2 :=
  ⟨a.st.trans b.st, b.fr, fun i d h => by
    obtain ⟨h1, e1⟩ := b.bk i d h
    obtain ⟨h2, e2⟩ := a.bk i d h1
    exact ⟨h2, e1.trans e2⟩⟩
theorem Fr.go (fr : Fr Z F Fb H σ env) (e : Ext F H F1 H1) : Go Z F Fb H σ env σ F1 H1 env := ⟨e.step fr.thb, fr.ext e, fun _ _ h => ⟨h, rfl⟩⟩
theorem Fr.self (fr : Fr Z F Fb H σ env) : Go Z F Fb H σ env σ F H env := fr.go (Ext.refl fr.th)
end
def RetOk (Z : Wd) (own : Bool) (F' Fb : Fz) (H' : Hp) (d : D) (v : V) : Prop :=
  if own && isMut d then ∃ a, v = .ref a ∧ ¬ F' a ∧ ¬ Fb a ∧ Own Z F' H' d a else Rep Z F' H' d v
def Fin (S : Sit) (F Fb : Fz) (H : Hp) (σ : St) (env : Env) (D : Ends) : Out → Prop
  | .nx e => ∀ σ' F' H', Go S.Z F Fb H σ env σ' F' H' e → D.nx σ' H'
  | .bk e => ∀ σ' F' H', Go S.Z F Fb H σ env σ' F' H' e → D.bk σ' H'
  | .ct e => ∀ σ' F' H', Go S.Z F Fb H σ env σ' F' H' e → D.ct σ' H'
  | .ret d own => ∀ v F' H', Step F Fb H F' H' → RetOk S.Z own F' Fb H' d v → D.rt v H'
  | .exc x e => ∀ cls dd σ' F' H', Go S.Z F Fb H σ env σ' F' H' e → XRep S.Z F' H' x cls dd → S.W cls dd σ' H'
  | .bad => False
def tS (S : Sit) (m : Mi.S) : TS := fun D σ H => ∃ F Fb env, Fr S.Z F Fb H σ env ∧ Fin S F Fb H σ env D (evS S.Γ m env)
def tSs (S : Sit) (ms : List Mi.S) : TS := fun D σ H => ∃ F Fb env, Fr S.Z F Fb H σ env ∧ Fin S F Fb H σ env D (evSs S.Γ ms env)
theorem PSs.imp {X : Cx} {e : List PySem.Stmt} {t t' : TS} (h : PSs X e t) (i : ∀ D σ H, t' D σ H → t D σ H) : PSs X e t' := ⟨fun pins s σ H D I q => h.run pins s σ H D I (i D σ H q)⟩
section
variable {S : Sit} {F F1 F2 Fb : Fz} {H H1 H2 : Hp} {σ σ1 σ2 : St} {env env1 env2 : Env} {D D' : Ends} {o : Out}
theorem Fin.go (h : Fin S F Fb H σ env D o) (g : Go S.Z F Fb H σ env σ1 F1 H1 env1) : Fin S F1 Fb H1 σ1 env1 D o := by
  cases o with
  | nx e => exact fun σ' F' H' k => h σ' F' H' (g.trans k)
  | bk e => exact fun σ' F' H' k => h σ' F' H' (g.trans k)
  | ct e => exact fun σ' F' H' k => h σ' F' H' (g.trans k)
  | ret d own => exact fun v F' H' k r => h v F' H' (g.st.trans k) r
  | exc x e => exact fun cls dd σ' F' H' k r => h cls dd σ' F' H' (g.trans k) r
  | bad => exact h
theorem Fin.ext (h : Fin S F Fb H σ env D o) (fr : Fr S.Z F Fb H σ env) (e : Ext F H F1 H1) : Fin S F1 Fb H1 σ env D o := h.go (fr.go e)
theorem fin_out {α : Type} {r : R α} {f : α → Out} (fr : Fr S.Z F Fb H σ env) (h : Fin S F Fb H σ env D (r.out env f)) : Ans S σ F H r fun a => Fin S F Fb H σ env D (f a) := by
  cases r with
  | ok a => exact h
  | exc x => exact fun cls dd F' H' e r => h cls dd σ F' H' (fr.go e) r
  | bad => exact h
theorem fin_only {α : Type} {r : R α} {f : α → Out} (h : Fin S F Fb H σ env D (r.only f)) : ∃ a, r = .ok a ∧ Fin S F Fb H σ env D (f a) := by
  cases r with
  | ok a => exact ⟨a, rfl, h⟩
  | exc x => exact h.elim
  | bad => exact h.elim
end
/-! #### the frame's changes -/
section
variable {Z : Wd} {F F1 Fb : Fz} {H H1 : Hp} {σ : St} {env : Env}
theorem Fr.setF_go (h : Fr Z F Fb H σ env) {i : Nat} {v : V} {d : D} (r : Rep Z F H d v) : Go Z F Fb H σ env (σ.set i (some v)) F H (env.set i (.frz d)) := by
  refine ⟨(Ext.refl h.th).step h.thb, h.setF r, fun j d' g => ?_⟩
  by_cases hi : i < env.length
  · rw [gt_set hi] at g
    by_cases e : i = j
    · rw [if_pos e] at g
      cases g
    · rw [if_neg e] at g
      exact ⟨g, List.getElem?_set_ne e⟩
  · rw [set_none hi] at g
    rw [set_none (by rw [← h.len]; exact hi)]
    exact ⟨g, rfl⟩
/-- a new list gets its name -/
theorem Fr.setOwn (h : Fr Z F Fb H σ env) {i : Nat} {a : Addr} {d : D} (hf : ¬ F a) (hb : ¬ Fb a) (ho : Own Z F H d a) (hn : ∀ j, ¬ OwnAt env σ j a) : Go Z F Fb H σ env (σ.set i (some (.ref a))) F H (env.set i (.own d)) := by
  by_cases hi : i < env.length
  · have hi' : i < σ.length := by rw [← h.len]; exact hi
    have at_ : ∀ j, (σ.set i (some (.ref a)))[j]? = if i = j then some (some (.ref a)) else σ[j]? := fun j => by
      by_cases e : i = j
      · subst e
        rw [List.getElem?_set_self hi', if_pos rfl]
      · rw [List.getElem?_set_ne e, if_neg e]
    have go : ∀ j b, i ≠ j → OwnAt (env.set i (.own d)) (σ.set i (some (.ref a))) j b → OwnAt env σ j b := fun j b e ⟨⟨d, hd⟩, hv⟩ => by
      rw [gt_set hi, if_neg e] at hd
      rw [at_, if_neg e] at hv
      exact ⟨⟨d, hd⟩, hv⟩
    refine ⟨(Ext.refl h.th).step h.thb, ⟨by simp [h.len], h.th, h.thb, fun j => ?_, fun j k b h1 h2 => ?_⟩, fun j d' g => ?_⟩
    · rw [gt_set hi, at_]
      by_cases e : i = j
      · rw [if_pos e, if_pos e]
        exact ⟨a, rfl, hf, hb, ho⟩
      · rw [if_neg e, if_neg e]
        exact h.sl j
    · by_cases e1 : i = j
      · by_cases e2 : i = k
        · omega
        · have q := h1.2
          rw [at_, if_pos e1] at q
          cases q
          exact absurd (go k _ e2 h2) (hn k)
      · by_cases e2 : i = k
        · have q := h2.2
          rw [at_, if_pos e2] at q
          cases q
          exact absurd (go j _ e1 h1) (hn j)
        · exact h.sep j k b (go j b e1 h1) (go k b e2 h2)
    · rw [gt_set hi] at g
      by_cases e : i = j
      · rw [if_pos e] at g
        cases g
      · rw [if_neg e] at g
        exact ⟨g, List.getElem?_set_ne e⟩
  · rw [set_none hi, set_none (by rw [← h.len]; exact hi)]
    exact h.self
/-- our own list changes -/
theorem Fr.put (h : Fr Z F Fb H σ env) {i : Nat} {a : Addr} {d : D} {ds : List D} {vs : List V} (g : gt env i = .own d) (hv : σ[i]? = some (some (.ref a))) (r : Reps Z F H ds vs) : Go Z F Fb H σ env σ F (upd H a (.lst vs)) (env.set i (.own (.lst ds))) := by
  have s := h.sl i
  rw [g] at s
  obtain ⟨a', ea, hf, hb, o⟩ := s
  rw [hv] at ea
  cases ea
  have hi : i < env.length := by
    rcases Nat.lt_or_ge i env.length with z | z
    · exact z
    · rw [gt_none (by omega)] at g
      cases g
  have ne : ∀ b, F b ∨ Fb b → b ≠ a := fun b f e => by
    subst e
    exact f.elim hf hb
  have th : ∀ b, H b ≠ none → upd H a (.lst vs) b ≠ none := fun b k => by
    by_cases e : b = a
    · rw [e, upd_same]
      exact fun z => by cases z
    · rw [upd_ne e]
      exact k
  have mo : ∀ b u, F b → H b = some u → upd H a (.lst vs) b = some u := fun b u f z => by
    rw [upd_ne (ne b (.inl f))]
    exact z
  have go : ∀ j b, OwnAt (env.set i (.own (.lst ds))) σ j b → OwnAt env σ j b := fun j b ⟨⟨d', hd⟩, hv'⟩ => by
    rw [gt_set hi] at hd
    by_cases e : i = j
    · subst e
      exact ⟨⟨d, g⟩, hv'⟩
    · rw [if_neg e] at hd
      exact ⟨⟨d', hd⟩, hv'⟩
  refine ⟨⟨fun b u f z => by rw [upd_ne (ne b f)]; exact z, fun _ f => f, fun _ f => .inl f, fun b f => th b (h.th b f)⟩, ⟨by simp [h.len], fun b f => th b (h.th b f), fun b f => th b (h.thb b f), fun j => ?_, fun j k b h1 h2 => h.sep j k b (go j b h1) (go k b h2)⟩, fun j d' gj => ?_⟩
  · rw [gt_set hi]
    by_cases e : i = j
    · subst e
      rw [if_pos rfl]
      exact ⟨a, hv, hf, hb, vs, upd_same, r.mono (fun _ f => f) mo⟩
    · rw [if_neg e]
      have q := h.sl j
      unfold SlotOk at q ⊢
      split
      · trivial
      · rename_i d hd
        rw [hd] at q
        obtain ⟨v, e1, r⟩ := q
        exact ⟨v, e1, r.mono (fun _ f => f) mo⟩
      · rename_i d hd
        rw [hd] at q
        obtain ⟨v, e1, r⟩ := q
        refine ⟨v, e1, ?_⟩
        cases d with
        | lst ds =>
          obtain ⟨b, us, e2, f, z, r⟩ := r
          refine ⟨b, us, e2, f, ?_, r.mono (fun _ f => f) mo⟩
          rw [upd_ne (ne b f)]
          exact z
        | _ => exact Rep.mono (fun _ f => f) mo _ _ r
      · rename_i d' hd
        rw [hd] at q
        obtain ⟨b, e1, n1, n2, r⟩ := q
        refine ⟨b, e1, n1, n2, ?_⟩
        cases d' with
        | lst ds =>
          obtain ⟨us, z, r⟩ := r
          refine ⟨us, ?_, r.mono (fun _ f => f) mo⟩
          rw [upd_ne (fun q => e (h.sep i j a ⟨⟨_, g⟩, hv⟩ ⟨⟨_, hd⟩, by rw [← q]; exact e1⟩))]
          exact z
        | _ => exact r.elim
      · rename_i x hx
        rw [hx] at q
        obtain ⟨a, dd, e1, z, r⟩ := q
        exact ⟨a, dd, e1, z, r.mono (fun _ f => f) mo⟩
  · rw [gt_set hi] at gj
    by_cases e : i = j
    · rw [if_pos e] at gj
      cases gj
    · rw [if_neg e] at gj
      exact ⟨gj, rfl⟩
theorem own_at {i : Nat} {xs : List D} (fr : Fr Z F Fb H σ env) (h : ownL (gt env i) = .ok xs) : gt env i = .own (.lst xs) ∧ ∃ a vs, σ[i]? = some (some (.ref a)) ∧ H a = some (.lst vs) ∧ Reps Z F H xs vs := by
  unfold ownL at h
  split at h
  · rename_i ys hd
    cases h
    have s := fr.sl i
    rw [hd] at s
    obtain ⟨a, e, _, _, vs, z, r⟩ := s
    exact ⟨hd, a, vs, e, z, r⟩
  · cases h
end
/-! #### assignments -/
theorem kd_ne {m : E} (h : kd m ≠ .lent) : kd m = if frs m then .fresh else .val := by
  cases m <;> first | rfl | exact absurd rfl h
theorem kd_t {m : E} (h : kd m ≠ .lent) (c : frs m = true) : kd m = .fresh := by
  rw [kd_ne h, if_pos c]
theorem kd_f {m : E} (h : kd m = .fresh) : frs m = true := by
  cases c : frs m with
  | true => rfl
  | false =>
    cases z : kd m with
    | lent => rw [h] at z; cases z
    | val => rw [h] at z; cases z
    | fresh =>
      have q := kd_ne (m := m) (by rw [h]; exact fun z => by cases z)
      rw [c, h] at q
      cases q
section
variable {X : Cx} {S : Sit} {m : E} {D : Ends} {σ : St} {H : Hp}
theorem fresh_at {Z : Wd} {F F1 Fb : Fz} {H H1 : Hp} {σ : St} {env : Env} {a : Addr} (fr : Fr Z F Fb H σ env) (hn : H a = none) : ¬ Fb a ∧ ∀ j, ¬ OwnAt env σ j a := by
  refine ⟨fun b => fr.thb a b hn, fun j ⟨⟨d, g⟩, e⟩ => ?_⟩
  have s := fr.sl j
  rw [g, e] at s
  obtain ⟨a', ea, _, _, o⟩ := s
  cases ea
  exact o.there hn
theorem asg_imp {i : Nat} (hk : kd m ≠ .lent) (q : tS S (.asg (.nm i) m) D σ H) : tAsg (tE S m) (gName i) D σ H := by
  obtain ⟨F, Fb, env, fr, q⟩ := q
  rw [evS] at q
  refine ⟨F, Fb, env, fr, (fin_out fr q).mono fun d k v F1 H1 e p => ?_⟩
  have k : Fin S F Fb H σ env D (.nx (env.set i (if frs m && isMut d then .own d else .frz d))) := k
  have fr1 := fr.ext e
  by_cases c : (frs m && isMut d) = true
  · rw [if_pos c] at k
    rw [Bool.and_eq_true] at c
    have e1 : kd m = .fresh := kd_t hk c.1
    rw [e1] at p
    unfold Post at p
    simp only [c.2, if_true] at p
    obtain ⟨a, rfl, hn, hf, o⟩ := p
    obtain ⟨hb, ho⟩ := fresh_at (F1 := F1) (H1 := H1) fr hn
    exact k _ F1 H1 ((fr.go e).trans (fr1.setOwn hf hb o ho))
  · rw [if_neg c] at k
    have r : Rep S.Z F1 H1 d v := by
      cases e1 : kd m with
      | lent => exact absurd e1 hk
      | val =>
        rw [e1] at p
        exact p
      | fresh =>
        rw [e1] at p
        unfold Post at p
        have c1 : frs m = true := kd_f e1
        rw [c1, Bool.true_and] at c
        rw [if_neg c] at p
        exact p
    exact k _ F1 H1 ((fr.go e).trans (fr1.setF_go r))
theorem s_asg {i : Nat} {x : Str} {e : PySem.Expr} {pos p : Pos} (hN : X.N.Nodup) (hi : X.N[i]? = some x) (hx : Loc X.env.scope x) (hf : X.fn x = true ∨ X.env.scope.names.lookup x = some .local) (he : PE X e (tE S m)) (hk : kd m ≠ .lent)
    (hs : swapsWith e (some (.Name x p)) pos.line X.env = pure false) : PS X (.Assign [.Name x p] e pos) (tS S (.asg (.nm i) m)) := PS.imp (ps_set hN hi hx he hs hf) fun _ _ _ q => asg_imp hk q
theorem s_asgT {e tg : PySem.Expr} {ts : List Tgt} {pos : Pos} (he : PE X e (tE S m)) (hk : kd m ≠ .lent) (hg : PG X tg (gT S (.tup ts))) (hs : swapsWithSole [tg] e pos.line X.env = pure false) (hw : swappedStores [tg] e X.env = pure none) (h1 : (assignEach [tg] X.env).map (·.2) = [assign tg X.env]) :
    PS X (.Assign [tg] e pos) (tS S (.asg (.tup ts) m)) := by
  refine PS.imp (ps_asg (frz_of he hk) hg hs hw h1) fun D σ H ⟨F, Fb, env, fr, q⟩ => ?_
  rw [evS] at q
  refine ⟨F, Fb, env, fr, (fin_out fr q).mono fun d k v F1 H1 e1 r => ?_⟩
  obtain ⟨env', eb, k⟩ := fin_only (f := Out.nx) k
  refine ⟨F1, Fb, env, d, env', fr.ext e1, r, eb, fun σ' fr' len keep => k σ' F1 H1 ⟨e1.step fr.thb, fr', fun i d' g => ?_⟩⟩
  obtain ⟨g, n⟩ := bindT_not _ _ _ _ i _ eb g ⟨(fun z => by cases z), (fun _ z => by cases z)⟩
  exact ⟨g, keep i n⟩
theorem s_par {i j : Nat} {x y : Str} {a b : PySem.Expr} {ma mb : E} {px py pt pos : Pos} {kt k2 pt2} (hc : X.calm = true) (hN : X.N.Nodup) (hi : X.N[i]? = some x) (hj : X.N[j]? = some y) (hij : i ≠ j)
    (hx : X.env.scope.names.lookup x = some .local) (hy : X.env.scope.names.lookup y = some .local) (ha : PA X [a, b] (tFs S [ma, mb]))
    (hw : swappedStores [.Tuple [.Name x px, .Name y py] kt pt] (.Tuple [a, b] k2 pt2) X.env = pure (some [x, y]))
    (hs : swapsWithSole [.Tuple [.Name x px, .Name y py] kt pt] (.Tuple [a, b] k2 pt2) pos.line X.env = pure false) :
    PS X (.Assign [.Tuple [.Name x px, .Name y py] kt pt] (.Tuple [a, b] k2 pt2) pos) (tS S (.par i j ma mb)) := by
  refine PS.imp (ps_par hc hN hi hj hij hx hy ha hw hs) fun D σ H ⟨F, Fb, env, fr, q⟩ => ?_
  rw [evS] at q
  refine ⟨F, Fb, env, fr, ?_⟩
  have q1 := fin_out fr q
  rw [evEs, ans_bind]
  refine q1.mono fun d1 k => ?_
  have q2 := fin_out fr k
  rw [ans_map, evEs, ans_bind]
  refine q2.mono fun d2 k => ?_
  rw [ans_map, evEs]
  show ∀ vs F' H', Ext F H F' H' → Reps S.Z F' H' [d1, d2] vs → _
  intro vs F1 H1 e1 r
  obtain ⟨v, us, rfl, r1, w, us2, rfl, r2, rfl⟩ := r
  refine ⟨v, w, rfl, k _ F1 H1 ((fr.go e1).trans (((fr.ext e1).setF_go r1).trans (((fr.ext e1).setF r1).setF_go r2)))⟩
/-! #### a list of our own -/
theorem s_setIt {i : Nat} {x : Str} {k e : PySem.Expr} {mk : E} {p1 p2 pos : Pos} (hN : X.N[i]? = some x) (hv : Vis X.env.scope x) (hd : (x == ("__debug__" : Str)) = false) (hc : (x == ("__classdict__" : Str)) = false) (hk : PE X k (tE S mk)) (he : PE X e (tE S m)) (hm : kd m ≠ .lent)
    (ha : ∀ v, assign (.Subscript (.Name x p1) k p2) X.env v = (do
      let ov ← holding [v] (eval (.Name x p1) X.env)
      let iv ← holding [v, ov] (eval k X.env)
      standAt p2
      holding [v, ov, iv] (setItem ov iv v)
      release [v, ov, iv] []))
    (hs : swapsWithSole [.Subscript (.Name x p1) k p2] e pos.line X.env = pure false) (hw : swappedStores [.Subscript (.Name x p1) k p2] e X.env = pure none) (h1 : (assignEach [.Subscript (.Name x p1) k p2] X.env).map (·.2) = [assign (.Subscript (.Name x p1) k p2) X.env]) :
    PS X (.Assign [.Subscript (.Name x p1) k p2] e pos) (tS S (.setIt i mk m)) := by
  refine PS.imp (ps_asg (frz_of he hm) (pg_sub (pe_var hN hv hd hc) (lent_of hk) set_list ha) hs hw h1) fun D σ H ⟨F, Fb, env, fr, q⟩ => ?_
  rw [evS] at q
  refine ⟨F, Fb, env, fr, (fin_out fr q).mono fun d k v F1 H1 e1 r => ?_⟩
  have fr1 := fr.ext e1
  obtain ⟨xs, hx, k⟩ := fin_only k
  obtain ⟨g, a, vs, ev, z, rs⟩ := own_at fr1 hx
  refine ⟨_, ev, F1, Fb, env, fr1, ((fin_out fr k).ext e1).mono fun kd k u F2 H2 e2 l => ?_⟩
  obtain ⟨kk, ek, k⟩ := fin_only k
  obtain ⟨ys, ey, k⟩ := fin_only k
  unfold intOf at ek
  split at ek
  · cases ek
    have l : u = .int kk := l
    subst l
    unfold setD at ey
    split at ey
    · rename_i j hj
      cases ey
      have rs2 := e2.reps rs
      rw [rs2.length] at hj
      refine ⟨a, vs, kk, j, rfl, rfl, e2.ob _ _ z, hj, k _ F2 _ ((fr.go (e1.trans e2)).trans ((fr1.ext e2).put g ev (rs2.set j (e2.rep r))))⟩
    · cases ey
  · cases ek
theorem lt_line {n : Nat} (h : n < 1000000) : n < sizeLine := Nat.lt_of_lt_of_le h (line_le (decide_eq_true (Nat.le_refl _)))
theorem s_app {i : Nat} {x : Str} {e : PySem.Expr} {p1 apos cpos pos : Pos} (hN : X.N[i]? = some x) (hv : Vis X.env.scope x) (hd : (x == ("__debug__" : Str)) = false) (hc : (x == ("__classdict__" : Str)) = false) (he : PE X e (tE S m)) (hm : kd m ≠ .lent) (hst : notStar e = true)
    (hbase : attributeBase (.Name x p1) "append" X.env (eval (.Name x p1) X.env) = eval (.Name x p1) X.env)
    (hfew : ((backTo cpos (starEach (e :: []) X.env)).all (fun x => !x.1) && (backToKw cpos (keywordEach [] X.env)).all (fun x => x.1.isSome)
      && decide ((e :: []).length + ([] : List Keyword).length + (if ([] : List Keyword).isEmpty then 0 else 1) < 30)) = true)
    (hline : (apos.endLine == cpos.line) = true) (hs : swapsWith (.Call (.Attribute (.Name x p1) "append" apos) [e] [] cpos) none pos.line X.env = pure false) :
    PS X (.Expr (.Call (.Attribute (.Name x p1) "append" apos) [e] [] cpos) pos) (tS S (.app i m)) := by
  refine PS.imp (ps_expr (pe_bm PySem.F.plainAttrs_list PySem.F.slot_list_append PySem.F.type_list_append mt_append (pe_var hN hv hd hc) (pa_cons (frz_of he hm) pa_nil (star_cons hst)) hbase hfew hline (star_cons hst) rfl) hs) fun D σ H ⟨F, Fb, env, fr, q⟩ => ?_
  rw [evS] at q
  obtain ⟨xs, hx, k⟩ := fin_only q
  obtain ⟨g, a, vs, ev, z, rs⟩ := own_at fr hx
  refine ⟨_, ev, .inl ⟨rfl, _, .of z⟩, F, Fb, env, fr, (fin_out fr k).mono fun d k v F1 H1 e1 r => ?_⟩
  have rs1 := e1.reps rs
  by_cases c : xs.length < 1000000
  · rw [if_pos (decide_eq_true c)] at k
    rw [rs.length] at c
    exact ⟨a, vs, v, rfl, rfl, e1.ob _ _ z, lt_line c, k _ F1 _ ((fr.go e1).trans ((fr.ext e1).put g ev (rs1.snoc r)))⟩
  · rw [if_neg (by simp [c])] at k
    exact k.elim
theorem s_ins {i : Nat} {x : Str} {kx e : PySem.Expr} {mk : E} {p1 apos cpos pos : Pos} (hN : X.N[i]? = some x) (hv : Vis X.env.scope x) (hd : (x == ("__debug__" : Str)) = false) (hc : (x == ("__classdict__" : Str)) = false) (hk : PE X kx (tE S mk)) (he : PE X e (tE S m)) (hm : kd m ≠ .lent) (hst : notStar kx = true) (hst2 : notStar e = true)
    (hbase : attributeBase (.Name x p1) "insert" X.env (eval (.Name x p1) X.env) = eval (.Name x p1) X.env)
    (hfew : ((backTo cpos (starEach (kx :: [e]) X.env)).all (fun x => !x.1) && (backToKw cpos (keywordEach [] X.env)).all (fun x => x.1.isSome)
      && decide ((kx :: [e]).length + ([] : List Keyword).length + (if ([] : List Keyword).isEmpty then 0 else 1) < 30)) = true)
    (hline : (apos.endLine == cpos.line) = true) (hs : swapsWith (.Call (.Attribute (.Name x p1) "insert" apos) [kx, e] [] cpos) none pos.line X.env = pure false) :
    PS X (.Expr (.Call (.Attribute (.Name x p1) "insert" apos) [kx, e] [] cpos) pos) (tS S (.ins i mk m)) := by
  refine PS.imp (ps_expr (pe_bm PySem.F.plainAttrs_list PySem.F.slot_list_insert PySem.F.type_list_insert mt_insert (pe_var hN hv hd hc) (pa_cons (lent_of hk) (pa_cons (frz_of he hm) pa_nil (star_cons hst2)) (star_cons hst)) hbase hfew hline (star_cons hst) (star_any (by rw [List.all_cons, hst2]; rfl))) hs) fun D σ H ⟨F, Fb, env, fr, q⟩ => ?_
  rw [evS] at q
  obtain ⟨xs, hx, k⟩ := fin_only q
  obtain ⟨g, a, vs, ev, z, rs⟩ := own_at fr hx
  refine ⟨_, ev, .inl ⟨rfl, _, .of z⟩, F, Fb, env, fr, (fin_out fr k).mono fun d1 k v1 F1 H1 e1 r1 => ?_⟩
  obtain ⟨kk, ek, k⟩ := fin_only k
  unfold intOf at ek
  split at ek
  · cases ek
    have r1 : v1 = .int kk := r1
    subst r1
    refine ⟨F1, Fb, env, fr.ext e1, ((fin_out fr k).ext e1).mono fun d k v F2 H2 e2 r => ?_⟩
    have rs1 := (e1.trans e2).reps rs
    by_cases c : xs.length < 1000000 ∧ 0 ≤ kk ∧ kk ≤ 1000000
    · rw [if_pos (decide_eq_true c)] at k
      have c1 := c.1
      rw [rs.length] at c1
      have e3 := e1.trans e2
      exact ⟨a, vs, kk, v, rfl, rfl, e3.ob _ _ z, lt_line c1, c.2.1, by omega, k _ F2 _ ((fr.go e3).trans ((fr.ext e3).put g ev (((rs1.take _).snoc r).append (rs1.drop _))))⟩
    · rw [if_neg (by simp [c])] at k
      exact k.elim
  · cases ek
theorem s_ext {i : Nat} {x : Str} {e : PySem.Expr} {p1 apos cpos pos : Pos} (hN : X.N[i]? = some x) (hv : Vis X.env.scope x) (hd : (x == ("__debug__" : Str)) = false) (hc : (x == ("__classdict__" : Str)) = false) (he : PE X e (tE S m)) (hst : notStar e = true)
    (hbase : attributeBase (.Name x p1) "extend" X.env (eval (.Name x p1) X.env) = eval (.Name x p1) X.env)
    (hfew : ((backTo cpos (starEach (e :: []) X.env)).all (fun x => !x.1) && (backToKw cpos (keywordEach [] X.env)).all (fun x => x.1.isSome)
      && decide ((e :: []).length + ([] : List Keyword).length + (if ([] : List Keyword).isEmpty then 0 else 1) < 30)) = true)
    (hline : (apos.endLine == cpos.line) = true) (hs : swapsWith (.Call (.Attribute (.Name x p1) "extend" apos) [e] [] cpos) none pos.line X.env = pure false) :
    PS X (.Expr (.Call (.Attribute (.Name x p1) "extend" apos) [e] [] cpos) pos) (tS S (.ext i m)) := by
  refine PS.imp (ps_expr (pe_bm PySem.F.plainAttrs_list PySem.F.slot_list_extend PySem.F.type_list_extend mt_extend (pe_var hN hv hd hc) (pa_cons (lent_of he) pa_nil (star_cons hst)) hbase hfew hline (star_cons hst) rfl) hs) fun D σ H ⟨F, Fb, env, fr, q⟩ => ?_
  rw [evS] at q
  obtain ⟨xs, hx, k⟩ := fin_only q
  obtain ⟨g, a, vs, ev, z, rs⟩ := own_at fr hx
  refine ⟨_, ev, .inl ⟨rfl, _, .of z⟩, F, Fb, env, fr, (fin_out fr k).mono fun d k v F1 H1 e1 r => ?_⟩
  have rs1 := e1.reps rs
  split at k
  · rename_i ys
    obtain ⟨b, us, rfl, hb, ru⟩ := r
    split at k
    · rename_i c
      rw [rs.length, ru.length] at c
      exact ⟨a, b, vs, us, rfl, rfl, e1.ob _ _ z, hb, line_le c, k _ F1 _ ((fr.go e1).trans ((fr.ext e1).put g ev (rs1.append ru)))⟩
    · exact k.elim
  · exact k.elim
/-! #### the small ones -/
theorem s_expr {e : PySem.Expr} {pos : Pos} (he : PE X e (tE S m)) (hs : swapsWith e none pos.line X.env = pure false) : PS X (.Expr e pos) (tS S (.expr m)) := by
  refine PS.imp (ps_expr (lent_of he) hs) fun D σ H ⟨F, Fb, env, fr, q⟩ => ?_
  rw [evS] at q
  exact ⟨F, Fb, env, fr, (fin_out fr q).mono fun d k v F1 H1 e1 _ => k _ F1 H1 (fr.go e1)⟩
theorem s_doc {x : Str} {j} {pos pos' : Pos} : PS X (.Expr (.Constant (.str x) j pos) pos') (tS S .pass) := PS.imp ps_doc fun D σ H ⟨F, Fb, env, fr, q⟩ => by
  rw [evS] at q
  exact q _ F H fr.self
theorem s_pass {pos : Pos} : PS X (.Pass pos) (tS S .pass) := PS.imp ps_pass fun D σ H ⟨F, Fb, env, fr, q⟩ => by
  rw [evS] at q
  exact q _ F H fr.self
theorem s_brk {pos : Pos} : PS X (.Break pos) (tS S .brk) := PS.imp ps_break fun D σ H ⟨F, Fb, env, fr, q⟩ => by
  rw [evS] at q
  exact q _ F H fr.self
theorem s_cnt {pos : Pos} : PS X (.Continue pos) (tS S .cnt) := PS.imp ps_continue fun D σ H ⟨F, Fb, env, fr, q⟩ => by
  rw [evS] at q
  exact q _ F H fr.self
theorem s_retN {pos : Pos} : PS X (.Return none pos) (tS S .retN) := PS.imp ps_retN fun D σ H ⟨F, Fb, env, fr, q⟩ => by
  rw [evS] at q
  exact q _ F H fr.self.st rfl
theorem s_ret {e : PySem.Expr} {pos : Pos} (he : PE X e (tE S m)) (hk : kd m ≠ .lent) : PS X (.Return (some e) pos) (tS S (.ret m)) := by
  refine PS.imp (ps_ret he) fun D σ H ⟨F, Fb, env, fr, q⟩ => ?_
  rw [evS] at q
  refine ⟨F, Fb, env, fr, (fin_out fr q).mono fun d k v F1 H1 e p => k v F1 H1 (e.step fr.thb) ?_⟩
  unfold RetOk
  by_cases c : (frs m && isMut d) = true
  · rw [if_pos c]
    rw [Bool.and_eq_true] at c
    have e1 : kd m = .fresh := kd_t hk c.1
    rw [e1] at p
    unfold Post at p
    simp only [c.2, if_true] at p
    obtain ⟨a, rfl, hn, hf, o⟩ := p
    exact ⟨a, rfl, hf, (fresh_at (F1 := F1) (H1 := H1) fr hn).1, o⟩
  · rw [if_neg c]
    cases e1 : kd m with
    | lent => exact absurd e1 hk
    | val =>
      rw [e1] at p
      exact p
    | fresh =>
      rw [e1] at p
      unfold Post at p
      have c1 : frs m = true := kd_f e1
      rw [c1, Bool.true_and] at c
      rw [if_neg c] at p
      exact p
theorem s_retv {i : Nat} {x : Str} {p pos : Pos} (hN : X.N[i]? = some x) (hv : Vis X.env.scope x) (hd : (x == ("__debug__" : Str)) = false) (hc : (x == ("__classdict__" : Str)) = false) : PS X (.Return (some (.Name x p)) pos) (tS S (.retv i)) := by
  refine PS.imp (ps_ret (pe_var hN hv hd hc)) fun D σ H ⟨F, Fb, env, fr, q⟩ => ?_
  rw [evS] at q
  have s := fr.sl i
  unfold SlotOk at s
  split at q
  · rename_i d hd
    rw [hd] at s
    obtain ⟨a, e, hf, hb, o⟩ := s
    refine ⟨_, e, q _ F H fr.self.st ?_⟩
    unfold RetOk
    cases d with
    | lst ds => exact ⟨a, rfl, hf, hb, o⟩
    | _ => exact o.elim
  · rename_i d hd
    rw [hd] at s
    obtain ⟨v, e, r⟩ := s
    exact ⟨_, e, q _ F H fr.self.st r⟩
  · exact q.elim
/-! #### blocks -/
theorem ss_nil : PSs X [] (tSs S []) := PSs.imp pss_nil fun D σ H ⟨F, Fb, env, fr, q⟩ => by
  rw [evSs] at q
  exact q _ F H fr.self
theorem ss_cons {st : PySem.Stmt} {sts : List PySem.Stmt} {ms : List Mi.S} {m : Mi.S} (h1 : PS X st (tS S m)) (h2 : PSs X sts (tSs S ms)) : PSs X (st :: sts) (tSs S (m :: ms)) := by
  refine PSs.imp (pss_cons h1 h2) fun D σ H ⟨F, Fb, env, fr, q⟩ => ⟨F, Fb, env, fr, ?_⟩
  rw [evSs] at q
  cases o : evS S.Γ m env with
  | nx e =>
    rw [o] at q
    exact fun σ' F' H' g => ⟨F', Fb, e, g.fr, Fin.go q g⟩
  | bk e =>
    rw [o] at q
    exact q
  | ct e =>
    rw [o] at q
    exact q
  | ret d own =>
    rw [o] at q
    exact q
  | exc x e =>
    rw [o] at q
    exact q
  | bad =>
    rw [o] at q
    exact q
theorem s_if {c : PySem.Expr} {a b : List PySem.Stmt} {mc : E} {ma mb : List Mi.S} {pos : Pos} (hc : PT X c (tT S mc)) (ha : PSs X a (tSs S ma)) (hb : PSs X b (tSs S mb)) : PS X (.If c a b pos) (tS S (.ife mc ma mb)) := by
  refine PS.imp (ps_if hc ha hb) fun D σ H ⟨F, Fb, env, fr, q⟩ => ⟨F, Fb, env, fr, ?_⟩
  rw [evS] at q
  refine (fin_out fr q).mono fun t k F1 H1 e => ?_
  cases t with
  | true => exact ⟨F1, Fb, env, fr.ext e, Fin.ext k fr e⟩
  | false => exact ⟨F1, Fb, env, fr.ext e, Fin.ext k fr e⟩
end
end Mi
namespace Mi
open PySem L2
/-! ### loops -/
theorem gt_onAllI {f : Nat → Slot → Slot} (hu : ∀ i, f i .un = .un) (hi : ∀ i s, f i (f i s) = f i s) : ∀ (l : List Nat) (env : Env) (j : Nat), gt (onAllI f l env) j = if j ∈ l then f j (gt env j) else gt env j
  | [], env, j => by simp [onAllI]
  | i :: r, env, j => by
    rw [onAllI, gt_onAllI hu hi r]
    by_cases hl : i < env.length
    · rw [gt_set hl]
      by_cases e : i = j
      · subst e
        simp [hi]
      · simp [e, Ne.symm e]
    · rw [set_none hl]
      by_cases e : i = j
      · subst e
        simp [gt_none hl, hu]
      · simp [Ne.symm e]
theorem onAllI_len {f : Nat → Slot → Slot} : ∀ (l : List Nat) (env : Env), (onAllI f l env).length = env.length
  | [], _ => rfl
  | i :: r, env => by rw [onAllI, onAllI_len r, List.length_set]
theorem gt_lock (l : List Nat) (env : Env) (j : Nat) : gt (onAll lock l env) j = if j ∈ l then lock (gt env j) else gt env j := gt_onAllI (f := fun _ => lock) (fun _ => rfl) (fun _ s => by cases s <;> rfl) l env j
theorem gt_freeze (l : List Nat) (env : Env) (j : Nat) : gt (onAll freeze l env) j = if j ∈ l then freeze (gt env j) else gt env j := gt_onAllI (f := fun _ => freeze) (fun _ => rfl) (fun _ s => by cases s <;> rfl) l env j
theorem gt_unlock (env0 : Env) (l : List Nat) (env : Env) (j : Nat) : gt (unlock env0 l env) j = if j ∈ l then un1 (gt env0 j) (gt env j) else gt env j := gt_onAllI (f := fun i => un1 (gt env0 i)) (fun i => by cases gt env0 i <;> rfl) (fun i s => by cases gt env0 i <;> cases s <;> rfl) l env j
section
variable {Z : Wd} {F F1 Fb : Fz} {H H1 : Hp} {σ σ1 : St} {env : Env}
/-- the lists of these names -/
def At (env : Env) (σ : St) (l : List Nat) : Fz := fun a => ∃ i, i ∈ l ∧ OwnAt env σ i a
def Fz.or (F G : Fz) : Fz := fun a => F a ∨ G a
theorem Fr.ownAt (fr : Fr Z F Fb H σ env) {i : Nat} {a : Addr} (h : OwnAt env σ i a) : ∃ ds vs, gt env i = .own (.lst ds) ∧ ¬ F a ∧ ¬ Fb a ∧ H a = some (.lst vs) ∧ Reps Z F H ds vs := by
  obtain ⟨⟨d, g⟩, e⟩ := h
  have s := fr.sl i
  rw [g, e] at s
  obtain ⟨a', ea, n1, n2, o⟩ := s
  cases ea
  cases d with
  | lst ds =>
    obtain ⟨vs, z, r⟩ := o
    exact ⟨ds, vs, g, n1, n2, z, r⟩
  | _ => exact o.elim
theorem Fr.own_val (fr : Fr Z F Fb H σ env) {i : Nat} {d : D} (g : gt env i = .own d) : ∃ a, OwnAt env σ i a := by
  have s := fr.sl i
  rw [g] at s
  obtain ⟨a, e, _⟩ := s
  exact ⟨a, ⟨d, g⟩, e⟩
theorem Fr.frz_go (fr : Fr Z F Fb H σ env) (l : List Nat) : Go Z F Fb H σ env σ (F.or (At env σ l)) H (onAll freeze l env) := by
  have ne : ∀ a, At env σ l a → H a ≠ none := fun a ⟨i, _, h⟩ => by
    obtain ⟨_, _, _, _, _, z, _⟩ := fr.ownAt h
    exact some_ne z
  have back : ∀ j a, OwnAt (onAll freeze l env) σ j a → OwnAt env σ j a ∧ j ∉ l := fun j a ⟨⟨d, g⟩, e⟩ => by
    rw [gt_freeze] at g
    by_cases hj : j ∈ l
    · rw [if_pos hj] at g
      cases q : gt env j <;> rw [q] at g <;> cases g
    · rw [if_neg hj] at g
      exact ⟨⟨⟨d, g⟩, e⟩, hj⟩
  refine ⟨⟨fun _ _ _ z => z, fun _ f => .inl f, fun a f => f.imp id fun ⟨i, _, h⟩ => by
    obtain ⟨_, _, _, _, nb, _⟩ := fr.ownAt h
    exact nb, fun a f => f.elim (fr.th a) (ne a)⟩, ⟨by rw [← fr.len]; exact onAllI_len _ _, fun a f => f.elim (fr.th a) (ne a), fr.thb, fun j => ?_, fun i j a h1 h2 => fr.sep i j a (back i a h1).1 (back j a h2).1⟩, fun j d g => ?_⟩
  · rw [gt_freeze]
    have s := fr.sl j
    have up : ∀ d v, Rep Z F H d v → Rep Z (F.or (At env σ l)) H d v := fun d v r => Rep.mono (fun _ f => .inl f) (fun _ _ _ z => z) d v r
    cases g : gt env j with
    | un => split <;> trivial
    | frz d =>
      rw [g] at s
      obtain ⟨v, e, r⟩ := s
      have : SlotOk Z (F.or (At env σ l)) Fb H (.frz d) σ[j]? := ⟨v, e, up _ _ r⟩
      split <;> exact this
    | bor d =>
      rw [g] at s
      obtain ⟨v, e, r⟩ := s
      have : SlotOk Z (F.or (At env σ l)) Fb H (.bor d) σ[j]? := by
        refine ⟨v, e, ?_⟩
        cases d with
        | lst ds =>
          obtain ⟨a, vs, e2, f, z, r⟩ := r
          exact ⟨a, vs, e2, f.imp .inl id, z, r.mono (fun _ f => .inl f) fun _ _ _ z => z⟩
        | _ => exact up _ _ r
      split <;> exact this
    | exn x =>
      rw [g] at s
      obtain ⟨a, dd, e, z, r⟩ := s
      have : SlotOk Z (F.or (At env σ l)) Fb H (.exn x) σ[j]? := ⟨a, dd, e, z, r.mono (fun _ f => .inl f) fun _ _ _ z => z⟩
      split <;> exact this
    | own d =>
      obtain ⟨a, oa⟩ := fr.own_val g
      obtain ⟨ds, vs, g2, n1, n2, z, r⟩ := fr.ownAt oa
      rw [g] at g2
      cases g2
      by_cases hj : j ∈ l
      · rw [if_pos hj]
        exact ⟨_, oa.2, a, vs, rfl, .inr ⟨j, hj, oa⟩, z, r.mono (fun _ f => .inl f) fun _ _ _ z => z⟩
      · rw [if_neg hj]
        refine ⟨a, oa.2, fun f => f.elim n1 fun ⟨i, hi, h⟩ => ?_, n2, vs, z, r.mono (fun _ f => .inl f) fun _ _ _ z => z⟩
        have := fr.sep i j a h oa
        subst this
        exact hj hi
  · rw [gt_freeze] at g
    refine ⟨?_, rfl⟩
    by_cases hj : j ∈ l
    · rw [if_pos hj] at g
      cases q : gt env j <;> rw [q] at g <;> cases g
      rfl
    · rw [if_neg hj] at g
      exact g
theorem Fr.lock (fr : Fr Z F Fb H σ env) (l : List Nat) : Fr Z F (Fb.or (At env σ l)) H σ (onAll Mi.lock l env) := by
  have ne : ∀ a, At env σ l a → H a ≠ none := fun a ⟨i, _, h⟩ => by
    obtain ⟨_, _, _, _, _, z, _⟩ := fr.ownAt h
    exact some_ne z
  have back : ∀ j a, OwnAt (onAll Mi.lock l env) σ j a → OwnAt env σ j a ∧ j ∉ l := fun j a ⟨⟨d, g⟩, e⟩ => by
    rw [gt_lock] at g
    by_cases hj : j ∈ l
    · rw [if_pos hj] at g
      cases q : gt env j <;> rw [q] at g <;> cases g
    · rw [if_neg hj] at g
      exact ⟨⟨⟨d, g⟩, e⟩, hj⟩
  refine ⟨by rw [← fr.len]; exact onAllI_len _ _, fr.th, fun a f => f.elim (fr.thb a) (ne a), fun j => ?_, fun i j a h1 h2 => fr.sep i j a (back i a h1).1 (back j a h2).1⟩
  rw [gt_lock]
  have s := fr.sl j
  cases g : gt env j with
  | un => split <;> trivial
  | exn x =>
    rw [g] at s
    split <;> exact s
  | frz d =>
    rw [g] at s
    split <;> exact s
  | bor d =>
    rw [g] at s
    obtain ⟨v, e, r⟩ := s
    have : SlotOk Z F (Fb.or (At env σ l)) H (.bor d) σ[j]? := by
      refine ⟨v, e, ?_⟩
      cases d with
      | lst ds =>
        obtain ⟨a, vs, e2, f, z, r⟩ := r
        exact ⟨a, vs, e2, f.imp id .inl, z, r⟩
      | _ => exact r
    split <;> exact this
  | own d =>
    obtain ⟨a, oa⟩ := fr.own_val g
    obtain ⟨ds, vs, g2, n1, n2, z, r⟩ := fr.ownAt oa
    rw [g] at g2
    cases g2
    by_cases hj : j ∈ l
    · rw [if_pos hj]
      exact ⟨_, oa.2, a, vs, rfl, .inr (.inr ⟨j, hj, oa⟩), z, r⟩
    · rw [if_neg hj]
      refine ⟨a, oa.2, n1, fun f => f.elim n2 fun ⟨i, hi, h⟩ => ?_, vs, z, r⟩
      have := fr.sep i j a h oa
      subst this
      exact hj hi
theorem Fr.unlock_go (fr : Fr Z F Fb H σ env) (l : List Nat) {e' : Env} (g : Go Z F (Fb.or (At env σ l)) H σ (onAll Mi.lock l env) σ1 F1 H1 e') : Go Z F Fb H σ env σ1 F1 H1 (unlock env l e') := by
  have kb : ∀ j d, gt e' j = .bor d → (gt env j = .bor d ∨ (gt env j = .own d ∧ j ∈ l)) ∧ σ1[j]? = σ[j]? := fun j d q => by
    obtain ⟨h, e⟩ := g.bk j d q
    refine ⟨?_, e⟩
    rw [gt_lock] at h
    by_cases hj : j ∈ l
    · rw [if_pos hj] at h
      cases z : gt env j <;> rw [z] at h <;> cases h
      · exact .inr ⟨rfl, hj⟩
      · exact .inl rfl
    · rw [if_neg hj] at h
      exact .inl h
  -- what a slot holds behind
  have cs : ∀ j, (∃ d, gt (unlock env l e') j = .own d ∧ gt env j = .own d ∧ j ∈ l ∧ gt e' j = .bor d) ∨ (gt (unlock env l e') j = gt e' j ∧ ∀ d, gt e' j = .bor d → gt env j = .bor d) := fun j => by
    rw [gt_unlock]
    by_cases hj : j ∈ l
    · rw [if_pos hj]
      cases q : gt e' j with
      | bor d =>
        rcases (kb j d q).1 with z | ⟨z, _⟩
        · rw [z]
          exact .inr ⟨rfl, fun d h => by cases h; rfl⟩
        · rw [z]
          exact .inl ⟨d, rfl, rfl, hj, rfl⟩
      | un => exact .inr ⟨by cases gt env j <;> rfl, fun d h => by cases h⟩
      | own d => exact .inr ⟨by cases gt env j <;> rfl, fun d h => by cases h⟩
      | frz d => exact .inr ⟨by cases gt env j <;> rfl, fun d h => by cases h⟩
      | exn x => exact .inr ⟨by cases gt env j <;> rfl, fun d h => by cases h⟩
    · rw [if_neg hj]
      exact .inr ⟨rfl, fun d h => (kb j d h).1.elim id fun z => absurd z.2 hj⟩
  have got : ∀ j a, OwnAt (unlock env l e') σ1 j a → (OwnAt e' σ1 j a ∧ ¬ (At env σ l) a) ∨ (OwnAt env σ j a ∧ (At env σ l) a) := fun j a ⟨⟨d, h⟩, e⟩ => by
    rcases cs j with ⟨d', h1, h2, h3, h4⟩ | ⟨h1, _⟩
    · rw [(kb j d' h4).2] at e
      have oa : OwnAt env σ j a := ⟨⟨d', h2⟩, e⟩
      exact .inr ⟨oa, j, h3, oa⟩
    · rw [h1] at h
      have oa : OwnAt e' σ1 j a := ⟨⟨d, h⟩, e⟩
      obtain ⟨_, _, _, _, nb, _⟩ := g.fr.ownAt oa
      exact .inl ⟨oa, fun z => nb (.inr z)⟩
  refine ⟨⟨fun a o f z => g.st.ob a o (f.imp id .inl) z, g.st.fz, fun a f => (g.st.nw a f).imp id fun z b => z (.inl b), g.st.th⟩, ⟨?_, g.fr.th, fun a f => g.fr.thb a (.inl f), fun j => ?_, fun i j a h1 h2 => ?_⟩, fun j d q => ?_⟩
  · rw [← g.fr.len]
    exact onAllI_len _ _
  · have s := g.fr.sl j
    rcases cs j with ⟨d, h1, h2, h3, h4⟩ | ⟨h1, h2⟩
    · rw [h1]
      rw [h4] at s
      obtain ⟨a, oa⟩ := fr.own_val h2
      obtain ⟨ds, vs, g2, n1, n2, z, r⟩ := fr.ownAt oa
      rw [h2] at g2
      cases g2
      obtain ⟨v, e, a', us, e2, f, z', r'⟩ := s
      rw [(kb j _ h4).2, oa.2, e2] at e
      cases e
      exact ⟨a, by rw [(kb j _ h4).2]; exact oa.2, fun f => (g.st.nw a f).elim n1 fun k => k (.inr ⟨j, h3, oa⟩), n2, us, z', r'⟩
    · rw [h1]
      cases q : gt e' j with
      | un => trivial
      | exn x =>
        rw [q] at s
        exact s
      | frz d =>
        rw [q] at s
        exact s
      | own d =>
        rw [q] at s
        obtain ⟨a, e, n1, n2, o⟩ := s
        exact ⟨a, e, n1, fun b => n2 (.inl b), o⟩
      | bor d =>
        rw [q] at s
        obtain ⟨v, e, r⟩ := s
        refine ⟨v, e, ?_⟩
        cases d with
        | lst ds =>
          obtain ⟨a, vs, e2, f, z, r⟩ := r
          have s0 := fr.sl j
          rw [h2 _ q, ← (kb j _ q).2, e] at s0
          obtain ⟨v', e3, a', us, e4, f', _⟩ := s0
          cases e3
          rw [e2] at e4
          cases e4
          exact ⟨a, vs, e2, f'.imp (g.st.fz a) id, z, r⟩
        | _ => exact r
  · rcases got i a h1 with ⟨o1, n1⟩ | ⟨o1, n1⟩
    · rcases got j a h2 with ⟨o2, n2⟩ | ⟨o2, n2⟩
      · exact g.fr.sep i j a o1 o2
      · exact absurd n2 n1
    · rcases got j a h2 with ⟨o2, n2⟩ | ⟨o2, n2⟩
      · exact absurd n1 n2
      · exact fr.sep i j a o1 o2
  · rcases cs j with ⟨d', h1, _⟩ | ⟨h1, h2⟩
    · rw [h1] at q
      cases q
    · rw [h1] at q
      exact ⟨h2 d q, (kb j d q).2⟩
end
theorem gt_mask : ∀ (e0 e : Env) (j : Nat), gt (mask e0 e) j = gt e j ∨ gt (mask e0 e) j = .un
  | [], e, j => .inl (by cases e <;> rfl)
  | _ :: _, [], j => .inl (by simp [mask])
  | s0 :: r0, s :: r, 0 => by
    cases s0
    · exact .inr rfl
    all_goals exact .inl rfl
  | s0 :: r0, s :: r, j + 1 => by
    have h := gt_mask r0 r j
    have e1 : gt (mask (s0 :: r0) (s :: r)) (j + 1) = gt (mask r0 r) j := by
      cases s0 <;> simp [mask, gt]
    have e2 : gt (s :: r) (j + 1) = gt r j := by
      unfold gt
      simp
    rw [e1, e2]
    exact h
theorem mask_len : ∀ (e0 e : Env), (mask e0 e).length = e.length
  | [], e => by cases e <;> rfl
  | _ :: _, [] => by simp [mask]
  | s0 :: r0, s :: r => by
    have := mask_len r0 r
    cases s0 <;> simp [mask, this]
section
variable {Z : Wd} {F F1 Fb : Fz} {H H1 : Hp} {σ σ1 : St} {env e' : Env}
theorem Go.mask (g : Go Z F Fb H σ env σ1 F1 H1 e') (e0 : Env) : Go Z F Fb H σ env σ1 F1 H1 (mask e0 e') := by
  have back : ∀ j a, OwnAt (Mi.mask e0 e') σ1 j a → OwnAt e' σ1 j a := fun j a ⟨⟨d, q⟩, e⟩ => by
    rcases gt_mask e0 e' j with h | h
    · rw [h] at q
      exact ⟨⟨d, q⟩, e⟩
    · rw [h] at q
      cases q
  refine ⟨g.st, ⟨by rw [mask_len]; exact g.fr.len, g.fr.th, g.fr.thb, fun j => ?_, fun i j a h1 h2 => g.fr.sep i j a (back i a h1) (back j a h2)⟩, fun j d q => ?_⟩
  · rcases gt_mask e0 e' j with h | h
    · rw [h]
      exact g.fr.sl j
    · rw [h]
      trivial
  · rcases gt_mask e0 e' j with h | h
    · rw [h] at q
      exact g.bk j d q
    · rw [h] at q
      cases q
end
section
variable {X : Cx} {S : Sit} {D : Ends} {σ : St} {H : Hp}
theorem s_wf {st : PySem.Stmt} {m : Mi.S} {l : List Nat} (h : PS X st (tS S m)) : PS X st (tS S (.wf l m)) := PS.imp h fun D σ H ⟨F, Fb, env, fr, q⟩ => by
  rw [evS] at q
  exact ⟨_, Fb, _, (fr.frz_go l).fr, Fin.go q (fr.frz_go l)⟩
theorem s_while {c : PySem.Expr} {body : List PySem.Stmt} {mc : E} {mb : List Mi.S} {pos : Pos} (hp : PassesOwn (model X.prog X.w) X.A X.env X.xe) (hc : PT X c (tT S mc)) (hb : PSs X body (tSs S mb)) : PS X (.While c body [] pos) (tS S (.whl mc mb)) := by
  refine PS.imp (ps_while hp hc hb) fun D σ H ⟨F, Fb, env, fr, q⟩ => ?_
  rw [evS] at q
  refine ⟨fun n σ1 H1 => ∃ F1 e1, Go S.Z F Fb H σ env σ1 F1 H1 e1 ∧ Fin S F Fb H σ env D (evWhl (fun e => (evE S.Γ mc e).bind truth) (evSs S.Γ mb) env n e1), ⟨fuel, F, env, fr.self, q⟩, ?_⟩
  rintro n σ1 H1 ⟨F1, e1, g, q⟩
  cases n with
  | zero =>
    rw [evWhl] at q
    exact q.elim
  | succ n =>
    rw [evWhl] at q
    refine ⟨F1, Fb, e1, g.fr, ?_⟩
    have fin : ∀ o, (∀ e2, o = Out.nx e2 ∨ o = Out.ct e2 → Fin S F Fb H σ env D (evWhl (fun e => (evE S.Γ mc e).bind truth) (evSs S.Γ mb) env n (mask env e2))) → (∀ e2, o = Out.bk e2 → Fin S F Fb H σ env D (.nx (mask env e2))) → ((∀ e2, o ≠ Out.nx e2 ∧ o ≠ Out.ct e2 ∧ o ≠ Out.bk e2) → Fin S F Fb H σ env D o) →
        Fin S F Fb H σ env { D with nx := fun σ' H' => ∃ m', m' < n + 1 ∧ ∃ F1 e1, Go S.Z F Fb H σ env σ' F1 H' e1 ∧ Fin S F Fb H σ env D (evWhl (fun e => (evE S.Γ mc e).bind truth) (evSs S.Γ mb) env m' e1), ct := fun σ' H' => ∃ m', m' < n + 1 ∧ ∃ F1 e1, Go S.Z F Fb H σ env σ' F1 H' e1 ∧ Fin S F Fb H σ env D (evWhl (fun e => (evE S.Γ mc e).bind truth) (evSs S.Γ mb) env m' e1), bk := D.nx } o := by
      intro o h1 h2 h3
      cases o with
      | nx e2 => exact fun σ' F' H' k => ⟨n, Nat.lt_succ_self n, F', _, k.mask env, h1 e2 (.inl rfl)⟩
      | ct e2 => exact fun σ' F' H' k => ⟨n, Nat.lt_succ_self n, F', _, k.mask env, h1 e2 (.inr rfl)⟩
      | bk e2 => exact fun σ' F' H' k => h2 e2 rfl σ' F' H' (k.mask env)
      | ret d own => exact h3 fun _ => ⟨(fun z => by cases z), (fun z => by cases z), (fun z => by cases z)⟩
      | exc x e => exact h3 fun _ => ⟨(fun z => by cases z), (fun z => by cases z), (fun z => by cases z)⟩
      | bad => exact h3 fun _ => ⟨(fun z => by cases z), (fun z => by cases z), (fun z => by cases z)⟩
    cases hc : (evE S.Γ mc e1).bind truth with
    | bad =>
      rw [hc] at q
      exact q.elim
    | exc x =>
      rw [hc] at q
      exact fun cls dd F' H' k r => q cls dd σ1 F' H' (g.trans (g.fr.go k)) r
    | ok b =>
      rw [hc] at q
      have q : Fin S F Fb H σ env D (if b = true then _ else _) := q
      intro F2 H2 x2
      have g2 := g.trans (g.fr.go x2)
      cases b with
      | false => exact q _ F2 H2 g2
      | true =>
        rw [if_pos rfl] at q
        refine ⟨_, fun σ' H' h => h, F2, Fb, e1, g2.fr, Fin.go ?_ g2⟩
        refine fin _ (fun e2 h => ?_) (fun e2 h => ?_) (fun h => ?_)
        · rcases h with h | h <;> (rw [h] at q; exact q)
        · rw [h] at q
          exact q
        · cases ho : evSs S.Γ mb e1 with
          | nx e2 => exact absurd ho (h e2).1
          | ct e2 => exact absurd ho (h e2).2.1
          | bk e2 => exact absurd ho (h e2).2.2
          | ret d own =>
            rw [ho] at q
            exact q
          | exc x e =>
            rw [ho] at q
            exact q
          | bad =>
            rw [ho] at q
            exact q
theorem fin_unlock {F Fb : Fz} {env : Env} {o : Out} (l : List Nat) (fr : Fr S.Z F Fb H σ env) (q : Fin S F Fb H σ env D (o.onEnv (unlock env l))) : Fin S F (Fb.or (At env σ l)) H σ (onAll lock l env) D o := by
  cases o with
  | nx e => exact fun σ' F' H' k => q σ' F' H' (fr.unlock_go l k)
  | bk e => exact fun σ' F' H' k => q σ' F' H' (fr.unlock_go l k)
  | ct e => exact fun σ' F' H' k => q σ' F' H' (fr.unlock_go l k)
  | exc x e => exact fun cls dd σ' F' H' k r => q cls dd σ' F' H' (fr.unlock_go l k) r
  | ret d own =>
    refine fun v F' H' k r => q v F' H' ⟨fun a o f z => k.ob a o (f.imp id .inl) z, k.fz, fun a f => (k.nw a f).imp id fun z b => z (.inl b), k.th⟩ ?_
    unfold RetOk at r ⊢
    split
    · rename_i c
      rw [if_pos c] at r
      obtain ⟨a, e, n1, n2, o⟩ := r
      exact ⟨a, e, n1, fun b => n2 (.inl b), o⟩
    · rename_i c
      rw [if_neg c] at r
      exact r
  | bad => exact q
theorem s_for {tg iter : PySem.Expr} {body : List PySem.Stmt} {t : Tgt} {mi : E} {mb : List Mi.S} {pos : Pos} (hp : PassesOwn (model X.prog X.w) X.A X.env X.xe) (hc : X.calm = true) (hi : PI X tg iter (tI S mi)) (hg : PG X tg (gT S t)) (hb : PSs X body (tSs S mb))
    (hs : ∀ x, foldedSetIterable iter X.env x = pure x) : PS X (.For tg iter body [] pos) (tS S (.fr t mi mb)) := by
  refine PS.imp (ps_for hp hc hi hg hb hs) fun D σ H ⟨F, Fb, env, fr, q⟩ => ?_
  rw [evS] at q
  refine ⟨F, Fb, env, fr, (fin_out fr q).mono fun ds k J F1 H1 L e hL yl => ?_⟩
  have fr1 := fr.ext e
  have k1 := fin_unlock (pks mi) fr1 (Fin.ext k fr e)
  have fr2 := fr1.lock (pks mi)
  generalize hFb : Fb.or (At env σ (pks mi)) = Fb2 at k1 fr2
  generalize hev : onAll lock (pks mi) env = env2 at k1 fr2
  have hL2 : ∀ a, L a → F1 a ∨ Fb2 a := fun a l => by
    rw [← hFb]
    exact (hL a l).1.elim .inl fun z => .inr (z.elim .inl fun ⟨i, hi, o⟩ => .inr ⟨i, hi, o⟩)
  refine ⟨fun i n σ' H' => n + i = ds.length ∧ ∃ F' e', Go S.Z F1 Fb2 H1 σ env2 σ' F' H' e' ∧ Fin S F1 Fb2 H1 σ env2 D (evFor (evSs S.Γ mb) (bindT t) env (ds.drop i) e'), ⟨ds.length, rfl, F1, env2, fr2.self, k1⟩, ?_⟩
  rintro i n σ' H' ⟨hn, F', e', g, q⟩
  have y := yl F' H' g.st.fz (fun a o f z => g.st.ob a o (f.elim .inl (hL2 a)) z) g.st.th
  by_cases hi : i < ds.length
  · obtain ⟨go, yd⟩ := y.1 i ds[i] (List.getElem?_eq_getElem hi)
    rw [drop_at hi, evFor] at q
    obtain ⟨e1, eb, q⟩ := fin_only q
    refine .inr ⟨go, fun σ' H' => ∃ m', m' < n ∧ (m' + (i + 1) = ds.length ∧ ∃ F' e', Go S.Z F1 Fb2 H1 σ env2 σ' F' H' e' ∧ Fin S F1 Fb2 H1 σ env2 D (evFor (evSs S.Γ mb) (bindT t) env (ds.drop (i + 1)) e')), fun _ _ h => h, fun x H3 yx => ?_⟩
    obtain ⟨F3, e3, r3⟩ := yd x H3 yx
    have g3 := g.trans (g.fr.go e3)
    refine ⟨F3, Fb2, e', ds[i], e1, g3.fr, r3, eb, fun σ4 fr4 len keep => ⟨F3, Fb2, e1, fr4, ?_⟩⟩
    have g4 : Go S.Z F1 Fb2 H1 σ env2 σ4 F3 H3 e1 := g3.trans ⟨(Ext.refl g3.fr.th).step g3.fr.thb, fr4, fun j d z => by
      obtain ⟨z, nz⟩ := bindT_not _ _ _ _ j _ eb z ⟨(fun z => by cases z), (fun _ z => by cases z)⟩
      exact ⟨z, keep j nz⟩⟩
    refine Fin.go ?_ g4
    cases ho : evSs S.Γ mb e1 with
    | nx e2 =>
      rw [ho] at q
      exact fun σ' F' H' k => ⟨n - 1, by omega, by omega, F', _, k.mask env, q⟩
    | ct e2 =>
      rw [ho] at q
      exact fun σ' F' H' k => ⟨n - 1, by omega, by omega, F', _, k.mask env, q⟩
    | bk e2 =>
      rw [ho] at q
      exact fun σ' F' H' k => q σ' F' H' (k.mask env)
    | ret d own =>
      rw [ho] at q
      exact q
    | exc x e =>
      rw [ho] at q
      exact q
    | bad =>
      rw [ho] at q
      exact q
  · have : i = ds.length := by omega
    subst this
    refine .inl ⟨y.2, ?_⟩
    rw [List.drop_of_length_le (Nat.le_refl _), evFor] at q
    exact q σ' F' H' g
end
end Mi
namespace Mi
open PySem L2
/-! ### defs -/
theorem argsOk_slot {Z : Wd} {F : Fz} {H : Hp} {s : Slot} {v : V} {Fb : Fz} (h : ArgOk Z F H s v) (hb : ∀ a, H a ≠ none → F a ∨ Fb a) : SlotOk Z F Fb H s (some (some v)) := by
  cases s with
  | un => exact h.elim
  | own d => exact h.elim
  | exn x => exact h.elim
  | frz d => exact ⟨v, rfl, h⟩
  | bor d =>
    refine ⟨v, rfl, ?_⟩
    cases d with
    | lst ds =>
      obtain ⟨a, vs, e, z, r⟩ := h
      exact ⟨a, vs, e, hb a (some_ne z), z, r⟩
    | _ => exact h
theorem argsOk_get {Z : Wd} {F : Fz} {H : Hp} : ∀ {as : List Slot} {vs : List V}, ArgsOk Z F H as vs → ∀ (i : Nat) (s : Slot), as[i]? = some s → ∃ v, vs[i]? = some v ∧ ArgOk Z F H s v
  | [], _, _, i, s, h => by simp at h
  | a :: as, _, ⟨v, r, e, h1, h2⟩, 0, s, h => by
    subst e
    cases h
    exact ⟨v, rfl, h1⟩
  | a :: as, _, ⟨v, r, e, h1, h2⟩, i + 1, s, h => by
    subst e
    exact argsOk_get h2 i s (by simpa using h)
/-- the frame at the entry -/
theorem fr_start {Z : Wd} {F : Fz} {H : Hp} {as : List Slot} {vs : List V} {N : List Str} (hF : ∀ a, F a → H a ≠ none) (h : ArgsOk Z F H as vs) : Fr Z F (fun a => H a ≠ none ∧ ¬ F a) H (L2.start N vs) (as ++ List.replicate (N.length - as.length) .un) := by
  have hl := h.length
  have gs : ∀ i, gt (as ++ List.replicate (N.length - as.length) .un) i = (as[i]?).getD .un := fun i => by
    unfold gt
    rw [List.getD_eq_getElem?_getD, List.getElem?_append]
    split
    · rfl
    · rename_i hi
      rw [List.getElem?_replicate]
      rw [List.getElem?_eq_none (by omega)]
      split <;> rfl
  have no : ∀ i d, gt (as ++ List.replicate (N.length - as.length) .un) i ≠ .own d := fun i d q => by
    rw [gs] at q
    cases e : as[i]? with
    | none =>
      rw [e] at q
      cases q
    | some s =>
      rw [e] at q
      obtain ⟨v, _, k⟩ := argsOk_get h i s e
      cases q
      exact k
  refine ⟨?_, hF, fun a f => f.1, fun i => ?_, fun i j a h1 _ => ?_⟩
  · unfold L2.start
    simp [hl]
  · rw [gs]
    cases e : as[i]? with
    | none => trivial
    | some s =>
      obtain ⟨v, e1, k⟩ := argsOk_get h i s e
      have : (L2.start N vs)[i]? = some (some v) := by
        unfold L2.start
        have hi : i < vs.length := (List.getElem?_eq_some_iff.mp e1).1
        rw [List.getElem?_append_left (by simpa using hi), List.getElem?_map, e1]
        rfl
      rw [this]
      exact argsOk_slot k fun a z => (Classical.em (F a)).imp id fun f => ⟨z, f⟩
  · obtain ⟨d, g⟩ := h1.1
    exact absurd g (no i d)
/-- what a context of a def's body knows -/
structure BodyCx (P : Program) (w : World) (K : PySem.W.Frag) (mg : Str → Option Value) (base : Heap) (N : List Str) (sc : Scope) (k : Nat) (tp : Bool) (W : WX) (X : Cx) : Prop where
  prog : X.prog = P
  w : X.w = w
  K : X.K = K
  mg : X.mg = mg
  base : X.base = base
  N : X.N = N
  sc : X.env.scope = sc
  calm : X.calm = true
  fn : X.fn = fun _ => true
  tk : Takes X W
  ow : PassesOwn (model X.prog X.w) X.A X.env X.xe
  room : Room k X.A
  top : tp = true → X.stack = X.env :: X.outer ∧ X.env.frame = some X.env.locals
section
variable {P : Program} {w : World} {K : PySem.W.Frag} {mg : Str → Option Value} {base : Heap}
theorem fn_ok {x qual : Str} {st : PySem.Stmt} {f : Addr} {fd : FuncData} {N ps : List Str} {k : Nat} {b : Body} {Z : Wd} {Γ : Glob} (F : Fun K x qual st f fd) (sc : FnScope N ps (defScope st)) (hn : b.n = N.length)
    (body : ∀ (W : WX) (X : Cx), BodyCx P w K mg base N (defScope st) k true W X → PSs X (defBody st) (tSs ⟨Z, Γ, W⟩ b.code)) :
    FnOk P w K mg base (L2.CX P w) (k + 1) f fd ps (spF Z b.fresh ps.length (runB Γ b)) := by
  refine F.okX sc (fun vs H Q E h => h.1) fun cdv A outer s H vs Q E hr h => ?_
  refine ⟨_, body (fun cls d _ H => E cls d H) _ ⟨rfl, rfl, rfl, rfl, rfl, rfl, rfl, rfl, rfl, L2.takes_of rfl rfl rfl rfl, L2.passes_of rfl, hr, fun _ => ⟨rfl, rfl⟩⟩, ?_⟩
  obtain ⟨hl, F, as, hF, ha, h⟩ := h
  refine ⟨F, _, _, fr_start (N := N) hF ha, ?_⟩
  unfold runB at h
  rw [hn] at h
  -- all that stood stays
  have ext : ∀ F' H', Step F (fun a => H a ≠ none ∧ ¬ F a) H F' H' → Ext F H F' H' := fun F' H' g =>
    ⟨fun a o z => g.ob a o ((Classical.em (F a)).imp id fun f => ⟨some_ne z, f⟩) z, g.fz, fun a f => (g.nw a f).elim .inl fun n => (Classical.em (F a)).imp id fun nf => Classical.byContradiction fun z => n ⟨z, nf⟩, g.th⟩
  generalize evSs Γ b.code (as ++ List.replicate (N.length - as.length) .un) = o at h
  cases o with
  | nx e => exact fun σ' F' H' g => h _ F' H' (ext F' H' g.st) (by cases b.fresh <;> rfl)
  | bk e => exact h.elim
  | ct e => exact h.elim
  | bad => exact h.elim
  | exc x e => exact fun cls dd σ' F' H' g r => h cls dd F' H' (ext F' H' g.st) r
  | ret d own =>
    intro v F' H' g r
    have g' := ext F' H' g
    unfold RetOk at r
    dsimp only at h r
    cases hm : isMut d with
    | false =>
      rw [hm] at h r
      simp only [Bool.and_false, Bool.false_and, Bool.false_eq_true, if_false] at h r
      refine h v F' H' g' ?_
      cases b.fresh
      · exact r
      · show if isMut d then _ else _
        rw [hm]
        exact r
    | true =>
      rw [hm] at h r
      cases own with
      | true =>
        simp only [Bool.and_self, Bool.not_true, Bool.and_false, Bool.false_eq_true, if_false, if_true] at h r
        obtain ⟨a, rfl, n1, n2, o⟩ := r
        have hn : H a = none := Classical.byContradiction fun z => n2 ⟨z, fun f => n1 (g.fz a f)⟩
        cases hf : b.fresh with
        | true =>
          rw [hf] at h
          refine h _ F' H' g' ?_
          show if isMut d then _ else _
          rw [hm]
          exact ⟨a, rfl, hn, n1, o⟩
        | false =>
          rw [hf] at h
          have p : Post Z .fresh F' H H' d (.ref a) := by
            show if isMut d then _ else _
            rw [hm]
            exact ⟨a, rfl, hn, n1, o⟩
          obtain ⟨F2, g2, r2⟩ := p.frz g' (fun z => by cases z)
          exact h _ F2 H' g2 r2
      | false =>
        simp only [Bool.and_true, Bool.not_false, Bool.false_and, Bool.false_eq_true, if_false] at h r
        cases hf : b.fresh with
        | true =>
          rw [hf] at h
          exact h.elim
        | false =>
          rw [hf] at h
          exact h v F' H' g' r
end
end Mi
/-! tuples: t[::-1], sorted(t); min(xs) -/
namespace MiK
open PySem PySem.Spec PySem.Calls PyProof.Rows PySem.W L2
theorem fm_congr {α β : Type} {f g : α → Option β} : ∀ {l : List α}, (∀ x ∈ l, f x = g x) → l.filterMap f = l.filterMap g
  | [], _ => rfl
  | x :: l, h => by
    rw [List.filterMap_cons, List.filterMap_cons, h x List.mem_cons_self, fm_congr fun y hy => h y (List.mem_cons_of_mem _ hy)]
section
variable {prog : Program} {w : World} {A : Around} {E : Value → Shared → Prop} {s : Shared}
theorem adjust_rev (n : Nat) : Builtin.Slice.sliceAdjust none none (-1) (n : Int) = ((n : Int) - 1, -1) := by
  unfold Builtin.Slice.sliceAdjust
  first
    | rfl
    | simp
theorem places_rev (n : Nat) : Builtin.Slice.slicePlaces ((n : Int) - 1) (-1) (-1) = n := by
  unfold Builtin.Slice.slicePlaces
  have h1 : ¬ ((-1 : Int) > 0) := by omega
  simp only [h1, if_false]
  split
  · have : ((n : Int) - 1 - -1 - 1) / (- -1) = (n : Int) - 1 := by
      rw [show -(-1 : Int) = 1 by rfl, Int.ediv_one]
      omega
    omega
  · omega
theorem pick_rev (xs : Array Value) : ((List.range xs.size).filterMap fun (m : Nat) => xs[(((xs.size : Int) - 1) + (m : Int) * (-1)).toNat]?).toArray = xs.toList.reverse.toArray := by
  congr 1
  have e : (fun (m : Nat) => xs[(((xs.size : Int) - 1) + (m : Int) * (-1)).toNat]?) = fun (m : Nat) => xs[((xs.size : Int) - 1 - (m : Int)).toNat]? := by
    funext m
    congr 1
    omega
  rw [e]
  have e2 : ∀ (l : List Value) , ((List.range l.length).filterMap fun (m : Nat) => l[((l.length : Int) - 1 - (m : Int)).toNat]?) = l.reverse := fun l => by
    have a : (List.range l.length).filterMap (fun (m : Nat) => l[((l.length : Int) - 1 - (m : Int)).toNat]?) = (List.range l.length).filterMap (fun m => l.reverse[m]?) := by
      refine fm_congr fun m hm => ?_
      have hm := List.mem_range.mp hm
      rw [List.getElem?_reverse hm]
      congr 1
      omega
    rw [a]
    have b : ∀ r : List Value, (List.range r.length).filterMap (fun m => r[m]?) = r := fun r => by
      induction r with
      | nil => rfl
      | cons x r ih =>
        rw [List.length_cons, List.range_succ_eq_map, List.filterMap_cons]
        show x :: _ = _
        rw [List.filterMap_map]
        congr 1
    have := b l.reverse
    rw [List.length_reverse] at this
    exact this
  have := e2 xs.toList
  rw [Array.length_toList] at this
  rw [← this]
  refine fm_congr fun m _ => ?_
  rw [Array.getElem?_toList]
theorem sliceApplied_rev {sl : Addr} {u : Tok} {n : Nat} {Q : Int × Int × Nat → Shared → Prop} (hs : s.heap.IsSliceOf sl .none .none (.int (-1) u)) (h : Q ((n : Int) - 1, -1, n) s) : wpAny (model prog w) A (Builtin.Slice.sliceApplied (.ref sl) (pure (n : Int))) Q E s := by
  obtain ⟨os, hos, hcs, hds⟩ := id hs
  unfold Builtin.Slice.sliceApplied Builtin.Slice.sliceFields
  refine wpAny_bind (wpAny_bind (wpAny_field hos hds (x := .none) rfl (wpAny_bind (wpAny_field hos hds (x := .none) rfl (wpAny_bind (wpAny_field hos hds (x := .int (-1) u) rfl (wpAny_pure ?_)))))))
  refine wpAny_bind (slicePart_int ?_)
  show wpAny _ _ (if ((-1 : Int) == 0) = true then _ else _) _ _ s
  rw [if_neg (by decide)]
  refine wpAny_bind (slicePart_none (wpAny_bind (slicePart_none (wpAny_bind (wpAny_pure ?_)))))
  show wpAny _ _ (match Builtin.Slice.sliceAdjust none none (-1) (n : Int) with | (lo, hi) => pure (lo, (-1 : Int), Builtin.Slice.slicePlaces lo hi (-1))) _ _ s
  rw [adjust_rev n]
  show wpAny _ _ (pure ((n : Int) - 1, (-1 : Int), Builtin.Slice.slicePlaces ((n : Int) - 1) (-1) (-1))) _ _ s
  rw [places_rev]
  exact wpAny_pure h
theorem getItem_tuple_rev {t sl : Addr} {items : Array Value} {u : Tok} {Q : Value → Shared → Prop} (ht : IsTup s.heap t items) (hs : s.heap.IsSliceOf sl .none .none (.int (-1) u))
    (h : Q (.ref s.heap.objs.size) { s with heap := s.heap.push { cls := .type "tuple", data := .seq items.toList.reverse.toArray } })
    (hsz : items.size ≤ sizeLine) : wpAny (model prog w) A (getItem (.ref t) (.ref sl)) Q E s := by
  have htake : sizeOk (.seq items.toList.reverse.toArray) := by
    show items.toList.reverse.toArray.size ≤ sizeLine
    rw [List.size_toArray, List.length_reverse, Array.length_toList]
    omega
  obtain ⟨os, hos, hcs, hds⟩ := id hs
  have hTs : s.TypeIs (.ref sl) "slice" := ⟨os, hos, hcs⟩
  unfold getItem
  try with_reducible refine wpAny_holding ?_
  first | refine wpAny_bind (wpAny_pure ?_) | skip
  refine wpAny_bind (wpAny_sequenceKey ht.typeIs (by decide) ?_)
  refine wpAny_bind (wpAny_callSpecial?_slot (name := Str.ofString "__getitem__") ht.typeIs PyProof.Rows.slot_tuple_getitem
    (wpAny_call_entry PyProof.Rows.slot_tuple_getitem ht.typeIs entry_tuple_getitem ?_ (args_tuple_getitem _ _)))
  show wpAny _ _ (Builtin.Tuple.tupleItemsOf (.ref t) >>= _) _ _ s
  refine wpAny_bind (tupleItemsOf_ ht ?_)
  refine wpAny_bind (wpAny_typeOf hTs ?_)
  rw [if_pos (by decide)]
  refine wpAny_bind (sliceApplied_rev hs ?_)
  have hno : ¬ ((((items.size : Int) - 1) == 0 && (-1 : Int) == 1 && items.size == items.size) = true) := by
    intro q
    rw [Bool.and_eq_true, Bool.and_eq_true] at q
    exact absurd q.1.2 (by decide)
  show wpAny _ _ (if (((items.size : Int) - 1) == 0 && (-1 : Int) == 1 && items.size == items.size) = true then _ else _) _ _ s
  rw [if_neg hno, pick_rev]
  first
    | exact wpAny_bind (m := Builtin.Tuple.tupleExact _) (wpAny_newObj_type (wpAny_pure ⟨_, rfl, wpAny_pure h⟩) htake)
    | exact wpAny_bind (m := Builtin.Tuple.tupleExact _) (wpAny_newObj_type (wpAny_bind (wpAny_pure (wpAny_pure ⟨_, rfl, wpAny_pure h⟩))) htake)
    | exact wpAny_bind (wpAny_bind (m := Builtin.Tuple.tupleExact _) (wpAny_newObj_type (wpAny_pure (wpAny_pure ⟨_, rfl, wpAny_pure h⟩)) htake))
    | exact wpAny_bind (wpAny_bind (m := Builtin.Tuple.tupleExact _) (wpAny_newObj_type (wpAny_pure ⟨_, rfl, wpAny_pure h⟩) htake))
theorem collect_tup {l : Addr} {vs : List Value} {Q : List Value → Shared → Prop} (hl : IsTup s.heap l vs.toArray)
    (h : Q vs { s with heap := (s.heap.push (seqObj "list" #[] 0)).update s.heap.objs.size (Obj.mapSeq (· ++ vs.toArray)) }) (hsz : vs.length ≤ sizeLine) :
    wpAny (model prog w) A (collect (.ref l)) Q E s := by
  obtain ⟨o, ho, hc, n, hd⟩ := id hl
  unfold collect
  refine wpAny_bind (wpAny_runValue (codeAny_builtin entry_proto_collect' ?_))
  show wpAny _ _ (do again (.builtin "list.__iadd__" ⟨[← newList [], .ref l], []⟩)) _ _ s
  refine wpAny_bind (wpAny_newList (wpAny_pure ⟨Code.quiet_builtin _ (by decide +kernel), codeAny_builtin entry_list_iadd' ?_⟩))
  show wpAny _ _ (Builtin.List.listExtendWith (.ref s.heap.objs.size) (.ref l) (.ref s.heap.objs.size)) _ _ { s with heap := s.heap.push (seqObj "list" #[] 0) }
  unfold Builtin.List.listExtendWith
  have ho' : (s.heap.push (seqObj "list" #[] 0)).get? l = some o := Heap.get?_push_of_some _ ho
  refine wpAny_bind (wpAny_typeOf (T := "tuple") ⟨o, ho', hc⟩ ?_)
  have ht : (Value.type "tuple" == Value.type "tuple") = true := by rfl
  rw [if_pos (by first | (rw [ht]; simp) | decide)]
  refine wpAny_bind (listItems_at ho' hd ?_)
  refine wpAny_bind (listItems_at (xs := #[]) (n := 0) (Heap.get?_push_size _ rfl) rfl ?_)
  rw [if_neg (by simp)]
  refine wpAny_bind (listUpdate_at (xs := #[]) (n := 0) (Heap.get?_push_size _ rfl) rfl ?_ (Nat.zero_le _) (by show (#[] ++ vs.toArray).size ≤ sizeLine + 1; simp only [Array.size_append, List.size_toArray, List.length_nil]; omega))
  refine wpAny_pure ?_
  show wpAny (model prog w) A (do
      let o ← load s.heap.objs.size
      match o.data with
      | .seq xs _ => pure xs.toList
      | _ => unsupported "internal:collect") Q E { s with heap := (s.heap.push (seqObj "list" #[] 0)).update s.heap.objs.size (Obj.mapSeq (· ++ vs.toArray)) }
  refine wpAny_bind (wpAny_load (get?_update_seq (Heap.get?_push_size _ rfl) _) ?_)
  show wpAny _ _ (pure ((#[] : Array Value) ++ vs.toArray).toList) Q E _
  rw [show ((#[] : Array Value) ++ vs.toArray).toList = vs by simp]
  exact wpAny_pure h
theorem sorted_of_sortT {l : Addr} {vs : List Value} {kw : List (Str × Value)} {Q : Value → Shared → Prop} (hl : IsTup s.heap l vs.toArray) (hL : vs.length ≤ sizeLine) (ha1 : argsOk "sorted" ⟨[.ref l], kw⟩) (ha2 : ∀ x, argsOk "list.sort" ⟨[.ref x], kw⟩)
    (body : ∀ E' : Value → Shared → Prop, wpAny (model prog w) A.in1.in1 (Builtin.«list.sort» ⟨[.ref (s.heap.objs.size + 1)], kw⟩) (fun f s' => f = .done (.ret .none) ∧ Q (.ref (s.heap.objs.size + 1)) s') E' { s with heap := copyHeap s.heap vs }) :
    wpAny (model prog w) A (call (.builtin "sorted") [.ref l] kw) Q E s := by
  refine call_function_entry_kw kind_sorted plain_sorted entry_sorted ha1 ?_
  unfold Builtin.«sorted»
  refine wpAny_bind (m := checkCount "sorted" 1 1 _) (wpAny_pure ?_)
  refine wpAny_bind (collect_tup hl ?_ hL)
  refine wpAny_bind (wpAny_newList ?_ hL)
  have hsz : ((s.heap.push (seqObj "list" #[] 0)).update s.heap.objs.size (Obj.mapSeq (· ++ vs.toArray))).objs.size = s.heap.objs.size + 1 := by
    rw [Heap.size_update, size_push']
  show wpAny _ _ _ _ _ { s with heap := copyHeap s.heap vs }
  rw [hsz]
  refine wpAny_bind (wpAny_holding (wpAny_call_entry_kw slot_list_sort ⟨_, copyHeap_at s.heap vs, rfl⟩ entry_list_sort ?body (ha2 _)))
  case body =>
    show wpAny (model prog w) A.in1.in1 (Builtin.«list.sort» ⟨[.ref (s.heap.objs.size + 1)], kw⟩) _ _ _
    refine wpAny_mono (body _) (fun f s' hf => ?_) fun _ _ e => e
    obtain ⟨rfl, hq⟩ := hf
    exact ⟨_, rfl, wpAny_pure ⟨_, rfl, hq⟩⟩
theorem sorted_dataT {β : Type} {vs : List Value} {bs : List β} {enc : β → PyData} {R : Value → β → Prop} {l : Addr} {Q : Value → Shared → Prop} (hl : IsTup s.heap l vs.toArray) (e : EachIs R vs bs) (er : EachIs (fun v b => ∃ as, Reads s.heap v (enc b) as) vs bs) (hal : AllAlike (bs.map enc)) (hk : Sortable (bs.map enc)) (hL : bs.length ≤ sizeLine)
    (hu : ∀ b, b ∈ bs → A.units + 2 + (enc b).depth < cLine) (h : ∀ out, out.length = bs.length → EachIs R out (bs.mergeSort (dataLe false enc)) → Q (.ref (s.heap.objs.size + 1)) { s with heap := sortedAll s.heap vs (List.toArray out) }) :
    wpAny (model prog w) A (call (.builtin "sorted") [.ref l]) Q E s := by
  have er' : EachIs (fun v b => ∃ as, Reads (sortingHeap (copyHeap s.heap vs) (s.heap.objs.size + 1) vs) v (enc b) as) vs bs := er.mono fun _ _ ⟨as, r⟩ => ⟨as, PyProof.Rows.Reads.keeps (fun _ _ => sorting_copy_old) r⟩
  have S : SortsAt prog w A.in1.in1 { s with heap := sortingHeap (copyHeap s.heap vs) (s.heap.objs.size + 1) vs } (dataKind (sortingHeap (copyHeap s.heap vs) (s.heap.objs.size + 1) vs) (bs.map enc)) vs :=
    SortsAt.data (s := { s with heap := sortingHeap (copyHeap s.heap vs) (s.heap.objs.size + 1) vs }) (each_map (R := fun v d => ∃ as, Reads (sortingHeap (copyHeap s.heap vs) (s.heap.objs.size + 1) vs) v d as) enc er') hal hk (bound_map hu)
  refine sorted_of_sortT hl (by rw [e.length]; exact hL) (args_sorted1 _) (fun _ => args_list_sort _) fun _ => list_sort_vals (s := { s with heap := copyHeap s.heap vs }) (copyHeap_at s.heap vs) S (by rw [e.length]; exact hL) ⟨rfl, ?_⟩
  exact h _ (by rw [sortVals_length false rfl]; exact e.length) (sortVals_data false e er' hal)
end
end MiK
namespace Mi
open PySem L2
/-! ### more tests -/
section
variable {X : Cx} {S : Sit} {a b : PySem.Expr} {ma mb : E} {pos : Pos}
theorem PW.imp {X : Cx} {e : PySem.Expr} {t t' : TT} (h : PW X e t) (i : ∀ σ H Q, t' σ H Q → t σ H Q) : PW X e t' := ⟨fun wh pins s σ H Q I q => h.run wh pins s σ H Q I (i σ H Q q)⟩
theorem w_and1 (h : PT X a (tT S ma)) : PW X (.BoolOp .And [a] pos) (tT S ma) := pw_and1 h
theorem w_or1 (h : PT X a (tT S ma)) : PW X (.BoolOp .Or [a] pos) (tT S ma) := pw_or1 h
theorem w_and {r : List PySem.Expr} (h1 : PT X a (tT S ma)) (h2 : PW X (.BoolOp .And (b :: r) pos) (tT S mb)) : PW X (.BoolOp .And (a :: b :: r) pos) (tT S (.and ma mb)) := by
  refine PW.imp (pw_and h1 h2) fun σ H Q ⟨F, Fb, env, fr, q⟩ => ⟨F, Fb, env, fr, ?_⟩
  rw [evE, ans_bind, ans_bind] at q
  rw [ans_bind]
  refine q.mono fun x hx => ?_
  split at hx
  · exact fun F' H' e => ⟨F', Fb, env, fr.ext e, ((ans_bind.mpr hx).ext e).mono fun t k F2 H2 e2 => k F2 H2 (e.trans e2)⟩
  · exact fun F' H' e => hx F' H' e
  · exact hx.elim
theorem w_or {r : List PySem.Expr} (h1 : PT X a (tT S ma)) (h2 : PW X (.BoolOp .Or (b :: r) pos) (tT S mb)) : PW X (.BoolOp .Or (a :: b :: r) pos) (tT S (.or ma mb)) := by
  refine PW.imp (pw_or h1 h2) fun σ H Q ⟨F, Fb, env, fr, q⟩ => ⟨F, Fb, env, fr, ?_⟩
  rw [evE, ans_bind, ans_bind] at q
  rw [ans_bind]
  refine q.mono fun x hx => ?_
  split at hx
  · exact fun F' H' e => hx F' H' e
  · exact fun F' H' e => ⟨F', Fb, env, fr.ext e, ((ans_bind.mpr hx).ext e).mono fun t k F2 H2 e2 => k F2 H2 (e.trans e2)⟩
  · exact hx.elim
theorem t_tru (h : PT X a (tT S ma)) : PT X a (tT S (.tru ma)) := PT.imp h fun σ H Q ⟨F, Fb, env, fr, q⟩ => ⟨F, Fb, env, fr, by
  rw [evE, ans_bind, ans_bind] at q
  rw [ans_bind]
  refine q.mono fun x hx => ?_
  rw [ans_map] at hx
  exact hx⟩
/-! ### isinstance -/
def tyS : Ty → String
  | .non => "NoneType"
  | .bool => "bool"
  | .int => "int"
  | .str => "str"
  | .tuple => "tuple"
  | .list => "list"
def tyD : D → Option Ty
  | .non => some .non
  | .bl _ => some .bool
  | .int _ => some .int
  | .str _ => some .str
  | .tup _ => some .tuple
  | .lst _ => some .list
  | _ => none
theorem ty_lnt {Z : Wd} {F : Fz} {H : Hp} {d : D} {v : V} {t : Ty} (h : tyD d = some t) (l : Lnt Z F H d v) : TyX Z.K H v (.type (tyS t)) := by
  cases d <;> cases h
  · cases l
    exact .base .non
  · cases (show v = _ from l)
    exact .base (.bl _)
  · cases (show v = _ from l)
    exact .base (.int _)
  · cases (show v = _ from l)
    exact .base (.str _)
  · obtain ⟨a, vs, rfl, _, z, _⟩ := l
    exact .base (.tup z)
  · obtain ⟨a, vs, rfl, z, _⟩ := l
    exact .base (.lst z)
def kitB : Ty → Ty → Bool
  | .non, .non => true
  | .bool, .bool => true
  | .bool, .int => true
  | .int, .int => true
  | .str, .str => true
  | .tuple, .tuple => true
  | .list, .list => true
  | _, _ => false
theorem kit_one (K : PySem.W.Frag) (t u : Ty) : PySem.W.kitOne K (.type (tyS t)) (.type (tyS u)) = some (kitB t u) := by
  cases t <;> cases u <;> rfl
theorem isi_ty {t u : Ty} {d : D} (h : tyD d = some t) : isiD u d = .ok (.bl (kitB t u)) := by
  cases d <;> cases h <;> cases u <;> rfl
theorem isi_no {u : Ty} {d : D} (h : tyD d = none) : isiD u d = .bad := by
  cases d <;> first | rfl | cases h
theorem s_isi {t : Ty} {x : Str} {p p2 : Pos} (hK : X.K = S.Z.K) (hx : BltIs X "isinstance") (hg : Gl X x) (hm : X.mg x = none) (hv : bootBuiltins x = some (.type (tyS t))) (hn : x ≠ "__name__") (hd : (x == ("__debug__" : Str)) = false) (ha : PE X a (tE S ma)) (hs : notStar a = true) :
    PE X (.Call (.Name "isinstance" p) [a, .Name x p2] [] pos) (tE S (.isi t ma)) := by
  refine PE.imp (pe_callB call_isi hx.gl hx.no (by decide +kernel) (pa_cons (lent_of ha) (pa_cons (pe_bltn (v := .ty (tyS t)) hg hm hv rfl hn hd) pa_nil rfl) (star_cons hs)) (by decide +kernel) (by decide +kernel) (star_cons hs) rfl) fun σ H Q ⟨F, Fb, env, fr, q⟩ => ?_
  rw [evE, ans_bind] at q
  refine ⟨F, Fb, env, fr, q.mono fun d hd v F1 H1 e l => ?_⟩
  cases h : tyD d with
  | none =>
    rw [isi_no h] at hd
    exact hd.elim
  | some u =>
    rw [isi_ty h] at hd
    have hd : Hope S .val F H Q (.bl (kitB u t)) := hd
    rw [hK]
    exact ⟨v, .ty (tyS t), .type (tyS u), .type (tyS t), kitB u t, rfl, .ty _, ty_lnt h l, kit_one _ _ _, hd.rep rfl e rfl⟩
/-! ### sorted -/
theorem insI_perm (i : Int) : ∀ l : List Int, (insI i l).Perm (i :: l)
  | [] => .refl _
  | j :: r => by
    rw [insI]
    split
    · exact .refl _
    · exact (List.Perm.cons j (insI_perm i r)).trans (List.Perm.swap i j r)
theorem sortI_perm : ∀ l : List Int, (sortI l).Perm l
  | [] => .refl _
  | i :: r => by
    rw [sortI]
    exact (insI_perm i _).trans (List.Perm.cons i (sortI_perm r))
theorem insI_pw (i : Int) : ∀ l : List Int, l.Pairwise (· ≤ ·) → (insI i l).Pairwise (· ≤ ·)
  | [], _ => by simp [insI]
  | j :: r, h => by
    rw [insI]
    have h' := List.pairwise_cons.mp h
    split
    · rename_i hij
      refine List.pairwise_cons.mpr ⟨fun k hk => ?_, h⟩
      rcases List.mem_cons.mp hk with e | hk
      · omega
      · have := h'.1 k hk
        omega
    · rename_i hij
      refine List.pairwise_cons.mpr ⟨fun k hk => ?_, insI_pw i r h'.2⟩
      rcases List.mem_cons.mp ((insI_perm i r).mem_iff.mp hk) with e | hk
      · omega
      · exact h'.1 k hk
theorem sortI_pw : ∀ l : List Int, (sortI l).Pairwise (· ≤ ·)
  | [] => by simp [sortI]
  | i :: r => by
    rw [sortI]
    exact insI_pw i _ (sortI_pw r)
theorem sorted_uniq : ∀ {l m : List Int}, l.Perm m → l.Pairwise (· ≤ ·) → m.Pairwise (· ≤ ·) → l = m
  | [], m, h, _, _ => by rw [List.nil_perm.mp h]
  | i :: l, [], h, _, _ => by
    have := List.perm_nil.mp h
    cases this
  | i :: l, j :: m, h, h1, h2 => by
    have a := List.pairwise_cons.mp h1
    have b := List.pairwise_cons.mp h2
    have e : i = j := by
      have i1 : i ≤ j := by
        rcases List.mem_cons.mp (h.mem_iff.mpr (List.mem_cons_self (a := j) (l := m))) with e | k
        · omega
        · exact a.1 j k
      have i2 : j ≤ i := by
        rcases List.mem_cons.mp (h.mem_iff.mp (List.mem_cons_self (a := i) (l := l))) with e | k
        · omega
        · exact b.1 i k
      omega
    subst e
    rw [sorted_uniq (List.perm_cons _ |>.mp h) a.2 b.2]
theorem sortI_of {l m : List Int} (h : m.Perm l) (hp : m.Pairwise (· ≤ ·)) : m = sortI l := sorted_uniq (h.trans (sortI_perm l).symm) hp (sortI_pw l)
/-- the sort of data -/
def rSortedP (K : PySem.W.Frag) : List V → Hp → VK → Prop := fun vs H Q => ∃ (a : Addr) (xs : List V) (ds : List D), vs = [V.ref a] ∧ SqL K H a xs ∧ sortOk ds = true ∧ DpAll K H xs (toPys ds) ∧ ∃ Rr : V → D → Prop, PySem.W.EachIs Rr xs ds ∧
  ∀ (ys : List V) (p : Addr), PySem.W.EachIs Rr ys (ds.mergeSort (PySem.W.dataLe false toPy)) → H p = none → Q (.ref p) (upd H p (.lst ys))
theorem each_comp {α β γ : Type} {P : α → β → Prop} {Q : β → γ → Prop} : ∀ {as : List α} {bs : List β} {cs : List γ}, (as.length = bs.length ∧ ∀ (i : Nat) a b, as[i]? = some a → bs[i]? = some b → P a b) → PySem.W.EachIs Q bs cs → PySem.W.EachIs (fun a c => ∃ b, P a b ∧ Q b c) as cs
  | [], [], [], _, .nil => .nil
  | a :: as, b :: bs, c :: cs, ⟨hl, h⟩, .cons q qs => .cons ⟨b, h 0 a b rfl rfl, q⟩ (each_comp ⟨by simpa using hl, fun i a b h1 h2 => h (i + 1) a b (by simpa using h1) (by simpa using h2)⟩ qs)
  | [], _ :: _, _, ⟨hl, _⟩, _ => by simp at hl
  | _ :: _, [], _, ⟨hl, _⟩, _ => by simp at hl
theorem each_pick {α β γ : Type} {P : α → β → Prop} {Q : β → γ → Prop} : ∀ {as : List α} {cs : List γ}, PySem.W.EachIs (fun a c => ∃ b, P a b ∧ Q b c) as cs → ∃ bs : List β, PySem.W.EachIs P as bs ∧ PySem.W.EachIs Q bs cs
  | [], [], .nil => ⟨[], .nil, .nil⟩
  | _ :: _, _ :: _, .cons ⟨b, p, q⟩ t => by
    obtain ⟨bs, h1, h2⟩ := each_pick t
    exact ⟨b :: bs, .cons p h1, .cons q h2⟩
theorem each_vals : ∀ {us : List Value} {vs : List V}, PySem.W.EachIs (fun u v => RelV v u) us vs → Vals vs us
  | [], [], .nil => .nil
  | _ :: _, _ :: _, .cons r t => .cons r (each_vals t)
theorem cr_sortedP' (hu : X.A.units + 65 < cLine) : CallR X (.builtin "sorted") (rSortedP X.K) := by
  intro pins s σ H vs us Q I r h
  obtain ⟨a, xs, ds, rfl, hs, hok, hd, Rr, hR, q⟩ := h
  obtain ⟨its, rv, hl, hz⟩ := I.list hs
  rw [Vals.ref1 r]
  unfold sortOk at hok
  simp only [Bool.and_eq_true, Bool.or_eq_true, List.all_eq_true] at hok
  obtain ⟨⟨k1, k2⟩, k3⟩ := hok
  have hlen : xs.length = its.length := rv.length
  have rel : its.length = xs.length ∧ ∀ (i : Nat) (u : Value) (v : V), its[i]? = some u → xs[i]? = some v → RelV v u := ⟨hlen.symm, fun i u v h1 h2 => by
    obtain ⟨u', e, rr⟩ := rv.get h2
    rw [h1] at e
    cases e
    exact rr⟩
  have e1 := each_comp (P := fun u v => RelV v u) rel hR
  have rd := Dp.readsAll I (toPys ds) xs its hd rv
  obtain ⟨ws, rd⟩ := rd
  have e2 : PySem.W.EachIs (fun v b => ∃ as, Reads s.heap v (toPy b) as) its ds := PySem.W.readsAll_each toPy (by rw [← toPys_map]; exact rd)
  have al : PySem.W.AllAlike (ds.map toPy) := fun d hd d' hd' => by
    obtain ⟨b, hb, rfl⟩ := List.mem_map.mp hd
    obtain ⟨b', hb', rfl⟩ := List.mem_map.mp hd'
    exact k2 b hb b' hb'
  have so : PySem.W.Sortable (ds.map toPy) := by
    rcases k3 with k3 | k3
    · refine .inl fun d hd => ?_
      obtain ⟨b, hb, rfl⟩ := List.mem_map.mp hd
      have := k3 b hb
      cases b with
      | tup l =>
        cases l with
        | nil => cases this
        | cons x r => exact ⟨toPy x, toPys r, by rw [toPy, toPys]⟩
      | _ => cases this
    · refine .inr fun d hd => ?_
      obtain ⟨b, hb, rfl⟩ := List.mem_map.mp hd
      have := k3 b hb
      cases b <;> first | (cases this; done) | (refine ⟨fun z => ?_, fun l z => ?_⟩ <;> (rw [toPy] at z; cases z))
  have dlen : ds.length = xs.length := hR.length.symm
  refine PySem.W.sorted_data hl.isList e1 e2 al so (by rw [dlen]; exact hz) (fun b hb => ?_) fun out ho hout => ?_
  · have := (eqOk_lay 60 b (k1 b hb)).2
    omega
  · obtain ⟨ys, h1, h2⟩ := each_pick hout
    obtain ⟨ep, he'⟩ := PyProof.Rows.sortedAll_at s.heap its out.toArray
    have rv2 := each_vals h1
    exact ⟨.ref _, upd H (s.heap.objs.size + 1) (.lst ys), I.laid (t' := s.toks) (fun _ _ => PyProof.Rows.sortedAll_old) (Nat.le_succ _) ⟨by rw [rv2.length, ho, dlen]; exact hz, out, ep, rv2, he'⟩, rfl, q ys _ h2 (I.hok.fresh (Nat.le_succ _))⟩
theorem dataLe_trans {β : Type} (k : β → PyData) (a b c : β) (h1 : PySem.W.dataLe false k a b = true) (h2 : PySem.W.dataLe false k b c = true) : PySem.W.dataLe false k a c = true := by
  rw [PySem.W.dataLe_eq] at *
  simp only [cond, Bool.not_eq_true'] at *
  refine Bool.eq_false_iff.mpr fun h => ?_
  rcases PyProof.Rows.lex_negTrans (O := PyProof.Rows.itemOrd) (PySem.W.keyToks (k c)) (PySem.W.keyToks (k b)) (PySem.W.keyToks (k a)) h with z | z
  · exact Bool.false_ne_true (h2.symm.trans z)
  · exact Bool.false_ne_true (h1.symm.trans z)
theorem dataLe_total {β : Type} (k : β → PyData) (a b : β) : (PySem.W.dataLe false k a b || PySem.W.dataLe false k b a) = true := by
  rw [PySem.W.dataLe_eq]
  simp only [cond]
  cases h1 : PySem.W.dataLt (k b) (k a) with
  | false => rfl
  | true =>
    cases h2 : PySem.W.dataLt (k a) (k b) with
    | false => rfl
    | true =>
      have := PyProof.Rows.lex_trans _ _ _ h1 h2
      rw [PyProof.Rows.lex_irrefl] at this
      cases this
/-- the sort of a tuple -/
def rSortedPT (K : PySem.W.Frag) : List V → Hp → VK → Prop := fun vs H Q => ∃ (a : Addr) (xs : List V) (ds : List D), vs = [V.ref a] ∧ SqT K H a xs ∧ sortOk ds = true ∧ DpAll K H xs (toPys ds) ∧ ∃ Rr : V → D → Prop, PySem.W.EachIs Rr xs ds ∧
  ∀ (ys : List V) (p : Addr), PySem.W.EachIs Rr ys (ds.mergeSort (PySem.W.dataLe false toPy)) → H p = none → Q (.ref p) (upd H p (.lst ys))
theorem cr_sortedPT (hu : X.A.units + 65 < cLine) : CallR X (.builtin "sorted") (rSortedPT X.K) := by
  intro pins s σ H vs us Q I r h
  obtain ⟨a, xs, ds, rfl, hs, hok, hd, Rr, hR, q⟩ := h
  obtain ⟨its, rv, hl, hz⟩ := I.tuple hs
  rw [Vals.ref1 r]
  unfold sortOk at hok
  simp only [Bool.and_eq_true, Bool.or_eq_true, List.all_eq_true] at hok
  obtain ⟨⟨k1, k2⟩, k3⟩ := hok
  have hlen : xs.length = its.length := rv.length
  have rel : its.length = xs.length ∧ ∀ (i : Nat) (u : Value) (v : V), its[i]? = some u → xs[i]? = some v → RelV v u := ⟨hlen.symm, fun i u v h1 h2 => by
    obtain ⟨u', e, rr⟩ := rv.get h2
    rw [h1] at e
    cases e
    exact rr⟩
  have e1 := each_comp (P := fun u v => RelV v u) rel hR
  have rd := Dp.readsAll I (toPys ds) xs its hd rv
  obtain ⟨ws, rd⟩ := rd
  have e2 : PySem.W.EachIs (fun v b => ∃ as, Reads s.heap v (toPy b) as) its ds := PySem.W.readsAll_each toPy (by rw [← toPys_map]; exact rd)
  have al : PySem.W.AllAlike (ds.map toPy) := fun d hd d' hd' => by
    obtain ⟨b, hb, rfl⟩ := List.mem_map.mp hd
    obtain ⟨b', hb', rfl⟩ := List.mem_map.mp hd'
    exact k2 b hb b' hb'
  have so : PySem.W.Sortable (ds.map toPy) := by
    rcases k3 with k3 | k3
    · refine .inl fun d hd => ?_
      obtain ⟨b, hb, rfl⟩ := List.mem_map.mp hd
      have := k3 b hb
      cases b with
      | tup l =>
        cases l with
        | nil => cases this
        | cons x r => exact ⟨toPy x, toPys r, by rw [toPy, toPys]⟩
      | _ => cases this
    · refine .inr fun d hd => ?_
      obtain ⟨b, hb, rfl⟩ := List.mem_map.mp hd
      have := k3 b hb
      cases b <;> first | (cases this; done) | (refine ⟨fun z => ?_, fun l z => ?_⟩ <;> (rw [toPy] at z; cases z))
  have dlen : ds.length = xs.length := hR.length.symm
  refine MiK.sorted_dataT hl e1 e2 al so (by rw [dlen]; exact hz) (fun b hb => ?_) fun out ho hout => ?_
  · have := (eqOk_lay 60 b (k1 b hb)).2
    omega
  · obtain ⟨ys, h1, h2⟩ := each_pick hout
    obtain ⟨ep, he'⟩ := PyProof.Rows.sortedAll_at s.heap its out.toArray
    have rv2 := each_vals h1
    exact ⟨.ref _, upd H (s.heap.objs.size + 1) (.lst ys), I.laid (t' := s.toks) (fun _ _ => PyProof.Rows.sortedAll_old) (Nat.le_succ _) ⟨by rw [rv2.length, ho, dlen]; exact hz, out, ep, rv2, he'⟩, rfl, q ys _ h2 (I.hok.fresh (Nat.le_succ _))⟩
theorem dataLt_int (i j : Int) : PySem.W.dataLt (.int i) (.int j) = decide (i < j) := by
  unfold PySem.W.dataLt
  show PyProof.Rows.lexLt PyProof.Rows.itemOrd [.inl i] [.inl j] = _
  rw [PyProof.Rows.lex_cons]
  show (decide (i < j) || (!decide (j < i) && PyProof.Rows.lexLt PyProof.Rows.itemOrd [] [])) = _
  rw [show PyProof.Rows.lexLt PyProof.Rows.itemOrd [] [] = false from rfl, Bool.and_false, Bool.or_false]
theorem toInts_eq : ∀ {xs : List D} {ns : List Int}, toInts xs = some ns → xs = ns.map .int
  | [], ns, h => by
    cases h
    rfl
  | x :: xs, ns, h => by
    cases x with
    | int i =>
      rw [toInts] at h
      cases e : toInts xs with
      | none => rw [e] at h; cases h
      | some r =>
        rw [e] at h
        cases h
        rw [toInts_eq e]
        rfl
    | _ => cases h
theorem all_int {ys : List D} (h : ∀ d ∈ ys, ∃ i : Int, d = .int i) : ∃ ns : List Int, ys = ns.map .int := by
  induction ys with
  | nil => exact ⟨[], rfl⟩
  | cons y ys ih =>
    obtain ⟨i, rfl⟩ := h y List.mem_cons_self
    obtain ⟨ns, rfl⟩ := ih fun d hd => h d (List.mem_cons_of_mem _ hd)
    exact ⟨i :: ns, rfl⟩
theorem toInts_maps : ∀ l : List Int, toInts (l.map .int) = some l
  | [] => rfl
  | i :: l => by
    show (toInts (l.map .int)).map (i :: ·) = _
    rw [toInts_maps l]
    rfl
theorem int_inj {l m : List Int} (h : l.map D.int = m.map .int) : l = m := by
  have := toInts_maps l
  rw [h, toInts_maps] at this
  exact (Option.some.inj this).symm
theorem map_perm_int {l m : List Int} (h : (l.map D.int).Perm (m.map .int)) : l.Perm m := by
  have e : ∀ l : List Int, (l.map D.int).filterMap (fun | .int i => some i | _ => none) = l := fun l => by
    induction l with
    | nil => rfl
    | cons i l ih =>
      rw [List.map_cons, List.filterMap_cons]
      show i :: _ = _
      rw [ih]
  have := h.filterMap (fun | D.int i => some i | _ => none)
  rw [e, e] at this
  exact this
theorem sort_ints (l : List Int) : (l.map D.int).mergeSort (PySem.W.dataLe false toPy) = (sortI l).map .int := by
  have pm := List.mergeSort_perm (l.map D.int) (PySem.W.dataLe false toPy)
  obtain ⟨ns, e⟩ := all_int (ys := (l.map D.int).mergeSort (PySem.W.dataLe false toPy)) fun d hd => by
    obtain ⟨i, _, rfl⟩ := List.mem_map.mp (pm.mem_iff.mp hd)
    exact ⟨i, rfl⟩
  rw [e] at pm ⊢
  have pw := List.pairwise_mergeSort (dataLe_trans toPy) (dataLe_total toPy) (l.map D.int)
  rw [e] at pw
  rw [sortI_of (map_perm_int pm) ((List.pairwise_map.mp pw).imp fun {i j} h => ?_)]
  rw [PySem.W.dataLe_eq] at h
  simp only [cond, Bool.not_eq_true'] at h
  have h : PySem.W.dataLt (.int j) (.int i) = false := h
  rw [dataLt_int] at h
  have := of_decide_eq_false h
  omega
theorem ok_ints (n : Nat) (l : List Int) : (l.map D.int).all (eqOk (n + 1)) = true := by
  rw [List.all_eq_true]
  intro d hd
  obtain ⟨i, _, rfl⟩ := List.mem_map.mp hd
  rfl
theorem sortOk_ints (l : List Int) : sortOk (l.map .int) = true := by
  unfold sortOk
  simp only [Bool.and_eq_true, Bool.or_eq_true, List.all_eq_true]
  refine ⟨⟨fun d hd => ?_, fun d hd e he => ?_⟩, .inr fun d hd => ?_⟩
  · obtain ⟨i, _, rfl⟩ := List.mem_map.mp hd
    rfl
  · obtain ⟨i, _, rfl⟩ := List.mem_map.mp hd
    obtain ⟨j, _, rfl⟩ := List.mem_map.mp he
    rfl
  · obtain ⟨i, _, rfl⟩ := List.mem_map.mp hd
    rfl
theorem reps_each {Z : Wd} {F : Fz} {H : Hp} : ∀ {ds : List D} {vs : List V}, Reps Z F H ds vs → PySem.W.EachIs (fun v d => Rep Z F H d v) vs ds
  | [], _, h => by cases h; exact .nil
  | _ :: _, _, ⟨v, r, e, h1, h2⟩ => by
    subst e
    exact .cons h1 (reps_each h2)
theorem each_reps {Z : Wd} {F : Fz} {H : Hp} : ∀ {ds : List D} {vs : List V}, PySem.W.EachIs (fun v d => Rep Z F H d v) vs ds → Reps Z F H ds vs
  | [], [], .nil => rfl
  | _ :: _, _ :: _, .cons h t => ⟨_, _, rfl, h, each_reps t⟩
theorem s_sorted {e : PySem.Expr} {es : List PySem.Expr} {ms : List E} {p : Pos} (hu : X.A.units + 65 < cLine) (hK : X.K = S.Z.K) (hx : BltIs X "sorted") (ha : PA X (e :: es) (tLs S ms)) (hs : (e :: es).all notStar = true) : PE X (.Call (.Name "sorted" p) (e :: es) [] pos) (tE S (.bi .sorted ms)) := by
  refine s_biB ((cr_sortedI.or (cr_sortedP' hu)).or (cr_sortedPT hu)) hx (by decide +kernel) ha hs (by decide +kernel) (by decide +kernel) fun σ F F2 H H2 ds vs Q q g l => ?_
  rw [biD] at q
  unfold sortedD at q
  rw [hK]
  split at q
  · rename_i xs
    obtain ⟨v, rfl, a, us, rfl, h1, r1⟩ := l.one
    split at q
    · rename_i ns hn
      have := reps_toInts r1 hn
      subst this
      refine .inl (.inl ⟨a, ns, rfl, .of h1, fun ns' p hp hw hq => ?_⟩)
      rw [sortI_of hp hw]
      exact q _ F2 _ (g.trans (Ext.new g.th hq)) ⟨p, rfl, g.back hq, fun f => g.th p f hq, _, upd_same, reps_ints _⟩
    · obtain ⟨z, q⟩ := q.ite
      have z1 := z
      unfold sortOk at z1
      simp only [Bool.and_eq_true] at z1
      refine .inl (.inr ⟨a, us, xs, rfl, .of h1, z, dps_of 60 xs us z1.1.1 r1, _, reps_each r1, fun ys p hy hq => ?_⟩)
      exact q _ F2 _ (g.trans (Ext.new g.th hq)) ⟨p, rfl, g.back hq, fun f => g.th p f hq, ys, upd_same, reps_upd (fun f => g.th p f hq) (each_reps hy)⟩
  · rename_i xs
    obtain ⟨v, rfl, a, us, rfl, _, h1, r1⟩ := l.one
    split at q
    · rename_i ns hn
      have := toInts_eq hn
      subst this
      refine .inr ⟨a, us, ns.map .int, rfl, .of h1, sortOk_ints ns, dps_of 60 _ us (ok_ints 59 ns) r1, _, reps_each r1, fun ys p hy hq => ?_⟩
      rw [sort_ints] at hy
      exact q _ F2 _ (g.trans (Ext.new g.th hq)) ⟨p, rfl, g.back hq, fun f => g.th p f hq, ys, upd_same, reps_upd (fun f => g.th p f hq) (each_reps hy)⟩
    · obtain ⟨z, q⟩ := q.ite
      have z1 := z
      unfold sortOk at z1
      simp only [Bool.and_eq_true] at z1
      refine .inr ⟨a, us, xs, rfl, .of h1, z, dps_of 60 xs us z1.1.1 r1, _, reps_each r1, fun ys p hy hq => ?_⟩
      exact q _ F2 _ (g.trans (Ext.new g.th hq)) ⟨p, rfl, g.back hq, fun f => g.th p f hq, ys, upd_same, reps_upd (fun f => g.th p f hq) (each_reps hy)⟩
  · exact q.elim
end
end Mi
namespace Mi
open PySem L2
/-! ### exceptions -/
/-- what the written part says of each exception class -/
structure XcF (K : PySem.W.Frag) (Z : Wd) (D : Addr) : Prop where
  hcl : (PySem.W.clsIn K D).isSome = true
  ga : PySem.W.findIn K (.ref D) "__getattribute__" = some (some (.builtin "BaseException.__getattribute__"))
  gg : PySem.W.findIn K (.ref D) "__getattr__" = some none
  exC : PySem.W.subIn K (.ref D) (.type "BaseException") = some true
  hdC : PySem.W.hasDictIn K D = true
  ha : PySem.W.findIn K (.ref D) "__class__" = some (some (.builtin "object.__class__"))
  hm : PySem.W.mroIn K D (.type "object") = some true
  ty : PySem.W.typeIn K (.ref D) = some (.type "type")
  hn : PySem.W.specialIn K (.builtin "object.__class__") "__get__" = some (some (.builtin "getset_descriptor.__get__"))
  ht : PySem.W.takesIn K (.builtin "object.__class__") = some true
  fno : ∀ k, PySem.W.findIn K (.ref D) (Z.an k) = some none
def XcAll (K : PySem.W.Frag) (Z : Wd) : Prop := ∀ n, n ≠ 0 → ∃ D, Z.xc n = .ref D ∧ XcF K Z D
/-- a class by its name -/
structure Xd where
  nm : Str
  id : Nat
  fld : Option (Nat × Str)
  rs : Bool
structure XcIs (K : PySem.W.Frag) (P : Program) (mg : Str → Option Value) (Z : Wd) (d : Xd) : Prop where
  at_ : ∃ C, mg d.nm = some (.ref C) ∧ Z.xc d.id = .ref C ∧ PySem.W.keepIn K (.ref C) = true
  ex : ∀ n, PySem.W.exmOne K (Z.xc n) (Z.xc d.id) = some (subX n d.id)
  isi : ∀ n, n ≠ 0 → PySem.W.kitOne K (Z.xc n) (Z.xc d.id) = some (subX n d.id)
  new : d.rs = true → d.fld = none → ∃ C, Z.xc d.id = .ref C ∧ PySem.W.excIn K C PySem.HandSPX.veTail "ValueError.__new__" = true
  newF : d.rs = true → ∀ k f, d.fld = some (k, f) → Z.an k = f ∧ mg "super" = none ∧ ∃ C fI fd sf x, Z.xc d.id = .ref C ∧ IniK K P C f fI fd sf x ∧ Binds K fd [sf, x] []
section
variable {X : Cx} {S : Sit} {d : Xd} {pos p p2 : Pos}
theorem XcIs.names (k : XcIs X.K X.prog X.mg S.Z d) (hg : Gl X d.nm) (hd : (d.nm == ("__debug__" : Str)) = false) : Names X d.nm (S.Z.xc d.id) := by
  obtain ⟨C, e1, e2, _⟩ := k.at_
  exact ⟨hg, hd, .inl (by rw [e1, e2])⟩
theorem s_rais {m : Str} {j : Nat} {pos' : Pos} (hc : X.calm = true) (tk : Takes X S.W) (k : XcIs X.K X.prog X.mg S.Z d) (ka : XcAll X.K S.Z) (h0 : d.id ≠ 0) (hr : d.rs = true) (hf : d.fld = none) (hg : Gl X d.nm) (hd : (d.nm == ("__debug__" : Str)) = false) :
    PS X (.Raise (some (.Call (.Name d.nm p) [.Constant (.str m) j p2] [] pos)) none pos') (tS S (.rais d.id)) := by
  obtain ⟨C, e1, e2, e3⟩ := k.at_
  obtain ⟨C2, e4, e5⟩ := k.new hr hf
  obtain ⟨C3, e6, q⟩ := ka _ h0
  rw [e2] at e4 e6
  cases e4
  cases e6
  refine PS.imp (ps_raise hc tk (pmk_own PySem.F.excBase_ValueError e5 e1 e3 (raises_own q.exC q.ty) hg hd)) fun D σ H ⟨F, Fb, env, fr, h⟩ => ?_
  rw [evS] at h
  exact h (.ref C) none σ F H fr.self ⟨e2.symm, rfl⟩
theorem tF_mono {ma : E} : ∀ σ H Q Q', tF S ma σ H Q → (∀ y H1, Q y H1 → Q' y H1) → tF S ma σ H Q' :=
  fun σ H Q Q' ⟨F, Fb, env, fr, q⟩ i => ⟨F, Fb, env, fr, q.mono fun d k v F' H' e r => i _ _ (k v F' H' e r)⟩
theorem s_raisF {a : PySem.Expr} {ma : E} {pos' : Pos} {n : Nat} {f : Str} (hc : X.calm = true) (tk : Takes X S.W) (hr : Room 2 X.A) (k : XcIs X.K X.prog X.mg S.Z d) (hrs : d.rs = true) (hf : d.fld = some (n, f)) (hg : Gl X d.nm) (hd : (d.nm == ("__debug__" : Str)) = false)
    (ha : PE X a (tE S ma)) (hk : kd ma ≠ .lent) (hs : notStar a = true) : PS X (.Raise (some (.Call (.Name d.nm p) [a] [] pos)) none pos') (tS S (.raisF d.id n ma)) := by
  obtain ⟨C, e1, e2, e3⟩ := k.at_
  obtain ⟨e4, e5, C2, fI, fd, sf, x, e6, N, hb⟩ := k.newF hrs n f hf
  rw [e2] at e6
  cases e6
  refine PS.imp (ps_raise hc tk (pmk_ini N e5 hr hb passL hg e1 (frz_of ha hk) tF_mono hs hd)) fun D σ H ⟨F, Fb, env, fr, h⟩ => ?_
  rw [evS] at h
  refine ⟨F, Fb, env, fr, (fin_out fr h).mono fun d1 q v F1 H1 e r dx hn => ?_⟩
  have g := Ext.newF (o := .xd [(f, v)]) e.th hn
  exact q (.ref C) (some dx) σ (F1.and dx) _ (fr.go (e.trans g)) ⟨e2.symm, dx, v, rfl, .inr rfl, by rw [e4]; exact upd_same, g.rep r⟩
/-! #### in a suite -/
/-- the context of a suite, and what is known there -/
structure HotX (X : Cx) (Z : Wd) : Prop where
  at_ : ∃ (X0 : Cx) (a : Addr) (oe : Obj) (cls : Value) (dd : Option Addr) (pn : List (Addr × Obj)), X = X0.suite a ((a, oe) :: pn) ∧ Zc cls dd oe ∧ (∃ vs, oe.data = .fields vs) ∧ ∀ a' c' d', Z.ex a' c' d' → a' = a ∧ c' = cls ∧ d' = dd
theorem s_xattr {i k : Nat} {x : Str} (h : HotX X S.Z) (hK : X.K = S.Z.K) (ka : XcAll X.K S.Z) (hN : X.N[i]? = some x) (hv : Vis X.env.scope x) (hd : (x == ("__debug__" : Str)) = false) (hc : (x == ("__classdict__" : Str)) = false) :
    PE X (.Attribute (.Name x p) (S.Z.an k) pos) (tE S (.xattr i k)) := by
  obtain ⟨X0, a, oe, cls, dd, pn, rfl, hz, hf, hex⟩ := h.at_
  refine ⟨fun pins s σ H Q I q => ?_⟩
  obtain ⟨F, Fb, env, fr, q⟩ := q
  rw [evE] at q
  have sl := fr.sl i
  cases g : gt env i with
  | exn y =>
    rw [g] at q sl
    obtain ⟨a', d', e1, z, r⟩ := sl
    obtain ⟨rfl, ec, rfl⟩ := hex _ _ _ z
    obtain ⟨c, f⟩ := y
    cases f with
    | none => exact q.elim
    | some jd =>
      obtain ⟨j, d⟩ := jd
      obtain ⟨b, v, e2, f2, hb, rv⟩ := r
      have q : Ans S σ F H (if (j == k && c != 0) = true then R.ok d else .bad) _ := q
      by_cases hj : (j == k && c != 0) = true
      · rw [if_pos hj] at q
        simp only [Bool.and_eq_true, beq_iff_eq, bne_iff_ne, ne_eq] at hj
        obtain ⟨rfl, h0⟩ := hj
        obtain ⟨C, e3, T⟩ := ka c h0
        have ec : S.Z.xc c = cls := ec
        refine (pe_xf (C := C) ⟨T.ga, T.gg, T.exC, T.hdC⟩ (T.fno j) hz hf (pe_var (i := i) hN hv hd hc)).run pins s σ H Q I ⟨.ref a', e1, rfl, ec.symm.trans e3, b, _, v, e2, hb, ?_, q v F H (Ext.refl fr.th) rv⟩
        simp [List.lookup]
      · rw [if_neg hj] at q
        exact q.elim
  | un => rw [g] at q; exact q.elim
  | own d => rw [g] at q; exact q.elim
  | frz d => rw [g] at q; exact q.elim
  | bor d => rw [g] at q; exact q.elim
/-- isinstance of the exception that the suite holds -/
theorem call_isX {X0 : Cx} {a D : Addr} {oe : Obj} {dd : Option Addr} {pn : List (Addr × Obj)} {b : Bool} {Z : Wd} (T : XcF X0.K Z D) (hz : Zc (.ref D) dd oe) (hf : ∃ vs, oe.data = .fields vs) (e : PySem.W.kitOne X0.K (.ref D) (.ref C) = some b) :
    CallR (X0.suite a ((a, oe) :: pn)) (.builtin "isinstance") (fun xs H Q => xs = [.ref a, .ref C] ∧ (∀ q, dd = some q → ∃ fs, H q = some (.xd fs)) ∧ Q (.bl b) H) := by
  intro pins s σ H xs us Q I r ⟨ex, hd, q⟩
  subst ex
  cases r with
  | cons rx rr =>
  cases rr with
  | cons rt rr =>
  cases rr
  cases rx
  cases rt
  obtain ⟨hget, _⟩ := I.pin (a, oe) (List.mem_append_left _ List.mem_cons_self)
  obtain ⟨vs, hv⟩ := hf
  have J : ∃ od, PySem.W.InstAt s.heap a oe D od := by
    cases dd with
    | none => exact ⟨none, hget, hz.1, by unfold PySem.W.notCls; rw [hv], by rw [hz.2]; trivial⟩
    | some q =>
      obtain ⟨fs, hq⟩ := hd q rfl
      have hx : ObjOk X0.prog X0.w H s.heap q (.xd fs) := I.hok q _ hq
      obtain ⟨mA, hns, _⟩ := hx
      obtain ⟨o, ho, _⟩ := lookIn_ns hns
      exact ⟨some o, hget, hz.1, by unfold PySem.W.notCls; rw [hv], by rw [hz.2]; exact ho⟩
  obtain ⟨od, J⟩ := J
  exact PySem.W.kia_one (PySem.W.kitx_exc T.hcl T.ga T.gg T.exC T.ha T.hn T.ht T.hm) I.kIn J e (fun z => nomatch z) fun tk => ⟨.bl b, H, I.kept (t' := tk) fun _ _ z => z, rfl, q⟩
theorem s_xisi {i : Nat} {x : Str} {d : Xd} {p3 : Pos} (h : HotX X S.Z) (k : XcIs X.K X.prog X.mg S.Z d) (ka : XcAll X.K S.Z) (hb : BltIs X "isinstance") (hg : Gl X d.nm) (hdn : (d.nm == ("__debug__" : Str)) = false) (hN : X.N[i]? = some x) (hv : Vis X.env.scope x) (hd : (x == ("__debug__" : Str)) = false) (hc : (x == ("__classdict__" : Str)) = false) :
    PE X (.Call (.Name "isinstance" p) [.Name x p2, .Name d.nm p3] [] pos) (tE S (.xisi i d.id)) := by
  obtain ⟨X0, a, oe, cls, dd, pn, rfl, hz, hf, hex⟩ := h.at_
  obtain ⟨C, c1, c2, _⟩ := k.at_
  refine ⟨fun pins s σ H Q I q => ?_⟩
  obtain ⟨F, Fb, env, fr, q⟩ := q
  rw [evE] at q
  have sl := fr.sl i
  cases g : gt env i with
  | exn y =>
    rw [g] at q sl
    obtain ⟨a', d', e1, z, r⟩ := sl
    obtain ⟨rfl, ec, rfl⟩ := hex _ _ _ z
    have q : Ans S σ F H (if (y.c != 0) = true then R.ok (D.bl (subX y.c d.id)) else .bad) _ := q
    by_cases h0 : (y.c != 0) = true
    · rw [if_pos h0] at q
      have h1 : y.c ≠ 0 := by simpa using h0
      obtain ⟨D, e3, T⟩ := ka _ h1
      have ed : cls = .ref D := ec.symm.trans e3
      subst ed
      have kt := k.isi _ h1
      rw [e3, c2] at kt
      have pa : PA (X0.suite a' ((a', oe) :: pn)) [.Name x p2, .Name d.nm p3] (tCons (tVar i) (tCons (tC (.ref C)) tNil)) := pa_cons (pe_var hN hv hd hc) (pa_cons (pe_glob hg c1 rfl hdn) pa_nil rfl) rfl
      refine (pe_callB (call_isX (X0 := X0) T hz hf kt) hb.gl hb.no (by decide +kernel) pa (by decide +kernel) (by decide +kernel) rfl rfl).run pins s σ H Q I ⟨.ref a', e1, rfl, ?_, q (V.bl _) F H (Ext.refl fr.th) rfl⟩
      intro b eb
      unfold XF at r
      split at r
      · rw [r] at eb
        cases eb
      · obtain ⟨b2, v, e5, _, e6, _⟩ := r
        rw [e5] at eb
        cases eb
        exact ⟨_, e6⟩
    · rw [if_neg h0] at q
      exact q.elim
  | un => rw [g] at q; exact q.elim
  | own d => rw [g] at q; exact q.elim
  | frz d => rw [g] at q; exact q.elim
  | bor d => rw [g] at q; exact q.elim
end
/-! #### try -/
abbrev Wd.hot (Z : Wd) (p : Addr → Value → Option Addr → Prop) : Wd := { Z with ex := p }
section
variable {Z : Wd} {F F1 Fb : Fz} {H H1 : Hp} {σ σ1 : St} {env e : Env}
mutual
theorem rep_hot (p : Addr → Value → Option Addr → Prop) : ∀ (d : D) (v : V), Rep Z F H d v → Rep (Z.hot p) F H d v
  | .non, _, h => h
  | .bl _, _, h => h
  | .int _, _, h => h
  | .str _, _, h => h
  | .tup ds, _, ⟨a, vs, e, f, h, r⟩ => ⟨a, vs, e, f, h, reps_hot p ds vs r⟩
  | .lst ds, _, ⟨a, vs, e, f, h, r⟩ => ⟨a, vs, e, f, h, reps_hot p ds vs r⟩
  | .ins c ns ds, _, ⟨a, C, dx, fs, e, f, h, k, n, r⟩ => ⟨a, C, dx, fs, e, f, h, k, n, reps_hot p ds _ r⟩
  | .scr _, _, h => h
  | .itr _, _, h => h
  | .dct _ _, _, h => h
theorem reps_hot (p : Addr → Value → Option Addr → Prop) : ∀ (ds : List D) (vs : List V), Reps Z F H ds vs → Reps (Z.hot p) F H ds vs
  | [], _, h => h
  | d :: ds, _, ⟨v, r, e, h1, h2⟩ => ⟨v, r, e, rep_hot p d v h1, reps_hot p ds r h2⟩
end
theorem own_hot (p : Addr → Value → Option Addr → Prop) {d : D} {a : Addr} (h : Own Z F H d a) : Own (Z.hot p) F H d a := by
  cases d with
  | lst ds =>
    obtain ⟨vs, q, r⟩ := h
    exact ⟨vs, q, reps_hot p _ _ r⟩
  | _ => exact h.elim
theorem brw_hot (p : Addr → Value → Option Addr → Prop) {d : D} {v : V} (h : Brw Z F Fb H d v) : Brw (Z.hot p) F Fb H d v := by
  cases d with
  | lst ds =>
    obtain ⟨a, vs, e, f, q, r⟩ := h
    exact ⟨a, vs, e, f, q, reps_hot p _ _ r⟩
  | _ => exact rep_hot p _ _ h
theorem xf_hot (p : Addr → Value → Option Addr → Prop) {x : Xn} {dd : Option Addr} (h : XF Z F H x dd) : XF (Z.hot p) F H x dd := by
  unfold XF at h ⊢
  split
  · rename_i e
    rw [e] at h
    exact h
  · rename_i k d e
    rw [e] at h
    obtain ⟨b, v, e1, f, q, r⟩ := h
    exact ⟨b, v, e1, f, q, rep_hot p _ _ r⟩
/-- a slot without exception -/
theorem slot_hot (p : Addr → Value → Option Addr → Prop) {s : Slot} {w : Option (Option V)} (h : SlotOk Z F Fb H s w) (hx : ∀ x, s ≠ .exn x) : SlotOk (Z.hot p) F Fb H s w := by
  cases s with
  | un => trivial
  | frz d =>
    obtain ⟨v, e, r⟩ := h
    exact ⟨v, e, rep_hot p _ _ r⟩
  | bor d =>
    obtain ⟨v, e, r⟩ := h
    exact ⟨v, e, brw_hot p r⟩
  | own d =>
    obtain ⟨a, e, n1, n2, o⟩ := h
    exact ⟨a, e, n1, n2, own_hot p o⟩
  | exn x => exact absurd rfl (hx x)
theorem Fr.noexn (fr : Fr Z F Fb H σ env) (hex : ∀ a c d, ¬ Z.ex a c d) (j : Nat) (x : Xn) : gt env j ≠ .exn x := fun g => by
  have s := fr.sl j
  rw [g] at s
  obtain ⟨a, dd, _, z, _⟩ := s
  exact hex _ _ _ z
/-- the exception has its name -/
theorem Fr.setX (fr : Fr Z F Fb H σ env) (hex : ∀ a c d, ¬ Z.ex a c d) {i : Nat} {a : Addr} {x : Xn} {dd : Option Addr} (hx : XF Z F H x dd) :
    Fr (Z.hot fun a' c' d' => a' = a ∧ c' = Z.xc x.c ∧ d' = dd) F Fb H (σ.set i (some (.ref a))) (env.set i (.exn x)) := by
  by_cases hi : i < env.length
  · have hi' : i < σ.length := by rw [← fr.len]; exact hi
    have own : ∀ j b, OwnAt (env.set i (.exn x)) (σ.set i (some (.ref a))) j b → OwnAt env σ j b := fun j b ⟨⟨d, g⟩, e⟩ => by
      rw [gt_set hi] at g
      by_cases ej : i = j
      · rw [if_pos ej] at g
        cases g
      · rw [if_neg ej] at g
        rw [List.getElem?_set_ne ej] at e
        exact ⟨⟨d, g⟩, e⟩
    refine ⟨by simp [fr.len], fr.th, fr.thb, fun j => ?_, fun j k b h1 h2 => fr.sep j k b (own j b h1) (own k b h2)⟩
    rw [gt_set hi]
    by_cases ej : i = j
    · rw [if_pos ej, ← ej, List.getElem?_set_self hi']
      exact ⟨a, dd, rfl, ⟨rfl, rfl, rfl⟩, xf_hot _ hx⟩
    · rw [if_neg ej, List.getElem?_set_ne ej]
      exact slot_hot _ (fr.sl j) (fr.noexn hex j)
  · rw [set_none hi, set_none (by rw [← fr.len]; exact hi)]
    exact ⟨fr.len, fr.th, fr.thb, fun j => slot_hot _ (fr.sl j) (fr.noexn hex j), fr.sep⟩
theorem gt_noex (e : Env) (j : Nat) : gt (noex e) j = match gt e j with | .exn _ => .un | s => s := by
  unfold noex gt
  rw [List.getD_eq_getElem?_getD, List.getD_eq_getElem?_getD, List.getElem?_map]
  cases e[j]? with
  | none => rfl
  | some s => rfl
/-- behind the suite -/
theorem Go.cool {p : Addr → Value → Option Addr → Prop} {i : Nat} {a : Addr} {x : Xn} (g : Go (Z.hot p) F Fb H (σ.set i (some (.ref a))) (env.set i (.exn x)) σ1 F1 H1 e) : Go Z F Fb H σ env (σ1.set i none) F1 H1 (noex (e.set i .un)) := by
  have len : e.length = σ1.length := g.fr.len
  have at_ : ∀ j, i ≠ j → gt (noex (e.set i .un)) j = match gt e j with | .exn _ => .un | s => s := fun j ej => by
    rw [gt_noex]
    by_cases hi : i < e.length
    · rw [gt_set hi, if_neg ej]
    · rw [set_none hi]
  have ati : gt (noex (e.set i .un)) i = .un := by
    rw [gt_noex]
    by_cases hi : i < e.length
    · rw [gt_set hi, if_pos rfl]
    · rw [set_none hi, gt_none (by omega)]
  have own : ∀ j b, OwnAt (noex (e.set i .un)) (σ1.set i none) j b → OwnAt e σ1 j b := fun j b ⟨⟨d, q⟩, e1⟩ => by
    by_cases ej : i = j
    · rw [← ej, ati] at q
      cases q
    · rw [at_ j ej] at q
      rw [List.getElem?_set_ne ej] at e1
      refine ⟨⟨d, ?_⟩, e1⟩
      split at q
      · cases q
      · exact q
  refine ⟨g.st, ⟨by simp [noex, len], g.fr.th, g.fr.thb, fun j => ?_, fun j k b h1 h2 => g.fr.sep j k b (own j b h1) (own k b h2)⟩, fun j d q => ?_⟩
  · by_cases ej : i = j
    · rw [← ej, ati]
      trivial
    · rw [at_ j ej, List.getElem?_set_ne ej]
      split
      · trivial
      · rename_i hx
        exact slot_hot (Z := Z.hot p) Z.ex (g.fr.sl j) hx
  · by_cases ej : i = j
    · rw [← ej, ati] at q
      cases q
    · rw [at_ j ej] at q
      have q2 : gt e j = .bor d := by
        split at q
        · cases q
        · exact q
      obtain ⟨q3, q4⟩ := g.bk j d q2
      rw [List.getElem?_set_ne ej] at q4
      refine ⟨?_, by rw [List.getElem?_set_ne ej]; exact q4⟩
      by_cases hi : i < env.length
      · rw [gt_set hi, if_neg ej] at q3
        exact q3
      · rw [set_none hi] at q3
        exact q3
end
/-- the situation of a suite -/
abbrev Sit.hot (S : Sit) (p : Addr → Value → Option Addr → Prop) : Sit := ⟨S.Z.hot p, S.Γ, fun _ _ _ _ => False⟩
section
variable {X : Cx} {S : Sit} {d : Xd} {pos pos' np : Pos} {body suite : List PySem.Stmt} {b₀ : PySem.Stmt} {mb ms : List Mi.S} {n : Str} {i : Nat}
theorem fin_cool {F Fb : Fz} {H : Hp} {σ : St} {env : Env} {D : Ends} {p : Addr → Value → Option Addr → Prop} {a : Addr} {x : Xn} {o : Out} (h : Fin S F Fb H σ env D (o.nox.onEnv fun e => noex (e.set i .un))) :
    Fin (S.hot p) F Fb H (σ.set i (some (.ref a))) (env.set i (.exn x)) { nx := fun σ' H' => D.nx (σ'.set i none) H', rt := D.rt, bk := fun σ' H' => D.bk (σ'.set i none) H', ct := fun σ' H' => D.ct (σ'.set i none) H' } o := by
  cases o with
  | nx e => exact fun σ' F' H' g => h _ F' H' g.cool
  | bk e => exact fun σ' F' H' g => h _ F' H' g.cool
  | ct e => exact fun σ' F' H' g => h _ F' H' g.cool
  | ret d own =>
    refine fun v F' H' g r => h v F' H' g ?_
    unfold RetOk at r ⊢
    split
    · rename_i c
      rw [if_pos c] at r
      obtain ⟨b, e, n1, n2, o⟩ := r
      exact ⟨b, e, n1, n2, own_hot (Z := S.Z.hot p) S.Z.ex o⟩
    · rename_i c
      rw [if_neg c] at r
      exact rep_hot (Z := S.Z.hot p) S.Z.ex _ _ r
  | exc x e => exact h.elim
  | bad => exact h.elim
theorem fin_nox {F Fb : Fz} {H : Hp} {σ : St} {env : Env} {D : Ends} {o : Out} (h : Fin S F Fb H σ env D o.nox) : Fin (S.hot S.Z.ex) F Fb H σ env D o := by
  cases o with
  | exc x e => exact h.elim
  | nx e => exact h
  | bk e => exact h
  | ct e => exact h
  | ret d own => exact h
  | bad => exact h
theorem s_tryAs (hK : X.K = S.Z.K) (hs : X.stack = X.env :: X.outer) (hf : X.env.frame = some X.env.locals) (hN : X.N.Nodup) (hi : X.N[i]? = some n) (hln : X.env.kindOf n = some .local) (hc : Names X d.nm (S.Z.xc d.id)) (tk : Takes X S.W) (hex : ∀ a c d, ¬ S.Z.ex a c d) (k : XcIs X.K X.prog X.mg S.Z d)
    (hb : ∀ (W : WX) (pn : List (Addr × Obj)) (xe : Value → Shared → Prop), Takes (X.tr pn xe) W → PassesOwn (model X.prog X.w) X.A X.env xe → PSs (X.tr pn xe) body (tSs ⟨S.Z, S.Γ, W⟩ mb))
    (hsu : ∀ (a : Addr) (oe : Obj) (cls : Value) (dd : Option Addr) (pn : List (Addr × Obj)), Zc cls dd oe → (∃ vs, oe.data = .fields vs) → PSs (X.suite a ((a, oe) :: pn)) (b₀ :: suite) (tSs (S.hot fun a' c' d' => a' = a ∧ c' = cls ∧ d' = dd) ms)) :
    PS X (.Try body [.ExceptHandler (some (.Name d.nm np)) (some n) (b₀ :: suite) pos'] [] [] pos) (tS S (.tri d.id (some i) mb ms)) := by
  refine PS.imp (ps_try_as (ts := fun a cls dd => tSs (S.hot fun a' c' d' => a' = a ∧ c' = cls ∧ d' = dd) ms) hs hf hN hi hln hc tk hb hsu) fun D σ H ⟨F, Fb, env, fr, q⟩ => ?_
  rw [evS] at q
  refine ⟨F, Fb, env, fr, ?_⟩
  show Fin _ F Fb H σ env D (evSs S.Γ mb env)
  generalize evSs S.Γ mb env = o at q
  cases o with
  | nx e => exact q
  | bk e => exact q
  | ct e => exact q
  | ret d own => exact q
  | bad => exact q
  | exc x e =>
    intro cls dd σ' F' H' g r
    obtain ⟨rfl, r⟩ := r
    refine ⟨subX x.c d.id, k.ex x.c, fun hb a ha => ?_, fun hb => ?_⟩
    · have q : Fin S F Fb H σ env D (if subX x.c d.id = true then (evSs S.Γ ms (e.set i (.exn x))).nox.onEnv (fun e => noex (e.set i .un)) else .exc x e) := q
      rw [if_pos hb] at q
      exact ⟨F', Fb, e.set i (.exn x), g.fr.setX hex r, fin_cool (q.go g)⟩
    · have q : Fin S F Fb H σ env D (if subX x.c d.id = true then (evSs S.Γ ms (e.set i (.exn x))).nox.onEnv (fun e => noex (e.set i .un)) else .exc x e) := q
      rw [if_neg (by rw [hb]; decide)] at q
      exact q _ dd σ' F' H' g ⟨rfl, r⟩
theorem s_tryOnly (hK : X.K = S.Z.K) (hs : X.stack = X.env :: X.outer) (hf : X.env.frame = some X.env.locals) (hc : Names X d.nm (S.Z.xc d.id)) (tk : Takes X S.W) (k : XcIs X.K X.prog X.mg S.Z d)
    (hb : ∀ (W : WX) (pn : List (Addr × Obj)) (xe : Value → Shared → Prop), Takes (X.tr pn xe) W → PassesOwn (model X.prog X.w) X.A X.env xe → PSs (X.tr pn xe) body (tSs ⟨S.Z, S.Γ, W⟩ mb))
    (hsu : ∀ (a : Addr) (oe : Obj) (cls : Value) (dd : Option Addr) (pn : List (Addr × Obj)), Zc cls dd oe → (∃ vs, oe.data = .fields vs) → PSs (X.suite a ((a, oe) :: pn)) (b₀ :: suite) (tSs (S.hot S.Z.ex) ms)) :
    PS X (.Try body [.ExceptHandler (some (.Name d.nm np)) none (b₀ :: suite) pos'] [] [] pos) (tS S (.tri d.id none mb ms)) := by
  refine PS.imp (ps_try_only (ts := fun a cls dd => tSs (S.hot S.Z.ex) ms) hs hf hc tk hb hsu) fun D σ H ⟨F, Fb, env, fr, q⟩ => ?_
  rw [evS] at q
  refine ⟨F, Fb, env, fr, ?_⟩
  show Fin _ F Fb H σ env D (evSs S.Γ mb env)
  generalize evSs S.Γ mb env = o at q
  cases o with
  | nx e => exact q
  | bk e => exact q
  | ct e => exact q
  | ret d own => exact q
  | bad => exact q
  | exc x e =>
    intro cls dd σ' F' H' g r
    obtain ⟨rfl, r⟩ := r
    refine ⟨subX x.c d.id, k.ex x.c, fun hb a ha => ?_, fun hb => ?_⟩
    · have q : Fin S F Fb H σ env D (if subX x.c d.id = true then (evSs S.Γ ms e).nox else .exc x e) := q
      rw [if_pos hb] at q
      exact ⟨F', Fb, e, g.fr, fin_nox (q.go g)⟩
    · have q : Fin S F Fb H σ env D (if subX x.c d.id = true then (evSs S.Γ ms e).nox else .exc x e) := q
      rw [if_neg (by rw [hb]; decide)] at q
      exact q _ dd σ' F' H' g ⟨rfl, r⟩
end
end Mi
/-! Sets of nested tuples of whole numbers: the table, for masks to 2047. -/
namespace Mi
open PySem PySem.Spec PyProof.Rows L2

/-- the numbers met on the round of i -> 5 i + 1, as a word of bits -/
def orb (m : Nat) : Nat → Nat → Nat → Nat
  | 0, _, acc => acc
  | n + 1, i, acc => orb m n ((i * 5 + 1) % (m + 1)) (acc ||| 2 ^ i)
theorem orb_spec (m : Nat) : ∀ (n i acc j : Nat), (orb m n i acc).testBit j = true → acc.testBit j = true ∨ ∃ k, k < n ∧ lcgI m i k = j
  | 0, i, acc, j, h => .inl h
  | n + 1, i, acc, j, h => by
    have shift : ∀ k, lcgI m ((i * 5 + 1) % (m + 1)) k = lcgI m i (k + 1) := by
      intro k
      induction k with
      | zero => rfl
      | succ k ih =>
        show (lcgI m ((i * 5 + 1) % (m + 1)) k * 5 + 1) % (m + 1) = (lcgI m i (k + 1) * 5 + 1) % (m + 1)
        rw [ih]
    rcases orb_spec m n _ _ j h with z | ⟨k, hk, e⟩
    · rw [Nat.testBit_or, Bool.or_eq_true] at z
      rcases z with z | z
      · exact .inl z
      · rw [Nat.testBit_two_pow] at z
        exact .inr ⟨0, Nat.succ_pos _, of_decide_eq_true z⟩
    · exact .inr ⟨k + 1, by omega, by rw [← shift]; exact e⟩
/-- a mask whose round meets all -/
structure Full (m : Nat) : Prop where
  all : ∀ {j}, j ≤ m → ∃ b, b ≤ m ∧ lcgN m b = j
  round : lcgN m (m + 1) = 0
  odd : m % 2 = 1
  small : m ≤ 2047
theorem lcgI_zero (m : Nat) : ∀ k, lcgI m 0 k = lcgN m k
  | 0 => rfl
  | k + 1 => by
    show (lcgI m 0 k * 5 + 1) % (m + 1) = (lcgN m k * 5 + 1) % (m + 1)
    rw [lcgI_zero m k]
theorem full_of {m : Nat} (h : orb m (m + 1) 0 0 = 2 ^ (m + 1) - 1) (r : lcgN m (m + 1) = 0) (o : m % 2 = 1) (s : m ≤ 2047) : Full m := by
  refine ⟨fun {j} hj => ?_, r, o, s⟩
  have hb : (orb m (m + 1) 0 0).testBit j = true := by
    rw [h, Nat.testBit_two_pow_sub_one]
    simpa using Nat.lt_succ_of_le hj
  rcases orb_spec m _ _ _ j hb with z | ⟨k, hk, e⟩
  · simp at z
  · exact ⟨k, Nat.le_of_lt_succ hk, by rw [← lcgI_zero]; exact e⟩
theorem full7 : Full 7 := full_of (by decide +kernel) (by decide +kernel) rfl (by decide)
theorem full31 : Full 31 := full_of (by decide +kernel) (by decide +kernel) rfl (by decide)
theorem full127 : Full 127 := full_of (by decide +kernel) (by decide +kernel) rfl (by decide)
theorem full511 : Full 511 := full_of (by decide +kernel) (by decide +kernel) rfl (by decide)
theorem full2047 : Full 2047 := full_of (by decide +kernel) (by decide +kernel) rfl (by decide)
theorem lcgN_mod' {m : Nat} (hm : Full m) : ∀ k, lcgN m (m + 1 + k) = lcgN m k
  | 0 => hm.round
  | k + 1 => by
    show (lcgN m (m + 1 + k) * 5 + 1) % (m + 1) = (lcgN m k * 5 + 1) % (m + 1)
    rw [lcgN_mod' hm k]
theorem lcgI_all' {m : Nat} (hm : Full m) {i j : Nat} (hi : i ≤ m) (hj : j ≤ m) : ∃ k, k ≤ m ∧ lcgI m i k = j := by
  obtain ⟨a, ha, ea⟩ := hm.all hi
  obtain ⟨b, hb, eb⟩ := hm.all hj
  rw [← ea]
  by_cases c : b < a
  · refine ⟨m + 1 + b - a, by omega, ?_⟩
    rw [lcgN_add, show a + (m + 1 + b - a) = m + 1 + b by omega, lcgN_mod' hm, eb]
  · exact ⟨b - a, by omega, by rw [lcgN_add, show a + (b - a) = b by omega, eb]⟩
theorem run_meets' {m : Nat} (hm : Full m) (h : Int) {j : Nat} (hj : j ≤ m) : ∃ n, n ≤ m + 12 ∧ runI m (SetTable.bits h) n = j := by
  obtain ⟨k, hk, e⟩ := lcgI_all' hm (runI_le m (SetTable.bits h) 12) hj
  exact ⟨12 + k, by omega, by rw [runI_tail (bits_lt h)]; exact e⟩
theorem nth_meets' {m : Nat} (hm : Full m) (h : Int) {j : Nat} (hj : j ≤ m) : ∃ k, k < 10 * SetTable.turns m ∧ way m h k = j := by
  obtain ⟨n, hn, e⟩ := run_meets' hm h hj
  obtain ⟨k, hk, e2⟩ := run_nth m (SetTable.bits h) n
  refine ⟨k, by unfold SetTable.turns; omega, ?_⟩
  show (nth m _ k).j = j
  rw [e2]
  exact e
theorem way_le' {m : Nat} {h : Int} {k : Nat} : way m h k ≤ m := by
  have hi : SetTable.bits h % (m + 1) ≤ m := Nat.le_of_lt_succ (Nat.mod_lt _ (Nat.succ_pos _))
  have r := runEnd_bd hi
  have q := nth_in (m := m) k (runAt m (SetTable.bits h % (m + 1)) (SetTable.bits h)) (by
    show SetTable.bits h % (m + 1) + (SetTable.runEnd m (SetTable.bits h % (m + 1)) - SetTable.bits h % (m + 1)) ≤ m
    omega)
  show (nth m _ k).j ≤ m
  omega
/-- a table in order: what is in it is found on its way -/
structure Tab (t : SetTable) (hs : List Int) : Prop where
  ris : Ris t.place.toList
  dm : t.dummies = #[]
  sz : t.place.size = hs.length
  full : Full t.mask
  bd : ∀ x ∈ t.place.toList, x ≤ t.mask
  reach : ∀ (i : Nat) (h : Int) (j : Nat), hs[i]? = some h → t.place.toList[i]? = some j → ∃ k, way t.mask h k = j ∧ ∀ k', k' < k → way t.mask h k' ∈ t.place.toList
theorem Tab.len {t : SetTable} {hs : List Int} (T : Tab t hs) : t.place.toList.length = hs.length := by
  rw [Array.length_toList]
  exact T.sz
theorem Tab.first {t : SetTable} {hs : List Int} (T : Tab t hs) (hl : hs.length ≤ t.mask) (h : Int) : ∃ K, K < 10 * SetTable.turns t.mask ∧ way t.mask h K ∉ t.place.toList ∧ ∀ k, k < K → way t.mask h k ∈ t.place.toList := by
  obtain ⟨j, hj, hn⟩ := st_missing t.place.toList (t.mask + 1) (by rw [T.len]; omega)
  obtain ⟨k, hk, e⟩ := nth_meets' T.full h (Nat.le_of_lt_succ hj)
  obtain ⟨K, h1, h2, h3⟩ := st_least (p := fun k => way t.mask h k ∉ t.place.toList) k (by rw [e]; exact hn)
  exact ⟨K, Nat.lt_of_le_of_lt h1 hk, h2, fun k' hk' => Classical.byContradiction (h3 k' hk')⟩
theorem Tab.before {t : SetTable} {hs : List Int} (T : Tab t hs) {h : Int} {K i j : Nat} (hK : way t.mask h K ∉ t.place.toList) (hi : hs[i]? = some h) (hj : t.place.toList[i]? = some j) : ∃ k, k < K ∧ way t.mask h k = j := by
  obtain ⟨k, e, hb⟩ := T.reach i h j hi hj
  refine ⟨k, ?_, e⟩
  refine Classical.byContradiction fun c => hK ?_
  by_cases d : K = k
  · rw [d, e]
    exact List.mem_of_getElem? hj
  · exact hb K (by omega)
theorem Tab.put {t : SetTable} {hs : List Int} (T : Tab t hs) {h : Int} {j K : Nat} (hj : way t.mask h K = j) (hK : j ∉ t.place.toList) (hb : ∀ k, k < K → way t.mask h k ∈ t.place.toList) :
    SetTable.below t.place j ≤ hs.length ∧ Tab (t.put j).1 (hs.take (SetTable.below t.place j) ++ h :: hs.drop (SetTable.below t.place j)) := by
  obtain ⟨c1, _, _⟩ := below_cut T.ris j
  have hpl : SetTable.below t.place j ≤ t.place.toList.length := by
    rw [Array.length_toList]
    exact c1
  have hph : SetTable.below t.place j ≤ hs.length := by
    rw [← T.sz]
    exact c1
  have hpp := put_place t j
  have up : ∀ {x : Nat}, x ∈ t.place.toList → x ∈ (t.put j).1.place.toList := fun {x} hx => by
    rw [hpp]
    exact mem_ins.2 (.inr hx)
  have hmk : (t.put j).1.mask = t.mask := rfl
  refine ⟨hph, ris_insert T.ris fun e => hK (List.mem_of_getElem? (by rw [Array.getElem?_toList]; exact e)), put_dm T.dm j, ?_, T.full, fun x hx => ?_, fun i h' j' h1 h2 => ?_⟩
  · rw [← Array.length_toList, hpp, len_ins _ hpl, len_ins _ hph, T.len]
  · rw [hpp] at hx
    rcases mem_ins.1 hx with z | z
    · rw [z, ← hj]
      exact way_le'
    · exact T.bd x z
  · rw [hmk]
    rw [tins_get hs hph] at h1
    rw [hpp, tins_get _ hpl] at h2
    split at h1
    · rename_i c
      rw [if_pos c] at h2
      obtain ⟨k, e, z⟩ := T.reach i h' j' h1 h2
      exact ⟨k, e, fun k' hk' => up (z k' hk')⟩
    · rename_i c
      rw [if_neg c] at h2
      split at h1
      · rename_i d
        rw [if_pos d] at h2
        cases h1
        cases h2
        exact ⟨K, hj, fun k' hk' => up (hb k' hk')⟩
      · rename_i d
        rw [if_neg d] at h2
        obtain ⟨k, e, z⟩ := T.reach (i - 1) h' j' h1 h2
        exact ⟨k, e, fun k' hk' => up (z k' hk')⟩
theorem free_find' {m : Nat} (hm : Full m) (owner : Array (Option Nat)) (h : Int) {j : Nat} (hj : j ≤ m) (hf : oAt owner j = none) :
    ∃ K, SetTable.layClean.free m owner (SetTable.turns m) (SetTable.bits h % (m + 1)) (SetTable.bits h) = some (way m h K) ∧ oAt owner (way m h K) = none ∧ ∀ k, k < K → oAt owner (way m h k) ≠ none := by
  obtain ⟨n, hn, e⟩ := run_meets' hm h hj
  obtain ⟨o, ho⟩ : ∃ o, o = off m (SetTable.bits h % (m + 1)) (SetTable.bits h) n := ⟨_, rfl⟩
  have hw : way m h o = j := by
    show (nth m _ o).j = j
    rw [ho, nth_off, itL_run]
    exact e
  obtain ⟨K, k1, k2, k3⟩ := st_least (p := fun k => oAt owner (way m h k) = none) o (by rw [hw]; exact hf)
  refine ⟨K, ?_, k2, k3⟩
  refine free_spec m owner (SetTable.turns m) n _ _ K (by unfold SetTable.turns; omega) (by rw [← ho]; exact k1) (fun k hk => ?_) ?_
  · cases z : oAt owner (nth m (runAt m (SetTable.bits h % (m + 1)) (SetTable.bits h)) k).j with
    | none => exact absurd z (k3 k hk)
    | some _ => rfl
  · rw [show oAt owner (nth m (runAt m (SetTable.bits h % (m + 1)) (SetTable.bits h)) K).j = none from k2] <;> rfl
theorem own_step {m : Nat} (hm : Full m) {done : List Int} {owner : Array (Option Nat)} (W : L2.Own m done owner) (hl : done.length ≤ m) (h : Int) :
    ∃ j, SetTable.layClean.free m owner (SetTable.turns m) (SetTable.bits h % (m + 1)) (SetTable.bits h) = some j ∧ L2.Own m (done ++ [h]) (owner.setIfInBounds j (some done.length)) := by
  obtain ⟨ps, hps, hin⟩ := W.ps
  obtain ⟨j0, h0, hn0⟩ := st_missing ps (m + 1) (by omega)
  have hj0 : oAt owner j0 = none := Classical.byContradiction fun z => hn0 (hin j0 (Nat.le_of_lt_succ h0) z)
  obtain ⟨K, e1, e2, e3⟩ := free_find' hm owner h (Nat.le_of_lt_succ h0) hj0
  obtain ⟨j, hj⟩ : ∃ j, j = way m h K := ⟨_, rfl⟩
  have hjm : j ≤ m := by rw [hj]; exact way_le'
  have hjs : j < owner.size := by rw [W.sz]; omega
  rw [← hj] at e1 e2
  refine ⟨j, e1, ?_⟩
  have hself := oAt_set_self (some done.length) hjs
  have mono : ∀ {i : Nat}, oAt owner i ≠ none → oAt (owner.setIfInBounds j (some done.length)) i ≠ none := fun {i} hi => by
    by_cases c : i = j
    · rw [c, hself]
      exact fun e => nomatch e
    · rw [oAt_set_ne _ c]
      exact hi
  refine ⟨by rw [Array.size_setIfInBounds]; exact W.sz, fun i k hi e => ?_, fun k hk => ?_, ⟨j :: ps, by rw [List.length_cons, List.length_append, hps] <;> rfl, fun i hi e => ?_⟩⟩
  · by_cases c : i = j
    · rw [c, hself] at e
      have ek : done.length = k := Option.some.inj e
      refine ⟨h, K, ?_, by rw [c, hj], fun k' hk' => mono (e3 k' hk')⟩
      rw [← ek, List.getElem?_append_right (Nat.le_refl _), Nat.sub_self] <;> rfl
    · rw [oAt_set_ne _ c] at e
      obtain ⟨h', K', a1, a2, a3⟩ := W.at_ i k hi e
      refine ⟨h', K', ?_, a2, fun k' hk' => mono (a3 k' hk')⟩
      rw [List.getElem?_append_left (List.getElem?_eq_some_iff.mp a1).1]
      exact a1
  · rw [List.length_append, List.length_singleton] at hk
    by_cases c : k < done.length
    · obtain ⟨i, hi, e⟩ := W.all k c
      refine ⟨i, hi, ?_⟩
      rw [oAt_set_ne _ (fun z => by rw [z, e2] at e; cases e)]
      exact e
    · exact ⟨j, hjm, by rw [hself, show k = done.length by omega]⟩
  · by_cases c : i = j
    · rw [c]
      exact List.mem_cons_self
    · rw [oAt_set_ne _ c] at e
      exact List.mem_cons_of_mem _ (hin i hi e)
theorem fold_ok' {m : Nat} (hm : Full m) : ∀ (rest done : List Int) (owner : Array (Option Nat)), L2.Own m done owner → done.length + rest.length ≤ m →
    ∃ owner', rest.foldl (stepF m) (some (owner, done.length)) = some (owner', (done ++ rest).length) ∧ L2.Own m (done ++ rest) owner'
  | [], done, owner, W, _ => ⟨owner, by rw [List.append_nil] <;> rfl, by rw [List.append_nil]; exact W⟩
  | h :: rest, done, owner, W, hl => by
    rw [List.length_cons] at hl
    obtain ⟨j, e, W'⟩ := own_step hm W (by omega) h
    have hl' : (done ++ [h]).length = done.length + 1 := by rw [List.length_append] <;> rfl
    obtain ⟨owner', f, W2⟩ := fold_ok' hm rest (done ++ [h]) _ W' (by rw [hl']; omega)
    have ea : done ++ [h] ++ rest = done ++ h :: rest := by rw [List.append_assoc] <;> rfl
    rw [ea, hl'] at f
    rw [ea] at W2
    exact ⟨owner', by rw [List.foldl_cons, stepF_some e]; exact f, W2⟩
theorem layClean_ok' {m : Nat} (hm : Full m) {hs : Array Int} (hn : hs.size ≤ m) : ∃ owner, SetTable.layClean m hs = some owner ∧ L2.Own m hs.toList owner := by
  obtain ⟨owner, f, W⟩ := fold_ok' hm hs.toList [] _ (Own.init m) (by rw [Array.length_toList]; show 0 + hs.size ≤ m; omega)
  rw [List.nil_append] at W
  refine ⟨owner, ?_, W⟩
  rw [layClean_eq]
  have f' : hs.toList.foldl (stepF m) (some (Array.replicate (m + 1) none, 0)) = some (owner, ([] ++ hs.toList).length) := f
  rw [f'] <;> rfl
theorem relaid_ok' (t : SetTable) {hs : Array Int} {wanted M : Nat} (hw : SetTable.sizeAbove wanted - 1 = M) (hM : Full M) (hn : hs.size ≤ M) :
    ∃ t' order, t.relaid hs wanted = some (t', order) ∧ order.toList.Perm (List.range hs.size) ∧ Tab t' (order.toList.map fun i => hs.getD i 0) ∧ t'.mask = M ∧ t'.led = t.led ∧ t'.plain = t.plain := by
  obtain ⟨owner, e, W⟩ := layClean_ok' hM hn
  have hr : t.relaid hs wanted = some (tabOf t M owner, ((liveOf M owner).map (·.2)).toArray) := by
    rw [relaid_eq, hw, e] <;> rfl
  obtain ⟨r1, r2⟩ := ris_live (fun j => owner.getD j none) (List.range (M + 1)) (by
    unfold Ris
    exact List.pairwise_lt_range)
  have r1 : Ris ((liveOf M owner).map (·.1)) := r1
  have r2 : ∀ x ∈ (liveOf M owner).map (·.1), x ∈ List.range (M + 1) := r2
  have nd : ((liveOf M owner).map (·.1)).Nodup := List.Pairwise.imp (fun h => Nat.ne_of_lt h) r1
  have cov : ∀ k, k < hs.size → k ∈ (liveOf M owner).map (·.2) := fun k hk => by
    obtain ⟨j, b1, b2⟩ := W.all k (by rw [Array.length_toList]; exact hk)
    exact List.mem_map.mpr ⟨(j, k), (mem_live W.sz).2 ⟨b1, b2⟩, rfl⟩
  have hlen : (liveOf M owner).length = hs.size := by
    obtain ⟨ps, p1, p2⟩ := W.ps
    have a := nat_nodup_len ((liveOf M owner).map (·.1)) ps nd fun x hx => by
      obtain ⟨⟨y, k⟩, hq, eq1⟩ := List.mem_map.mp hx
      obtain rfl : y = x := eq1
      obtain ⟨b1, b2⟩ := (mem_live W.sz).1 hq
      exact p2 y b1 (by rw [b2]; exact fun z => nomatch z)
    have b := nat_nodup_len (List.range hs.size) ((liveOf M owner).map (·.2)) List.nodup_range fun k hk => cov k (List.mem_range.mp hk)
    rw [List.length_map, p1] at a
    rw [List.length_map, List.length_range] at b
    have hz : hs.toList.length = hs.size := rfl
    omega
  refine ⟨tabOf t M owner, ((liveOf M owner).map (·.2)).toArray, hr, ?_, ⟨r1, rfl, ?_, hM, fun x hx => ?_, fun i h j h1 h2 => ?_⟩, rfl, rfl, rfl⟩
  · refine perm_range hs.size _ ?_ cov
    show ((liveOf M owner).map (·.2)).length = hs.size
    rw [List.length_map]
    exact hlen
  · show ((liveOf M owner).map (·.1)).toArray.size = (((liveOf M owner).map (·.2)).map fun i => hs.getD i 0).length
    rw [List.size_toArray, List.length_map, List.length_map, List.length_map]
  · exact Nat.le_of_lt_succ (List.mem_range.mp (r2 x hx))
  · have h1' : (((liveOf M owner).map (·.2)).map fun i => hs.getD i 0)[i]? = some h := h1
    have h2' : ((liveOf M owner).map (·.1))[i]? = some j := h2
    rw [List.getElem?_map, List.getElem?_map] at h1'
    rw [List.getElem?_map] at h2'
    cases hq : (liveOf M owner)[i]? with
    | none =>
      rw [hq] at h2'
      cases h2'
    | some q =>
      obtain ⟨y, k⟩ := q
      rw [hq] at h1' h2'
      obtain rfl : y = j := Option.some.inj h2'
      have eh : hs.getD k 0 = h := Option.some.inj h1'
      obtain ⟨b1, b2⟩ := (mem_live W.sz).1 (List.mem_of_getElem? hq)
      obtain ⟨h0, K, a1, a2, a3⟩ := W.at_ y k b1 b2
      have e0 : hs.getD k 0 = h0 := by
        rw [Array.getD_eq_getD_getElem?, ← Array.getElem?_toList, a1] <;> rfl
      obtain rfl : h0 = h := e0.symm.trans eh
      refine ⟨K, a2, fun k' hk' => ?_⟩
      show way M h0 k' ∈ (liveOf M owner).map (·.1)
      cases z : oAt owner (way M h0 k') with
      | none => exact absurd z (a3 k' hk')
      | some k2 => exact List.mem_map.mpr ⟨(way M h0 k', k2), (mem_live W.sz).2 ⟨way_le', z⟩, rfl⟩
/-- how a table of mask m grows -/
theorem grow_cases {m n : Nat} (hm : m = 7 ∨ m = 31 ∨ m = 127 ∨ m = 511 ∨ m = 2047) (h1 : n * 5 < m * 3) (h2 : (n + 1) * 5 ≥ m * 3) (h3 : n + 1 < 1000) :
    ∃ M, SetTable.sizeAbove (SetTable.grown (n + 1)) - 1 = M ∧ (M = 31 ∨ M = 127 ∨ M = 511 ∨ M = 2047) ∧ SetTable.sizeAbove (SetTable.grown (n + 1)) ≤ 2048 ∧ (n + 1) * 5 < M * 3 ∧ n + 1 ≤ M := by
  rcases hm with e | e | e | e | e
  · obtain rfl : n = 4 := by omega
    exact ⟨31, by decide +kernel, by decide, by decide +kernel, by decide, by decide⟩
  · obtain rfl : n = 18 := by omega
    exact ⟨127, by decide +kernel, by decide, by decide +kernel, by decide, by decide⟩
  · obtain rfl : n = 76 := by omega
    exact ⟨511, by decide +kernel, by decide, by decide +kernel, by decide, by decide⟩
  · obtain rfl : n = 306 := by omega
    exact ⟨2047, by decide +kernel, by decide, by decide +kernel, by decide, by decide⟩
  · omega
end Mi
/-! Sets of nested tuples of whole numbers: search, adding, set(xs). -/
namespace Mi
open PySem PySem.Spec PyProof.Rows L2

mutual
/-- no text in it -/
def plainK : NestedKey → Bool
  | .none => true
  | .num _ => true
  | .text _ => false
  | .tup ks => plainKs ks
def plainKs : List NestedKey → Bool
  | [] => true
  | k :: ks => plainK k && plainKs ks
end
section
variable {P : Program} {w : World} {A : Around} {E : Value → Shared → Prop} {s : Shared}
/-- a question about a value that answers b and changes nothing -/
def Asks (P : Program) (w : World) (m : Sem Bool) (b : Bool) (s : Shared) : Prop := ∀ (A : Around) (E : Value → Shared → Prop) (Q : Bool → Shared → Prop), Q b s → wpAny (model P w) A m Q E s
theorem Asks.pure (b : Bool) : Asks P w (Pure.pure b) b s := fun A E Q h => wpAny_pure h
mutual
theorem ac_key : ∀ (k : NestedKey) (v : Value) (n : Nat), NestedIs s.heap k v → k.depth ≤ n → Asks P w (ofAClassStatement n v) false s
  | .none, _, n, x, _ => by cases x; cases n <;> exact Asks.pure _
  | .num i, _, n, x, _ => by cases x <;> cases n <;> exact Asks.pure _
  | .text y, _, n, x, _ => by cases x; cases n <;> exact Asks.pure _
  | .tup ks, _, n, x, hn => by
    cases x with
    | @tup a o vs m _ ho hc hd hk =>
      simp only [NestedKey.depth] at hn
      cases n with
      | zero => omega
      | succ n =>
        have hT : s.TypeIs (.ref a) "tuple" := ⟨o, ho, hc⟩
        have all := ac_keys ks vs.toList n hk (by omega)
        intro A E Q h
        unfold ofAClassStatement
        refine wpAny_bind (wpAny_typeOf hT ?_)
        dsimp only
        have e : (("tuple" : String) == "tuple") = true := by decide
        simp only [e, if_true, Bool.not_true, Bool.false_eq_true, if_false]
        try refine wpAny_bind (wpAny_pure ?_)
        try simp only [Bool.not_true, Bool.false_eq_true, if_false]
        show wpAny _ _ (seqItems? (.ref a) >>= _) _ _ s
        refine wpAny_bind (wpAny_seqItems ho hd ?_)
        dsimp only
        refine wpAny_bind ?_
        show wpAny _ _ (forIn vs _ _) _ _ s
        rw [← Array.forIn_toList]
        refine wpAny_forIn_list _ (fun rest r s' => r.1 = none ∧ s' = s ∧ ∀ v ∈ rest, Asks P w (ofAClassStatement n v) false s) _ ?_ ?_ _ _ ⟨rfl, rfl, all⟩
        · rintro v rest r s' ⟨hr, rfl, hall⟩
          refine wpAny_bind (hall v List.mem_cons_self _ _ _ ?_)
          simp only [Bool.false_eq_true, if_false]
          exact wpAny_pure ⟨rfl, rfl, fun u hu' => hall u (List.mem_cons_of_mem _ hu')⟩
        · rintro ⟨r1, r2⟩ s' ⟨hr, rfl, _⟩
          simp only at hr
          subst hr
          exact wpAny_pure h
theorem ac_keys : ∀ (ks : List NestedKey) (vs : List Value) (n : Nat), NestedAll s.heap ks vs → NestedKey.depthAll ks ≤ n → ∀ v ∈ vs, Asks P w (ofAClassStatement n v) false s
  | [], _, n, x, _, v, hv => by cases x; cases hv
  | k :: ks, _, n, x, hn, v, hv => by
    cases x with
    | cons x1 x2 =>
      simp only [NestedKey.depthAll] at hn
      rcases List.mem_cons.mp hv with e | hv
      · rw [e]; exact ac_key k _ n x1 (by omega)
      · exact ac_keys ks _ n x2 (by omega) v hv
end
mutual
theorem hb_key : ∀ (k : NestedKey) (v : Value) (n : Nat), NestedIs s.heap k v → k.depth ≤ n → plainK k = true → Asks P w (hashByValue n v) true s
  | .none, _, n, x, _, _ => by cases x; cases n <;> exact Asks.pure _
  | .num i, _, n, x, _, _ => by cases x <;> cases n <;> exact Asks.pure _
  | .text y, _, n, x, _, hp => by cases hp
  | .tup ks, _, n, x, hn, hp => by
    cases x with
    | @tup a o vs m _ ho hc hd hk =>
      simp only [NestedKey.depth] at hn
      cases n with
      | zero => omega
      | succ n =>
        have hT : s.TypeIs (.ref a) "tuple" := ⟨o, ho, hc⟩
        have all := hb_keys ks vs.toList n hk (by omega) hp
        intro A E Q h
        unfold hashByValue
        refine wpAny_bind (wpAny_specialOf hT F.slot_tuple_hash.lookup ?_)
        show wpAny _ _ (seqItems? (.ref a) >>= _) _ _ s
        refine wpAny_bind (wpAny_seqItems ho hd ?_)
        refine wpAny_bind ?_
        show wpAny _ _ (forIn vs _ _) _ _ s
        rw [← Array.forIn_toList]
        refine wpAny_forIn_list _ (fun rest r s' => r.1 = none ∧ s' = s ∧ ∀ v ∈ rest, Asks P w (hashByValue n v) true s) _ ?_ ?_ _ _ ⟨rfl, rfl, all⟩
        · rintro v rest r s' ⟨hr, rfl, hall⟩
          refine wpAny_bind (hall v List.mem_cons_self _ _ _ ?_)
          simp only [Bool.not_true, Bool.false_eq_true, if_false]
          exact wpAny_pure ⟨rfl, rfl, fun u hu' => hall u (List.mem_cons_of_mem _ hu')⟩
        · rintro ⟨r1, r2⟩ s' ⟨hr, rfl, _⟩
          simp only at hr
          subst hr
          exact wpAny_pure h
theorem hb_keys : ∀ (ks : List NestedKey) (vs : List Value) (n : Nat), NestedAll s.heap ks vs → NestedKey.depthAll ks ≤ n → plainKs ks = true → ∀ v ∈ vs, Asks P w (hashByValue n v) true s
  | [], _, n, x, _, _, v, hv => by cases x; cases hv
  | k :: ks, _, n, x, hn, hp, v, hv => by
    cases x with
    | cons x1 x2 =>
      simp only [NestedKey.depthAll] at hn
      simp only [plainKs, Bool.and_eq_true] at hp
      rcases List.mem_cons.mp hv with e | hv
      · rw [e]; exact hb_key k _ n x1 (by omega) hp.1
      · exact hb_keys ks _ n x2 (by omega) hp.2 v hv
end
/-- the key stands at the address -/
structure KeyAt (h : Heap) (k : NestedKey) (a : Addr) : Prop where
  is : NestedIs h k (.ref a)
  dep : k.depth ≤ 8
  pl : plainK k = true
theorem KeyAt.inj {h : Heap} {k k' : NestedKey} {a : Addr} (x : KeyAt h k a) (y : KeyAt h k' a) : k = k' := NestedIs.inj _ _ _ x.is y.is
theorem KeyAt.keep {h h' : Heap} {k : NestedKey} {b : Addr} (x : KeyAt h k b) (hk : ∀ c o, h.get? c = some o → h'.get? c = some o) : KeyAt h' k b :=
  ⟨NestedIs.at (fun a o _ _ e _ => hk a o e) _ _ x.is, x.dep, x.pl⟩
theorem KeyAt.same {h h' : Heap} {k : NestedKey} {a b : Addr} {o : Obj} {es : Array (Int × Value)} {ep : Nat} {t : SetTable} (x : KeyAt h k b) (ho : h.get? a = some o) (hd : o.data = .set es ep t) (hs : Heap.SameBut a h h') : KeyAt h' k b :=
  ⟨NestedIs.at (fun c u vs n e hc => by
    refine (hs.2 c fun z => ?_).trans e
    subst z
    rw [ho] at e
    cases e
    rw [hd] at hc
    cases hc) _ _ x.is, x.dep, x.pl⟩
/-- a search among keys shows nothing -/
theorem seen_key {k : NestedKey} {b : Addr} {Q : Bool → Shared → Prop} (hk : KeyAt s.heap k b) {ys : List Value} (hy : ∀ y ∈ ys, ∃ k' c, y = Value.ref c ∧ KeyAt s.heap k' c) (h : Q false s) :
    wpAny (model P w) A (searchCouldBeSeen (.ref b) ys) Q E s := by
  unfold searchCouldBeSeen
  refine wpAny_bind ?_
  refine wpAny_forIn_list _ (fun rest r s' => r.1 = none ∧ s' = s ∧ ∀ y ∈ rest, ∃ k' c, y = Value.ref c ∧ KeyAt s.heap k' c) _ ?_ ?_ _ _ ⟨rfl, rfl, hy⟩
  · rintro v rest r s' ⟨hr, rfl, hall⟩
    obtain ⟨k', c, rfl, hc⟩ := hall v List.mem_cons_self
    have rest' : ∀ y ∈ rest, ∃ k' c, y = Value.ref c ∧ KeyAt s'.heap k' c := fun u hu' => hall u (List.mem_cons_of_mem _ hu')
    dsimp only
    by_cases hv : (b == c || (carriedByValue (.ref b) && carriedByValue (.ref c))) = true
    · refine wp_if_pos hv ?_
      exact wpAny_pure ⟨rfl, rfl, rest'⟩
    · refine wp_if_neg hv ?_
      refine wpAny_bind (quiet_key _ _ 8 s' hk.is hk.dep _ _ _ ?_)
      simp only [Bool.not_true, Bool.false_eq_true, if_false]
      refine wpAny_bind (quiet_key _ _ 8 s' hc.is hc.dep _ _ _ ?_)
      simp only [Bool.not_true, Bool.false_eq_true, if_false]
      refine wpAny_bind (ac_key _ _ 8 hk.is hk.dep _ _ _ ?_)
      simp only [Bool.false_eq_true, if_false]
      refine wpAny_bind (ac_key _ _ 8 hc.is hc.dep _ _ _ ?_)
      simp only [Bool.false_eq_true, if_false]
      exact wpAny_pure ⟨rfl, rfl, rest'⟩
  · rintro ⟨r1, r2⟩ s' ⟨hr, rfl, _⟩
    simp only at hr
    subst hr
    exact wpAny_pure h

/-! ### the set -/
abbrev Row := Addr × NestedKey
def rowsK (w : World) (L : List Row) : List (Int × Value) := L.map fun p => (p.2.hash w, Value.ref p.1)
structure SetK (w : World) (h : Heap) (a : Addr) (L : List Row) (es : Array (Int × Value)) (ep : Nat) (t : SetTable) : Prop where
  ob : ∃ o, h.get? a = some o ∧ o.ExactSet ∧ o.data = .set es ep t
  rows : es.toList = rowsK w L
  tab : Tab t (L.map fun p => p.2.hash w)
  mask : t.mask = 7 ∨ t.mask = 31 ∨ t.mask = 127 ∨ t.mask = 511 ∨ t.mask = 2047
  nd : (L.map (·.2)).Nodup
  keys : ∀ p ∈ L, KeyAt h p.2 p.1
  plain : t.plain = true
  led : w.params.followText "set-order" = true ∨ t.led = true
  room : L.length * 5 < t.mask * 3
  few : L.length < 1000
variable {a : Addr} {L : List Row} {es : Array (Int × Value)} {ep : Nat} {t : SetTable}
theorem rows_size (h : es.toList = rowsK w L) : es.size = L.length := by
  have := congrArg List.length h
  unfold rowsK at this
  rw [Array.length_toList, List.length_map] at this
  exact this
theorem SetK.fits (R : SetK w s.heap a L es ep t) : t.fits es.size = true := by
  have h1 := R.tab.sz
  rw [List.length_map] at h1
  have h2 := rows_size R.rows
  have h3 := R.room
  unfold SetTable.fits SetTable.fill
  rw [R.tab.dm, Bool.and_eq_true, beq_iff_eq, decide_eq_true_eq]
  show t.place.size = es.size ∧ t.place.size + 0 ≤ t.mask
  omega
theorem SetK.entry (R : SetK w s.heap a L es ep t) {i : Nat} {p : Row} (h : L[i]? = some p) : es[i]? = some (p.2.hash w, Value.ref p.1) := by
  rw [← Array.getElem?_toList, R.rows]
  unfold rowsK
  rw [List.getElem?_map, h] <;> rfl
theorem SetK.gw (R : SetK w s.heap a L es ep t) : ¬ t.gaveWay = true := by
  unfold SetTable.gaveWay
  rw [R.tab.full.odd]
  decide
/-- the way's start -/
abbrev w0 (m : Nat) (h : Int) : SetTable.Probe := runAt m (SetTable.bits h % (m + 1)) (SetTable.bits h)
theorem nth_dummy (m : Nat) : ∀ (n : Nat) (p : SetTable.Probe), p.dummy = none → (nth m p n).dummy = none
  | 0, _, h => h
  | n + 1, p, h => nth_dummy m n (adv m p) (by unfold adv; split <;> exact h)

/-- the search, from the c-th step of the way on -/
theorem searchK (R : SetK w s.heap a L es ep t) {x : Addr} {k : NestedKey} (hx : KeyAt s.heap k x) (hu : A.units + 8 < cLine) {K : Nat} (hKf : K < 10 * SetTable.turns t.mask)
    (hK : way t.mask (k.hash w) K ∉ t.place.toList) (hKb : ∀ c, c < K → way t.mask (k.hash w) c ∈ t.place.toList) {Q : SetFound → Shared → Prop}
    (hin : k ∈ L.map (·.2) → Q (.there none) s) (hout : k ∉ L.map (·.2) → Q (.free (way t.mask (k.hash w) K) false) s) :
    ∀ (f c : Nat) (stand : Option SetTable.Probe), stand.getD (t.probeStart (k.hash w)) = nth t.mask (w0 t.mask (k.hash w)) c → c ≤ K → K - c < f →
      (∀ (i : Nat) p, L[i]? = some p → p.2 = k → ∃ c', c ≤ c' ∧ c' < K ∧ t.place.toList[i]? = some (way t.mask (k.hash w) c')) →
      wpAny (model P w) A (setSearchFrom a (.ref x) (k.hash w) true f stand) Q E s
  | 0, c, stand, _, _, hf, _ => absurd hf (Nat.not_lt_zero _)
  | f + 1, c, stand, hst, hc, hf, hre => by
    obtain ⟨o, ho, hex, hd⟩ := R.ob
    rw [setSearchFrom_succ]
    refine wpAny_bind (wpAny_setState_of ho hd R.fits ?_)
    dsimp only
    refine wp_if_neg R.gw ?_
    try refine wpAny_bind (wpAny_pure ?_)
    have sh : ∀ q, nth t.mask (nth t.mask (w0 t.mask (k.hash w)) c) q = nth t.mask (w0 t.mask (k.hash w)) (c + q) := fun q => (nth_add t.mask c _ q).symm
    have e1 : ∀ q, (nth t.mask (nth t.mask (w0 t.mask (k.hash w)) c) q).j = way t.mask (k.hash w) (c + q) := fun q => congrArg SetTable.Probe.j (sh q)
    have eK : c + (K - c) = K := by omega
    have spec := go_spec t R.tab.ris R.tab.dm (fun i => (es[i]?.map (·.1)).getD 0) (k.hash w) (10 * SetTable.turns t.mask) (K - c) _ (nth_dummy t.mask c _ rfl) (by omega)
      (fun q hq => by rw [e1]; exact hKb (c + q) (by omega)) (by rw [e1, eK]; exact hK)
    have hashAt : ∀ (i : Nat) (p : Row), L[i]? = some p → (fun i => (es[i]?.map (·.1)).getD 0) i = p.2.hash w := fun i p hp => by
      show (es[i]?.map (·.1)).getD 0 = _
      rw [R.entry hp] <;> rfl
    -- one with this key is not passed
    have notPassed : ∀ (q : Nat), (∀ (k' i' : Nat), k' < q → t.place.toList[i']? = some (nth t.mask (nth t.mask (w0 t.mask (k.hash w)) c) k').j → (es[i']?.map (·.1)).getD 0 ≠ k.hash w) →
        ∀ (i0 : Nat) (p0 : Row) (c' : Nat), L[i0]? = some p0 → p0.2 = k → c ≤ c' → t.place.toList[i0]? = some (way t.mask (k.hash w) c') → c + q ≤ c' := fun q hno i0 p0 c' h0 hk0 a1 a3 => by
      refine Classical.byContradiction fun z => ?_
      refine hno (c' - c) i0 (by omega) (by rw [e1, show c + (c' - c) = c' by omega]; exact a3) ?_
      exact (hashAt i0 p0 h0).trans (congrArg (NestedKey.hash w) hk0)
    rcases spec with ⟨q, i, hq, hi, hh, hno, hpr⟩ | ⟨hno, hpr⟩
    · have hpr' : t.probe (fun i => (es[i]?.map (·.1)).getD 0) (k.hash w) (stand.getD (t.probeStart (k.hash w))) = some (.candidate (way t.mask (k.hash w) (c + q)) i (nth t.mask (w0 t.mask (k.hash w)) (c + (q + 1)))) := by
        rw [hst, ← e1, ← sh]
        exact hpr
      rw [hpr']
      dsimp only
      rw [e1] at hi
      have hil : i < L.length := by
        have h1 : i < t.place.toList.length := (List.getElem?_eq_some_iff.mp hi).1
        rw [R.tab.len, List.length_map] at h1
        exact h1
      obtain ⟨p, hp⟩ : ∃ p, L[i]? = some p := ⟨_, List.getElem?_eq_getElem hil⟩
      have hmem : p ∈ L := List.mem_of_getElem? hp
      have hpt := R.keys p hmem
      have hsl : t.slot (way t.mask (k.hash w) (c + q)) = .live i := slot_live R.tab.ris hi
      have rest : wpAny (model P w) A (searchRest a (.ref x) (k.hash w) true f es t (way t.mask (k.hash w) (c + q)) i (nth t.mask (w0 t.mask (k.hash w)) (c + (q + 1)))) Q E s := by
        unfold searchRest
        rw [R.entry hp]
        dsimp only
        have ha := hpt.dep
        have hb := hx.dep
        refine wpAny_bind (wpAny_holding (eqAt_key p.2 k A s _ _ hpt.is hx.is (by omega) _ _ _ _ ?_))
        refine wpAny_bind (wpAny_setState_of ho hd R.fits ?_)
        dsimp only
        rw [← NestedKey.decide_eq]
        by_cases hkk : p.2 = k
        · refine wp_if_pos (by simp [hkk]) ?_
          exact wpAny_pure (hin (List.mem_map.mpr ⟨p, hmem, hkk⟩))
        · refine wp_if_neg (by simp [hkk]) ?_
          try refine wpAny_bind (wpAny_pure ?_)
          rw [sameMem]
          dsimp only
          simp only [if_true, hsl, R.entry hp]
          refine wpAny_bind (wpAny_isSame_ref_self (wpAny_bind (wpAny_pure ?_)))
          simp only [if_true]
          refine wp_if_neg (by simp [hkk]) ?_
          refine searchK R hx hu hKf hK hKb hin hout f (c + (q + 1)) _ rfl (by omega) (by omega) fun i0 p0 h0 hk0 => ?_
          obtain ⟨c', a1, a2, a3⟩ := hre i0 p0 h0 hk0
          have a4 := notPassed q hno i0 p0 c' h0 hk0 a1 a3
          refine ⟨c', ?_, a2, a3⟩
          refine Classical.byContradiction fun z => ?_
          have ec : c' = c + q := by omega
          rw [ec] at a3
          have s0 := slot_live R.tab.ris a3
          rw [hsl] at s0
          injection s0 with s0
          rw [← s0, hp] at h0
          exact hkk ((congrArg Prod.snd (Option.some.inj h0)).trans hk0)
      by_cases hl : t.led = true
      · refine wp_if_neg (by simp [hl]) ?_
        try refine wpAny_bind (wpAny_pure ?_)
        exact rest
      · refine wp_if_pos (by simp [hl]) ?_
        refine wpAny_bind (seen_key hx (fun y hy => ?_) ?_)
        · obtain ⟨e, he, ee⟩ := List.mem_map.mp hy
          have he1 : e ∈ es ∧ e.1 = k.hash w := by simpa using he
          have he2 : e ∈ es.toList := by simpa using he1.1
          rw [R.rows] at he2
          obtain ⟨p2, hp2, e2⟩ := List.mem_map.mp he2
          exact ⟨p2.2, p2.1, by rw [← ee, ← e2], R.keys p2 hp2⟩
        · refine wp_if_neg (by decide) ?_
          try refine wpAny_bind (wpAny_pure ?_)
          exact rest
    · have hpr' : t.probe (fun i => (es[i]?.map (·.1)).getD 0) (k.hash w) (stand.getD (t.probeStart (k.hash w))) = some (.empty (way t.mask (k.hash w) K) none) := by
        have e2 : way t.mask (k.hash w) K = (nth t.mask (nth t.mask (w0 t.mask (k.hash w)) c) (K - c)).j := by rw [e1, eK]
        rw [hst, e2]
        exact hpr
      rw [hpr']
      dsimp only
      refine wpAny_pure (hout fun hm => ?_)
      obtain ⟨p0, h0, hk0⟩ := List.mem_map.mp hm
      obtain ⟨i0, hi0, e0⟩ := List.getElem_of_mem h0
      have h00 : L[i0]? = some p0 := by rw [List.getElem?_eq_getElem hi0, e0]
      obtain ⟨c', a1, a2, a3⟩ := hre i0 p0 h00 hk0
      have := notPassed (K - c) hno i0 p0 c' h00 hk0 a1 a3
      omega
/-- as adding asks -/
theorem searchK_at (R : SetK w s.heap a L es ep t) {x : Addr} {k : NestedKey} (hx : KeyAt s.heap k x) (hu : A.units + 8 < cLine) {Q : SetFound → Shared → Prop}
    (hin : k ∈ L.map (·.2) → Q (.there none) s)
    (hout : ∀ K, k ∉ L.map (·.2) → way t.mask (k.hash w) K ∉ t.place.toList → (∀ c, c < K → way t.mask (k.hash w) c ∈ t.place.toList) → Q (.free (way t.mask (k.hash w) K) false) s) :
    wpAny (model P w) A (setSearch a (.ref x) (k.hash w) true) Q E s := by
  have hroom := R.room
  obtain ⟨K, hKf, hK, hKb⟩ := R.tab.first (by rw [List.length_map]; omega) (k.hash w)
  have hbig : K < 100000 := by
    have h1 := R.tab.full.small
    have : 10 * SetTable.turns t.mask ≤ 30000 := by
      unfold SetTable.turns
      omega
    omega
  unfold setSearch
  refine searchK R hx hu hKf hK hKb hin (fun hn => hout K hn hK hKb) 100000 0 none rfl (Nat.zero_le _) (by omega) fun i p hp hk => ?_
  have hi : (L.map fun p => p.2.hash w)[i]? = some (k.hash w) := by rw [List.getElem?_map, hp, ← hk] <;> rfl
  have hil : i < t.place.toList.length := by
    rw [R.tab.len, List.length_map]
    exact (List.getElem?_eq_some_iff.mp hp).1
  have hj := List.getElem?_eq_getElem hil
  obtain ⟨c, hc, e⟩ := R.tab.before hK hi hj
  exact ⟨c, Nat.zero_le _, hc, by rw [hj, e]⟩
end
end Mi
/-! Sets of nested tuples of whole numbers: adding, set(xs), sorted(set(xs)). -/
namespace Mi
open PySem PySem.Spec PyProof.Rows L2
section
variable {P : Program} {w : World} {A : Around} {E : Value → Shared → Prop} {s : Shared}
variable {a : Addr} {L : List Row} {es : Array (Int × Value)} {ep : Nat} {t : SetTable}
theorem rowsK_put (L : List Row) (p : Nat) (r : Row) : rowsK w (L.take p ++ r :: L.drop p) = (rowsK w L).take p ++ (r.2.hash w, Value.ref r.1) :: (rowsK w L).drop p := by
  unfold rowsK
  rw [List.map_append, List.map_cons, List.map_take, List.map_drop]
theorem picks_all {α : Type} (L : List α) : (List.range L.length).filterMap (fun i => L[i]?) = L := List.filterMap_getElem?_range_length L
/-- the rows in a new order -/
theorem order_rowsK (L : List Row) (es : Array (Int × Value)) (order : Array Nat) (hr : es.toList = rowsK w L) (hp : order.toList.Perm (List.range L.length)) :
    ∃ L2, (order.filterMap (es[·]?)).toList = rowsK w L2 ∧ L2.Perm L ∧ (L2.map fun p => p.2.hash w) = order.toList.map fun i => (es.map (·.1)).getD i 0 := by
  have ent : ∀ i (h : i < L.length), es[i]? = some ((L[i]).2.hash w, Value.ref (L[i]).1) := fun i h => by
    rw [← Array.getElem?_toList, hr]
    unfold rowsK
    rw [List.getElem?_map, List.getElem?_eq_getElem h] <;> rfl
  have hsz := rows_size hr
  have key : ∀ l : List Nat, (∀ i ∈ l, i < L.length) → (l.filterMap (fun i => es[i]?) = rowsK w (l.filterMap (fun i => L[i]?)) ∧ ((l.filterMap (fun i => L[i]?)).map fun p => p.2.hash w) = l.map fun i => (es.map (·.1)).getD i 0) := by
    intro l
    induction l with
    | nil => intro _; exact ⟨rfl, rfl⟩
    | cons i l ih =>
      intro hl
      have hi := hl i List.mem_cons_self
      obtain ⟨e1, e2⟩ := ih fun j hj => hl j (List.mem_cons_of_mem _ hj)
      rw [List.filterMap_cons_some (ent i hi), List.filterMap_cons_some (List.getElem?_eq_getElem hi), e1]
      refine ⟨rfl, ?_⟩
      rw [List.map_cons, List.map_cons, e2]
      have e5 : (es.map (·.1))[i]? = some ((L[i]).2.hash w) := by rw [Array.getElem?_map, ent i hi] <;> rfl
      simp [Array.getD_eq_getD_getElem?, e5]
  obtain ⟨e1, e2⟩ := key order.toList fun i hi => List.mem_range.mp (hp.mem_iff.mp hi)
  refine ⟨_, by first | (rw [Array.toList_filterMap]; exact e1) | simpa using e1, ?_, e2⟩
  have h1 := hp.filterMap (fun i => L[i]?)
  rw [picks_all] at h1
  exact h1
/-- the table laid anew -/
theorem relayK {o : Obj} (ho : s.heap.get? a = some o) (hex : o.ExactSet) (hd : o.data = .set es ep t) (hrows : es.toList = rowsK w L) (hsz : t.place.size = es.size) (hdm : t.dummies = #[]) (hfl : es.size ≤ t.mask)
    (nd : (L.map (·.2)).Nodup) (keys : ∀ p ∈ L, KeyAt s.heap p.2 p.1) (pl : t.plain = true) (ld : w.params.followText "set-order" = true ∨ t.led = true) (few : L.length < 1000) {wanted M : Nat}
    (hw : SetTable.sizeAbove wanted - 1 = M) (hM : M = 31 ∨ M = 127 ∨ M = 511 ∨ M = 2047) (hw2 : SetTable.sizeAbove wanted ≤ 2048) (hn : L.length * 5 < M * 3) (hn2 : L.length ≤ M) {Q : Unit → Shared → Prop}
    (hQ : ∀ h' L' es' ep' t', Heap.SameBut a s.heap h' → SetK w h' a L' es' ep' t' → L'.Perm L → Q () { s with heap := h' }) : wpAny (model P w) A (setRelay a wanted) Q E s := by
  have hsl := rows_size hrows
  have hfits : t.fits es.size = true := by
    unfold SetTable.fits SetTable.fill
    rw [hdm, Bool.and_eq_true, beq_iff_eq, decide_eq_true_eq]
    show t.place.size = es.size ∧ t.place.size + 0 ≤ t.mask
    omega
  have hF : Full M := by rcases hM with e | e | e | e <;> subst e <;> first | exact full31 | exact full127 | exact full511 | exact full2047
  obtain ⟨t', order, e, hp, T, em, el, ep'⟩ := relaid_ok' t (hs := es.map (·.1)) (wanted := wanted) hw hF (by rw [Array.size_map, hsl]; exact hn2)
  rw [Array.size_map, hsl] at hp
  obtain ⟨L2, r1, r2, r3⟩ := order_rowsK L es order hrows hp
  rw [← r3] at T
  have hs2 : (order.filterMap (es[·]?)).size = es.size := by
    rw [rows_size r1, r2.length_eq, hsl]
  rw [setRelay_eq]
  refine wpAny_bind (wpAny_setState_of ho hd hfits ?_)
  dsimp only
  refine wp_if_neg (by rw [sizeLine_eq]; omega) ?_
  try refine wpAny_bind (wpAny_pure ?_)
  rw [e]
  dsimp only
  refine wpAny_bind ?_
  refine wp_if_neg (by rw [hs2]; simp) ?_
  try refine wpAny_bind (wpAny_pure ?_)
  refine wpAny_pure ?_
  dsimp only
  refine wpAny_storeSet_of ho hd ?_ (by rw [hs2, hsl, sizeLine_eq]; omega)
  have sb : Heap.SameBut a s.heap (s.heap.update a (Obj.putSet (order.filterMap (es[·]?)) t')) := Heap.SameBut.update ..
  refine hQ _ L2 (order.filterMap (es[·]?)) (ep + 1) t' sb ?_ r2
  refine ⟨⟨_, store_at ho hd, ⟨hex.1, hex.2.1, hex.2.2⟩, rfl⟩, r1, T, ?_, ?_, fun p hpm => (keys p (r2.mem_iff.mp hpm)).same ho hd sb, by rw [ep']; exact pl, by rw [el]; exact ld, ?_, by rw [r2.length_eq]; exact few⟩
  · rw [em]
    exact .inr hM
  · exact (r2.map (·.2)).nodup_iff.mpr nd
  · rw [r2.length_eq, em]
    exact hn

/-- adding -/
theorem addK (R : SetK w s.heap a L es ep t) {x : Addr} {k : NestedKey} (hx : KeyAt s.heap k x) (hu : A.units + 8 < cLine) (hfew : L.length + 1 < 1000) {Q : Bool → Shared → Prop}
    (hQ : ∀ b h' L' es' ep' t', Heap.SameBut a s.heap h' → SetK w h' a L' es' ep' t' → (k ∈ L.map (·.2) → L' = L) → (k ∉ L.map (·.2) → L'.Perm ((x, k) :: L)) → Q b { s with heap := h' }) :
    wpAny (model P w) A (setAddHashed a (.ref x) (k.hash w)) Q E s := by
  obtain ⟨o, ho, hex, hd⟩ := R.ob
  have hsl := rows_size R.rows
  have hroom := R.room
  unfold setAddHashed
  refine wpAny_holding ?_
  rw [show (100000 : Nat) = 99999 + 1 from rfl, setAddHashedIn_succ]
  refine wpAny_bind (wpAny_setState_of ho hd R.fits ?_)
  dsimp only
  refine wp_if_neg (by simp [byScan, Value.scannable]) ?_
  try refine wpAny_bind (wpAny_pure ?_)
  refine wpAny_bind (searchK_at R hx hu (fun hm => ?_) fun K hm hK hb => ?_)
  · dsimp only
    exact wpAny_pure (hQ false s.heap L es ep t (Heap.SameBut.refl a s.heap) R (fun _ => rfl) fun z => absurd hm z)
  · dsimp only
    refine wpAny_bind (wpAny_setState_of ho hd R.fits ?_)
    dsimp only
    obtain ⟨j, hj⟩ : ∃ j, way t.mask (k.hash w) K = j := ⟨_, rfl⟩
    rw [hj] at hK ⊢
    obtain ⟨q2, q3⟩ := R.tab.put hj hK hb
    have q4 : (t.put j).1.mask = t.mask := rfl
    have q5 : (t.put j).1.led = t.led := rfl
    have hp1 : (t.put j).1.plain = true := R.plain
    have q1 : (t.put j).2 = SetTable.below t.place j := rfl
    generalize hpt : t.put j = pt at q1 q3 q4 q5 hp1 ⊢
    obtain ⟨t1, p⟩ := pt
    dsimp only at q1 q3 q4 q5 hp1 ⊢
    subst q1
    refine wp_if_pos hp1 (wpAny_bind (hb_key k _ 8 hx.is hx.dep hx.pl _ _ _ ?_))
    simp only [if_true]
    have hin : (SetTable.insertAt es (SetTable.below t.place j) (k.hash w, Value.ref x)).toList = rowsK w (L.take (SetTable.below t.place j) ++ (x, k) :: L.drop (SetTable.below t.place j)) := by
      rw [SetTable.toList_insertAt, rowsK_put, R.rows]
    generalize SetTable.below t.place j = p at q2 q3 hin ⊢
    have pm := put_perm L p (x, k)
    have hlen : (L.take p ++ (x, k) :: L.drop p).length = L.length + 1 := pm.length_eq
    have hhs : (L.take p ++ (x, k) :: L.drop p).map (fun p => p.2.hash w) = (L.map fun p => p.2.hash w).take p ++ k.hash w :: (L.map fun p => p.2.hash w).drop p := by
      rw [List.map_append, List.map_cons, List.map_take, List.map_drop]
    rw [← hhs] at q3
    have nd1 : ((L.take p ++ (x, k) :: L.drop p).map (·.2)).Nodup := by
      refine (pm.map (·.2)).nodup_iff.mpr ?_
      rw [List.map_cons]
      exact List.nodup_cons.mpr ⟨hm, R.nd⟩
    have hes := rows_size hin
    rw [hlen] at hes
    generalize SetTable.insertAt es p (k.hash w, Value.ref x) = es1 at hin hes ⊢
    generalize L.take p ++ (x, k) :: L.drop p = L1 at pm hlen q3 nd1 hin
    refine wpAny_bind (wpAny_storeSet_of ho hd ?_ (by rw [hes, sizeLine_eq]; omega))
    have sb : Heap.SameBut a s.heap (s.heap.update a (Obj.putSet es1 t1)) := Heap.SameBut.update ..
    have ho1 := store_at (es' := es1) (t' := t1) ho hd
    generalize s.heap.update a (Obj.putSet es1 t1) = h1 at sb ho1 ⊢
    have keys1 : ∀ p ∈ L1, KeyAt h1 p.2 p.1 := fun p hp => by
      rcases List.mem_cons.mp (pm.mem_iff.mp hp) with e | hp
      · rw [e]; exact hx.same ho hd sb
      · exact (R.keys p hp).same ho hd sb
    have ld1 : w.params.followText "set-order" = true ∨ t1.led = true := by rw [q5]; exact R.led
    have hfill : t1.fill = L.length + 1 := by
      have := q3.sz
      rw [List.length_map, hlen] at this
      unfold SetTable.fill
      rw [this, q3.dm] <;> rfl
    by_cases hf : t1.tooFull = true
    · refine wp_if_pos (by simp [hf]) (wpAny_bind ?_)
      have hfull : (L.length + 1) * 5 ≥ t.mask * 3 := by
        have h := hf
        unfold SetTable.tooFull at h
        rw [decide_eq_true_eq, hfill, q4] at h
        exact h
      rw [hsl]
      have hsz1 : t1.place.size = es1.size := by
        have h := q3.sz
        rw [List.length_map, hlen] at h
        rw [h, hes]
      obtain ⟨M, m1, m2, m3, m4, m5⟩ := grow_cases R.mask hroom hfull hfew
      refine relayK (s := { s with heap := h1 }) ho1 ⟨hex.1, hex.2.1, hex.2.2⟩ rfl hin hsz1 q3.dm (by rw [hes, q4]; omega) nd1 keys1 hp1 ld1 (by rw [hlen]; exact hfew) m1 m2 m3 (by rw [hlen]; exact m4) (by rw [hlen]; exact m5) ?_
      intro h2 L2 es2 ep2 t2 sb2 R2 pm2
      exact wpAny_pure (hQ true h2 L2 es2 ep2 t2 (sb.trans sb2) R2 (fun z => absurd z hm) fun _ => pm2.trans pm)
    · refine wp_if_neg (by simp [hf]) ?_
      refine wpAny_pure (hQ true h1 L1 es1 (ep + 1) t1 sb ⟨⟨_, ho1, ⟨hex.1, hex.2.1, hex.2.2⟩, rfl⟩, hin, q3, by rw [q4]; exact R.mask, nd1, keys1, hp1, ld1, ?_, by rw [hlen]; exact hfew⟩ (fun z => absurd z hm) fun _ => pm)
      have h := hf
      unfold SetTable.tooFull at h
      rw [decide_eq_true_eq, hfill] at h
      rw [hlen]
      omega

theorem SetK.keep {h h' : Heap} (R : SetK w h a L es ep t) (ha : ∀ o, h.get? a = some o → h'.get? a = some o) (ht : ∀ p ∈ L, KeyAt h' p.2 p.1) : SetK w h' a L es ep t := by
  obtain ⟨o, ho, r⟩ := R.ob
  exact ⟨⟨o, ha o ho, r⟩, R.rows, R.tab, R.mask, R.nd, ht, R.plain, R.led, R.room, R.few⟩
/-- a new set -/
theorem setK_fresh {h : Heap} {a : Addr} (ho : h.get? a = some { cls := .type "set", dict := none, data := .set #[] 0 (.fresh 0 0 (!w.params.followText "set-order")) }) : SetK w h a [] #[] 0 (.fresh 0 0 (!w.params.followText "set-order")) where
  ob := ⟨_, ho, ⟨rfl, rfl, rfl⟩, rfl⟩
  rows := rfl
  tab := ⟨List.Pairwise.nil, rfl, rfl, full7, fun x hx => (by cases hx), fun i h j hi => (by simp at hi)⟩
  mask := .inl rfl
  nd := List.nodup_nil
  keys := fun p hp => (by cases hp)
  plain := rfl
  led := by
    show _ ∨ (!w.params.followText "set-order") = true
    cases w.params.followText "set-order"
    · exact .inr rfl
    · exact .inl rfl
  room := by
    show 0 * 5 < 7 * 3
    decide
  few := by
    show 0 < 1000
    decide
/-- what a set has of the first i -/
structure Has (ks : List Row) (i : Nat) (L : List Row) : Prop where
  sub : ∀ p ∈ L, p ∈ ks.take i
  all : ∀ p ∈ ks.take i, p.2 ∈ L.map (·.2)
  len : L.length ≤ i
theorem Has.zero (ks : List Row) : Has ks 0 [] := ⟨fun p h => (by cases h), fun p h => (by simp at h), Nat.le_refl _⟩
theorem Has.next {ks L L' : List Row} {i : Nat} {x : Row} (g : Has ks i L) (h : ks[i]? = some x) (c1 : x.2 ∈ L.map (·.2) → L' = L) (c2 : x.2 ∉ L.map (·.2) → L'.Perm (x :: L)) : Has ks (i + 1) L' := by
  have et : ks.take (i + 1) = ks.take i ++ [x] := by rw [List.take_succ, h] <;> rfl
  by_cases c : x.2 ∈ L.map (·.2)
  · rw [c1 c]
    refine ⟨fun p hp => ?_, fun p hp => ?_, Nat.le_succ_of_le g.len⟩
    · rw [et]
      exact List.mem_append_left _ (g.sub p hp)
    · rw [et] at hp
      rcases List.mem_append.mp hp with z | z
      · exact g.all p z
      · rw [List.mem_singleton.mp z]; exact c
  · have pm := c2 c
    refine ⟨fun p hp => ?_, fun p hp => ?_, by rw [pm.length_eq]; exact Nat.succ_le_succ g.len⟩
    · rw [et]
      rcases List.mem_cons.mp (pm.mem_iff.mp hp) with e | z
      · rw [e]; exact List.mem_append_right _ (List.mem_singleton.mpr rfl)
      · exact List.mem_append_left _ (g.sub p z)
    · rw [(pm.map (·.2)).mem_iff, List.map_cons]
      rw [et] at hp
      rcases List.mem_append.mp hp with z | z
      · exact List.mem_cons_of_mem _ (g.all p z)
      · rw [List.mem_singleton.mp z]; exact List.mem_cons_self
end
end Mi
/-! set(xs) of nested tuples. -/
namespace Mi
open PySem PySem.Spec PyProof.Rows L2
section
variable {P : Program} {w : World} {A : Around} {E : Value → Shared → Prop} {s : Shared}
/-- the loop of set.update -/
theorem set_loopK {I : Addr} {fp wr : List Addr} {G : Array GenState → Array GenState → Prop} {n : Nat} {Pv : Nat → Value → Prop} {St : Nat → Shared → Prop} {R : Result → Shared → Prop}
    (W : WalksS P w A.in1 I fp wr G n Pv St) (S : Addr) (hSf : S ∉ fp) (ks : List Row) (hn : n = ks.length) (hfew : ks.length < 1000) (hval : ∀ i v, Pv i v → ∃ p, ks[i]? = some p ∧ v = .ref p.1)
    (h0 : Heap) (hk : ∀ p ∈ ks, KeyAt h0 p.2 p.1) (hS0 : h0.get? S = none) (hw0 : ∀ b ∈ wr, h0.get? b = none) (hu : A.in1.units + 8 < cLine) :
    ∀ (k i : Nat) (s : Shared), n - i = k → i ≤ n → St i s → (∀ b o, h0.get? b = some o → s.heap.get? b = some o) → (∃ L es ep t, SetK w s.heap S L es ep t ∧ Has ks i L) →
      (∀ s' L es ep t, Moved (S :: wr) G s s' → SetK w s'.heap S L es ep t → Has ks n L → (∀ b o, h0.get? b = some o → s'.heap.get? b = some o) → R (.ok (.ret .none)) s') →
      codeAny (model P w) A (.builtin "set.update.loop" ⟨[.ref S, .ref I], []⟩) R s := by
  have hSw : S ∉ wr := fun h => hSf (W.sub _ h)
  have hsub : ∀ b ∈ wr, b ∈ S :: wr := fun b hb => List.mem_cons_of_mem _ hb
  have keepM : ∀ {s s' : Shared}, Moved wr G s s' → (∀ b o, h0.get? b = some o → s.heap.get? b = some o) → ∀ b o, h0.get? b = some o → s'.heap.get? b = some o := fun hm hkp b o e =>
    hm.heap b o (fun hb => by rw [hw0 b hb] at e; cases e) (hkp b o e)
  have inks : ∀ {i : Nat} {L : List Row}, Has ks i L → ∀ p ∈ L, p ∈ ks := fun g p hp => List.mem_of_mem_take (g.sub p hp)
  intro k
  induction k with
  | zero =>
    intro i s hk' hi hst hkp ⟨L, es, ep, t, hS, g⟩ hR
    obtain rfl : i = n := by omega
    refine codeAny_builtin F.entry_set_update_loop ?_
    rw [Around.under_plainId F.plain_set_update_loop _]
    show wpAny _ A.in1 (pyNext (.ref I) >>= _) _ _ s
    refine wpAny_bind (W.done s _ _ hst fun s' hm => ?_)
    show wpAny _ A.in1 (ret Value.none) _ _ s'
    have hkp' := keepM hm hkp
    exact wpAny_pure (hR s' L es ep t (hm.mono hsub) (hS.keep (fun o e => hm.heap S o hSw e) fun p hp => (hk p (inks g p hp)).keep hkp') g hkp')
  | succ k ih =>
    intro i s hk' hi hst hkp ⟨L, es, ep, t, hS, g⟩ hR
    have hlt : i < n := by omega
    refine codeAny_builtin F.entry_set_update_loop ?_
    rw [Around.under_plainId F.plain_set_update_loop _]
    show wpAny _ A.in1 (pyNext (.ref I) >>= _) _ _ s
    refine wpAny_bind (W.item i s _ _ hlt hst fun v s' hP hst' hm => ?_)
    obtain ⟨p, hp, rfl⟩ := hval i v hP
    have hkp' := keepM hm hkp
    have hS' : SetK w s'.heap S L es ep t := hS.keep (fun o e => hm.heap S o hSw e) fun q hq => (hk q (inks g q hq)).keep hkp'
    have hx : KeyAt s'.heap p.2 p.1 := (hk p (List.mem_of_getElem? hp)).keep hkp'
    show wpAny _ A.in1 (holding [Value.ref p.1] (setAdd S (.ref p.1)) >>= _) _ _ s'
    refine wpAny_bind (wpAny_holding ?_)
    unfold setAdd
    refine wpAny_holding ?_
    have hdep := hx.dep
    refine wpAny_bind (pyHash_key _ _ _ _ _ hx.is (by omega) ?_)
    refine addK (s := { s' with toks := s'.toks + p.2.draws }) hS' hx hu (by have := g.len; omega) fun b h' L' es' ep' t' hsb hS2 c1 c2 => ?_
    have hkp2 : ∀ b o, h0.get? b = some o → h'.get? b = some o := fun b o e => (hsb.2 b (fun z => by rw [z, hS0] at e; cases e)).trans (hkp' b o e)
    refine wpAny_pure ⟨plainId_quiet F.plain_set_update_loop _, ih (i + 1) _ (by omega) hlt (W.frame _ s' _ _ hst' (Nat.le_add_right _ _) fun b hb o e => ?_) hkp2 ⟨L', es', ep', t', hS2, g.next hp c1 c2⟩ fun s'' L2 es2 ep2 t2 hm'' hS'' g'' hkp'' => ?_⟩
    · rw [hsb.2 b (fun h : b = S => hSf (by rw [← h]; exact hb))]; exact e
    · refine hR s'' L2 es2 ep2 t2 (Moved.trans W.gtrans ((hm.mono hsub).then_heap (Nat.le_add_right _ _) fun b o hb e => ?_) hm'') hS'' g'' hkp''
      rw [hsb.2 b (fun h : b = S => hb (by rw [h]; exact List.mem_cons_self))]; exact e

/-- set(xs) -/
theorem call_setK {l : Addr} {items : Array Value} (ks : List Row) {Q : Value → Shared → Prop} (hh : A.handled = none) (hl : s.heap.IsList l items) (hit : items.toList = ks.map fun p => Value.ref p.1)
    (hk : ∀ p ∈ ks, KeyAt s.heap p.2 p.1) (hfew : ks.length < 1000) (hu : A.units + 16 < cLine)
    (h : ∀ (h' : Heap) (tk : Nat) L es ep t, SetK w h' s.heap.objs.size L es ep t → Has ks ks.length L → (∀ b o, s.heap.get? b = some o → h'.get? b = some o) → Q (.ref s.heap.objs.size) { s with heap := h', toks := tk }) :
    wpAny (model P w) A (call (.type "set") [.ref l]) Q E s := by
  have hisz : items.size = ks.length := by
    have q := congrArg List.length hit
    rw [Array.length_toList, List.length_map] at q
    exact q
  obtain ⟨c, tl, hmro⟩ := F.called_set.mro
  have hmade := F.called_set.made
  have hsub := F.called_set.sub
  refine wpAny_call (codeAny_of_tree ?_)
  show wpAny _ _ (callAny (.type "set") _) _ _ _
  refine wpAny_pure ⟨Code.quiet_builtin _ (by decide +kernel), codeAny_builtin F.entry_type_call ?_⟩
  rw [Around.under_plain (weight_type_call_type "set" [.ref l] []) rfl]
  have h1 := F.called_set.notType
  have h2 := F.called_set.canCreate
  have hct := F.typeCall_set_1 (.ref l)
  repeat (any_goals (first | assumption | wp_step))
  refine codeAny_mono (code_set_led1 (.ref l) (E := E) (Q₁ := fun obj s₁ => obj = .ref s.heap.objs.size ∧ s₁ = { s with heap := s.heap.push { cls := .type "set", dict := none, data := .set #[] 0 (.fresh 0 0 (!w.params.followText "set-order")) } }) ⟨rfl, rfl⟩) fun r s₁ hr => ?_
  cases r with
  | error e => exact hr
  | ok fl =>
    cases fl with
    | ret obj =>
      obtain ⟨rfl, rfl⟩ := hr
      obtain ⟨h1, eh1⟩ : ∃ h1, h1 = s.heap.push { cls := .type "set", dict := none, data := .set #[] 0 (.fresh 0 0 (!w.params.followText "set-order")) } := ⟨_, rfl⟩
      have hS : h1.get? s.heap.objs.size = some { cls := .type "set", dict := none, data := .set #[] 0 (.fresh 0 0 (!w.params.followText "set-order")) } := by rw [eh1]; exact Heap.get?_push_size _ rfl
      have hsz1 : h1.objs.size = s.heap.objs.size + 1 := by rw [eh1]; exact Heap.size_push ..
      have old1 : ∀ {b o}, s.heap.get? b = some o → h1.get? b = some o := fun e => by rw [eh1]; exact Heap.get?_push_of_some _ e
      rw [← eh1]
      have hT : Shared.TypeIs { s with heap := h1 } (.ref s.heap.objs.size) "set" := ⟨_, hS, rfl⟩
      have hli := F.called_set.init.lookup
      have hbi := F.called_set.init.bind (.ref s.heap.objs.size)
      repeat (any_goals (first | assumption | wp_step))
      refine codeAny_mono (codeAny_call_builtin (R := wants (fun r s₂ => r = .none ∧ ∃ h' tk L es ep t, s₂ = { s with heap := h', toks := tk } ∧ SetK w h' s.heap.objs.size L es ep t ∧ Has ks ks.length L ∧
          (∀ b o, s.heap.get? b = some o → h'.get? b = some o)) E) F.called_set.init.plain F.entry_set_init (check_set_init_1 hT ?_)) fun r₂ s₂ hr₂ => ?_
      · obtain ⟨ol, hol, hcl, nl, hdl⟩ := hl
        obtain ⟨ocls, odict, odata, oslots⟩ := ol
        simp only at hcl hdl
        subst hcl; subst hdl
        have hol' : h1.get? l = some { cls := .type "list", dict := odict, data := .seq items nl, slots := oslots } := old1 hol
        have hsls := F.sub_list_set
        have hslf := F.sub_list_frozenset
        have hne : (Value.type "list" == Value.type "dict") = false := by decide
        have hl1 : h1.IsList l items := ⟨_, hol', rfl, nl, rfl⟩
        unfold Builtin.«set.__init__» noKeywords Builtin.Frozenset.updateFrom
        generalize hPI : pyIter = PI
        wp_walk
        subst hPI
        refine wpAny_pyIter_list hl1 ?_
        refine wpAny_bind (wpAny_runValue ?_)
        have hlS : l < s.heap.objs.size := Heap.lt_size hol
        have hh3 : A.in1.in1.in1.handled = none := by simp [hh]
        have hneI : l ≠ h1.objs.size := by
          rw [hsz1]; exact Nat.ne_of_lt (Nat.lt_succ_of_lt hlS)
        have hSf : s.heap.objs.size ∉ [h1.objs.size, l] := by
          rw [hsz1]; simp only [List.mem_cons, List.mem_singleton, List.not_mem_nil, or_false, not_or]
          exact ⟨Nat.ne_of_lt (Nat.lt_succ_self _), Nat.ne_of_gt hlS⟩
        have hval : ∀ (i : Nat) (v : Value), items[i]? = some v → ∃ p, ks[i]? = some p ∧ v = .ref p.1 := fun i v hv => by
          have q : items.toList[i]? = some v := by rw [Array.getElem?_toList]; exact hv
          rw [hit, List.getElem?_map] at q
          cases hq : ks[i]? with
          | none => rw [hq] at q; cases q
          | some p =>
            rw [hq] at q
            exact ⟨p, rfl, (Option.some.inj q).symm⟩
        have none_of : ∀ b, s.heap.objs.size ≤ b → s.heap.get? b = none := fun b hb => Heap.get?_none_of_le hb
        refine set_loopK ((Walks.list hh3 _ l hneI items).toS) s.heap.objs.size
          hSf ks hisz hfew hval s.heap hk (none_of _ (Nat.le_refl _)) (fun b hb => none_of b (by
            rw [List.mem_singleton.mp hb, hsz1]
            exact Nat.le_succ _)) (by simp only [Around.in1_units]; omega) (items.size - 0) 0 _ (by omega) (Nat.zero_le _)
          ⟨⟨_, Heap.get?_push_size _ rfl, rfl, rfl⟩, (hl1.push _)⟩ (fun b o e => Heap.get?_push_of_some _ (old1 e)) ?hS0 ?hR
        case hS0 => exact ⟨[], #[], 0, _, setK_fresh (Heap.get?_push_of_some _ hS), Has.zero ks⟩
        case hR =>
          intro s' L es ep t hm hS' g' hkp
          obtain ⟨h', g2, d', tk', os'⟩ := s'
          have eg : g2 = s.gens := hm.gens
          have ed : d' = s.drawn := hm.drawn
          have eo : os' = s.os := hm.os
          subst eg; subst ed; subst eo
          show wpAny _ _ _ _ _ _
          refine wpAny_pure ?_
          show wpAny _ _ (ret Value.none) _ _ _
          rw [hisz] at g'
          exact wpAny_pure ⟨rfl, h', tk', L, es, ep, t, rfl, hS', g', hkp⟩
      · cases r₂ with
        | error e => exact hr₂
        | ok fl₂ =>
          cases fl₂ with
          | ret r =>
            obtain ⟨rfl, h', tk, L, es, ep, t, rfl, hS', g', hk'⟩ := hr₂
            repeat (any_goals (first | assumption | wp_step))
            exact h _ _ _ _ _ _ hS' g' hk'
          | _ => exact hr₂.elim
    | _ => exact hr.elim
end
end Mi
/-! sorted(set(xs)). -/
namespace Mi
open PySem PySem.Spec PyProof.Rows L2

theorem each_perm {α β : Type} {R : α → β → Prop} : ∀ {vs us : List α}, vs.Perm us → ∀ {ds : List β}, PySem.W.EachIs R us ds → ∃ ds', ds'.Perm ds ∧ PySem.W.EachIs R vs ds' := by
  intro vs us h
  induction h with
  | nil => intro ds e; cases e; exact ⟨[], .nil, .nil⟩
  | cons x _ ih =>
    intro ds e
    cases e with
    | cons h1 h2 =>
      obtain ⟨ds', p, q⟩ := ih h2
      exact ⟨_, p.cons _, .cons h1 q⟩
  | swap x y l =>
    intro ds e
    cases e with
    | cons h1 h2 =>
      cases h2 with
      | cons h3 h4 => exact ⟨_, .swap _ _ _, .cons h3 (.cons h1 h4)⟩
  | trans _ _ ih1 ih2 =>
    intro ds e
    obtain ⟨d1, p1, q1⟩ := ih2 e
    obtain ⟨d2, p2, q2⟩ := ih1 q1
    exact ⟨d2, p2.trans p1, q2⟩
theorem each_and {α β : Type} {R R' : α → β → Prop} {xs : List α} {ys : List β} (e : PySem.W.EachIs R xs ys) (e' : PySem.W.EachIs R' xs ys) : PySem.W.EachIs (fun a b => R a b ∧ R' a b) xs ys := by
  induction e with
  | nil => exact .nil
  | cons h _ ih => cases e' with | cons h' er => exact .cons ⟨h, h'⟩ (ih er)
theorem sort_uniq {β : Type} (k : β → PyData) {l m : List β} (h : l.Perm m) (anti : ∀ a ∈ m, ∀ b ∈ m, PySem.W.dataLe false k a b = true → PySem.W.dataLe false k b a = true → a = b) :
    l.mergeSort (PySem.W.dataLe false k) = m.mergeSort (PySem.W.dataLe false k) := by
  refine List.Perm.eq_of_pairwise (le := fun a b => PySem.W.dataLe false k a b = true) (fun a b ha hb => ?_) (List.pairwise_mergeSort (dataLe_trans k) (dataLe_total k) _) (List.pairwise_mergeSort (dataLe_trans k) (dataLe_total k) _) ?_
  · exact anti a (h.mem_iff.mp ((List.mergeSort_perm l _).mem_iff.mp ha)) b ((List.mergeSort_perm m _).mem_iff.mp hb)
  · exact (List.mergeSort_perm l _).trans (h.trans (List.mergeSort_perm m _).symm)
theorem py_anti {x y : PyData} (h : PySem.W.alike x y = true) (h1 : PySem.W.dataLt x y = false) (h2 : PySem.W.dataLt y x = false) : PyData.eqv x y = true := by
  have e := PyProof.Rows.lex_total _ _ h1 h2
  cases c : PyData.eqv x y with
  | true => rfl
  | false =>
    have z := (PySem.W.toks_eqv x y h).2 c [] [Sum.inl 0]
    rw [e, PySem.W.lex_pre, PyProof.Rows.lex_irrefl] at z
    exact absurd z (by decide)
section
variable {P : Program} {w : World} {A : Around} {E : Value → Shared → Prop} {s : Shared}
/-- sorted(set) -/
theorem sorted_setK {a : Addr} {L : List Row} {es : Array (Int × Value)} {ep : Nat} {t : SetTable} {β : Type} {enc : β → PyData} {ds : List β} {Rr : Value → β → Prop} {Q : Value → Shared → Prop} (R : SetK w s.heap a L es ep t) (hh : A.handled = none)
    (e : PySem.W.EachIs Rr (L.map fun p => Value.ref p.1) ds) (er : PySem.W.EachIs (fun v b => Reads s.heap v (enc b) []) (L.map fun p => Value.ref p.1) ds) (hal : PySem.W.AllAlike (ds.map enc)) (hk : PySem.W.Sortable (ds.map enc))
    (hu : ∀ b, b ∈ ds → A.units + 2 + (enc b).depth < cLine) (anti : ∀ a ∈ ds, ∀ b ∈ ds, PySem.W.dataLe false enc a b = true → PySem.W.dataLe false enc b a = true → a = b)
    (hQ : ∀ s' p (out : Array Value) (c : Nat), (∀ b o, s.heap.get? b = some o → s'.heap.get? b = some o) → s'.gens = s.gens → s'.os = s.os → s.heap.objs.size ≤ p →
      s'.heap.get? p = some (seqObj "list" out c) → out.size = ds.length → PySem.W.EachIs Rr out.toList (ds.mergeSort (PySem.W.dataLe false enc)) → Q (.ref p) s') :
    wpAny (model P w) A (call (.builtin "sorted") [.ref a]) Q E s := by
  obtain ⟨o, ho, hex, hd⟩ := R.ob
  have hsz := rows_size R.rows
  have hfew := R.few
  refine Calls.call_function_entry kind_sorted plain_sorted entry_sorted (args_sorted1 _) ?_
  unfold Builtin.«sorted»
  refine wpAny_bind (m := checkCount "sorted" 1 1 _) (wpAny_pure ?_)
  refine wpAny_bind (collect_set (A := A.in1) hh ⟨o, ho, hex.1, hd⟩ R.fits (by unfold scanBound; omega) R.tab.ris R.led fun s1 vs k1 hz g1 o1 pm => ?_)
  have hes : es.toList.map (·.2) = L.map fun q => Value.ref q.1 := by
    rw [R.rows]
    unfold rowsK
    rw [List.map_map] <;> rfl
  rw [hes] at pm
  have e2 : PySem.W.EachIs (fun v b => Rr v b ∧ Reads s.heap v (enc b) []) (L.map fun p => Value.ref p.1) ds := each_and e er
  obtain ⟨ds', pd, e3⟩ := each_perm pm e2
  have hvl : vs.length = ds'.length := e3.length
  have hdl : ds'.length < 1000 := by
    rw [← hvl, pm.length_eq, List.length_map]
    exact hfew
  refine wpAny_bind (wpAny_newList ?_ (by rw [hvl, sizeLine_eq]; omega))
  have hoL : (s1.heap.push (seqObj "list" vs.toArray 0)).get? s1.heap.objs.size = some (seqObj "list" vs.toArray 0) := Heap.get?_push_size _ rfl
  have old : ∀ b u, s.heap.get? b = some u → (s1.heap.push (seqObj "list" vs.toArray 0)).get? b = some u := fun b u e => Heap.get?_push_of_some _ (k1 b u e)
  refine wpAny_bind (wpAny_holding (PySem.W.list_sort_data (R := Rr) (enc := enc) (bs := ds') (s := { s1 with heap := s1.heap.push (seqObj "list" vs.toArray 0) }) hoL (e3.mono fun _ _ z => z.1)
    (e3.mono fun v b z => ⟨[], PyProof.Rows.Reads.keeps old z.2, fun z => nomatch z⟩) (fun d hd d' hd' => hal d ((pd.map enc).mem_iff.mp hd) d' ((pd.map enc).mem_iff.mp hd')) ?_ (by rw [sizeLine_eq]; omega) (fun b hb => ?_) fun out hlen a2 => ?_))
  · rcases hk with hk | hk
    · exact .inl fun d hd => hk d ((pd.map enc).mem_iff.mp hd)
    · exact .inr fun d hd => hk d ((pd.map enc).mem_iff.mp hd)
  · have := hu b (pd.mem_iff.mp hb)
    simp only [Around.in1_units]
    omega
  · obtain ⟨c, hc⟩ := sortedHeap_at (vs := vs) (out := out.toArray) hoL
    rw [sort_uniq enc pd anti] at a2
    refine wpAny_pure ⟨_, rfl, hQ _ s1.heap.objs.size out.toArray c (fun b u e => ?_) g1 o1 hz hc (by rw [List.size_toArray, hlen, pd.length_eq]) a2⟩
    have q := k1 b u e
    have hlt := Heap.lt_size q
    show (sortedHeap (s1.heap.push (seqObj "list" vs.toArray 0)) s1.heap.objs.size vs out.toArray).get? b = some u
    rw [sortedHeap_old (Nat.ne_of_lt hlt) (by rw [size_push']; exact Nat.lt_succ_of_lt hlt)]
    exact Heap.get?_push_of_some _ q
end
end Mi
/-! sorted(set(xs)), as an expression. -/
namespace Mi
open PySem PySem.Spec PyProof.Rows L2

mutual
def nkey : D → NestedKey
  | .int i => .num i
  | .tup xs => .tup (nkeys xs)
  | _ => .none
def nkeys : List D → List NestedKey
  | [] => []
  | d :: ds => nkey d :: nkeys ds
end
mutual
theorem key_reads {h : Heap} : ∀ (n : Nat) (d : D) (v : Value) (as : List Addr), keyD n d = true → Reads h v (toPy d) as → NestedIs h (nkey d) v ∧ as = []
  | 0, _, _, _, k, _ => by simp [keyD] at k
  | _ + 1, .non, _, _, _, r => by
    rw [toPy] at r
    cases r
    exact ⟨by simp only [nkey]; exact .none, rfl⟩
  | _ + 1, .int _, _, _, _, r => by
    rw [toPy] at r
    cases r
    exact ⟨by rw [nkey]; exact .int _ _, rfl⟩
  | n + 1, .tup xs, _, _, k, r => by
    rw [toPy] at r
    rw [keyD] at k
    cases r with
    | tuple h1 h2 h3 h4 =>
      obtain ⟨a, b⟩ := keys_reads n xs _ _ k h4
      exact ⟨by rw [nkey]; exact .tup h1 h2 h3 a, b⟩
  | _ + 1, .bl _, _, _, k, _ => by simp [keyD] at k
  | _ + 1, .str _, _, _, k, _ => by simp [keyD] at k
  | _ + 1, .lst _, _, _, k, _ => by simp [keyD] at k
  | _ + 1, .dct _ _, _, _, k, _ => by simp [keyD] at k
  | _ + 1, .ins _ _ _, _, _, k, _ => by simp [keyD] at k
  | _ + 1, .scr _, _, _, k, _ => by simp [keyD] at k
  | _ + 1, .itr _, _, _, k, _ => by simp [keyD] at k
theorem keys_reads {h : Heap} : ∀ (n : Nat) (ds : List D) (vs : List Value) (as : List Addr), ds.all (keyD n) = true → ReadsAll h vs (toPys ds) as → NestedAll h (nkeys ds) vs ∧ as = []
  | _, [], _, _, _, r => by
    rw [toPys] at r
    cases r
    exact ⟨by rw [nkeys]; exact .nil, rfl⟩
  | n, d :: ds, _, _, k, r => by
    rw [toPys] at r
    rw [List.all_cons, Bool.and_eq_true] at k
    cases r with
    | cons h1 h2 =>
      obtain ⟨a1, b1⟩ := key_reads n d _ _ k.1 h1
      obtain ⟨a2, b2⟩ := keys_reads n ds _ _ k.2 h2
      exact ⟨by rw [nkeys]; exact .cons a1 a2, by rw [b1, b2] <;> rfl⟩
end
mutual
theorem key_more : ∀ (n : Nat) (d : D), keyD n d = true → (nkey d).depth ≤ n ∧ plainK (nkey d) = true
  | 0, _, k => by simp [keyD] at k
  | _ + 1, .non, _ => by simp [nkey, NestedKey.depth, plainK]
  | _ + 1, .int _, _ => by simp [nkey, NestedKey.depth, plainK]
  | n + 1, .tup xs, k => by
    rw [keyD] at k
    have := keys_more n xs k
    rw [nkey, NestedKey.depth, plainK]
    exact ⟨by omega, this.2⟩
  | _ + 1, .bl _, k => by simp [keyD] at k
  | _ + 1, .str _, k => by simp [keyD] at k
  | _ + 1, .lst _, k => by simp [keyD] at k
  | _ + 1, .dct _ _, k => by simp [keyD] at k
  | _ + 1, .ins _ _ _, k => by simp [keyD] at k
  | _ + 1, .scr _, k => by simp [keyD] at k
  | _ + 1, .itr _, k => by simp [keyD] at k
theorem keys_more : ∀ (n : Nat) (ds : List D), ds.all (keyD n) = true → NestedKey.depthAll (nkeys ds) ≤ n ∧ plainKs (nkeys ds) = true
  | _, [], _ => by simp [nkeys, NestedKey.depthAll, plainKs]
  | n, d :: ds, k => by
    rw [List.all_cons, Bool.and_eq_true] at k
    have h1 := key_more n d k.1
    have h2 := keys_more n ds k.2
    rw [nkeys, NestedKey.depthAll, plainKs, h1.2, h2.2]
    exact ⟨by omega, rfl⟩
end
mutual
theorem key_inj : ∀ (n : Nat) (a b : D), keyD n a = true → keyD n b = true → nkey a = nkey b → a = b
  | 0, _, _, k, _, _ => by simp [keyD] at k
  | _ + 1, .non, .non, _, _, _ => rfl
  | _ + 1, .int _, .int _, _, _, e => by simp only [nkey] at e; injection e with e; rw [e]
  | n + 1, .tup xs, .tup ys, k1, k2, e => by
    rw [keyD] at k1 k2
    simp only [nkey] at e
    injection e with e
    rw [keys_inj n xs ys k1 k2 e]
  | _ + 1, .non, .int _, _, _, e => by simp [nkey] at e
  | _ + 1, .non, .tup _, _, _, e => by simp [nkey] at e
  | _ + 1, .int _, .non, _, _, e => by simp [nkey] at e
  | _ + 1, .int _, .tup _, _, _, e => by simp [nkey] at e
  | _ + 1, .tup _, .non, _, _, e => by simp [nkey] at e
  | _ + 1, .tup _, .int _, _, _, e => by simp [nkey] at e
  | _ + 1, .bl _, _, k, _, _ => by simp [keyD] at k
  | _ + 1, .str _, _, k, _, _ => by simp [keyD] at k
  | _ + 1, .lst _, _, k, _, _ => by simp [keyD] at k
  | _ + 1, .dct _ _, _, k, _, _ => by simp [keyD] at k
  | _ + 1, .ins _ _ _, _, k, _, _ => by simp [keyD] at k
  | _ + 1, .scr _, _, k, _, _ => by simp [keyD] at k
  | _ + 1, .itr _, _, k, _, _ => by simp [keyD] at k
  | _ + 1, _, .bl _, _, k, _ => by simp [keyD] at k
  | _ + 1, _, .str _, _, k, _ => by simp [keyD] at k
  | _ + 1, _, .lst _, _, k, _ => by simp [keyD] at k
  | _ + 1, _, .dct _ _, _, k, _ => by simp [keyD] at k
  | _ + 1, _, .ins _ _ _, _, k, _ => by simp [keyD] at k
  | _ + 1, _, .scr _, _, k, _ => by simp [keyD] at k
  | _ + 1, _, .itr _, _, k, _ => by simp [keyD] at k
theorem keys_inj : ∀ (n : Nat) (as bs : List D), as.all (keyD n) = true → bs.all (keyD n) = true → nkeys as = nkeys bs → as = bs
  | _, [], [], _, _, _ => rfl
  | _, [], _ :: _, _, _, e => by simp [nkeys] at e
  | _, _ :: _, [], _, _, e => by simp [nkeys] at e
  | n, a :: as, b :: bs, k1, k2, e => by
    rw [List.all_cons, Bool.and_eq_true] at k1 k2
    simp only [nkeys] at e
    injection e with e1 e2
    rw [key_inj n a b k1.1 k2.1 e1, keys_inj n as bs k1.2 k2.2 e2]
end
mutual
/-- keys are == exactly if they are equal -/
theorem key_eqD : ∀ (n : Nat) (a b : D), keyD n a = true → keyD n b = true → eqD a b = true → a = b
  | 0, _, _, k, _, _ => by simp [keyD] at k
  | _ + 1, .non, .non, _, _, _ => rfl
  | _ + 1, .int _, .int _, _, _, e => by simp only [eqD, beq_iff_eq] at e; rw [e]
  | n + 1, .tup xs, .tup ys, k1, k2, e => by
    rw [keyD] at k1 k2
    simp only [eqD] at e
    rw [keys_eqD n xs ys k1 k2 e]
  | _ + 1, .non, .int _, _, _, e => by simp [eqD] at e
  | _ + 1, .non, .tup _, _, _, e => by simp [eqD] at e
  | _ + 1, .int _, .non, _, _, e => by simp [eqD] at e
  | _ + 1, .int _, .tup _, _, _, e => by simp [eqD] at e
  | _ + 1, .tup _, .non, _, _, e => by simp [eqD] at e
  | _ + 1, .tup _, .int _, _, _, e => by simp [eqD] at e
  | _ + 1, .bl _, _, k, _, _ => by simp [keyD] at k
  | _ + 1, .str _, _, k, _, _ => by simp [keyD] at k
  | _ + 1, .lst _, _, k, _, _ => by simp [keyD] at k
  | _ + 1, .dct _ _, _, k, _, _ => by simp [keyD] at k
  | _ + 1, .ins _ _ _, _, k, _, _ => by simp [keyD] at k
  | _ + 1, .scr _, _, k, _, _ => by simp [keyD] at k
  | _ + 1, .itr _, _, k, _, _ => by simp [keyD] at k
  | _ + 1, _, .bl _, _, k, _ => by simp [keyD] at k
  | _ + 1, _, .str _, _, k, _ => by simp [keyD] at k
  | _ + 1, _, .lst _, _, k, _ => by simp [keyD] at k
  | _ + 1, _, .dct _ _, _, k, _ => by simp [keyD] at k
  | _ + 1, _, .ins _ _ _, _, k, _ => by simp [keyD] at k
  | _ + 1, _, .scr _, _, k, _ => by simp [keyD] at k
  | _ + 1, _, .itr _, _, k, _ => by simp [keyD] at k
theorem keys_eqD : ∀ (n : Nat) (as bs : List D), as.all (keyD n) = true → bs.all (keyD n) = true → eqDs as bs = true → as = bs
  | _, [], [], _, _, _ => rfl
  | _, [], _ :: _, _, _, e => by simp [eqDs] at e
  | _, _ :: _, [], _, _, e => by simp [eqDs] at e
  | n, a :: as, b :: bs, k1, k2, e => by
    rw [List.all_cons, Bool.and_eq_true] at k1 k2
    simp only [eqDs, Bool.and_eq_true] at e
    rw [key_eqD n a b k1.1 k2.1 e.1, keys_eqD n as bs k1.2 k2.2 e.2]
end
mutual
theorem key_self : ∀ (n : Nat) (a : D), keyD n a = true → eqD a a = true
  | 0, _, k => by simp [keyD] at k
  | _ + 1, .non, _ => rfl
  | _ + 1, .int _, _ => by simp [eqD]
  | n + 1, .tup xs, k => by
    rw [keyD] at k
    simp only [eqD]
    exact keys_self n xs k
  | _ + 1, .bl _, k => by simp [keyD] at k
  | _ + 1, .str _, k => by simp [keyD] at k
  | _ + 1, .lst _, k => by simp [keyD] at k
  | _ + 1, .dct _ _, k => by simp [keyD] at k
  | _ + 1, .ins _ _ _, k => by simp [keyD] at k
  | _ + 1, .scr _, k => by simp [keyD] at k
  | _ + 1, .itr _, k => by simp [keyD] at k
theorem keys_self : ∀ (n : Nat) (as : List D), as.all (keyD n) = true → eqDs as as = true
  | _, [], _ => rfl
  | n, a :: as, k => by
    rw [List.all_cons, Bool.and_eq_true] at k
    simp only [eqDs, key_self n a k.1, keys_self n as k.2]
    rfl
end
theorem ded_sub : ∀ (xs : List D) (x : D), x ∈ dedD xs → x ∈ xs
  | [], x, h => h
  | y :: r, x, h => by
    rw [dedD] at h
    split at h
    · exact List.mem_cons_of_mem _ (ded_sub r x h)
    · rcases List.mem_cons.mp h with e | h
      · rw [e]; exact List.mem_cons_self
      · exact List.mem_cons_of_mem _ (ded_sub r x h)
theorem ded_all {n : Nat} : ∀ (xs : List D), xs.all (keyD n) = true → ∀ x ∈ xs, x ∈ dedD xs
  | [], _, x, h => h
  | y :: r, k, x, h => by
    rw [List.all_cons, Bool.and_eq_true] at k
    rw [dedD]
    split
    · rename_i c
      rcases List.mem_cons.mp h with e | h
      · rw [e]
        obtain ⟨z, hz, ez⟩ := List.any_eq_true.mp c
        rw [key_eqD n y z k.1 (List.all_eq_true.mp k.2 z hz) ez]
        exact ded_all r k.2 z hz
      · exact ded_all r k.2 x h
    · rcases List.mem_cons.mp h with e | h
      · rw [e]; exact List.mem_cons_self
      · exact List.mem_cons_of_mem _ (ded_all r k.2 x h)
theorem ded_nodup {n : Nat} : ∀ (xs : List D), xs.all (keyD n) = true → (dedD xs).Nodup
  | [], _ => List.nodup_nil
  | y :: r, k => by
    rw [List.all_cons, Bool.and_eq_true] at k
    rw [dedD]
    split
    · exact ded_nodup r k.2
    · rename_i c
      refine List.nodup_cons.mpr ⟨fun h => c ?_, ded_nodup r k.2⟩
      exact List.any_eq_true.mpr ⟨y, ded_sub r y h, key_self n y k.1⟩
end Mi
/-! sorted(set(xs)), as an expression. -/
namespace Mi
open PySem PySem.Spec PyProof.Rows L2

/-- the set at a, without its members -/
def SetN0 (w : World) (h : Heap) (a : Addr) (L : List Row) : Prop := ∃ (es : Array (Int × Value)) (ep : Nat) (t : SetTable), (∃ o, h.get? a = some o ∧ o.ExactSet ∧ o.data = .set es ep t) ∧ es.toList = rowsK w L ∧ Tab t (L.map fun p => p.2.hash w) ∧
  (t.mask = 7 ∨ t.mask = 31 ∨ t.mask = 127 ∨ t.mask = 511 ∨ t.mask = 2047) ∧ (L.map (·.2)).Nodup ∧ t.plain = true ∧ (w.params.followText "set-order" = true ∨ t.led = true) ∧ L.length * 5 < t.mask * 3 ∧ L.length < 1000
def SetNO (w : World) (a : Addr) (L : List Row) : HO := .ext fun h => SetN0 w h a L
theorem SetK.n0 {w : World} {h : Heap} {a : Addr} {L : List Row} {es : Array (Int × Value)} {ep : Nat} {t : SetTable} (R : SetK w h a L es ep t) : SetN0 w h a L :=
  ⟨es, ep, t, R.ob, R.rows, R.tab, R.mask, R.nd, R.plain, R.led, R.room, R.few⟩
theorem SetN0.full {w : World} {h : Heap} {a : Addr} {L : List Row} (R : SetN0 w h a L) (ht : ∀ p ∈ L, KeyAt h p.2 p.1) : ∃ es ep t, SetK w h a L es ep t := by
  obtain ⟨es, ep, t, h1, h2, h3, h4, h5, h6, h7, h8, h9⟩ := R
  exact ⟨es, ep, t, h1, h2, h3, h4, h5, ht, h6, h7, h8, h9⟩
theorem setNO_new {P : Program} {w : World} {H : Hp} {h : Heap} {a : Addr} {L : List Row} (R : SetN0 w h a L) : ObjOk P w H h a (SetNO w a L) := by
  refine ⟨R, ?_, fun h1 h2 p k => ?_⟩
  · obtain ⟨es, ep, t, ⟨o, ho, r⟩, q⟩ := R
    exact ⟨o, ho⟩
  · obtain ⟨es, ep, t, ⟨o, ho, r⟩, q⟩ := p
    exact ⟨es, ep, t, ⟨o, k o ho, r⟩, q⟩
section
variable {X : Cx}
/-- the rows of a list of tuples -/
theorem rows_of {pins : List (Addr × Obj)} {s : Shared} {σ : L2.St} {H : Hp} (I : Inv X pins σ H s) : ∀ (ds : List D) (vs : List V) (us : List Value), ds.all (keyD 8) = true → ds.all isTup = true → DpAll X.K H vs (toPys ds) → Vals vs us →
    ∃ ks : List Row, us = ks.map (fun p => Value.ref p.1) ∧ vs = ks.map (fun p => V.ref p.1) ∧ ks.map (·.2) = ds.map nkey ∧ ∀ p ∈ ks, KeyAt s.heap p.2 p.1
  | [], _, _, _, _, h, r => by
    rw [toPys] at h
    cases h
    cases r
    exact ⟨[], rfl, rfl, rfl, fun p hp => nomatch hp⟩
  | d :: ds, _, _, k1, k2, h, r => by
    rw [toPys] at h
    rw [List.all_cons, Bool.and_eq_true] at k1 k2
    cases h with
    | @cons v vs _ _ h1 h2 =>
      cases r with
      | @cons _ u _ us r1 r2 =>
        obtain ⟨ks, a1, a2, a3, a4⟩ := rows_of I ds vs us k1.2 k2.2 h2 r2
        obtain ⟨as, rd⟩ := Dp.reads I (toPy d) v u h1 r1
        obtain ⟨nk, _⟩ := key_reads 8 d u as k1.1 rd
        have more := key_more 8 d k1.1
        obtain ⟨xs, rfl⟩ : ∃ xs, d = .tup xs := by
          cases d <;> first | (exact ⟨_, rfl⟩) | (cases k2.1; done)
        rw [toPy] at h1
        cases h1 with
        | @tup a ys _ h3 h4 =>
          obtain rfl : u = Value.ref a := r1
          refine ⟨(a, nkey (.tup xs)) :: ks, by rw [List.map_cons, a1], by rw [List.map_cons, a2], by rw [List.map_cons, List.map_cons, a3], fun p hp => ?_⟩
          rcases List.mem_cons.mp hp with e | hp
          · rw [e]; exact ⟨nk, more.1, more.2⟩
          · exact a4 p hp
theorem row_pick {Rr : V → D → Prop} : ∀ (ks : List Row) (ds : List D), PySem.W.EachIs Rr (ks.map fun p => V.ref p.1) ds → ks.map (·.2) = ds.map nkey → ∀ p ∈ ks, ∃ d, d ∈ ds ∧ Rr (V.ref p.1) d ∧ p.2 = nkey d
  | [], _, _, _, p, hp => nomatch hp
  | k :: ks, [], e, _, p, hp => nomatch e
  | k :: ks, d :: ds, e, q, p, hp => by
    rw [List.map_cons] at e
    simp only [List.map_cons, List.cons.injEq] at q
    cases e with
    | cons h1 h2 =>
      rcases List.mem_cons.mp hp with z | hp
      · rw [z]; exact ⟨d, List.mem_cons_self, h1, q.1⟩
      · obtain ⟨d', a, b⟩ := row_pick ks ds h2 q.2 p hp
        exact ⟨d', List.mem_cons_of_mem _ a, b⟩
theorem row_picks {Rr : V → D → Prop} {ds : List D} : ∀ (L : List Row), (∀ p ∈ L, ∃ d, d ∈ ds ∧ Rr (V.ref p.1) d ∧ p.2 = nkey d) → ∃ ds', PySem.W.EachIs Rr (L.map fun p => V.ref p.1) ds' ∧ L.map (·.2) = ds'.map nkey ∧ ∀ d ∈ ds', d ∈ ds
  | [], _ => ⟨[], .nil, rfl, fun d hd => nomatch hd⟩
  | p :: L, h => by
    obtain ⟨d, h1, h2, h3⟩ := h p List.mem_cons_self
    obtain ⟨ds', a, b, c⟩ := row_picks L fun q hq => h q (List.mem_cons_of_mem _ hq)
    refine ⟨d :: ds', .cons h2 a, by rw [List.map_cons, List.map_cons, b, h3], fun e he => ?_⟩
    rcases List.mem_cons.mp he with z | he
    · rw [z]; exact h1
    · exact c e he
theorem nodup_back {α β : Type} {f : α → β} {l : List α} (h : (l.map f).Nodup) : l.Nodup := List.Pairwise.of_map f (fun _ _ hne e => hne (congrArg f e)) h
def rSetN (K : PySem.W.Frag) (w : World) : List V → Hp → VK → Prop := fun vs H Q => ∃ (l : Addr) (xs : List V) (ds : List D), vs = [V.ref l] ∧ SqL K H l xs ∧ DpAll K H xs (toPys ds) ∧ ds.all (keyD 8) = true ∧ ds.all isTup = true ∧ ds.length < 1000 ∧ ∃ Rr : V → D → Prop, PySem.W.EachIs Rr xs ds ∧
  ∀ (a : Addr) (L : List Row) (ds' : List D), H a = none → ds'.Perm (dedD ds) → L.map (·.2) = ds'.map nkey → PySem.W.EachIs Rr (L.map fun p => V.ref p.1) ds' → Q (.ref a) (upd H a (SetNO w a L))
theorem cr_setN (hc : X.calm = true) (hu : X.A.units + 64 < cLine) : CallR X (.type "set") (rSetN X.K X.w) := by
  intro pins s σ H vs us Q I r h
  obtain ⟨l, xs, ds, rfl, hl, hd, k1, k2, hf, Rr, hR, q⟩ := h
  rw [Vals.ref1 r]
  obtain ⟨its, rv, pl, hz⟩ := I.list hl
  have hn : H s.heap.objs.size = none := I.hok.fresh (Nat.le_refl _)
  obtain ⟨ks, e1, e2, e3, e4⟩ := rows_of I ds xs its k1 k2 hd rv
  have hlen : ks.length = ds.length := by
    have := congrArg List.length e3
    rw [List.length_map, List.length_map] at this
    exact this
  subst e2
  refine call_setK (P := X.prog) (w := X.w) ks (I.ok.hd hc) pl.isList (by simpa using e1) e4 (by omega) (by omega) fun h' tk L es ep t R g k => ?_
  have pick := row_pick ks ds hR e3
  obtain ⟨ds', b1, b2, b3⟩ := row_picks L fun p hp => pick p (List.mem_of_mem_take (g.sub p hp))
  have kd := List.all_eq_true.mp k1
  have perm : ds'.Perm (dedD ds) := by
    refine (List.perm_ext_iff_of_nodup (nodup_back (f := nkey) (by rw [← b2]; exact R.nd)) (ded_nodup ds k1)).mpr fun d => ⟨fun h => ded_all ds k1 d (b3 d h), fun h => ?_⟩
    have hd1 := ded_sub ds d h
    have : nkey d ∈ ks.map (·.2) := by rw [e3]; exact List.mem_map.mpr ⟨d, hd1, rfl⟩
    obtain ⟨p, hp, ep⟩ := List.mem_map.mp this
    have hp2 := g.all p (by rw [List.take_length]; exact hp)
    rw [b2, ep] at hp2
    obtain ⟨d', hd', ed⟩ := List.mem_map.mp hp2
    rw [← key_inj 8 d' d (kd d' (b3 d' hd')) (kd d hd1) ed]
    exact hd'
  exact ⟨.ref s.heap.objs.size, upd H s.heap.objs.size (SetNO X.w s.heap.objs.size L), I.laid (t' := tk) k (Nat.le_refl _) (setNO_new R.n0), rfl, q _ L ds' hn perm b2 b1⟩
def rSortedN (K : PySem.W.Frag) (w : World) : List V → Hp → VK → Prop := fun vs H Q => ∃ (a : Addr) (L : List Row) (ds : List D), vs = [V.ref a] ∧ H a = some (SetNO w a L) ∧ L.map (·.2) = ds.map nkey ∧ DpAll K H (L.map fun p => V.ref p.1) (toPys ds) ∧ ds.all (keyD 8) = true ∧ ds.all isTup = true ∧ sortOk ds = true ∧
  ∃ Rr : V → D → Prop, PySem.W.EachIs Rr (L.map fun p => V.ref p.1) ds ∧
  ∀ (ys : List V) (p : Addr), PySem.W.EachIs Rr ys (ds.mergeSort (PySem.W.dataLe false toPy)) → H p = none → Q (.ref p) (upd H p (.lst ys))
theorem vals_rows (L : List Row) : Vals (L.map fun p => V.ref p.1) (L.map fun p => Value.ref p.1) := by
  induction L with
  | nil => exact .nil
  | cons p L ih => exact .cons rfl ih
theorem each_map_l {α β γ : Type} {R : β → γ → Prop} (f : α → β) : ∀ {xs : List α} {ys : List γ}, PySem.W.EachIs R (xs.map f) ys → PySem.W.EachIs (fun a c => R (f a) c) xs ys
  | [], [], .nil => .nil
  | _ :: _, _ :: _, .cons h t => .cons h (each_map_l f t)
  | [], _ :: _, h => nomatch h
  | _ :: _, [], h => nomatch h
theorem each_map_r {α β γ : Type} {R : β → γ → Prop} (f : α → β) : ∀ {xs : List α} {ys : List γ}, PySem.W.EachIs (fun a c => R (f a) c) xs ys → PySem.W.EachIs R (xs.map f) ys
  | [], [], .nil => .nil
  | _ :: _, _ :: _, .cons h t => .cons h (each_map_r f t)
theorem cr_sortedN (hc : X.calm = true) (hu : X.A.units + 65 < cLine) : CallR X (.builtin "sorted") (rSortedN X.K X.w) := by
  intro pins s σ H vs us Q I r h
  obtain ⟨a, L, ds, rfl, ha, hk, hd, k1, k2, hok, Rr, hR, q⟩ := h
  have R0 : SetN0 X.w s.heap a L := (I.hok a _ ha).1
  rw [Vals.ref1 r]
  obtain ⟨ks, e1, e2, e3, e4⟩ := rows_of I ds _ _ k1 k2 hd (vals_rows L)
  have ekl : ks = L := by
    have z1 : ks.map (·.1) = L.map (·.1) := by
      have := congrArg (List.map fun v => match v with | V.ref p => p | _ => 0) e2
      simpa [List.map_map, Function.comp_def] using this.symm
    have z2 : ks.map (·.2) = L.map (·.2) := by rw [e3, hk]
    have : ∀ (xs ys : List Row), xs.map (·.1) = ys.map (·.1) → xs.map (·.2) = ys.map (·.2) → xs = ys := by
      intro xs
      induction xs with
      | nil => intro ys h1 h2; cases ys with
        | nil => rfl
        | cons y ys => simp at h1
      | cons x xs ih => intro ys h1 h2; cases ys with
        | nil => simp at h1
        | cons y ys =>
          simp only [List.map_cons, List.cons.injEq] at h1 h2
          rw [ih ys h1.2 h2.2, Prod.ext h1.1 h2.1]
    exact this _ _ z1 z2
  subst ekl
  obtain ⟨es, ep, t, R⟩ := R0.full e4
  unfold sortOk at hok
  simp only [Bool.and_eq_true, Bool.or_eq_true, List.all_eq_true] at hok
  obtain ⟨⟨j1, j2⟩, j3⟩ := hok
  obtain ⟨ws, rd⟩ := Dp.readsAll I (toPys ds) _ _ hd (vals_rows ks)
  have e5 : PySem.W.EachIs (fun v b => ∃ as, Reads s.heap v (toPy b) as) (ks.map fun p => Value.ref p.1) ds := PySem.W.readsAll_each toPy (by rw [← toPys_map]; exact rd)
  have kd := List.all_eq_true.mp k1
  have e6 : PySem.W.EachIs (fun v b => Reads s.heap v (toPy b) []) (ks.map fun p => Value.ref p.1) ds := (PySem.W.each_mem e5).mono fun v b ⟨⟨as, z⟩, hb⟩ => by
    have := (key_reads 8 b v as (kd b hb) z).2
    rw [this] at z
    exact z
  have al : PySem.W.AllAlike (ds.map toPy) := fun d hd d' hd' => by
    obtain ⟨b, hb, rfl⟩ := List.mem_map.mp hd
    obtain ⟨b', hb', rfl⟩ := List.mem_map.mp hd'
    exact j2 b hb b' hb'
  have so : PySem.W.Sortable (ds.map toPy) := by
    rcases j3 with k3 | k3
    · refine .inl fun d hd => ?_
      obtain ⟨b, hb, rfl⟩ := List.mem_map.mp hd
      have := k3 b hb
      cases b with
      | tup l =>
        cases l with
        | nil => cases this
        | cons x r => exact ⟨toPy x, toPys r, by rw [toPy, toPys]⟩
      | _ => cases this
    · refine .inr fun d hd => ?_
      obtain ⟨b, hb, rfl⟩ := List.mem_map.mp hd
      have := k3 b hb
      cases b <;> first | (cases this; done) | (refine ⟨fun z => ?_, fun l z => ?_⟩ <;> (rw [toPy] at z; cases z))
  have e7 : PySem.W.EachIs (fun (u : Value) d => ∃ v, RelV v u ∧ Rr v d) (ks.map fun p => Value.ref p.1) ds := each_map_r _ ((each_map_l _ hR).mono fun p d z => ⟨V.ref p.1, rfl, z⟩)
  refine sorted_setK R (I.ok.hd hc) e7 e6 al so (fun b hb => ?_) (fun x hx y hy l1 l2 => ?_) fun s' p out c k g o hp hg hsz hout => ?_
  · have := (eqOk_lay 60 b (j1 b hb)).2
    omega
  · rw [PySem.W.dataLe_eq] at l1 l2
    simp only [cond, Bool.not_eq_true'] at l1 l2
    have z := py_anti (j2 x hx y hy) l2 l1
    rw [← eqD_py 60 x y (j1 x hx) (j1 y hy)] at z
    exact key_eqD 8 x y (kd x hx) (kd y hy) z
  · obtain ⟨ys, h1, h2⟩ := each_pick (P := fun (u : Value) (v : V) => RelV v u) (hout.mono fun u d z => z)
    have rv2 := each_vals h1
    have hn : H p = none := I.hok.fresh hp
    have hfew := R.few
    have hdl : ds.length = ks.length := by
      have := e7.length
      rw [List.length_map] at this
      exact this.symm
    have hlen : ys.length ≤ sizeLine := by
      rw [rv2.length, Array.length_toList, hsz, hdl, sizeLine_eq]
      omega
    have J : Inv X pins σ (upd H p (.lst ys)) { s with heap := s'.heap, gens := s'.gens, drawn := s'.drawn, toks := s'.toks } :=
      I.call (ch := []) (Un.laid k hp hn) (I.hok.laid k hp ⟨hlen, out.toList, c, rv2, hg⟩) (by rw [g]; exact I.bare) (fun _ z => nomatch z)
    have e : s' = { s with heap := s'.heap, gens := s'.gens, drawn := s'.drawn, toks := s'.toks } := by
      cases s'
      cases s
      cases o
      rfl
    rw [e]
    exact ⟨.ref p, _, J, rfl, q ys p h2 hn⟩
variable {S : Sit} {e : PySem.Expr} {m : E} {p p2 q2 pos : Pos}
theorem s_sset (hu : X.A.units + 65 < cLine) (hc : X.calm = true) (hK : X.K = S.Z.K) (hx : BltIs X "sorted") (hy : BltIs X "set") (ha : PA X [e] (tLs S [m])) (hs : notStar e = true) :
    PE X (.Call (.Name "sorted" p) [.Call (.Name "set" p2) [e] [] q2] [] pos) (tE S (.bi .sset [m])) := by
  have inner : PE X (.Call (.Name "set" p2) [e] [] q2) (tCB (rSetN X.K X.w) (tLs S [m])) := pe_callTy (cr_setN hc (by omega)) hy.gl hy.no (by decide +kernel) ha (by decide +kernel) (by decide +kernel) (star_cons hs) (star_any rfl)
  refine PE.imp (pe_callB (cr_sortedN hc hu) hx.gl hx.no (by decide +kernel) (pa_cons inner pa_nil) (by decide +kernel) (by decide +kernel)) fun σ H Q ⟨F, Fb, env, fr, q⟩ => ?_
  rw [evE, ans_bind] at q
  refine ⟨F, Fb, env, fr, q.mono fun ds k vs F1 H1 g l => ?_⟩
  rw [biD] at k
  unfold ssetD at k
  split at k
  · rename_i xs
    obtain ⟨v, rfl, a, us, rfl, h1, r1⟩ := l.one
    obtain ⟨z, k⟩ := k.ite
    simp only [Bool.and_eq_true, decide_eq_true_eq] at z
    obtain ⟨⟨⟨z1, z2⟩, z3⟩, z4⟩ := z
    have z5 := z3
    unfold sortOk at z5
    simp only [Bool.and_eq_true] at z5
    rw [hK]
    refine ⟨a, us, xs, rfl, .of h1, dps_of 60 xs us z5.1.1 r1, z1, z2, z4, _, reps_each r1, fun b L ds' hb pm hk he => ?_⟩
    have sub : ∀ d ∈ ds', d ∈ xs := fun d hd => ded_sub xs d (pm.mem_iff.mp hd)
    have hf : ¬ F1 b := fun f => g.th b f hb
    have r2 : Reps S.Z F1 (upd H1 b (SetNO X.w b L)) ds' (L.map fun p => V.ref p.1) := reps_upd hf (each_reps he)
    have ok : sortOk ds' = true := by
      unfold sortOk at z3 ⊢
      simp only [Bool.and_eq_true, Bool.or_eq_true, List.all_eq_true] at z3 ⊢
      exact ⟨⟨fun x hx => z3.1.1 x (sub x hx), fun x hx y hy => z3.1.2 x (sub x hx) y (sub y hy)⟩, z3.2.imp (fun h x hx => h x (sub x hx)) fun h x hx => h x (sub x hx)⟩
    have ek : ds'.all (eqOk 60) = true := List.all_eq_true.mpr fun x hx => List.all_eq_true.mp z5.1.1 x (sub x hx)
    have an : ∀ a ∈ dedD xs, ∀ b ∈ dedD xs, PySem.W.dataLe false toPy a b = true → PySem.W.dataLe false toPy b a = true → a = b := fun x hx y hy l1 l2 => by
      rw [PySem.W.dataLe_eq] at l1 l2
      simp only [cond, Bool.not_eq_true'] at l1 l2
      have hx' := ded_sub xs x hx
      have hy' := ded_sub xs y hy
      have o1 := List.all_eq_true.mp z5.1.1
      have al := List.all_eq_true.mp (List.all_eq_true.mp z5.1.2 x hx') y hy'
      have z := py_anti al l2 l1
      rw [← eqD_py 60 x y (o1 x hx') (o1 y hy')] at z
      exact key_eqD 8 x y (List.all_eq_true.mp z1 x hx') (List.all_eq_true.mp z1 y hy') z
    refine ⟨b, L, ds', rfl, upd_same, hk, dps_of 60 ds' _ ek r2, List.all_eq_true.mpr fun x hx => List.all_eq_true.mp z1 x (sub x hx), List.all_eq_true.mpr fun x hx => List.all_eq_true.mp z2 x (sub x hx), ok, _, reps_each r2, fun ys p hy hq => ?_⟩
    rw [sort_uniq toPy pm an] at hy
    have g2 : Ext F H F1 (upd H1 b (SetNO X.w b L)) := g.trans (Ext.new g.th hb)
    exact k _ F1 _ (g2.trans (Ext.new g2.th hq)) ⟨p, rfl, g2.back hq, fun f => g2.th p f hq, ys, upd_same, reps_upd (fun f => g2.th p f hq) (each_reps hy)⟩
  · exact k.elim
end
end Mi
/-! sorted(xs, key=f), f a def: the loop of keys, by an invariant of one's own -/
namespace MiK
open PySem PySem.Calls PyProof.Rows PySem.W
def gone (h : Heap) (a : Addr) : Heap := h.update a fun o => { o with data := .freed }
theorem gone_at (h : Heap) (a : Addr) : (gone h a).get? a = none := by
  obtain ⟨objs, l⟩ := h
  show (match (objs.modify a _)[a]? with | some ⟨_, _, .freed, _⟩ => none | o => o) = none
  rw [Array.getElem?_modify, if_pos rfl]
  cases objs[a]? <;> rfl
theorem gone_ne {h : Heap} {a b : Addr} (hb : b ≠ a) : (gone h a).get? b = h.get? b := (Heap.SameBut.update h a _).2 b hb
section
variable {prog : Program} {w : World} {A : Around} {E : Value → Shared → Prop} {s : Shared} {a kS : Addr} {b : Bool} {vs : List Value} {e1 : Nat} {P : PySem.Fin → Shared → Prop} {f : Value} {J : Nat → List Value → Shared → Prop}
def Turn (prog : Program) (w : World) (A : Around) (f : Value) (a kS : Addr) (e1 : Nat) (J : Nat → List Value → Shared → Prop) (vs : List Value) : Prop :=
  ∀ i v ks s1, vs[i]? = some v → J i ks s1 → ks.length = i → ∀ e, s1.heap.get? kS = some (seqObj "list" ks.toArray e) → s1.heap.get? a = some (seqObj "list" #[] e1) →
      wpAny (model prog w) A (call f [v]) (fun u s2 => s2.heap.get? kS = some (seqObj "list" ks.toArray e) ∧ s2.heap.get? a = some (seqObj "list" #[] e1) ∧ ∀ h', Heap.SameBut kS s2.heap h' → J (i + 1) (ks ++ [u]) { s2 with heap := h' }) (fun _ _ => False) s1
def Last (A : Around) (a kS : Addr) (b : Bool) (J : Nat → List Value → Shared → Prop) (vs : List Value) (P : PySem.Fin → Shared → Prop) : Prop :=
  ∀ ks s1, J vs.length ks s1 → ks.length = vs.length → ∃ kz, AllAlike kz ∧ Sortable kz ∧ (∀ d, d ∈ kz → A.units + d.depth < cLine) ∧ EachIs (fun v k => ∃ as, Reads s1.heap v k as) ks kz ∧
      ∀ h' tk out c, (∀ b o, b ≠ a → b ≠ kS → s1.heap.get? b = some o → h'.get? b = some o) → h'.get? a = some (seqObj "list" (List.toArray out) c) → KeyedOut b kz vs out → P (.done (.ret .none)) { s1 with heap := h', toks := tk }
theorem rest (hka : kS ≠ a) (hZ : vs.length ≤ sizeLine) (nk : s.heap.get? kS = some (seqObj "list" #[] 0)) (na : s.heap.get? a = some (seqObj "list" #[] e1)) (h0 : J 0 [] s)
    (turn : Turn prog w A f a kS e1 J vs) (fin : Last A a kS b J vs P) : wpAny (model prog w) A (ksk_rest a f b vs.toArray e1 (.ref kS)) P E s := by
  unfold ksk_rest
  refine wpAny_bind (wpAny_rule ?_)
  first
    | rw [List.forIn_toArray]
    | (rw [← Array.forIn_toList]; simp only [List.toList_toArray])
    | rw [← Array.forIn_toList]
  refine wpAny_bind (ksk_fold (fun i s' => ∃ ks e, J i ks s' ∧ ks.length = i ∧ s'.heap.get? kS = some (seqObj "list" (List.toArray ks) e) ∧ s'.heap.get? a = some (seqObj "list" #[] e1)) vs 0 s ⟨[], 0, h0, rfl, nk, na⟩ ?step ?done)
  case step =>
    rintro j x s' hx ⟨ks, e, hJ, hl, nk', na'⟩
    simp only [Nat.zero_add] at hJ hl ⊢
    have hj : j < vs.length := (List.getElem?_eq_some_iff.mp hx).1
    refine wpAny_bind (wpAny_attempt (wpAny_mono (turn j x ks s' hx hJ hl e nk' na') (fun v s2 he => ?_) fun _ _ hF => hF.elim))
    obtain ⟨nk2, na2, hJ2⟩ := he
    try dsimp only
    have s1 := Heap.SameBut.update s2.heap kS (Obj.mapSeq (·.push v))
    obtain ⟨c2, hc2⟩ : ∃ c2, (s2.heap.update kS (Obj.mapSeq (·.push v))).get? kS = some (seqObj "list" ((List.toArray ks).push v) c2) := ⟨_, get?_update_seq nk2 (·.push v)⟩
    have hz : (List.toArray ks).size ≤ sizeLine := by
      rw [List.size_toArray]
      omega
    refine wpAny_bind (listUpdate_at nk2 rfl ?_ hz (Nat.le_trans (Nat.le_of_eq (Array.size_push ..)) (Nat.succ_le_succ hz)))
    refine wpAny_pure ⟨rfl, ks ++ [v], c2, hJ2 _ s1, by simp [hl], ?_, (s1.2 a hka.symm).trans na2⟩
    rw [hc2]
    simp
  case done =>
    rintro s' ⟨ks, e, hJ, hl, nk', na'⟩
    rw [Nat.zero_add] at hJ hl
    obtain ⟨kz, hal, hsk, hu, hk, h⟩ := fin ks s' hJ hl
    refine wpAny_bind (listItems_at nk' rfl ?_)
    have kp : KeepsBut a (gone s'.heap kS) s'.heap := fun b o hb e => by
      by_cases hc : b = kS
      · rw [hc, gone_at] at e
        cases e
      · rw [gone_ne hc] at e
        exact e
    have hkl : (List.toArray ks).toList = ks := by simp
    refine keyH_end (κ := dataKind s'.heap kz) (h₁ := gone s'.heap kS) (keys := List.toArray ks) kp (gone_at _ _) nk' na' hka (by rw [hkl]; exact SortsAt.data hk hal hsk hu) (by rw [List.size_toArray]; exact hl) hZ fun h3 tk3 c k3 n3 => ?_
    rw [hkl] at n3
    exact h h3 tk3 _ c (fun b o h1 h2 q => k3 b o h1 ((gone_ne h2).trans q)) n3 ⟨s'.heap, ks, hal, rfl, hk⟩
theorem tree {n : Nat} (ho : s.heap.get? a = some (seqObj "list" vs.toArray n)) (hk : kS = s.heap.objs.size + 1) (hZ : vs.length ≤ sizeLine)
    (h0 : ∀ h1, (∀ b o, b ≠ a → s.heap.get? b = some o → h1.get? b = some o) → J 0 [] { s with heap := h1 }) (turn : ∀ e1, Turn prog w A f a kS e1 J vs) (fin : Last A a kS b J vs P) : wpAny (model prog w) A (ksk_tree a f b) P E s := by
  have ha : a < s.heap.objs.size := Heap.lt_size ho
  obtain ⟨e1, ho1⟩ : ∃ e1, (s.heap.update a (Obj.mapSeq fun _ => (#[] : Array Value))).get? a = some (seqObj "list" #[] e1) := ⟨_, get?_update_seq ho fun _ => #[]⟩
  have hkS : ((s.heap.update a (Obj.mapSeq fun _ => (#[] : Array Value))).push (seqObj "tuple" vs.toArray 0)).objs.size = kS := by rw [size_push', Heap.size_update, hk]
  unfold ksk_tree
  refine wpAny_bind (listItems_at ho rfl ?_)
  refine wpAny_bind (listUpdate_at ho rfl ?_ (by rw [List.size_toArray]; exact hZ) (Nat.zero_le _))
  refine wpAny_bind (seqEpoch_at ho1 rfl ?_)
  refine wpAny_bind (wpAny_newTuple ?_ (by show vs.length ≤ _; exact hZ))
  refine wpAny_bind (wpAny_newList ?_ (Nat.zero_le _))
  refine wpAny_holding ?_
  show wpAny (model prog w) A (ksk_rest a f b vs.toArray _ (.ref _)) P E { s with heap := ((s.heap.update a (Obj.mapSeq fun _ => (#[] : Array Value))).push (seqObj "tuple" vs.toArray 0)).push (seqObj "list" #[] 0) }
  rw [hkS]
  refine rest (fun z => absurd ha (by rw [← z, hk]; exact Nat.not_lt.mpr (Nat.le_succ _))) hZ (by rw [← hkS]; exact Heap.get?_push_size _ rfl) (Heap.get?_push_of_some _ (Heap.get?_push_of_some _ ho1)) (h0 _ fun b o hb q => sortingHeap_old hb q) (turn _) fin
theorem sorted {l : Addr} {kw : List (Str × Value)} {Q : Value → Shared → Prop} (hl : s.heap.IsList l vs.toArray) (ha : a = s.heap.objs.size + 1) (hk : kS = s.heap.objs.size + 3) (hZ : vs.length ≤ sizeLine) (ha1 : argsOk "sorted" ⟨[.ref l], kw⟩) (ha2 : ∀ x, argsOk "list.sort" ⟨[.ref x], kw⟩) (ht : ∀ x, Builtin.«list.sort» ⟨[.ref x], kw⟩ = ksk_tree x f b)
    (h0 : ∀ h1, (∀ b o, s.heap.get? b = some o → h1.get? b = some o) → J 0 [] { s with heap := h1 }) (turn : ∀ e1, Turn prog w A.in1.in1 f a kS e1 J vs) (fin : Last A.in1.in1 a kS b J vs fun fi s' => fi = .done (.ret .none) ∧ Q (.ref a) s') :
    wpAny (model prog w) A (call (.builtin "sorted") [.ref l] kw) Q E s := by
  refine sorted_of_sort hl hZ ha1 ha2 fun E' => ?_
  rw [ht, ← ha]
  have hsz : (copyHeap s.heap vs).objs.size = s.heap.objs.size + 2 := by
    unfold copyHeap
    rw [size_push', Heap.size_update, size_push']
  refine tree (n := 0) (J := J) (s := { s with heap := copyHeap s.heap vs }) (by rw [ha]; exact copyHeap_at s.heap vs) (by show kS = (copyHeap s.heap vs).objs.size + 1; rw [hsz, hk]) hZ (fun h1 kp => h0 h1 fun b o q => kp b o (by rw [ha]; exact Nat.ne_of_lt (Nat.lt_succ_of_lt (Heap.lt_size q))) (copyHeap_old q)) turn fin
end
end MiK
namespace Mi
open PySem L2
/-! ### sorted(xs, key=f) -/
theorem Un.same {fs ex : List Addr} {H H' : Hp} {h h1 h2 : Heap} {c : Addr} (u : Un fs ex H H' h h1) (sb : Heap.SameBut c h1 h2) (hc : h.get? c = none) : Un fs ex H H' h h2 := by
  have ne : ∀ b o, h.get? b = some o → b ≠ c := fun b o q z => by
    rw [z, hc] at q
    cases q
  exact ⟨fun b o q n hb hx => (sb.2 b (ne b o q)).trans (u.keep b o q n hb hx), fun b o q n hb hx => (u.slot b o q n hb hx).imp fun sl z => (sb.2 b (ne b o q)).trans z, u.free, fun b o q hx => (u.there b o q hx).imp fun o' z => (sb.2 b (ne b o q)).trans z, u.tups, u.frzs, u.tbls⟩
theorem HOk.sames {P : Program} {w : World} {H : Hp} {h h' : Heap} (k : HOk P w H h) (kp : ∀ b o, H b ≠ none → h.get? b = some o → h'.get? b = some o) : HOk P w H h' := fun b u e => by
  refine (k b u e).stay (fun c v hc q => kp c v ?_ q) (fun _ q => q) fun _ _ q => q
  rcases hc with z | z
  · rw [z, e]
    exact fun y => by cases y
  · rw [z]
    exact fun y => by cases y
/-- a key's def, with room for two calls between -/
structure KeyIs (X : Cx) (Z : Wd) (x : Str) (run : List Slot → R D) : Prop where
  gl : ∃ k fa fd ps, FnOk X.prog X.w X.K X.mg X.base (L2.CX X.prog X.w) k fa fd ps (spF Z false 1 run) ∧ Room (k + 2) X.A ∧ X.mg x = some (.ref fa) ∧ PySem.W.keepIn X.K (.ref fa) = true ∧ Binds X.K fd ps []
/-- a call of the key's def, with nothing let out -/
theorem run_key {X : Cx} {k : Nat} {fa : Addr} {fd : FuncData} {ps : List Str} {sp : Sp} {pins : List (Addr × Obj)} {σ : L2.St} {H : Hp} {s : Shared} {Q : VK} {us : List Value} {vs : List V} (F : FnOk X.prog X.w X.K X.mg X.base (L2.CX X.prog X.w) k fa fd ps sp) (hr : Room k X.A.in1.in1) (hb : Binds X.K fd ps [])
    (I : Inv X pins σ H s) (r : Vals vs us) (h : sp vs H Q (fun _ _ _ => False)) : wpAny (model X.prog X.w) X.A.in1.in1 (call (.ref fa) us) (CE X.stack X.prog X.w H s Q) (fun _ _ => False) s := by
  have hl : us.length = ps.length := by rw [← r.length]; exact F.len _ _ _ _ h
  have b := hb s us I.kIn (by rw [List.append_nil]; exact hl)
  rw [List.append_nil] at b
  refine wpAny_call (codeAny_mono (F.run X.A.in1.in1 X.stack s H ⟨us, []⟩ us vs Q _ hr I.env0.in1.in1 b r h) fun r s' hq => ?_)
  cases r with
  | error e =>
    obtain ⟨_, _, _, _, _, _, _, _, _, _, _, _, z⟩ := hq
    exact z
  | ok fl =>
    cases fl with
    | ret u => exact hq
    | next => exact False.elim hq
    | brk => exact False.elim hq
    | cont => exact False.elim hq
theorem keys_len {run : D → R D} : ∀ {xs ks : List D}, keysL run xs = .ok ks → ks.length = xs.length
  | [], ks, h => by cases h; rfl
  | x :: xs, ks, h => by
    rw [keysL] at h
    cases h1 : run x with
    | ok k =>
      rw [h1, R.bind_ok] at h
      cases h2 : keysL run xs with
      | ok r =>
        rw [h2] at h
        cases h
        rw [List.length_cons, List.length_cons, keys_len h2]
      | exc x => rw [h2] at h; cases h
      | bad => rw [h2] at h; cases h
    | exc x => rw [h1] at h; cases h
    | bad => rw [h1] at h; cases h
theorem keys_at {run : D → R D} : ∀ {xs ks : List D} {i : Nat} {x : D}, keysL run xs = .ok ks → xs[i]? = some x → ∃ k, ks[i]? = some k ∧ run x = .ok k
  | [], _, _, _, _, h => by simp at h
  | x :: xs, ks, i, y, h, hi => by
    rw [keysL] at h
    cases h1 : run x with
    | ok k =>
      rw [h1, R.bind_ok] at h
      cases h2 : keysL run xs with
      | ok r =>
        rw [h2] at h
        cases h
        cases i with
        | zero =>
          cases hi
          exact ⟨k, rfl, h1⟩
        | succ i => exact keys_at (i := i) h2 hi
      | exc x => rw [h2] at h; cases h
      | bad => rw [h2] at h; cases h
    | exc x => rw [h1] at h; cases h
    | bad => rw [h1] at h; cases h
theorem each_at {α β : Type} {P : α → β → Prop} : ∀ {as : List α} {bs : List β}, PySem.W.EachIs P as bs → ∀ {i : Nat} {a : α}, as[i]? = some a → ∃ b, bs[i]? = some b ∧ P a b
  | [], [], .nil, _, _, h => by simp at h
  | a :: as, b :: bs, .cons p t, 0, _, h => by
    cases h
    exact ⟨b, rfl, p⟩
  | a :: as, b :: bs, .cons p t, i + 1, _, h => each_at (i := i) t h
theorem each_snoc' {α β : Type} {P : α → β → Prop} : ∀ {as : List α} {bs : List β} {a : α} {b : β}, PySem.W.EachIs P as bs → P a b → PySem.W.EachIs P (as ++ [a]) (bs ++ [b])
  | [], [], _, _, .nil, p => .cons p .nil
  | _ :: _, _ :: _, _, _, .cons q t, p => .cons q (each_snoc' t p)
theorem each_zip {α β γ : Type} {P : α → β → Prop} : ∀ {as : List α} {bs : List β} {cs : List γ}, PySem.W.EachIs P as bs → cs.length = bs.length → PySem.W.EachIs (fun a p => P a p.1) as (bs.zip cs)
  | [], [], [], .nil, _ => .nil
  | _ :: _, _ :: _, _ :: _, .cons q t, h => .cons q (each_zip t (by simpa using h))
theorem each_map {α β γ : Type} {P : α → γ → Prop} {f : β → γ} : ∀ {as : List α} {bs : List β}, PySem.W.EachIs (fun a b => P a (f b)) as bs → PySem.W.EachIs P as (bs.map f)
  | [], [], .nil => .nil
  | _ :: _, _ :: _, .cons q t => .cons q (each_map t)
theorem zip_snd {α β : Type} : ∀ {as : List α} {bs : List β}, bs.length = as.length → (as.zip bs).map (·.2) = bs
  | [], [], _ => rfl
  | _ :: _, _ :: _, h => congrArg _ (zip_snd (by simpa using h))
theorem sort_py {ds : List D} (hok : sortOk ds = true) : PySem.W.AllAlike (ds.map toPy) ∧ PySem.W.Sortable (ds.map toPy) := by
  unfold sortOk at hok
  simp only [Bool.and_eq_true, Bool.or_eq_true, List.all_eq_true] at hok
  obtain ⟨⟨k1, k2⟩, k3⟩ := hok
  refine ⟨fun d hd d' hd' => ?_, ?_⟩
  · obtain ⟨b, hb, rfl⟩ := List.mem_map.mp hd
    obtain ⟨b', hb', rfl⟩ := List.mem_map.mp hd'
    exact k2 b hb b' hb'
  · rcases k3 with k3 | k3
    · refine .inl fun d hd => ?_
      obtain ⟨b, hb, rfl⟩ := List.mem_map.mp hd
      have := k3 b hb
      cases b with
      | tup l =>
        cases l with
        | nil => cases this
        | cons x r => exact ⟨toPy x, toPys r, by rw [toPy, toPys]⟩
      | _ => cases this
    · refine .inr fun d hd => ?_
      obtain ⟨b, hb, rfl⟩ := List.mem_map.mp hd
      have := k3 b hb
      cases b <;> first | (cases this; done) | (refine ⟨fun z => ?_, fun l z => ?_⟩ <;> (rw [toPy] at z; cases z))
def rSrt (X : Cx) (Z : Wd) (fa : Addr) (run : List Slot → R D) : List V → List V → Hp → VK → Prop := fun vs zs H Q => ∃ (a : Addr) (us : List V) (xs ks : List D) (F : Fz), vs = [V.ref a] ∧ zs = [V.ref fa] ∧ SqL X.K H a us ∧ (∀ b, F b → H b ≠ none) ∧ Reps Z F H xs us ∧
  keysL (fun x => run [.frz x]) xs = .ok ks ∧ sortOk ks = true ∧ ∀ F' H', Ext F H F' H' → ∀ (ys : List V) (p : Addr), PySem.W.EachIs (fun v d => Rep Z F' H' d v) ys (sortK xs ks) → H' p = none → Q (.ref p) (upd H' p (.lst ys))
theorem cr_srt {X : Cx} {Z : Wd} {run : List Slot → R D} {k : Nat} {fa : Addr} {fd : FuncData} {ps : List Str} (hu : X.A.units + 65 < cLine) (hK : X.K = Z.K) (F : FnOk X.prog X.w X.K X.mg X.base (L2.CX X.prog X.w) k fa fd ps (spF Z false 1 run)) (hr : Room (k + 2) X.A) (hb : Binds X.K fd ps []) :
    CallRK X (.builtin "sorted") [Str.ofString "key"] (rSrt X Z fa run) := by
  intro pins s σ H vs zs us ws Q I r rz h
  obtain ⟨a, vs, xs, ks, F0, rfl, rfl, hs, th, rep, hk, hok, q⟩ := h
  obtain ⟨its, rv, hl, hz⟩ := I.list hs
  rw [Vals.ref1 r]
  obtain ⟨w1, rfl, e1⟩ := vals1 rz
  obtain rfl : w1 = Value.ref fa := e1
  have hlen : vs.length = its.length := rv.length
  have hlx : xs.length = vs.length := (reps_each rep).length.symm
  have hlk : ks.length = xs.length := keys_len hk
  have frs_lt : ∀ b ∈ L2.frs X.stack, b < s.heap.objs.size := fun b hb => by
    rcases List.mem_cons.mp (I.stkSub b hb) with z | z
    · rw [z]
      exact I.lt
    · exact Nat.lt_of_not_le fun y => I.nofs y z
  have none_at : ∀ b, s.heap.objs.size ≤ b → s.heap.get? b = none := fun b hb => Heap.get?_none_of_le hb
  show wpAny (model X.prog X.w) X.A (call (.builtin "sorted") [.ref a] [(Str.ofString "key", .ref fa)]) (EP X pins σ Q) X.xe s
  refine MiK.sorted (f := .ref fa) (b := false) (J := fun i kv s1 => ∃ (H1 : Hp) (F1 : Fz) (kvs : List V), s1.os = s.os ∧ PyProof.Rows.AllBare s1.gens ∧ Un (L2.frs X.stack) [] H H1 s.heap s1.heap ∧ HOk X.prog X.w H1 s1.heap ∧ H1 (s.heap.objs.size + 1) = none ∧ H1 (s.heap.objs.size + 3) = none ∧ Ext F0 H F1 H1 ∧ Vals kvs kv ∧ PySem.W.EachIs (fun v d => Rep Z F1 H1 d v) kvs (ks.take i))
    hl.isList rfl rfl (by rw [← hlen]; exact hz) (PyProof.Rows.ksk_s1 _ _) (fun _ => PyProof.Rows.ksk_l1 _ _) (fun x => PyProof.Rows.ksk_t1 _ _) (fun h1 kp => ?_) (fun e1 i v kv s1 hi hJ hl2 e n1 n2 => ?_) (fun kv s1 hJ hl2 => ?_)
  · exact ⟨H, F0, [], rfl, I.bare, Un.kept kp, I.hok.kept kp, I.hok.fresh (Nat.le_succ _), I.hok.fresh (by omega), Ext.refl th, .nil, by rw [List.take_zero]; exact .nil⟩
  · obtain ⟨H1, F1, kvs, os, bare, un, hok1, a1, a2, g, rk, rpk⟩ := hJ
    have I1 : Inv X pins σ H1 s1 := I.call' (ch := []) os un hok1 bare (fun b hb => nomatch hb)
    have hiv : i < its.length := (List.getElem?_eq_some_iff.mp hi).1
    obtain ⟨y, hy, ry⟩ : ∃ y, vs[i]? = some y ∧ RelV y v := by
      have hy : vs[i]? = some (vs[i]'(by omega)) := List.getElem?_eq_getElem _
      obtain ⟨u, e, rr⟩ := rv.get hy
      rw [hi] at e
      cases e
      exact ⟨_, hy, rr⟩
    obtain ⟨d, hd, rd⟩ := each_at (reps_each rep) hy
    obtain ⟨kd, hkd, hrun⟩ := keys_at hk hd
    refine wpAny_mono (run_key (Q := fun kv2 H2 => ∃ F2, Ext F1 H1 F2 H2 ∧ Rep Z F2 H2 kd kv2) F hr.in1.in1 hb I1 (us := [v]) (vs := [y]) (.cons ry .nil) ⟨rfl, F1, [.frz d], g.th, ⟨y, [], rfl, g.rep rd, rfl⟩, ?_⟩) (fun u s2 hq => ?_) fun _ _ z => z
    · rw [hrun]
      exact fun v2 F' H' g2 p => ⟨F', g2, p⟩
    · obtain ⟨v2, H2, os2, bare2, un2, hok2, rv2, F2, g2, rp2⟩ := hq
      have n1' : (s.heap.objs.size + 3) ∉ L2.frs X.stack := fun z => absurd (frs_lt _ z) (Nat.not_lt.mpr (Nat.le_add_right _ _))
      have n2' : (s.heap.objs.size + 1) ∉ L2.frs X.stack := fun z => absurd (frs_lt _ z) (Nat.not_lt.mpr (Nat.le_add_right _ _))
      have b1 := un2.free _ _ n2 a1 (by simp)
      have b2 := un2.free _ _ n1 a2 (by simp)
      refine ⟨un2.keep _ _ n1 a2 n1' (by simp), un2.keep _ _ n2 a1 n2' (by simp), fun h' sb => ?_⟩
      refine ⟨H2, F2, kvs ++ [v2], os2.trans os, bare2, Un.same (un.trans un2) sb (none_at _ (by omega)), HOk.sames hok2 (fun b o nb q => (sb.2 b fun z => nb (by rw [z]; exact b2)).trans q), b1, b2, g.trans g2, rk.append (.cons rv2 .nil), ?_⟩
      rw [List.take_add_one, hkd]
      exact each_snoc' (rpk.mono fun v d r => g2.rep r) rp2
  · obtain ⟨H1, F1, kvs, os, bare, un, hok1, a1, a2, g, rk, rpk⟩ := hJ
    have I1 : Inv X pins σ H1 s1 := I.call' (ch := []) os un hok1 bare (fun b hb => nomatch hb)
    rw [← hlen, List.take_of_length_le (by omega)] at rpk
    have k1 : ∀ d ∈ ks, eqOk 60 d = true := by
      unfold sortOk at hok
      simp only [Bool.and_eq_true, List.all_eq_true] at hok
      exact hok.1.1
    have dpk := dps_of 60 ks kvs (List.all_eq_true.mpr k1) (each_reps rpk)
    rw [← hK] at dpk
    obtain ⟨al, so⟩ := sort_py hok
    obtain ⟨wss, rd⟩ := Dp.readsAll I1 (toPys ks) kvs kv dpk rk
    have e2 : PySem.W.EachIs (fun v b => ∃ as, Reads s1.heap v (toPy b) as) kv ks := PySem.W.readsAll_each toPy (by rw [← toPys_map]; exact rd)
    refine ⟨ks.map toPy, al, so, fun d hd => ?_, each_map e2, fun h' tk out c kp ho hko => ⟨rfl, ?_⟩⟩
    · obtain ⟨b, hb, rfl⟩ := List.mem_map.mp hd
      have := (eqOk_lay 60 b (k1 b hb)).2
      show X.A.units + 1 + 1 + (toPy b).depth < cLine
      omega
    · have rel : its.length = vs.length ∧ ∀ (i : Nat) (u : Value) (v : V), its[i]? = some u → vs[i]? = some v → RelV v u := ⟨hlen.symm, fun i u v h1 h2 => by
        obtain ⟨u', e, rr⟩ := rv.get h2
        rw [h1] at e
        cases e
        exact rr⟩
      have eR := each_zip (cs := ks) (each_comp (P := fun u v => RelV v u) rel (reps_each (g.reps rep))) (by omega)
      have hmap : (xs.zip ks).map (fun p => toPy p.2) = ks.map toPy := by
        rw [show (fun p : D × D => toPy p.2) = toPy ∘ (fun p : D × D => p.2) from rfl, ← List.map_map, zip_snd hlk]
      rw [← hmap] at hko
      have eo := PySem.W.keyedOut_each (fun p : D × D => toPy p.2) hko eR
      obtain ⟨ys, hy1, hy2⟩ := each_pick eo
      have rvy := each_vals hy1
      have hylen : ys.length ≤ sizeLine := by
        have h1 := hy2.length
        rw [List.length_mergeSort, List.length_zip] at h1
        omega
      have I2 : Inv X pins σ (upd H1 (s.heap.objs.size + 1) (.lst ys)) { s1 with heap := h', toks := tk } := Inv.drained (ex := []) (acc := out.toArray) (c := c) I (by omega) hylen ho (by rw [List.toList_toArray]; exact rvy) ExOk.nil os bare ?_ ?_ a1
      · exact ⟨.ref (s.heap.objs.size + 1), _, I2, rfl, q F1 H1 g ys _ (each_map hy2) a1⟩
      · have ne : ∀ b o, s.heap.get? b = some o → b ≠ s.heap.objs.size + 1 ∧ b ≠ s.heap.objs.size + 3 := fun b o z => by
          have lt := Heap.lt_size z
          exact ⟨Nat.ne_of_lt (Nat.lt_succ_of_lt lt), Nat.ne_of_lt (Nat.lt_of_lt_of_le lt (Nat.le_add_right _ _))⟩
        exact ⟨fun b o z n hb hx => kp b o (ne b o z).1 (ne b o z).2 (un.keep b o z n hb hx), fun b o z n hb hx => (un.slot b o z n hb hx).imp fun sl y => kp b _ (ne b o z).1 (ne b o z).2 y, un.free, fun b o z hx => (un.there b o z hx).imp fun o' y => kp b _ (ne b o z).1 (ne b o z).2 y, un.tups, un.frzs, un.tbls⟩
      · exact HOk.sames hok1 fun b o nb z => kp b o (fun y => nb (by rw [y]; exact a1)) (fun y => nb (by rw [y]; exact a2)) z
section
variable {X : Cx} {S : Sit} {pos p p3 kp : Pos} {e : PySem.Expr} {m : E} {y : Str} {f : Nat}
theorem s_srt (hu : X.A.units + 65 < cLine) (hK : X.K = S.Z.K) (hx : BltIs X "sorted") (hf : KeyIs X S.Z y (S.Γ.call f)) (hg : Gl X y) (hd : (y == ("__debug__" : Str)) = false) (he : PE X e (tE S m)) (hs : notStar e = true) :
    PE X (.Call (.Name "sorted" p) [e] [⟨some "key", .Name y p3, kp⟩] pos) (tE S (.srt f m)) := by
  obtain ⟨k, fa, fd, ps, G, hr, hm, hk, hb⟩ := hf.gl
  refine PE.imp (pe_callBK (cr_srt hu hK G hr hb) hx.gl hx.no (by decide +kernel) (pa_cons (lent_of he) pa_nil (star_cons hs)) (pk_cons (pe_glob hg hm (v := .ref fa) rfl hd) pk_nil) (by decide +kernel) (by decide +kernel) (by rw [star_cons hs]; rfl) (by rw [star_cons hs]; rfl)) fun σ H Q ⟨F, Fb, env, fr, q⟩ => ?_
  rw [evE, ans_bind] at q
  refine ⟨F, Fb, env, fr, q.mono fun d k2 v F1 H1 g l => ?_⟩
  show rSrt X S.Z fa (S.Γ.call f) [v] [.ref fa] H1 Q
  unfold srtD at k2
  split at k2
  · rename_i xs
    obtain ⟨a, us, rfl, h1, r1⟩ := l
    rw [ans_bind] at k2
    obtain ⟨ks, e1, k2⟩ := nox_ok k2
    obtain ⟨z, k2⟩ := k2.ite
    rw [← hK] at *
    refine ⟨a, us, xs, ks, F1, rfl, rfl, .of h1, g.th, r1, e1, z, fun F' H' g2 ys p hy hq => ?_⟩
    have g3 := g.trans g2
    exact k2 _ F' _ (g3.trans (Ext.new g3.th hq)) ⟨p, rfl, g3.back hq, fun f => g3.th p f hq, ys, upd_same, reps_upd (fun f => g3.th p f hq) (each_reps hy)⟩
  · exact k2.elim
end
end Mi
namespace MiK
open PySem PySem.Spec PySem.Calls PyProof.Rows PySem.W L2
def tRev (K : PySem.W.Frag) (te : TE) : TE := fun σ H Q => te σ H fun x H1 => ∃ a xs, x = V.ref a ∧ ((SqL K H1 a xs ∧ ∀ p, H1 p = none → Q (.ref p) (upd H1 p (.lst xs.reverse))) ∨ (SqT K H1 a xs ∧ ∀ p, H1 p = none → Q (.ref p) (upd H1 p (.tup xs.reverse))))
theorem pe_rev {X : Cx} {e : PySem.Expr} {te : TE} {k : Nat} {p1 p2 p3 pos : Pos} (he : PE X e te) : PE X (.Subscript e (.Slice none none (some (.UnaryOp .USub (.Constant (.int 1) k p1) p2)) p3) pos) (tRev X.K te) := by
  refine ⟨fun pins s σ H Q I h => ?_⟩
  refine Subscript_ (thn (he.run pins s σ H _ I h) fun v s1 ⟨x, H1, I1, r1, q1⟩ => ?_)
  obtain ⟨a, xs, ex, q⟩ := q1
  subst ex
  cases r1
  have hst : PO X (some (.UnaryOp .USub (.Constant (.int 1) k p1) p2)) (tPart (tUn (rU fun i => .int (-i)) (tC (.int 1)))) := po_some (pe_un un_neg pe_int)
  refine wpAny_Slice (thn (po_none.run pins s1 σ H1 (fun o H2 => o = none ∧ H2 = H1) I1 ⟨rfl, rfl⟩) fun vl s2 ⟨l, H2, I2, pl, el, e2⟩ => ?_)
  subst el e2
  refine thn (po_none.run pins s2 σ H2 (fun o H3 => o = none ∧ H3 = H2) I2 ⟨rfl, rfl⟩) fun vu s3 ⟨u, H3, I3, pu, eu, e3⟩ => ?_
  subst eu e3
  refine thn (hst.run pins s3 σ H3 (fun o H4 => o = some (-1) ∧ H4 = H3) I3 ⟨1, rfl, -1, rfl, rfl, rfl⟩) fun vs s4 ⟨o, H4, I4, ps, eo, e4⟩ => ?_
  subst eo e4
  have I5 : Inv X pins σ H4 { s4 with heap := s4.heap.push { cls := .type "slice", data := .fields #[vl, vu, vs] } } := I4.kept (t' := s4.toks) fun b ob q => Heap.get?_push_of_some _ q
  show wpAny (model X.prog X.w) X.A (subscriptTail e (.Slice none none (some (.UnaryOp .USub (.Constant (.int 1) k p1) p2)) p3) (.ref a) (.ref s4.heap.objs.size)) (EP X pins σ Q) X.xe { s4 with heap := s4.heap.push { cls := .type "slice", data := .fields #[vl, vu, vs] } }
  rcases q with ⟨hx, q⟩ | ⟨hx, q⟩
  · obtain ⟨its, r, ht, hz⟩ := I5.list hx
    have hlen := r.length
    refine tail_any (ops := [.ref a, .ref s4.heap.objs.size]) ht.isList.typeIs (PySem.slot_list_getitem.lookup) ?_ (by with_unfolding_all rfl)
    refine wpAny_getItem_list_slice ht.isList (Heap.IsSliceOf.new _ vl vu vs) pl pu ps (by decide) ?_ (by rw [List.size_toArray]; omega)
    rw [PySem.W.krv_pick]
    refine ⟨.ref _, _, I5.laid (t' := s4.toks) (o := .lst xs.reverse) (fun b ob q => Heap.get?_push_of_some _ q) (Nat.le_refl _) ?_, rfl, q _ (I5.hok.fresh (Nat.le_refl _))⟩
    exact ⟨by rw [List.length_reverse]; exact hz, _, 0, r.reverse, Heap.get?_push_size _ rfl⟩
  · obtain ⟨its, r, ht, hz⟩ := I5.tuple hx
    have hlen := r.length
    cases pl
    cases pu
    cases ps
    refine tail_any (ops := [.ref a, .ref s4.heap.objs.size]) ht.typeIs PyProof.Rows.slot_tuple_getitem.lookup ?_ (by with_unfolding_all rfl)
    refine getItem_tuple_rev ht (Heap.IsSliceOf.new ..) ?_ (by rw [List.size_toArray]; omega)
    refine ⟨.ref _, _, I5.laid (t' := s4.toks) (o := .tup xs.reverse) (fun b ob q => Heap.get?_push_of_some _ q) (Nat.le_refl _) ?_, rfl, q _ (I5.hok.fresh (Nat.le_refl _))⟩
    exact ⟨by rw [List.length_reverse]; exact hz, _, r.reverse, IsTup.new _ _⟩
theorem call_min {prog : Program} {w : World} {A : Around} {E : Value → Shared → Prop} {s : Shared} {l : Addr} {vs : Array Value} {x : PyData} {xs : List PyData} {as : List Addr} {Q : Value → Shared → Prop} (hh : A.handled = none) (hl : s.heap.IsList l vs) (hr : ReadsAll s.heap vs.toList (x :: xs) as) (ha : AlikeAll (x :: xs)) (hu : A.units + 1 + PyData.depthAll (x :: xs) < cLine)
    (h : ∀ v h' tk, vs[argBest (fun i j => dataLt ((x :: xs).getD i .none) ((x :: xs).getD j .none)) xs.length]? = some v → (∀ b o, s.heap.get? b = some o → h'.get? b = some o) → Q v { s with heap := h', toks := tk }) :
    wpAny (model prog w) A (call (.builtin "min") [.ref l]) Q E s := by
  have hn : vs.size = xs.length + 1 := readsAll_len hr
  refine call_min_walkH (iter_listW (A := A.in1) hh hl fun s₂ e W st hfp hw hk => ?_)
  refine ⟨_, _, _, _, _, _, _, s.heap, _, rfl, W, st, hfp, by omega, hw, hk, cmpIn_lt (A := A.in1) hr ha (by show A.units + 1 + _ < _; exact hu), fun v s' hP m => ?_⟩
  obtain ⟨h', tk, rfl, hk'⟩ := moved_old e rfl m
  have e1 : vs.size - 1 = xs.length := by omega
  rw [e1] at hP
  exact h v h' tk hP hk'
end MiK
namespace Mi
open PySem L2
/-! ### xs[::-1], t[::-1] -/
theorem reps_rev {Z : Wd} {F : Fz} {H : Hp} {ds : List D} {vs : List V} (h : Reps Z F H ds vs) : Reps Z F H ds.reverse vs.reverse := by
  have go : ∀ {ds : List D} {vs : List V}, PySem.W.EachIs (fun v d => Rep Z F H d v) vs ds → PySem.W.EachIs (fun v d => Rep Z F H d v) vs.reverse ds.reverse := fun {ds vs} e => by
    induction e with
    | nil => exact .nil
    | cons h _ ih =>
      rw [List.reverse_cons, List.reverse_cons]
      exact each_snoc' ih h
  exact each_reps (go (reps_each h))
section
variable {X : Cx} {S : Sit} {e : PySem.Expr} {m : E}
theorem s_rev {k : Nat} {p1 p2 p3 pos : Pos} (hK : X.K = S.Z.K) (he : PE X e (tE S m)) : PE X (.Subscript e (.Slice none none (some (.UnaryOp .USub (.Constant (.int 1) k p1) p2)) p3) pos) (tE S (.rev m)) := by
  refine PE.imp (MiK.pe_rev (lent_of he)) fun σ H Q ⟨F, Fb, env, fr, q⟩ => ?_
  rw [evE, ans_bind] at q
  refine ⟨F, Fb, env, fr, q.mono fun d k v F1 H1 g l => ?_⟩
  unfold revD at k
  rw [hK]
  split at k
  · rename_i xs
    obtain ⟨a, us, rfl, h1, r1⟩ := l
    refine ⟨a, us, rfl, .inl ⟨.of h1, fun p hq => ?_⟩⟩
    obtain ⟨g2, r⟩ := newL g hq (reps_rev r1)
    exact k _ _ _ g2 r
  · rename_i xs
    obtain ⟨a, us, rfl, fa, h1, r1⟩ := l
    refine ⟨a, us, rfl, .inr ⟨.of h1, fun p hq => ?_⟩⟩
    obtain ⟨g2, r⟩ := newT g hq (reps_rev r1)
    exact Hope.rep k rfl g2 r
  · exact k.elim
/-! ### min(xs) -/
def rMinD (K : PySem.W.Frag) : List V → Hp → VK → Prop := fun vs H Q => ∃ (a : Addr) (us : List V) (x : D) (xs : List D), vs = [V.ref a] ∧ SqL K H a us ∧ (x :: xs).all (eqOk 60) = true ∧ (∀ a ∈ x :: xs, ∀ b ∈ x :: xs, PySem.W.alike (toPy a) (toPy b) = true) ∧ (∀ a ∈ x :: xs, toPy a ≠ .none) ∧ DpAll K H us (toPys (x :: xs)) ∧ us.length = (x :: xs).length ∧
  ∀ (i : Nat) u, us[i]? = some u → (x :: xs)[i]? = some (xs.foldl (fun a y => if befD y a then y else a) x) → Q u H
theorem toPys_getD : ∀ (l : List D) (i : Nat), (toPys l).getD i .none = toPy (l.getD i .non)
  | [], _ => rfl
  | d :: l, 0 => rfl
  | d :: l, i + 1 => by
    rw [toPys, List.getD_cons_succ, List.getD_cons_succ]
    exact toPys_getD l i
theorem cr_min (hc : X.calm = true) (hu : X.A.units + 65 < cLine) : CallR X (.builtin "min") (rMinD X.K) := by
  intro pins s σ H vs us Q I r h
  obtain ⟨a, us, x, xs, rfl, hs, k1, k2, k3, hd, hlen, q⟩ := h
  obtain ⟨its, rv, hl, hz⟩ := I.list hs
  rw [Vals.ref1 r]
  obtain ⟨ws, rd⟩ := Dp.readsAll I (toPys (x :: xs)) us its hd rv
  have hdp := (eqOk_lays 60 _ k1).2
  rw [toPys] at rd hdp
  have rd2 : ReadsAll s.heap its.toArray.toList (toPy x :: toPys xs) ws := by
    rw [List.toList_toArray]
    exact rd
  refine MiK.call_min (I.ok.hd hc) hl.isList rd2 ⟨fun d hd d' hd' => ?_, fun d hd => ?_⟩ (by omega) fun v h' tk hv kp => ?_
  · rw [← toPys, toPys_map] at hd hd'
    obtain ⟨b, hb, rfl⟩ := List.mem_map.mp hd
    obtain ⟨b', hb', rfl⟩ := List.mem_map.mp hd'
    exact k2 b hb b' hb'
  · rw [← toPys, toPys_map] at hd
    obtain ⟨b, hb, rfl⟩ := List.mem_map.mp hd
    exact k3 b hb
  · have e : (fun i j => PySem.W.dataLt ((toPy x :: toPys xs).getD i .none) ((toPy x :: toPys xs).getD j .none)) = fun i j => befD ((x :: xs).getD i .non) ((x :: xs).getD j .non) := by
      funext i j
      rw [← toPys, toPys_getD, toPys_getD]
      rfl
    have el : (toPys xs).length = xs.length := by rw [toPys_map, List.length_map]
    rw [e, el] at hv
    obtain ⟨b1, b2⟩ := PySem.W.argBest_fold befD D.non x xs xs.length (Nat.le_refl _)
    rw [List.take_length] at b2
    generalize hj : PySem.argBest (fun i j => befD ((x :: xs).getD i .non) ((x :: xs).getD j .non)) xs.length = j at hv b1 b2
    rw [List.getElem?_toArray] at hv
    obtain ⟨u, hu1, hu2⟩ : ∃ u, us[j]? = some u ∧ RelV u v := by
      have hju : j < us.length := by rw [hlen, List.length_cons]; omega
      have hy : us[j]? = some us[j] := List.getElem?_eq_getElem hju
      obtain ⟨u', e, rr⟩ := rv.get hy
      rw [hv] at e
      cases e
      exact ⟨_, hy, rr⟩
    refine ⟨u, H, I.kept (t' := tk) kp, hu2, q j u hu1 ?_⟩
    rw [← b2, List.getD_eq_getElem?_getD]
    have hjx : j < (x :: xs).length := by rw [List.length_cons]; omega
    rw [List.getElem?_eq_getElem hjx]
    rfl
theorem s_min {es : List PySem.Expr} {ms : List E} {p pos : Pos} (hc : X.calm = true) (hu : X.A.units + 65 < cLine) (hK : X.K = S.Z.K) (hx : BltIs X "min") (ha : PA X (e :: es) (tLs S ms)) (hs : (e :: es).all notStar = true) : PE X (.Call (.Name "min" p) (e :: es) [] pos) (tE S (.bi .min ms)) := by
  refine s_biB (cr_min hc hu) hx (by decide +kernel) ha hs (by decide +kernel) (by decide +kernel) fun σ F F2 H H2 ds vs Q q g l => ?_
  rw [biD] at q
  unfold minLD at q
  rw [hK]
  split at q
  · rename_i x xs
    obtain ⟨v, rfl, a, us, rfl, h1, r1⟩ := l.one
    obtain ⟨z, q⟩ := q.ite
    simp only [Bool.and_eq_true] at z
    obtain ⟨⟨z1, z2⟩, z3⟩ := z
    have z2 := fun a ha b hb => List.all_eq_true.mp (List.all_eq_true.mp z2 a ha) b hb
    have z3 := fun a ha => List.all_eq_true.mp z3 a ha
    refine ⟨a, us, x, xs, rfl, .of h1, z1, z2, fun d hd => ?_, dps_of 60 _ us z1 r1, (reps_each r1).length, fun i u hu hd => ?_⟩
    · have h := z3 d hd
      rw [Bool.and_eq_true] at h
      cases d <;> first | (exact absurd h.1 (by decide)) | (exact fun z => by cases z)
    · obtain ⟨d, hd2, rd⟩ := each_at (reps_each r1) hu
      rw [hd] at hd2
      cases hd2
      have hm := z3 _ (List.mem_of_getElem? hd)
      rw [Bool.and_eq_true, Bool.not_eq_true', Bool.not_eq_true'] at hm
      exact Hope.rep q hm.2 g rd
  · exact q.elim
end
end Mi
/-! ### a for loop in a generator def -/
namespace Mi
open PySem PyProof.Rows
section
variable {prog : Program} {w : World} {A : Around} {R : GenEnd} {Y : Protocol} {n : Nat} {s₀ : Shared} {fs : List Frame} {s : Shared} {env : PySem.Env}
abbrev Exits (prog : Program) (w : World) (A : Around) (R : GenEnd) (Y : Protocol) (n : Nat) (s₀ : Shared) (c : Code) (env : PySem.Env) (fs : List Frame) (x : Value) (s' : Shared) : Prop :=
  Seg (model prog w) A R Y n s₀ c ((do noteFrame x env; theTreesLotGoes x : Sem Unit).wrap (fun _ => .raise x) .raise id id) fs s'
abbrev forEnds (tg : PySem.Expr) (it : Value) (body orelse : List PySem.Stmt) (env : PySem.Env) : Flow → Sem PySem.Fin := fun f => match f with
  | .next | .cont => .pure (.again (.forLoop tg it body orelse env))
  | .brk => .pure (.done .next)
  | .ret v => .pure (.done (.ret v))
theorem seg_forLoop {tg : PySem.Expr} {it : Value} {body orelse : List PySem.Stmt}
    (h : wpAny (model prog w) (A.over (.forLoop tg it body orelse env) fs) (pyNext it) (fun r s1 => match r with
        | none => Seg (model prog w) A R Y n s₀ (.forLoop tg it body orelse env) (.pure (.again (.block orelse env))) fs s1
        | some v => wpAny (model prog w) (A.over (.forLoop tg it body orelse env) fs) (letOwnedTupleGo tg it v) (fun _ s2 => wpAny (model prog w) (A.over (.forLoop tg it body orelse env) fs) (assign tg env v) (fun _ s3 =>
            Seg (model prog w) A R Y n s₀ (.forLoop tg it body orelse env) ((execs body env).wrap (forEnds tg it body orelse env) (fun e => (do noteFrame e env; theTreesLotGoes e : Sem Unit).wrap (fun _ => .raise e) .raise id id) id id) fs s3)
            (Exits prog w A R Y n s₀ (.forLoop tg it body orelse env) env fs) s2) (Exits prog w A R Y n s₀ (.forLoop tg it body orelse env) env fs) s1)
      (Exits prog w A R Y n s₀ (.forLoop tg it body orelse env) env fs) s) :
    Seg (model prog w) A R Y n s₀ (.forLoop tg it body orelse env) ((model prog w).den (.forLoop tg it body orelse env)) fs s := by
  show Seg _ A R Y n s₀ _ ((forTurn tg it body orelse env).onRaise (fun x => do noteFrame x env; theTreesLotGoes x)) fs s
  have ex : ∀ (x : Value) (s' : Shared), Exits prog w A R Y n s₀ (.forLoop tg it body orelse env) env fs x s' → Seg (model prog w) A R Y n s₀ (.forLoop tg it body orelse env) ((do noteFrame x env; theTreesLotGoes x : Sem Unit).bind fun _ => (.raise x : Sem PySem.Fin)) fs s' := fun x s' hx => by
    rw [Sem.bind_eq_wrap]
    exact hx
  rw [Sem.onRaise_eq_wrap]
  unfold forTurn
  refine seg_bind_wrap (wpAny_standAt ?_)
  refine seg_bind_wrap (wpAny_onRaise (wpAny_mono h (fun r s1 hr => ?_) fun x s' hx => wpAny_standAt (ex x s' hx)))
  cases r with
  | none => exact hr
  | some v =>
    refine seg_bind_wrap (wpAny_mono hr (fun _ s2 h2 => ?_) fun x s' hx => ex x s' hx)
    refine seg_bind_wrap (wpAny_mono h2 (fun _ s3 h3 => ?_) fun x s' hx => ex x s' hx)
    rw [Sem.bind_eq_wrap', Sem.wrap_wrap]
    rw [Sem.wrap_congr (execs body env) _ _ (K' := forEnds tg it body orelse env) (H' := (fun e => (do noteFrame e env; theTreesLotGoes e : Sem Unit).wrap (fun _ => .raise e) .raise id id))
      (fun f => by cases f <;> rfl) (fun e => by first | exact Sem.bind_eq_wrap _ _ | (show (do noteFrame e env; theTreesLotGoes e : Sem Unit).bind (fun _ => .raise e) = _; rw [Sem.bind_eq_wrap]))]
    exact h3
theorem seg_For {M : Model} {c : Code} {K : Flow → Sem PySem.Fin} {H : Value → Sem PySem.Fin} {gd : Bool → Bool} {lv : List Value → List Value} {tg iter : PySem.Expr} {body orelse : List PySem.Stmt} {pos : Pos}
    (h : wpAny M (A.over c fs) (eval iter env) (fun v s1 => wpAny M (A.over c fs) (pyIter v) (fun it s2 =>
      ∀ p, Seg M A R Y n s₀ (.forLoop tg it body orelse env) (M.den (.forLoop tg it body orelse env))
        (.ret (fun r => ((match r with | .ok f => (.pure f : Sem Flow) | .error e => .raise e).onRaise (L2.cameBack env)).wrap K H gd lv) none (gd false) (lv []) c p [] :: fs) s2)
      (fun x s' => Seg M A R Y n s₀ c (H x) fs s') s1) (fun x s' => Seg M A R Y n s₀ c (H x) fs s') s)
    (hs : ∀ x, foldedSetIterable iter env x = pure x) : Seg M A R Y n s₀ c ((exec (.For tg iter body orelse pos) env).wrap K H gd lv) fs s := by
  rw [exec_For]
  refine seg_bind_wrap (wpAny_standAt ?_)
  refine seg_bind_wrap (wpAny_mono h (fun v s1 h1 => ?_) fun _ _ x => x)
  refine seg_bind_wrap (wpAny_of_eq (hs v) ?_)
  refine seg_bind_wrap (wpAny_standAt ?_)
  refine seg_bind_wrap (wpAny_holding (wpAny_mono h1 (fun it s2 h2 => ?_) fun _ _ x => x))
  exact seg_call h2
end
end Mi
namespace L2
open PySem PySem.Spec PyProof.Rows GenW
section
variable {X : Cx}
def tGFor (wi : TI) (g : TG) (tb : TGn) : TGn := fun D ys σ H => wi σ H fun J H1 => ∃ W : Nat → Nat → List V → St → Hp → Prop, (∃ m, W 0 m ys σ H1) ∧ ∀ i m ys σ H, W i m ys σ H →
  (J.stop i H ∧ D.nx ys σ H) ∨ (J.go i H ∧ ∃ N : List V → St → Hp → Prop, (∀ ys' σ' H', N ys' σ' H' → ∃ m', m' < m ∧ W (i + 1) m' ys' σ' H') ∧ ∀ x H', J.yld i H x H' → g x σ H' fun σ2 H2 => tb { D with nx := N, ct := N, bk := D.nx } ys σ2 H2)
theorem gs_for {tg iter : Expr} {body : List Stmt} {pos : Pos} {wi : TI} {g : TG} {tb : TGn} (hp : PassesOwn (model X.prog X.w) X.A X.env X.xe) (hc : X.calm = true) (hi : PI X tg iter wi) (hg : PG X tg g) (hb : GSs X body tb) (hs : ∀ x, foldedSetIterable iter X.env x = pure x) :
    GS X (.For tg iter body [] pos) (tGFor wi g tb) := by
  refine ⟨fun A S ip R n ys s₀ c fs K J gd lv s σ H D gc hn k hI ht => ?_⟩
  obtain ⟨acc, cc, r, I⟩ := hI
  refine Mi.seg_For ?_ hs
  rw [gc.over]
  refine wpAny_mono (hi.run _ s σ H _ I ht) (fun v s1 h1 => wpAny_mono h1 (fun itv s2 h2 p => ?_) fun x s' hx => k.exc n s₀ x s' hx) fun x s' hx => k.exc n s₀ x s' hx
  obtain ⟨it, fp, tn, Jt, H2, e, I2, T, st2, f2, W, ⟨m0, w0⟩, turn⟩ := h2
  subst e
  have stat : ∀ {acc' : Array Value} {c' : Nat} {H' : Hp}, (∀ b ∈ fp, H' b = none) → ∀ b ∈ fp, FpOk X ((S, lstObj acc' c') :: ip) H' b := fun hn b hb => by
    obtain ⟨_, f1, f3, f4, f5, f6⟩ := f2 b hb
    refine ⟨hn b hb, f1, f3, f4, f5, fun q hq => ?_⟩
    rcases List.mem_append.mp hq with z | z
    · exact f6 q (List.mem_append_left _ z)
    · rcases List.mem_cons.mp z with z | z
      · subst z
        exact f6 (S, lstObj acc cc) (List.mem_append_right _ List.mem_cons_self)
      · exact f6 q (List.mem_append_right _ (List.mem_cons_of_mem _ z))
  have neS : ∀ b ∈ fp, b ≠ S := fun b hb z => (f2 b hb).2.2.2.2.2 (S, lstObj acc cc) (List.mem_append_right _ List.mem_cons_self) z.symm
  have gl := fun (kk : Result → Sem PySem.Fin) => gc_loop (k := kk) (c' := .forLoop tg (.ref it) body [] X.env) (l := lv []) (kp := []) (p := p) gc rfl rfl
  have loop : ∀ (m n i : Nat) (ys : List V) (s₀ s : Shared) (σ : St) (H : Hp), n + ys.length = sizeLine → W i m ys σ H → GI X S ip ys σ H s → tn i s.heap → (∀ b ∈ fp, H b = none) →
      Seg (model X.prog X.w) A R (GY X S) n s₀ (.forLoop tg (.ref it) body [] X.env) ((model X.prog X.w).den (.forLoop tg (.ref it) body [] X.env))
        (.ret (fun r => ((match r with | .ok f => (.pure f : Sem Flow) | .error e => .raise e).onRaise (cameBack X.env)).wrap K J gd lv) none (gd false) (lv []) c p [] :: fs) s := by
    intro m
    induction m using Nat.strongRecOn with
    | ind m ih =>
      intro n i ys s₀ s σ H hn w hI st fr
      have ee : ∀ (n : Nat) (s₀ : Shared) (x : Value) (s' : Shared), X.xe x s' → Mi.Exits X.prog X.w A R (GY X S) n s₀ (.forLoop tg (.ref it) body [] X.env) X.env
          (.ret (fun r => ((match r with | .ok f => (.pure f : Sem Flow) | .error e => .raise e).onRaise (cameBack X.env)).wrap K J gd lv) none (gd false) (lv []) c p [] :: fs) x s' := fun n s₀ x s' hx => by
        refine seg_wrap ?_
        rw [(gl _).over]
        refine wpAny_bind (wpAny_mono (hp x s' hx) (fun _ s'' hcb => wpAny_theTreesLotGoes ?_) fun y s'' hcb => ?_)
        · exact seg_leaf (.error x) (seg_cameBack gc k hcb)
        · exact seg_leaf (.error y) (seg_cameBack gc k hcb)
      refine Mi.seg_forLoop ?_
      rw [(gl _).over]
      obtain ⟨acc, cc, r, I⟩ := hI
      rcases turn i m ys σ H w with ⟨stop, qn⟩ | ⟨go, N, hN, step⟩
      · refine wpAny_mono (T.done X rfl rfl rfl hc i _ s σ H (Mi.Exits X.prog X.w A R (GY X S) n s₀ (.forLoop tg (.ref it) body [] X.env) X.env (.ret (fun r => ((match r with | .ok f => (.pure f : Sem Flow) | .error e => .raise e).onRaise (cameBack X.env)).wrap K J gd lv) none (gd false) (lv []) c p [] :: fs)) I (stat fr) st stop) (fun r1 s1 hr => ?_) fun _ _ x => x
        obtain ⟨hr, I1⟩ := hr
        subst hr
        exact seg_again rfl (seg_leaf (.ok .next) (k.ok n ys s₀ s1 .next hn ⟨σ, H, ⟨acc, cc, r, I1⟩, qn⟩))
      · refine wpAny_mono (T.item X rfl rfl rfl hc i _ s σ H (Mi.Exits X.prog X.w A R (GY X S) n s₀ (.forLoop tg (.ref it) body [] X.env) X.env (.ret (fun r => ((match r with | .ok f => (.pure f : Sem Flow) | .error e => .raise e).onRaise (cameBack X.env)).wrap K J gd lv) none (gd false) (lv []) c p [] :: fs)) I (stat fr) st go) (fun r1 s1 hr => ?_) fun _ _ x => x
        obtain ⟨u, hr, h3⟩ := hr
        subst hr
        refine wpAny_mono h3 (fun _ s2 h4 => ?_) fun _ _ x => x
        obtain ⟨x, H5, I5, r5, y5, st5, fr5⟩ := h4
        have I5' := I5.pinned (stat fr5) (T.obj _ _ st5)
        refine wpAny_mono (hg.run _ s2 σ H5 x u _ I5' r5 (step x H5 y5)) (fun _ s3 h5 => ?_) fun x s' hx => ee n s₀ x s' hx
        obtain ⟨σ6, H6, I6, q6⟩ := h5
        have un : ∀ {ys' : List V} {σ' : St} {H' : Hp} {s' : Shared}, GI X S (ip ++ pinsAt fp s2.heap) ys' σ' H' s' → GI X S ip ys' σ' H' s' ∧ tn (i + 1) s'.heap ∧ ∀ b ∈ fp, H' b = none := fun {ys' σ' H' s'} ⟨acc', c', r', I'⟩ => by
          have pin : ∀ b ∈ fp, ∀ o, s2.heap.get? b = some o → s'.heap.get? b = some o ∧ H' b = none := fun b hb o e =>
            let z := I'.pin (b, o) (List.mem_append_right _ (List.mem_cons_of_mem _ (List.mem_append_right _ (mem_pinsAt hb e))))
            ⟨z.1, z.2.1⟩
          refine ⟨⟨acc', c', r', Inv.unpinned (pins := (S, lstObj acc' c') :: ip) (pl := pinsAt fp s2.heap) I'⟩, T.keep _ _ _ st5 fun b hb o e => (pin b hb o e).1, fun b hb => ?_⟩
          obtain ⟨o, e, _⟩ := T.obj _ _ st5 b hb
          exact (pin b hb o e).2
        have gc' : GC X S (ip ++ pinsAt fp s2.heap) A (.forLoop tg (.ref it) body [] X.env) (.ret (fun r => ((match r with | .ok f => (.pure f : Sem Flow) | .error e => .raise e).onRaise (cameBack X.env)).wrap K J gd lv) none (gd false) (lv []) c p [] :: fs) id :=
          ⟨gc.pn, fun q hq => (List.mem_append.mp hq).elim (gc.ip q) fun z => neS _ (of_pinsAt z).1, gc.apart, (gl _).over, (gl _).split, (gl _).guard, rfl⟩
        refine hb.run A S (ip ++ pinsAt fp s2.heap) R n ys s₀ _ _ _ _ id id s3 σ6 H6 { D with nx := N, ct := N, bk := D.nx } gc' hn ⟨fun n' ys' s₀' s4 f hn' hs' => ?_, fun n' s₀' x s4 hx => ee n' s₀' x s4 hx⟩ ⟨acc, cc, r, I6⟩ q6
        cases f with
        | next =>
          obtain ⟨σ7, H7, I7, n7⟩ := hs'
          obtain ⟨m', hm, w7⟩ := hN ys' σ7 H7 n7
          obtain ⟨a1, a2, a3⟩ := un I7
          exact seg_again rfl (ih m' hm n' (i + 1) ys' s₀' s4 σ7 H7 hn' w7 a1 a2 a3)
        | cont =>
          obtain ⟨σ7, H7, I7, n7⟩ := hs'
          obtain ⟨m', hm, w7⟩ := hN ys' σ7 H7 n7
          obtain ⟨a1, a2, a3⟩ := un I7
          exact seg_again rfl (ih m' hm n' (i + 1) ys' s₀' s4 σ7 H7 hn' w7 a1 a2 a3)
        | brk =>
          obtain ⟨σ7, H7, I7, q7⟩ := hs'
          exact seg_leaf (.ok .next) (k.ok n' ys' s₀' s4 .next hn' ⟨σ7, H7, (un I7).1, q7⟩)
        | ret v =>
          obtain ⟨v', σ7, H7, I7, rv, q7⟩ := hs'
          exact seg_leaf (.ok (.ret v)) (k.ok n' ys' s₀' s4 (.ret v) hn' ⟨v', σ7, H7, (un I7).1, rv, q7⟩)
  exact loop m0 n 0 ys s₀ _ σ H2 hn w0 ⟨acc, cc, r, I2⟩ st2 fun b hb => (f2 b hb).1
end
end L2
namespace Mi
open PySem L2
/-! ### generator defs -/
def FinG (S : Sit) (F Fb : Fz) (H : Hp) (σ : St) (env : Env) (D : GEnds) : GO → Prop
  | .nx e ds => ∀ ys σ' F' H', Go S.Z F Fb H σ env σ' F' H' e → Reps S.Z F' H' ds ys → D.nx ys σ' H'
  | .bad => False
def tGm (S : Sit) (m : G) : TGn := fun D ys σ H => ∃ F Fb env ds, Fr S.Z F Fb H σ env ∧ Reps S.Z F H ds ys ∧ FinG S F Fb H σ env D (evG S.Γ m env ds)
def tGms (S : Sit) (ms : List G) : TGn := fun D ys σ H => ∃ F Fb env ds, Fr S.Z F Fb H σ env ∧ Reps S.Z F H ds ys ∧ FinG S F Fb H σ env D (evGs S.Γ ms env ds)
theorem GS.imp {X : Cx} {e : PySem.Stmt} {t t' : TGn} (h : GS X e t) (i : ∀ D ys σ H, t' D ys σ H → t D ys σ H) : GS X e t' := ⟨fun A S ip R n ys s₀ c fs K J gd lv s σ H D g hn k hI ht => h.run A S ip R n ys s₀ c fs K J gd lv s σ H D g hn k hI (i D ys σ H ht)⟩
theorem GSs.imp {X : Cx} {e : List PySem.Stmt} {t t' : TGn} (h : GSs X e t) (i : ∀ D ys σ H, t' D ys σ H → t D ys σ H) : GSs X e t' := ⟨fun A S ip R n ys s₀ c fs K J gd lv s σ H D g hn k hI ht => h.run A S ip R n ys s₀ c fs K J gd lv s σ H D g hn k hI (i D ys σ H ht)⟩
section
variable {S : Sit} {F F1 F2 Fb : Fz} {H H1 H2 : Hp} {σ σ1 σ2 : St} {env env1 env2 : Env} {D : GEnds} {o : GO}
theorem FinG.go (h : FinG S F Fb H σ env D o) (g : Go S.Z F Fb H σ env σ1 F1 H1 env1) : FinG S F1 Fb H1 σ1 env1 D o := by
  cases o with
  | nx e ds => exact fun ys σ' F' H' k r => h ys σ' F' H' (g.trans k) r
  | bad => exact h
theorem fin_go {α : Type} {r : R α} {f : α → GO} (h : FinG S F Fb H σ env D (r.go f)) : ∃ a, r = .ok a ∧ FinG S F Fb H σ env D (f a) := by
  cases r with
  | ok a => exact ⟨a, rfl, h⟩
  | exc x => exact h.elim
  | bad => exact h.elim
theorem Step.reps (e : Step F Fb H F1 H1) {Z : Wd} {d : List Mi.D} {v : List V} (r : Reps Z F H d v) : Reps Z F1 H1 d v := r.mono e.fz fun a o f h => e.ob a o (.inl f) h
end
section
variable {X : Cx} {S : Sit}
theorem gm_pl {st : PySem.Stmt} {m : Mi.S} (h : PS X st (tS S.calm m)) : GS X st (tGm S (.pl m)) := by
  refine GS.imp (gs_ps h) fun D ys σ H ⟨F, Fb, env, ds, fr, r, q⟩ => ⟨F, Fb, env, fr, ?_⟩
  rw [evG] at q
  show Fin S.calm F Fb H σ env (D.at ys) (evS S.Γ m env)
  cases o : evS S.Γ m env with
  | nx e =>
    rw [o] at q
    exact fun σ' F' H' g => q ys σ' F' H' g (g.st.reps r)
  | bk e => rw [o] at q; exact q.elim
  | ct e => rw [o] at q; exact q.elim
  | ret d own => rw [o] at q; exact q.elim
  | exc x e => rw [o] at q; exact q.elim
  | bad => rw [o] at q; exact q.elim
theorem gm_yld {e : PySem.Expr} {m : E} {yp pos : Pos} (he : PE X e (tE S.calm m)) (hk : kd m ≠ .lent) (hco : X.env.scope.isCoroutine = false) (hi : interactive X.env = false) : GS X (.Expr (.Yield (some e) yp) pos) (tGm S (.yld m)) := by
  refine GS.imp (gs_yield (frz_of he hk) hco hi) fun D ys σ H ⟨F, Fb, env, ds, fr, r, q⟩ => ?_
  rw [evG] at q
  obtain ⟨d, ed, q⟩ := fin_go q
  by_cases c : ds.length < 1000000
  · rw [if_pos (decide_eq_true c)] at q
    refine ⟨by rw [← r.length]; exact lt_line c, F, Fb, env, fr, ok_ans (r := evE S.calm.Γ m env) ed fun v F1 H1 e1 r1 => ?_⟩
    exact q _ _ F1 H1 (fr.go e1) ((e1.reps r).snoc r1)
  · rw [if_neg (by simp [c])] at q
    exact q.elim
theorem gms_nil : GSs X [] (tGms S []) := GSs.imp gss_nil fun D ys σ H ⟨F, Fb, env, ds, fr, r, q⟩ => by
  rw [evGs] at q
  exact q ys σ F H fr.self r
theorem gms_cons {st : PySem.Stmt} {sts : List PySem.Stmt} {m : G} {ms : List G} (h1 : GS X st (tGm S m)) (h2 : GSs X sts (tGms S ms)) : GSs X (st :: sts) (tGms S (m :: ms)) := by
  refine GSs.imp (gss_cons h1 h2) fun D ys σ H ⟨F, Fb, env, ds, fr, r, q⟩ => ⟨F, Fb, env, ds, fr, r, ?_⟩
  rw [evGs] at q
  cases o : evG S.Γ m env ds with
  | nx e ds2 =>
    rw [o] at q
    exact fun ys' σ' F' H' g r' => ⟨F', Fb, e, ds2, g.fr, r', FinG.go q g⟩
  | bad =>
    rw [o] at q
    exact q
theorem fing_unlock {F Fb : Fz} {H : Hp} {σ : St} {env : Env} {D : GEnds} {o : GO} (l : List Nat) (fr : Fr S.Z F Fb H σ env) (q : FinG S F Fb H σ env D (o.onEnv (unlock env l))) : FinG S F (Fb.or (At env σ l)) H σ (onAll lock l env) D o := by
  cases o with
  | nx e ds => exact fun ys σ' F' H' k r => q ys σ' F' H' (fr.unlock_go l k) r
  | bad => exact q
theorem gm_for {tg iter : PySem.Expr} {body : List PySem.Stmt} {t : Tgt} {mi : E} {mb : List G} {pos : Pos} (hp : PassesOwn (model X.prog X.w) X.A X.env X.xe) (hc : X.calm = true) (hi : PI X tg iter (tI S.calm mi)) (hg : PG X tg (gT S.calm t)) (hb : GSs X body (tGms S mb))
    (hs : ∀ x, foldedSetIterable iter X.env x = pure x) : GS X (.For tg iter body [] pos) (tGm S (.fr t mi mb)) := by
  refine GS.imp (gs_for hp hc hi hg hb hs) fun D ys σ H ⟨F, Fb, env, dz, fr, rz, q⟩ => ?_
  rw [evG] at q
  obtain ⟨ds, ed, k⟩ := fin_go q
  refine ⟨F, Fb, env, fr, ok_ans (r := (evE S.calm.Γ mi env).bind items) ed fun J F1 H1 L e hL yl => ?_⟩
  have fr1 := fr.ext e
  have k1 := fing_unlock (pks mi) fr1 (FinG.go k (fr.go e))
  have fr2 := fr1.lock (pks mi)
  generalize hFb : Fb.or (At env σ (pks mi)) = Fb2 at k1 fr2
  generalize hev : onAll lock (pks mi) env = env2 at k1 fr2
  have hL2 : ∀ a, L a → F1 a ∨ Fb2 a := fun a l => by
    rw [← hFb]
    exact (hL a l).1.elim .inl fun z => .inr (z.elim .inl fun ⟨i, hi, o⟩ => .inr ⟨i, hi, o⟩)
  refine ⟨fun i n ys' σ' H' => n + i = ds.length ∧ ∃ F' e' dn, Go S.Z F1 Fb2 H1 σ env2 σ' F' H' e' ∧ Reps S.Z F' H' dn ys' ∧ FinG S F1 Fb2 H1 σ env2 D (evGFor (evGs S.Γ mb) (bindT t) env (ds.drop i) e' dn), ⟨ds.length, rfl, F1, env2, dz, fr2.self, e.reps rz, k1⟩, ?_⟩
  rintro i n ys' σ' H' ⟨hn, F', e', dn, g, rn, q⟩
  have y := yl F' H' g.st.fz (fun a o f z => g.st.ob a o (f.elim .inl (hL2 a)) z) g.st.th
  by_cases hi : i < ds.length
  · obtain ⟨go, yd⟩ := y.1 i ds[i] (List.getElem?_eq_getElem hi)
    rw [drop_at hi, evGFor] at q
    obtain ⟨e1, eb, q⟩ := fin_go q
    refine .inr ⟨go, fun ys' σ' H' => ∃ m', m' < n ∧ (m' + (i + 1) = ds.length ∧ ∃ F' e' dn, Go S.Z F1 Fb2 H1 σ env2 σ' F' H' e' ∧ Reps S.Z F' H' dn ys' ∧ FinG S F1 Fb2 H1 σ env2 D (evGFor (evGs S.Γ mb) (bindT t) env (ds.drop (i + 1)) e' dn)), fun _ _ _ h => h, fun x H3 yx => ?_⟩
    obtain ⟨F3, e3, r3⟩ := yd x H3 yx
    have g3 := g.trans (g.fr.go e3)
    refine ⟨F3, Fb2, e', ds[i], e1, g3.fr, r3, eb, fun σ4 fr4 len keep => ⟨F3, Fb2, e1, dn, fr4, e3.reps rn, ?_⟩⟩
    have g4 : Go S.Z F1 Fb2 H1 σ env2 σ4 F3 H3 e1 := g3.trans ⟨(Ext.refl g3.fr.th).step g3.fr.thb, fr4, fun j d z => by
      obtain ⟨z, nz⟩ := bindT_not _ _ _ _ j _ eb z ⟨(fun z => by cases z), (fun _ z => by cases z)⟩
      exact ⟨z, keep j nz⟩⟩
    refine FinG.go ?_ g4
    cases ho : evGs S.Γ mb e1 dn with
    | nx e2 dn2 =>
      rw [ho] at q
      exact fun ys2 σ' F' H' k r => ⟨n - 1, by omega, by omega, F', _, dn2, k.mask env, r, q⟩
    | bad =>
      rw [ho] at q
      exact q
  · have : i = ds.length := by omega
    subst this
    refine .inl ⟨y.2, ?_⟩
    rw [List.drop_of_length_le (Nat.le_refl _), evGFor] at q
    exact q ys' σ' F' H' g rn
end
/-! #### what a generator def promises -/
def spGF (Z : Wd) (ar : Nat) (run : List Slot → R (List D)) : SpG := fun vs H cont E => vs.length = ar ∧ ∃ (F : Fz) (as : List Slot), (∀ a, F a → H a ≠ none) ∧ ArgsOk Z F H as vs ∧
  match run as with
  | .ok ds => ∀ ys F' H', Ext F H F' H' → Reps Z F' H' ds ys → cont ys H'
  | _ => False
structure GenIs (X : Cx) (Z : Wd) (x : Str) (run : List Slot → R (List D)) (ar : Nat) : Prop where
  gl : ∃ k fa fd ps, GFn X.prog X.w X.K X.mg X.base k fa fd ps (spGF Z ar run) ∧ Room (k + 3) X.A ∧ X.mg x = some (.ref fa) ∧ PySem.W.keepIn X.K (.ref fa) = true ∧ Binds X.K fd ps []
section
variable {X : Cx} {S : Sit}
theorem s_glist {x : Str} {f ar : Nat} {e : PySem.Expr} {es : List PySem.Expr} {ms : List E} {p p2 pos pos2 : Pos} (hf : GenIs X S.Z x (S.Γ.gen f) ar) (hg : Gl X x) (hx : BltIs X "list") (hl : ms.length = ar)
    (ha : PA X (e :: es) (tAs S ms)) (hs : (e :: es).all notStar = true) (hd : (x == ("__debug__" : Str)) = false) : PE X (.Call (.Name "list" p) [.Call (.Name x p2) (e :: es) [] pos2] [] pos) (tE S (.glist f ms)) := by
  obtain ⟨k, fa, fd, ps, G, hr, hm, hk, hb⟩ := hf.gl
  rw [List.all_cons, Bool.and_eq_true] at hs
  have hp := pgen_call (p := p2) (pos' := pos2) (E := E0) G (hr.mono (by omega)) hg hm hk hb .nil ha hd (star_cons hs.1) (star_any hs.2)
  refine PE.imp (pe_listG hp passL (fun _ _ _ z => z.elim) hr hx.gl hx.no (by decide +kernel) (he := rfl)) fun σ H Q ⟨F, Fb, env, fr, q⟩ => ?_
  rw [evE, ans_bind] at q
  refine ⟨F, Fb, env, fr, q.with.mono fun as ⟨el, k⟩ vs F1 H1 e1 r1 => ?_⟩
  have hn := evAs_length el
  show spGF S.Z ar (S.Γ.gen f) (vs ++ []) H1 _ E0
  rw [List.append_nil]
  refine ⟨by rw [← r1.length]; omega, F1, as, e1.th, r1, ?_⟩
  rw [ans_bind] at k
  obtain ⟨ds, hq, k⟩ := nox_ok k
  rw [hq]
  unfold made at k
  obtain ⟨hz, k⟩ := k.ite
  intro ys F2 H2 e2 r2 p hp
  exact k _ F2 _ ((e1.trans e2).trans (Ext.new e2.th hp)) ⟨p, rfl, (e1.trans e2).back hp, fun f => e2.th p f hp, ys, upd_same, reps_upd (fun f => e2.th p f hp) r2⟩
end
structure GBodyCx (P : Program) (w : World) (K : PySem.W.Frag) (mg : Str → Option Value) (base : Heap) (N : List Str) (sc : Scope) (k : Nat) (X : Cx) : Prop where
  cx : BodyCx P w K mg base N sc k false (fun _ _ _ _ => False) X
  q : interactive X.env = false
section
variable {P : Program} {w : World} {K : PySem.W.Frag} {mg : Str → Option Value} {base : Heap}
theorem gen_ok {x qual : Str} {st : PySem.Stmt} {f : Addr} {fd : FuncData} {N ps : List Str} {k : Nat} {b : Body} {g : List G} {Z : Wd} {Γ : Glob} (F : Fun K x qual st f fd) (sc : GScope N ps (defScope st)) (hn : b.n = N.length) (hg : b.gen = some g)
    (body : ∀ (X : Cx), GBodyCx P w K mg base N (defScope st) k X → GSs X (defBody st) (tGms ⟨Z, Γ, fun _ _ _ _ => False⟩ g)) :
    GFn P w K mg base (k + 1) f fd ps (spGF Z ps.length (runG Γ b)) := by
  obtain ⟨oc, od, kV, doc, pm, an, cdv, ct, osl, rfl, lk, hcd⟩ := F.ex
  refine gfn_of lk hcd sc (fun vs H Q E h => h.1) fun A outer s H vs Q E pn hr h => ?_
  refine ⟨_, body _ ⟨⟨rfl, rfl, rfl, rfl, rfl, rfl, rfl, rfl, rfl, takes0, owns_gcx, hr, fun z => Bool.noConfusion z⟩, ?_⟩, ?_⟩
  · show interactive (PyProof.Rows.envOfC qual (defScope st) s.heap.objs.size f cdv) = false
    have : (PyProof.Rows.envOfC qual (defScope st) s.heap.objs.size f cdv).scope.kind = .function := sc.kind
    simp [interactive, this]
  · obtain ⟨hl, F, as, hF, ha, h⟩ := h
    unfold runG at h
    rw [hg] at h
    dsimp only at h
    refine ⟨F, _, _, [], fr_start (N := N) hF ha, rfl, ?_⟩
    rw [hn] at h
    have ext : ∀ F' H', Step F (fun a => H a ≠ none ∧ ¬ F a) H F' H' → Ext F H F' H' := fun F' H' g =>
      ⟨fun a o z => g.ob a o ((Classical.em (F a)).imp id fun f => ⟨some_ne z, f⟩) z, g.fz, fun a f => (g.nw a f).elim .inl fun n => (Classical.em (F a)).imp id fun nf => Classical.byContradiction fun z => n ⟨z, nf⟩, g.th⟩
    show FinG _ F _ H _ _ _ (evGs Γ g (as ++ List.replicate (N.length - as.length) .un) [])
    cases o : evGs Γ g (as ++ List.replicate (N.length - as.length) .un) [] with
    | nx e ds =>
      rw [o] at h
      exact fun ys σ' F' H' gg r => h ys F' H' (ext F' H' gg.st) r
    | bad =>
      rw [o] at h
      exact h.elim
end
end Mi
namespace Mi
open PySem L2
/-! ### which text a mini text is -/
structure Fd where
  nm : Str
  id : Nat
  fr : Bool
  ar : Nat
structure Ck where
  N : List Str
  fns : List Fd
  gens : List Fd
  keys : List Fd
  blts : List Str
  cst : List (Str × D)
  xcs : List Xd
  an : List Str
  lv : Nat
/-- a scope as the block has it, and as it is written -/
structure Sc where
  sc : Scope
  raw : Scope
  hot : Bool
  top : Bool
structure Cok (C : Ck) (s : Sc) (X : Cx) (S : Sit) : Prop where
  N : X.N = C.N
  nd : C.N.Nodup
  sc : X.env.scope = s.sc
  kind : s.sc.kind = .function
  cell : ∀ x, s.raw.names.lookup x = some .cell → X.fn x = true
  K : X.K = S.Z.K
  calm : s.hot = false → X.calm = true
  tk : Takes X S.W
  hu : X.A.units + 65 < cLine
  ow : PassesOwn (model X.prog X.w) X.A X.env X.xe
  fns : s.hot = false → ∀ f ∈ C.fns, FnIs X S.Z f.nm (S.Γ.call f.id) f.fr f.ar
  gens : s.hot = false → ∀ f ∈ C.gens, GenIs X S.Z f.nm (S.Γ.gen f.id) f.ar
  keys : s.hot = false → ∀ f ∈ C.keys, KeyIs X S.Z f.nm (S.Γ.call f.id)
  blts : ∀ x ∈ C.blts, X.mg x = none
  cst : ∀ p ∈ C.cst, ∃ v u, X.mg p.1 = some u ∧ RelV v u ∧ isCst p.2 v
  hotx : s.hot = true → HotX X S.Z
  topx : s.top = true → X.stack = X.env :: X.outer ∧ X.env.frame = some X.env.locals ∧ (∀ a c d, ¬ S.Z.ex a c d) ∧ Room C.lv X.A
  xcs : ∀ d ∈ C.xcs, XcIs X.K X.prog X.mg S.Z d
  xal : C.xcs.isEmpty = false → XcAll X.K S.Z
  an : ∀ k, S.Z.an k = C.an.getD k Str.empty
inductive Q where
  | e (s : Sc) (e : PySem.Expr) (m : E) | t (s : Sc) (e : PySem.Expr) (m : E) | w (s : Sc) (e : PySem.Expr) (m : E)
  | g (s : Sc) (e : PySem.Expr) (m : E) | r (s : Sc) (e : PySem.Expr) (m : E)
  | ls (s : Sc) (e : List PySem.Expr) (m : List E) | fs (s : Sc) (e : List PySem.Expr) (m : List E) | as (s : Sc) (e : List PySem.Expr) (m : List E)
  | o (s : Sc) (e : Option PySem.Expr) (m : Option E) | i (s : Sc) (tg e : PySem.Expr) (m : E)
  | tg (s : Sc) (e : PySem.Expr) (t : Tgt) | tgs (s : Sc) (e : List PySem.Expr) (t : List Tgt) | ts (s : Sc) (e : List PySem.Expr) (m : List E)
  | s (s : Sc) (e : PySem.Stmt) (m : S) | ss (s : Sc) (e : List PySem.Stmt) (m : List S)
def Holds (C : Ck) : Q → Prop
  | .e s e m => ∀ X S, Cok C s X S → PE X e (tE S m)
  | .t s e m => ∀ X S, Cok C s X S → PT X e (tT S m)
  | .w s e m => ∀ X S, Cok C s X S → PW X e (tT S m)
  | .g s e m => ∀ X S, Cok C s X S → PE X e (tG S m)
  | .r s e m => ∀ X S, Cok C s X S → PE X e (tR S m)
  | .ls s e m => ∀ X S, Cok C s X S → PA X e (tLs S m)
  | .fs s e m => ∀ X S, Cok C s X S → PA X e (tFs S m)
  | .as s e m => ∀ X S, Cok C s X S → PA X e (tAs S m)
  | .o s e m => ∀ X S, Cok C s X S → PO X e (tO S m)
  | .i s tg e m => ∀ X S, Cok C s X S → PI X tg e (tI S m)
  | .tg s e t => ∀ X S, Cok C s X S → PG X e (gT S t)
  | .tgs s e t => ∀ X S, Cok C s X S → PGs X e (gTs S t)
  | .ts s e m => ∀ X S, Cok C s X S → PTs X e (tTs S m)
  | .s s e m => ∀ X S, Cok C s X S → PS X e (tS S m)
  | .ss s e m => ∀ X S, Cok C s X S → PSs X e (tSs S m)
/-! #### small checks -/
def visB (s : Sc) (x : Str) : Bool := match s.sc.names.lookup x with
  | some .local => true
  | some .cell => true
  | some .free => true
  | _ => false
def dbg (x : Str) : Bool := !(x == ("__debug__" : Str))
def nameB (C : Ck) (s : Sc) (i : Nat) (x : Str) : Bool := decide (C.N[i]? = some x) && visB s x && dbg x && !(x == ("__classdict__" : Str))
def glB (s : Sc) (x : Str) : Bool := decide (s.sc.names.lookup x = some .globalImplicit)
def bltB (C : Ck) (s : Sc) (x : Str) : Bool := glB s x && decide (x ∈ C.blts)
def setB (C : Ck) (s : Sc) (i : Nat) (x : Str) : Bool := decide (C.N[i]? = some x) && (decide (s.sc.names.lookup x = some .local) || (decide (s.sc.names.lookup x = some .cell) && decide (s.raw.names.lookup x = some .cell)))
def notLent (m : E) : Bool := match m with
  | .peek _ => false
  | _ => true
theorem not_lent {m : E} (h : notLent m = true) : kd m ≠ .lent := by
  have go : ∀ b : Bool, (if b = true then Kd.fresh else Kd.val) ≠ Kd.lent := fun b => by cases b <;> exact fun z => by cases z
  cases m <;> first | (cases h; done) | exact go true | exact go false | exact go _
def noSw : PySem.Expr → Bool
  | .ListComp .. => false
  | .SetComp .. => false
  | .DictComp .. => false
  | _ => true
theorem no_sw {e : PySem.Expr} {t : Option PySem.Expr} {l : Nat} {env : PySem.Env} (h : noSw e = true) : swapsWith e t l env = pure false := by
  cases e <;> first | rfl | cases h
def notSl : PySem.Expr → Bool
  | .Slice .. => false
  | _ => true
theorem plain_ix {e : PySem.Expr} (h : notSl e = true) : PlainIx e := by
  intro o i
  cases e <;> first | rfl | cases h
def notSet : PySem.Expr → Bool
  | .Set .. => false
  | _ => true
theorem not_set {e : PySem.Expr} {env : PySem.Env} (h : notSet e = true) (x : Value) : foldedSetIterable e env x = pure x := by
  cases e <;> first | rfl | cases h
section
variable {C : Ck} {s : Sc} {X : Cx} {S : Sit}
theorem vis_of (k : Cok C s X S) {x : Str} (h : visB s x = true) : Vis X.env.scope x := by
  unfold visB at h
  unfold Vis
  rw [k.sc]
  split at h <;> rename_i e
  · exact .inl e
  · exact .inr (.inl e)
  · exact .inr (.inr e)
  · cases h
theorem dbg_of {x : Str} (h : dbg x = true) : (x == ("__debug__" : Str)) = false := by
  unfold dbg at h
  simpa using h
theorem name_of (k : Cok C s X S) {i : Nat} {x : Str} (h : nameB C s i x = true) : X.N[i]? = some x ∧ Vis X.env.scope x ∧ (x == ("__debug__" : Str)) = false ∧ (x == ("__classdict__" : Str)) = false := by
  unfold nameB at h
  simp only [Bool.and_eq_true, decide_eq_true_eq] at h
  obtain ⟨⟨⟨h1, h2⟩, h3⟩, h4⟩ := h
  exact ⟨by rw [k.N]; exact h1, vis_of k h2, dbg_of h3, by simpa using h4⟩
theorem gl_of (k : Cok C s X S) {x : Str} (h : glB s x = true) : Gl X x := by
  show X.env.scope.names.lookup x = _
  rw [k.sc]
  exact of_decide_eq_true h
theorem blt_of (k : Cok C s X S) {x : Str} (h : bltB C s x = true) : BltIs X x := by
  unfold bltB at h
  rw [Bool.and_eq_true] at h
  exact ⟨gl_of k h.1, k.blts x (of_decide_eq_true h.2)⟩
theorem set_of (k : Cok C s X S) {i : Nat} {x : Str} (h : setB C s i x = true) : X.N[i]? = some x ∧ L2.Loc X.env.scope x ∧ (X.fn x = true ∨ X.env.scope.names.lookup x = some .local) := by
  unfold setB at h
  simp only [Bool.and_eq_true, Bool.or_eq_true, decide_eq_true_eq] at h
  obtain ⟨h1, h2⟩ := h
  unfold L2.Loc
  rw [k.sc, k.N]
  rcases h2 with h2 | ⟨h2, h3⟩
  · exact ⟨h1, .inl h2, .inr h2⟩
  · exact ⟨h1, .inr h2, .inl (k.cell x h3)⟩
theorem k_nd (k : Cok C s X S) : X.N.Nodup := by
  rw [k.N]
  exact k.nd
end
/-! #### expressions -/
def opB : Operator → Bop → Bool
  | .Add, .add => true
  | .Sub, .sub => true
  | .Mult, .mul => true
  | .FloorDiv, .fdiv => true
  | .Mod, .mod => true
  | .Pow, .pow => true
  | _, _ => false
def copB : CmpOp → Cop → Bool
  | .Eq, .eq => true
  | .NotEq, .ne => true
  | .Lt, .lt => true
  | .LtE, .le => true
  | .Gt, .gt => true
  | .GtE, .ge => true
  | .In, .isin => true
  | .NotIn, .notin => true
  | _, _ => false
def cstB : Const → D → Bool
  | .none, .non => true
  | .bool b, .bl c => b == c
  | .int i, .int j => decide (i = j)
  | .str x, .str y => decide (x = y)
  | _, _ => false
def cstD : D → D → Bool
  | .non, .non => true
  | .bl b, .bl c => b == c
  | .int i, .int j => decide (i = j)
  | .str x, .str y => decide (x = y)
  | _, _ => false
theorem cst_d {c d : D} (h : cstD c d = true) : c = d := by
  cases c <;> cases d <;> first | rfl | (cases h; done) | (simp [cstD] at h; rw [h])
/-- the block's own names with their slots -/
def ownP (C : Ck) (l : List Nat) : List (Str × Nat) := l.map fun i => (C.N.getD i Str.empty, i)
theorem ownP_map (C : Ck) (l : List Nat) : (ownP C l).map (·.2) = l := by
  unfold ownP
  rw [List.map_map]
  exact List.map_id l
def tyB (x : Str) (t : Ty) : Bool := match t with
  | .non => false
  | .bool => decide (x = ("bool" : Str))
  | .int => decide (x = ("int" : Str))
  | .str => decide (x = ("str" : Str))
  | .tuple => decide (x = ("tuple" : Str))
  | .list => decide (x = ("list" : Str))
def biB (x : Str) (b : Bi) : Bool := match b with
  | .len => decide (x = ("len" : Str))
  | .int => decide (x = ("int" : Str))
  | .list => decide (x = ("list" : Str))
  | .tuple => decide (x = ("tuple" : Str))
  | .sum => decide (x = ("sum" : Str))
  | .abs => decide (x = ("abs" : Str))
  | .min2 => decide (x = ("min" : Str))
  | .max2 => decide (x = ("max" : Str))
  | .min => decide (x = ("min" : Str))
  | .sorted => decide (x = ("sorted" : Str))
  | _ => false
def fnB (C : Ck) (x : Str) (fr : Bool) (f n : Nat) : Bool := C.fns.any fun d => decide (d.nm = x) && d.id == f && d.fr == fr && d.ar == n
def genB (C : Ck) (x : Str) (f n : Nat) : Bool := C.gens.any fun d => decide (d.nm = x) && d.id == f && d.ar == n
def keyB (C : Ck) (x : Str) (f : Nat) : Bool := C.keys.any fun d => decide (d.nm = x) && d.id == f
def xcB (C : Ck) (x : Str) (c : Nat) (ok : Xd → Bool) : Bool := C.xcs.any fun d => decide (d.nm = x) && d.id == c && ok d
theorem xc_of {C : Ck} {x : Str} {c : Nat} {ok : Xd → Bool} (h : xcB C x c ok = true) : ∃ d ∈ C.xcs, d.nm = x ∧ d.id = c ∧ ok d = true ∧ C.xcs.isEmpty = false := by
  unfold xcB at h
  obtain ⟨d, hd, z⟩ := List.any_eq_true.mp h
  simp only [Bool.and_eq_true, decide_eq_true_eq, beq_iff_eq] at z
  refine ⟨d, hd, z.1.1, z.1.2, z.2, ?_⟩
  cases hl : C.xcs with
  | nil =>
    rw [hl] at hd
    cases hd
  | cons _ _ => rfl
def ckCall (C : Ck) (rec : Q → Bool) (s : Sc) (x : Str) (e : PySem.Expr) (es : List PySem.Expr) : E → Bool
  | .call fr f ms => !s.hot && glB s x && fnB C x fr f ms.length && dbg x && (e :: es).all notStar && rec (.as s (e :: es) ms)
  | .bi .sset [m] => !s.hot && decide (x = ("sorted" : Str)) && bltB C s x && (match e, es with
      | .Call (.Name y _) [e1] [] _, [] => decide (y = ("set" : Str)) && bltB C s y && notStar e1 && rec (.ls s [e1] [m])
      | _, _ => false)
  | .xisi i c => s.hot && decide (x = ("isinstance" : Str)) && bltB C s x && (match e, es with
      | .Name y _, [.Name z _] => nameB C s i y && glB s z && dbg z && xcB C z c fun _ => true
      | _, _ => false)
  | .bi b ms => !s.hot && biB x b && bltB C s x && (e :: es).all notStar && rec (.ls s (e :: es) ms)
  | .isi t m => decide (x = ("isinstance" : Str)) && bltB C s x && notStar e && (match es with
      | [.Name y _] => tyB y t && bltB C s y
      | _ => false) && rec (.e s e m)
  | .glist f ms => !s.hot && decide (x = ("list" : Str)) && bltB C s x && (match e, es with
      | .Call (.Name y _) (e1 :: es1) [] _, [] => glB s y && genB C y f ms.length && dbg y && (e1 :: es1).all notStar && rec (.as s (e1 :: es1) ms)
      | _, _ => false)
  | _ => false
def blkS (s : Sc) (scope : Scope) : Sc := ⟨relS scope s.sc, scope, false, false⟩
def hotS (s : Sc) : Sc := ⟨s.sc, s.raw, true, false⟩
def ckComp (C : Ck) (rec : Q → Bool) (s : Sc) (elt : PySem.Expr) (scope : Scope) : List Comprehension → E → Bool
  | [⟨tg, iter, ifs, 0⟩], .comp me t mi mifs own => blkC C.N s.sc scope (ownP C own) && (tslots t).all (fun i => decide (i ∈ own)) && notSet iter && notLent me && rec (.i s tg iter mi) && rec (.tg (blkS s scope) tg t) && rec (.ts (blkS s scope) ifs mifs) && rec (.e (blkS s scope) elt me)
  | [⟨tg, iter, [], 0⟩, ⟨tg1, iter1, ifs1, 0⟩], .comp2 me t mi t1 mi1 mifs1 own own1 => blkC C.N s.sc scope (ownP C own) && (tslots t).all (fun i => decide (i ∈ own)) && own1.all (fun i => decide (i ∈ own)) && (tslots t1).all (fun i => decide (i ∈ own1)) && notSet iter && notSet iter1 && notLent me && rec (.i s tg iter mi) && rec (.tg (blkS s scope) tg t) &&
      rec (.i (blkS s scope) tg1 iter1 mi1) && rec (.tg (blkS s scope) tg1 t1) && rec (.ts (blkS s scope) ifs1 mifs1) && rec (.e (blkS s scope) elt me)
  | _, _ => false
def ckE (C : Ck) (rec : Q → Bool) (s : Sc) : PySem.Expr → E → Bool
  | .Name x _, m => (match m with
      | .var i => nameB C s i x
      | .peek i => nameB C s i x
      | .cst d => glB s x && dbg x && C.cst.any fun p => decide (p.1 = x) && cstD p.2 d
      | _ => false)
  | .Constant c _ _, m => (match m with
      | .cst d => cstB c d
      | _ => false)
  | .BinOp a op b _, m => (match m with
      | .bin o ma mb => opB op o && rec (.e s a ma) && rec (.e s b mb)
      | _ => false)
  | .UnaryOp op a _, m => (match op, m with
      | .USub, .neg ma => rec (.e s a ma)
      | .Not, .not ma => rec (.e s a ma)
      | _, _ => false)
  | .Compare a ops bs _, m => (match ops, bs, m with
      | [.Is], [.Constant .none _ _], .isN false ma => rec (.e s a ma)
      | [.IsNot], [.Constant .none _ _], .isN true ma => rec (.e s a ma)
      | [op], [b], .cmp o ma mb => copB op o && !behindInMarks op b && rec (.e s a ma) && rec (.e s b mb)
      | [op, op'], [b, c], .chain o o' ma mb mc => copB op o && copB op' o' && !lastMarks [op, op'] [b, c] && rec (.e s a ma) && rec (.e s b mb) && rec (.e s c mc)
      | _, _, _ => false)
  | .BoolOp op vs p, m => (match op, vs, m with
      | _, [a], m => rec (.e s a m)
      | .And, a :: b :: r, .and ma mb => notLent mb && rec (.e s a ma) && rec (.e s (.BoolOp .And (b :: r) p) mb)
      | .Or, a :: b :: r, .or ma mb => notLent mb && rec (.e s a ma) && rec (.e s (.BoolOp .Or (b :: r) p) mb)
      | _, _, _ => false)
  | .IfExp c a b _, m => (match m with
      | .ife mc ma mb => notLent ma && notLent mb && rec (.t s c mc) && rec (.e s a ma) && rec (.e s b mb)
      | _ => false)
  | .Tuple es _ _, m => (match m with
      | .tup ms => decide (ms.length ≤ 1000000) && rec (.fs s es ms)
      | _ => false)
  | .List es _, m => (match m with
      | .lst ms => decide (ms.length ≤ 1000000) && rec (.fs s es ms)
      | _ => false)
  | .Subscript a b _, m => (match b, m with
      | .Slice lo hi none _, .sl ma ml mh => rec (.e s a ma) && rec (.o s lo ml) && rec (.o s hi mh)
      | .Slice none none (some (.UnaryOp .USub (.Constant (.int 1) _ _) _)) _, .rev ma => rec (.e s a ma)
      | b, .idx ma mb => notSl b && rec (.e s a ma) && rec (.e s b mb)
      | _, _ => false)
  | .ListComp elt gs scope _, m => !s.hot && ckComp C rec s elt scope gs m
  | .Attribute (.Name x _) a _, m => (match m with
      | .xattr i k => s.hot && nameB C s i x && decide (C.an.getD k Str.empty = a) && !C.xcs.isEmpty
      | _ => false)
  | .Call f args kws _, m => (match f, args, kws with
      | .Name x _, e :: es, [] => ckCall C rec s x e es m
      | .Name x _, [e], [⟨some kw, .Name y _, _⟩] => (match m with
          | .srt f ma => !s.hot && decide (x = ("sorted" : Str)) && decide (kw = ("key" : Str)) && bltB C s x && glB s y && dbg y && notStar e && keyB C y f && rec (.e s e ma)
          | _ => false)
      | _, _, _ => false)
  | _, _ => false
theorem ck_and {a b : Bool} : (a && b) = true ↔ a = true ∧ b = true := by simp
section
variable {C : Ck} {rec : Q → Bool} (ih : ∀ q, rec q = true → Holds C q) {s : Sc} {X : Cx} {S : Sit} (k : Cok C s X S)
include ih k
theorem call_ok {x : Str} {e : PySem.Expr} {es : List PySem.Expr} {m : E} {p pos : Pos} (h : ckCall C rec s x e es m = true) : PE X (.Call (.Name x p) (e :: es) [] pos) (tE S m) := by
  unfold ckCall at h
  split at h
  · rename_i fr f ms
    simp only [ck_and, Bool.not_eq_true'] at h
    obtain ⟨⟨⟨⟨⟨h0, h1⟩, h2⟩, h3⟩, h4⟩, h5⟩ := h
    unfold fnB at h2
    obtain ⟨d, hd, z⟩ := List.any_eq_true.mp h2
    simp only [ck_and, decide_eq_true_eq, beq_iff_eq] at z
    obtain ⟨⟨⟨z1, z2⟩, z3⟩, z4⟩ := z
    have q := k.fns h0 d hd
    rw [z1, z2, z3] at q
    exact s_call k.tk q (gl_of k h1) z4.symm (ih _ h5 X S k) h4 (dbg_of h3)
  · rename_i m
    simp only [ck_and, Bool.not_eq_true'] at h
    obtain ⟨⟨⟨h0, h1⟩, h2⟩, h3⟩ := h
    have e1 := of_decide_eq_true h1
    subst e1
    split at h3
    · simp only [ck_and] at h3
      obtain ⟨⟨⟨j1, j2⟩, j3⟩, j4⟩ := h3
      have e2 := of_decide_eq_true j1
      subst e2
      exact s_sset k.hu (k.calm h0) k.K (blt_of k h2) (blt_of k j2) (ih _ j4 X S k) j3
    · cases h3
  · rename_i i c
    simp only [ck_and] at h
    obtain ⟨⟨⟨h0, h1⟩, h2⟩, h3⟩ := h
    have e1 := of_decide_eq_true h1
    subst e1
    split at h3
    · simp only [ck_and] at h3
      obtain ⟨⟨⟨j1, j2⟩, j3⟩, j4⟩ := h3
      obtain ⟨d, hd, rfl, rfl, _, he⟩ := xc_of j4
      obtain ⟨a, b, c, d'⟩ := name_of k j1
      exact s_xisi (k.hotx h0) (k.xcs d hd) (k.xal he) (blt_of k h2) (gl_of k j2) (dbg_of j3) a b c d'
    · cases h3
  · rename_i b ms _
    simp only [ck_and, Bool.not_eq_true'] at h
    obtain ⟨⟨⟨⟨h0, h1⟩, h2⟩, h3⟩, h4⟩ := h
    have q := blt_of k h2
    have a := ih _ h4 X S k
    unfold biB at h1
    split at h1 <;> first
      | (have e1 := of_decide_eq_true h1; subst e1; first
          | exact s_len k.K q a h3
          | exact s_int1 q a h3
          | exact s_list1 k.K q a h3
          | exact s_tuple1 k.K q a h3
          | exact s_sum k.K (k.calm h0) q a h3
          | exact s_abs q a h3
          | exact s_min2 (k.calm h0) q a h3
          | exact s_max2 (k.calm h0) q a h3
          | exact s_min (k.calm h0) k.hu k.K q a h3
          | exact s_sorted k.hu k.K q a h3)
      | cases h1
  · rename_i t m
    simp only [ck_and] at h
    obtain ⟨⟨⟨⟨h1, h2⟩, h3⟩, h4⟩, h5⟩ := h
    have e1 := of_decide_eq_true h1
    subst e1
    split at h4
    · rename_i y p2
      simp only [ck_and] at h4
      have q := blt_of k h4.2
      have t1 := h4.1
      refine s_isi k.K (blt_of k h2) q.gl q.no ?_ ?_ ?_ (ih _ h5 X S k) h3
      all_goals
        (unfold tyB at t1; cases t <;> first | (cases t1; done) | (have e2 := of_decide_eq_true t1; subst e2; decide +kernel))
    · cases h4
  · rename_i f ms
    simp only [ck_and, Bool.not_eq_true'] at h
    obtain ⟨⟨⟨h0, h1⟩, h2⟩, h3⟩ := h
    have e1 := of_decide_eq_true h1
    subst e1
    split at h3
    · simp only [ck_and] at h3
      obtain ⟨⟨⟨⟨h3, h4⟩, h5⟩, h6⟩, h7⟩ := h3
      unfold genB at h4
      obtain ⟨d, hd, z⟩ := List.any_eq_true.mp h4
      simp only [ck_and, decide_eq_true_eq, beq_iff_eq] at z
      obtain ⟨⟨z1, z2⟩, z3⟩ := z
      have q := k.gens h0 d hd
      rw [z1, z2] at q
      exact s_glist q (gl_of k h3) (blt_of k h2) z3.symm (ih _ h7 X S k) h6 (dbg_of h5)
    · cases h3
  · cases h
theorem blk_cok (h0 : s.hot = false) {scope : Scope} (hk : scope.kind = .function) (s0 : Shared) (H : Hp) (c : Addr) (cl : List (Str × Addr)) (fp : List Addr) : Cok C (blkS s scope) (X.blk s0 H scope (compEnvC scope cl c X.env) fp) S.calm := by
  refine ⟨k.N, k.nd, ?_, ?_, fun x h => ?_, k.K, fun _ => k.calm h0, takes0, k.hu, PassesOwn.never, fun _ f hf => ⟨(k.fns h0 f hf).gl⟩, fun _ f hf => ⟨(k.gens h0 f hf).gl⟩, fun _ f hf => ⟨(k.keys h0 f hf).gl⟩, k.blts, k.cst, fun z => Bool.noConfusion (show false = true from z), fun z => Bool.noConfusion (show false = true from z), k.xcs, k.xal, k.an⟩
  · show relS scope X.env.scope = relS scope s.sc
    rw [k.sc]
  · exact hk
  · show (scope.names.lookup x == some .cell) = true
    have h : scope.names.lookup x = some .cell := h
    rw [h]
    rfl
theorem comp_ok (h0 : s.hot = false) {elt : PySem.Expr} {gs : List Comprehension} {scope : Scope} {m : E} {pos : Pos} (h : ckComp C rec s elt scope gs m = true) : PE X (.ListComp elt gs scope pos) (tE S m) := by
  unfold ckComp at h
  split at h
  · rename_i tg iter ifs me t mi mifs own
    simp only [ck_and] at h
    obtain ⟨⟨⟨⟨⟨⟨⟨h1, h2⟩, h3⟩, h4⟩, h5⟩, h6⟩, h7⟩, h8⟩ := h
    have ok : BlkOk X.N X.env.scope scope (ownP C own) := by
      rw [k.N, k.sc]
      exact blkOk_by h1
    have q := s_comp (pos := pos) (k.calm h0) (k_nd k) (ih _ h5 X S k) ok (fun i hi => by
      rw [ownP_map]
      exact of_decide_eq_true (List.all_eq_true.mp h2 i hi)) (fun s0 H c cl fp => ih _ h6 _ _ (blk_cok ih k h0 ok.kind s0 H c cl fp)) (fun s0 H c cl fp => ih _ h7 _ _ (blk_cok ih k h0 ok.kind s0 H c cl fp))
      (fun s0 H c cl fp => frz_of (ih _ h8 _ _ (blk_cok ih k h0 ok.kind s0 H c cl fp)) (not_lent h4)) (not_set h3)
    rw [ownP_map] at q
    exact q
  · rename_i tg iter tg1 iter1 ifs1 me t mi t1 mi1 mifs1 own own1
    simp only [ck_and] at h
    obtain ⟨⟨⟨⟨⟨⟨⟨⟨⟨⟨⟨⟨h1, h2⟩, h3⟩, h4⟩, h5⟩, h6⟩, h7⟩, h8⟩, h9⟩, h10⟩, h11⟩, h12⟩, h13⟩ := h
    have ok : BlkOk X.N X.env.scope scope (ownP C own) := by
      rw [k.N, k.sc]
      exact blkOk_by h1
    have q := s_comp2 (pos := pos) (vs1 := own1) (k.calm h0) (k_nd k) (ih _ h8 X S k) ok (fun i hi => by
      rw [ownP_map]
      exact of_decide_eq_true (List.all_eq_true.mp h3 i hi)) (fun i hi => by
      rw [ownP_map]
      exact of_decide_eq_true (List.all_eq_true.mp h2 i hi)) (fun i hi => of_decide_eq_true (List.all_eq_true.mp h4 i hi))
      (fun s0 H c cl fp => ih _ h9 _ _ (blk_cok ih k h0 ok.kind s0 H c cl fp)) (fun s0 H c cl fp => ts_nil)
      (fun s0 H c cl fp => ih _ h10 _ _ (blk_cok ih k h0 ok.kind s0 H c cl fp)) (fun s0 H c cl fp => ih _ h11 _ _ (blk_cok ih k h0 ok.kind s0 H c cl fp)) (fun s0 H c cl fp => ih _ h12 _ _ (blk_cok ih k h0 ok.kind s0 H c cl fp))
      (fun s0 H c cl fp => frz_of (ih _ h13 _ _ (blk_cok ih k h0 ok.kind s0 H c cl fp)) (not_lent h7)) (not_set h5) (fun env x => not_set h6 x)
    rw [ownP_map] at q
    exact q
  · cases h
theorem cop_ok {op : CmpOp} {o : Cop} (h : copB op o = true) : CopR X S op o := by
  have hu := k.hu
  unfold copB at h
  split at h
  · exact c_eq (by omega) k.K
  · exact c_ne (by omega) k.K
  · exact c_lt (by omega) k.K
  · exact c_le (by omega) k.K
  · exact c_gt (by omega) k.K
  · exact c_ge (by omega) k.K
  · exact c_isin hu k.K
  · exact c_notin hu k.K
  · cases h
/-- a comparison, as a value and as a test -/
theorem cmp_ok {a : PySem.Expr} {ops : List CmpOp} {bs : List PySem.Expr} {m : E} {pos : Pos} (h : ckE C rec s (.Compare a ops bs pos) m = true) : Both X (.Compare a ops bs pos) S m := by
  unfold ckE at h
  dsimp only at h
  split at h
  · exact s_isN (ih _ h X S k)
  · exact s_notN (ih _ h X S k)
  · simp only [ck_and, Bool.not_eq_true'] at h
    obtain ⟨⟨⟨h1, h2⟩, h3⟩, h4⟩ := h
    exact s_cmp (cop_ok ih k h1) (ih _ h3 X S k) (ih _ h4 X S k) h2
  · simp only [ck_and, Bool.not_eq_true'] at h
    obtain ⟨⟨⟨⟨⟨h1, h2⟩, h3⟩, h4⟩, h5⟩, h6⟩ := h
    exact s_chain (cop_ok ih k h1) (cop_ok ih k h2) (ih _ h4 X S k) (ih _ h5 X S k) (ih _ h6 X S k) h3
  · cases h
theorem e_ok {e : PySem.Expr} {m : E} (h : ckE C rec s e m = true) : PE X e (tE S m) := by
  have h0 := h
  unfold ckE at h
  split at h
  · split at h
    · obtain ⟨a, b, c, d⟩ := name_of k h
      exact s_var a b c d
    · obtain ⟨a, b, c, d⟩ := name_of k h
      exact s_peek a b c d
    · simp only [ck_and] at h
      obtain ⟨⟨h1, h2⟩, h3⟩ := h
      obtain ⟨p, hp, z⟩ := List.any_eq_true.mp h3
      simp only [ck_and, decide_eq_true_eq] at z
      obtain ⟨v, u, g1, g2, g3⟩ := k.cst p hp
      rw [z.1] at g1
      rw [cst_d z.2] at g3
      exact s_cst g3 (pe_glob (gl_of k h1) g1 g2 (dbg_of h2))
    · cases h
  · split at h
    · unfold cstB at h
      split at h
      · exact s_cst (d := .non) (v := .non) rfl pe_non
      · have e := eq_of_beq h
        subst e
        exact s_cst (d := .bl _) rfl pe_bl
      · have e := of_decide_eq_true h
        subst e
        exact s_cst (d := .int _) rfl pe_int
      · have e := of_decide_eq_true h
        subst e
        exact s_cst (d := .str _) rfl pe_str
      · cases h
    · cases h
  · split at h
    · simp only [ck_and] at h
      obtain ⟨⟨h1, h2⟩, h3⟩ := h
      have a := ih _ h2 X S k
      have b := ih _ h3 X S k
      unfold opB at h1
      split at h1
      · exact s_add a b
      · exact s_sub a b
      · exact s_mul a b
      · exact s_fdiv a b
      · exact s_mod a b
      · exact s_pow a b
      · cases h1
    · cases h
  · split at h
    · exact s_neg (ih _ h X S k)
    · exact s_not k.K (ih _ h X S k)
    · cases h
  · exact (cmp_ok ih k h0).1
  · split at h
    · exact pe_one (ih _ h X S k)
    · simp only [ck_and] at h
      obtain ⟨⟨h1, h2⟩, h3⟩ := h
      exact s_and (ih _ h2 X S k) (ih _ h3 X S k) (not_lent h1)
    · simp only [ck_and] at h
      obtain ⟨⟨h1, h2⟩, h3⟩ := h
      exact s_or (ih _ h2 X S k) (ih _ h3 X S k) (not_lent h1)
    · cases h
  · split at h
    · simp only [ck_and] at h
      obtain ⟨⟨⟨⟨h1, h2⟩, h3⟩, h4⟩, h5⟩ := h
      exact s_ife (ih _ h3 X S k) (ih _ h4 X S k) (ih _ h5 X S k) (not_lent h1) (not_lent h2)
    · cases h
  · split at h
    · simp only [ck_and, decide_eq_true_eq] at h
      exact s_tup (ih _ h.2 X S k) h.1
    · cases h
  · split at h
    · simp only [ck_and, decide_eq_true_eq] at h
      exact s_lst (ih _ h.2 X S k) h.1
    · cases h
  · split at h
    · simp only [ck_and] at h
      obtain ⟨⟨h1, h2⟩, h3⟩ := h
      exact s_sl k.K (ih _ h1 X S k) (ih _ h2 X S k) (ih _ h3 X S k)
    · exact s_rev k.K (ih _ h X S k)
    · simp only [ck_and] at h
      obtain ⟨⟨h1, h2⟩, h3⟩ := h
      exact s_idx k.K (ih _ h2 X S k) (ih _ h3 X S k) (plain_ix h1)
    · cases h
  · simp only [ck_and, Bool.not_eq_true'] at h
    exact comp_ok ih k h.1 h.2
  · split at h
    · simp only [ck_and, Bool.not_eq_true', decide_eq_true_eq] at h
      obtain ⟨⟨⟨h0, h1⟩, h2⟩, h3⟩ := h
      obtain ⟨a, b, c, d⟩ := name_of k h1
      rw [← h2, ← k.an]
      exact s_xattr (k.hotx h0) k.K (k.xal h3) a b c d
    · cases h
  · split at h
    · exact call_ok ih k h
    · split at h
      · simp only [ck_and, Bool.not_eq_true'] at h
        obtain ⟨⟨⟨⟨⟨⟨⟨⟨hc0, h1⟩, h2⟩, h3⟩, h4⟩, h5⟩, h6⟩, h7⟩, h8⟩ := h
        have e1 := of_decide_eq_true h1
        subst e1
        have e2 := of_decide_eq_true h2
        subst e2
        unfold keyB at h7
        obtain ⟨d, hd, z⟩ := List.any_eq_true.mp h7
        simp only [ck_and, decide_eq_true_eq, beq_iff_eq] at z
        have q := k.keys hc0 d hd
        rw [z.1, z.2] at q
        exact s_srt k.hu k.K (blt_of k h3) q (gl_of k h4) (dbg_of h5) (ih _ h8 X S k) h6
      · cases h
    · cases h
  · cases h
end
end Mi
namespace Mi
open PySem L2
/-! #### tests, arguments, sources, targets -/
def plainT : PySem.Expr → Bool
  | .UnaryOp _ _ _ => false
  | .BoolOp .. => false
  | .IfExp .. => false
  | .Compare .. => false
  | _ => true
theorem plain_t {e : PySem.Expr} {env : PySem.Env} (h : plainT e = true) (whole : Sem Value) : isTrue e env whole = (do let v ← whole; standAt e.pos; holding [v] (truthy v)) := by
  cases e <;> first | rfl | cases h
def ckT (C : Ck) (rec : Q → Bool) (s : Sc) (e : PySem.Expr) (m : E) : Bool := match e, m with
  | .UnaryOp .Not a _, .not ma => rec (.t s a ma)
  | .BoolOp _ _ _, m => rec (.w s e m)
  | .Compare a ops bs p, m => ckE C rec s (.Compare a ops bs p) m
  | e, .tru m => rec (.t s e m)
  | e, m => plainT e && rec (.e s e m)
def ckW (rec : Q → Bool) (s : Sc) (e : PySem.Expr) (m : E) : Bool := match e, m with
  | .BoolOp _ [a] _, m => rec (.t s a m)
  | .BoolOp .And (a :: b :: r) p, .and ma mb => rec (.t s a ma) && rec (.w s (.BoolOp .And (b :: r) p) mb)
  | .BoolOp .Or (a :: b :: r) p, .or ma mb => rec (.t s a ma) && rec (.w s (.BoolOp .Or (b :: r) p) mb)
  | _, _ => false
def ckG (C : Ck) (rec : Q → Bool) (s : Sc) (e : PySem.Expr) (m : E) : Bool := match e, m with
  | .Name x _, .peek i => nameB C s i x
  | e, m => notLent m && rec (.e s e m)
def ckLs (rec : Q → Bool) (s : Sc) (es : List PySem.Expr) (ms : List E) : Bool := match es, ms with
  | [], [] => true
  | e :: es, m :: ms => notStar e && rec (.e s e m) && rec (.ls s es ms)
  | _, _ => false
def ckFs (rec : Q → Bool) (s : Sc) (es : List PySem.Expr) (ms : List E) : Bool := match es, ms with
  | [], [] => true
  | e :: es, m :: ms => notStar e && notLent m && rec (.e s e m) && rec (.fs s es ms)
  | _, _ => false
def ckAs (rec : Q → Bool) (s : Sc) (es : List PySem.Expr) (ms : List E) : Bool := match es, ms with
  | [], [] => true
  | e :: es, m :: ms => notStar e && rec (.g s e m) && rec (.as s es ms)
  | _, _ => false
def ckO (rec : Q → Bool) (s : Sc) (e : Option PySem.Expr) (m : Option E) : Bool := match e, m with
  | none, none => true
  | some e, some m => rec (.e s e m)
  | _, _ => false
def pkB (ma mb : E) : Bool := (pk ma).all (fun i => decide (i ∈ pks (.zip ma mb))) && (pk mb).all (fun i => decide (i ∈ pks (.zip ma mb)))
def ckI (C : Ck) (rec : Q → Bool) (s : Sc) (tg e : PySem.Expr) (m : E) : Bool := match e, m with
  | .Call (.Name x _) [a] [] _, .rng none ma none => decide (x = ("range" : Str)) && bltB C s x && notStar a && rec (.e s a ma)
  | .Call (.Name x _) [a, b] [] _, .rng (some ma) mb none => decide (x = ("range" : Str)) && bltB C s x && notStar a && notStar b && rec (.e s a ma) && rec (.e s b mb)
  | .Call (.Name x _) [a] [] _, .enum ma => decide (x = ("enumerate" : Str)) && bltB C s x && notStar a && (match tg with | .Tuple _ _ _ => true | _ => false) && decide (pks (.enum ma) = pk ma) && rec (.r s a ma)
  | .Call (.Name x _) [a, b] [] _, .zip ma mb => decide (x = ("zip" : Str)) && bltB C s x && notStar a && notStar b && (match tg with | .Tuple _ _ _ => true | _ => false) && pkB ma mb && rec (.r s a ma) && rec (.r s b mb)
  | e, m => decide (pks m = pk m) && rec (.r s e m)
def ckTg (C : Ck) (rec : Q → Bool) (s : Sc) (e : PySem.Expr) (t : Tgt) : Bool := match e, t with
  | .Name x _, .nm i => setB C s i x
  | .Tuple es _ _, .tup ts => !s.hot && es.all notStar && decide (es.length = ts.length) && rec (.tgs s es ts)
  | _, _ => false
def ckTgs (rec : Q → Bool) (s : Sc) (es : List PySem.Expr) (ts : List Tgt) : Bool := match es, ts with
  | [], [] => true
  | e :: es, t :: ts => notStar e && rec (.tg s e t) && rec (.tgs s es ts)
  | _, _ => false
def ckTs (rec : Q → Bool) (s : Sc) (es : List PySem.Expr) (ms : List E) : Bool := match es, ms with
  | [], [] => true
  | [e], [m] => rec (.t s e m)
  | _, _ => false
theorem asg_cons {e : PySem.Expr} {es : List PySem.Expr} {env : PySem.Env} (h : notStar e = true) : assignEach (e :: es) env = (false, assign e env) :: assignEach es env := by
  cases e <;> first | rfl | cases h
theorem asg_len {env : PySem.Env} : ∀ {es : List PySem.Expr}, es.all notStar = true → (assignEach es env).length = es.length ∧ (assignEach es env).findIdx? (·.1) = none
  | [], _ => ⟨rfl, rfl⟩
  | e :: es, h => by
    rw [List.all_cons, Bool.and_eq_true] at h
    obtain ⟨a, b⟩ := asg_len (env := env) h.2
    rw [asg_cons h.1]
    refine ⟨by rw [List.length_cons, List.length_cons, a], ?_⟩
    rw [List.findIdx?_cons, b]
    rfl
section
variable {C : Ck} {rec : Q → Bool} (ih : ∀ q, rec q = true → Holds C q) {s : Sc} {X : Cx} {S : Sit} (k : Cok C s X S)
include ih k
theorem t_ok {e : PySem.Expr} {m : E} (h : ckT C rec s e m = true) : PT X e (tT S m) := by
  unfold ckT at h
  split at h
  · exact t_not (ih _ h X S k)
  · exact (ih _ h X S k).pt
  · exact (cmp_ok ih k h).2
  · exact t_tru (ih _ h X S k)
  · rw [ck_and] at h
    exact t_plain k.K (ih _ h.2 X S k) (plain_t h.1)
theorem w_ok {e : PySem.Expr} {m : E} (h : ckW rec s e m = true) : PW X e (tT S m) := by
  unfold ckW at h
  split at h
  · rename_i op a p
    cases op
    · exact w_and1 (ih _ h X S k)
    · exact w_or1 (ih _ h X S k)
  · rw [ck_and] at h
    exact w_and (ih _ h.1 X S k) (ih _ h.2 X S k)
  · rw [ck_and] at h
    exact w_or (ih _ h.1 X S k) (ih _ h.2 X S k)
  · cases h
theorem g_ok {e : PySem.Expr} {m : E} (h : ckG C rec s e m = true) : PE X e (tG S m) := by
  unfold ckG at h
  split at h
  · obtain ⟨a, b, c, d⟩ := name_of k h
    exact g_peek a b c d
  · rw [ck_and] at h
    exact g_val (ih _ h.2 X S k) (not_lent h.1)
theorem r_ok {e : PySem.Expr} {m : E} (h : ckG C rec s e m = true) : PE X e (tR S m) := by
  unfold ckG at h
  split at h
  · obtain ⟨a, b, c, d⟩ := name_of k h
    exact r_peek a b c d
  · rw [ck_and] at h
    exact r_val (ih _ h.2 X S k) (not_lent h.1)
theorem ls_ok {es : List PySem.Expr} {ms : List E} (h : ckLs rec s es ms = true) : PA X es (tLs S ms) := by
  unfold ckLs at h
  split at h
  · exact ls_nil
  · simp only [ck_and] at h
    exact ls_cons (ih _ h.1.2 X S k) (ih _ h.2 X S k) h.1.1
  · cases h
theorem fs_ok {es : List PySem.Expr} {ms : List E} (h : ckFs rec s es ms = true) : PA X es (tFs S ms) := by
  unfold ckFs at h
  split at h
  · exact fs_nil
  · simp only [ck_and] at h
    exact fs_cons (ih _ h.1.2 X S k) (not_lent h.1.1.2) (ih _ h.2 X S k) h.1.1.1
  · cases h
theorem as_ok {es : List PySem.Expr} {ms : List E} (h : ckAs rec s es ms = true) : PA X es (tAs S ms) := by
  unfold ckAs at h
  split at h
  · exact as_nil
  · simp only [ck_and] at h
    exact as_cons (ih _ h.1.2 X S k) (ih _ h.2 X S k) h.1.1
  · cases h
theorem o_ok {e : Option PySem.Expr} {m : Option E} (h : ckO rec s e m = true) : PO X e (tO S m) := by
  unfold ckO at h
  split at h
  · exact o_none
  · exact o_some (ih _ h X S k)
  · cases h
theorem i_ok {tg e : PySem.Expr} {m : E} (h : ckI C rec s tg e m = true) : PI X tg e (tI S m) := by
  unfold ckI at h
  split at h
  · simp only [ck_and] at h
    obtain ⟨⟨⟨h1, h2⟩, h3⟩, h4⟩ := h
    have e1 := of_decide_eq_true h1
    subst e1
    exact i_rng1 (blt_of k h2) (ih _ h4 X S k) h3
  · simp only [ck_and] at h
    obtain ⟨⟨⟨⟨⟨h1, h2⟩, h3⟩, h4⟩, h5⟩, h6⟩ := h
    have e1 := of_decide_eq_true h1
    subst e1
    exact i_rng2 (blt_of k h2) (ih _ h5 X S k) (ih _ h6 X S k) h3 h4
  · simp only [ck_and] at h
    obtain ⟨⟨⟨⟨⟨h1, h2⟩, h3⟩, h4⟩, h5⟩, h6⟩ := h
    have e1 := of_decide_eq_true h1
    subst e1
    split at h4
    · exact i_enum k.K (blt_of k h2) (ih _ h6 X S k) h3 (of_decide_eq_true h5)
    · cases h4
  · simp only [ck_and] at h
    obtain ⟨⟨⟨⟨⟨⟨⟨h1, h2⟩, h3⟩, h4⟩, h5⟩, h6⟩, h7⟩, h8⟩ := h
    have e1 := of_decide_eq_true h1
    subst e1
    unfold pkB at h6
    rw [ck_and, List.all_eq_true, List.all_eq_true] at h6
    split at h5
    · exact i_zip k.K (blt_of k h2) (ih _ h7 X S k) (ih _ h8 X S k) h3 h4 fun i hi => hi.elim (fun z => of_decide_eq_true (h6.1 i z)) fun z => of_decide_eq_true (h6.2 i z)
    · cases h5
  · rw [ck_and] at h
    exact i_seq k.K (ih _ h.2 X S k) (of_decide_eq_true h.1)
theorem tg_ok {e : PySem.Expr} {t : Tgt} (h : ckTg C rec s e t = true) : PG X e (gT S t) := by
  unfold ckTg at h
  split at h
  · obtain ⟨a, b, c⟩ := set_of k h
    exact g_nm (k_nd k) a b c
  · simp only [ck_and, decide_eq_true_eq, Bool.not_eq_true'] at h
    obtain ⟨a, b⟩ := asg_len (env := X.env) h.1.1.2
    exact g_tup (k.calm h.1.1.1) k.K (ih _ h.2 X S k) (a.trans h.1.2) b
  · cases h
theorem tgs_ok {e : List PySem.Expr} {t : List Tgt} (h : ckTgs rec s e t = true) : PGs X e (gTs S t) := by
  unfold ckTgs at h
  split at h
  · exact gs_nil
  · simp only [ck_and] at h
    exact gs_cons (ih _ h.1.2 X S k) (ih _ h.2 X S k) (by rw [asg_cons h.1.1]; rfl)
  · cases h
theorem ts_ok {e : List PySem.Expr} {m : List E} (h : ckTs rec s e m = true) : PTs X e (tTs S m) := by
  unfold ckTs at h
  split at h
  · exact ts_nil
  · exact ts_one (ih _ h X S k)
  · cases h
end
/-! #### statements -/
/-- whether the store is one with the comprehension -/
def swC (s : Sc) (scope : Scope) (pos p : Pos) (y : Str) : Bool :=
  decide (s.sc.names.lookup y = some .local) && p.line == pos.line && !(scope.names.any fun (n, k) => n == y && (k == .local || k == .cell))
/-- x, y = a, b : two plain names stored from the right -/
def parB (s : Sc) (x y : Str) (px py : Pos) (vs : List PySem.Expr) : Bool :=
  decide (s.sc.names.lookup x = some .local) && decide (s.sc.names.lookup y = some .local) && py.line == px.line && !(x == y) && vs.all notStar && !(vs.all (foldedForSure 8)) && !(vs.all (constantsAlone 8))
def isTupE : PySem.Expr → Bool
  | .Tuple .. => true
  | _ => false
def ckS (C : Ck) (rec : Q → Bool) (s : Sc) (st : PySem.Stmt) (m : S) : Bool := match m with
  | .wf _ m => rec (.s s st m)
  | .asg (.nm i) me => (match st with
      | .Assign [.Name x p] e _ => setB C s i x && notLent me && rec (.e s e me) && (match e with
          | .ListComp _ _ scope pos => !(swC s scope pos p x)
          | e => noSw e)
      | _ => false)
  | .asgC i me => (match st with
      | .Assign [.Name x p] (.ListComp elt gs scope pos) _ => !s.hot && setB C s i x && swC s scope pos p x && ckComp C rec s elt scope gs me
      | _ => false)
  | .asg (.tup us) me => (match st with
      | .Assign [.Tuple ts kk p] e _ => notLent me && noSw e && !isTupE e && rec (.e s e me) && rec (.tg s (.Tuple ts kk p) (.tup us))
      | _ => false)
  | .par i j ma mb => (match st with
      | .Assign [.Tuple [.Name x px, .Name y py] _ _] (.Tuple [a, b] _ _) _ => !s.hot && setB C s i x && setB C s j y && parB s x y px py [a, b] && !(i == j) && rec (.fs s [a, b] [ma, mb])
      | _ => false)
  | .setIt i mk me => (match st with
      | .Assign [.Subscript (.Name x _) b _] e _ => nameB C s i x && notSl b && notLent me && rec (.e s b mk) && rec (.e s e me)
      | _ => false)
  | .app i me => (match st with
      | .Expr (.Call (.Attribute (.Name x _) a apos) [e] [] cpos) _ => decide (a = ("append" : Str)) && nameB C s i x && notLent me && notStar e && (apos.endLine == cpos.line) && rec (.e s e me)
      | _ => false)
  | .ins i mk me => (match st with
      | .Expr (.Call (.Attribute (.Name x _) a apos) [k, e] [] cpos) _ => decide (a = ("insert" : Str)) && nameB C s i x && notLent me && notStar k && notStar e && (apos.endLine == cpos.line) && rec (.e s k mk) && rec (.e s e me)
      | _ => false)
  | .ext i me => (match st with
      | .Expr (.Call (.Attribute (.Name x _) a apos) [e] [] cpos) _ => decide (a = ("extend" : Str)) && nameB C s i x && notStar e && (apos.endLine == cpos.line) && rec (.e s e me)
      | _ => false)
  | .expr me => (match st with
      | .Expr e _ => noSw e && rec (.e s e me)
      | _ => false)
  | .pass => (match st with
      | .Pass _ => true
      | .Expr (.Constant (.str _) _ _) _ => true
      | _ => false)
  | .brk => (match st with
      | .Break _ => true
      | _ => false)
  | .cnt => (match st with
      | .Continue _ => true
      | _ => false)
  | .retv i => (match st with
      | .Return (some (.Name x _)) _ => nameB C s i x
      | _ => false)
  | .ret me => (match st with
      | .Return (some e) _ => notLent me && rec (.e s e me)
      | _ => false)
  | .retN => (match st with
      | .Return none _ => true
      | _ => false)
  | .ife mc ma mb => (match st with
      | .If c a b _ => rec (.t s c mc) && rec (.ss s a ma) && rec (.ss s b mb)
      | _ => false)
  | .whl mc mb => (match st with
      | .While c b [] _ => rec (.t s c mc) && rec (.ss s b mb)
      | _ => false)
  | .fr t mi mb => (match st with
      | .For tg it b [] _ => !s.hot && notSet it && rec (.i s tg it mi) && rec (.tg s tg t) && rec (.ss s b mb)
      | _ => false)
  | .rais c => (match st with
      | .Raise (some (.Call (.Name x _) [.Constant (.str _) _ _] [] _)) none _ => !s.hot && s.top && glB s x && dbg x && !(c == 0) && xcB C x c (fun d => d.rs && d.fld.isNone)
      | _ => false)
  | .raisF c n me => (match st with
      | .Raise (some (.Call (.Name x _) [e] [] _)) none _ => !s.hot && s.top && decide (2 ≤ C.lv) && glB s x && dbg x && notLent me && notStar e && xcB C x c (fun d => d.rs && match d.fld with | some (m, _) => m == n | none => false) && rec (.e s e me)
      | _ => false)
  | .tri c i mb ms => (match st with
      | .Try body [.ExceptHandler (some (.Name x _)) nm (b0 :: suite) _] [] [] _ => !s.hot && s.top && glB s x && dbg x && xcB C x c (fun _ => true) && (match i, nm with
          | none, none => true
          | some i, some n => decide (C.N[i]? = some n) && decide (s.sc.names.lookup n = some .local)
          | _, _ => false) && rec (.ss s body mb) && rec (.ss (hotS s) (b0 :: suite) ms)
      | _ => false)
  | .never => false
def ckSs (rec : Q → Bool) (s : Sc) (es : List PySem.Stmt) (ms : List S) : Bool := match es, ms with
  | [], [] => true
  | e :: es, m :: ms => rec (.s s e m) && rec (.ss s es ms)
  | _, _ => false
theorem sw_lc {elt : PySem.Expr} {gs : List Comprehension} {scope : Scope} {pos p : Pos} {y : Str} {l : Nat} {env : PySem.Env} {s : Sc} (hk : env.scope.kind = .function) (hs : env.scope = s.sc) :
    swapsWith (.ListComp elt gs scope pos) (some (.Name y p)) l env = pure (swC s scope pos p y) := by
  have hb : env.blockKind = .function := by
    unfold Env.blockKind
    rw [hk]
    rfl
  have ky : env.kindOf y = s.sc.names.lookup y := by
    rw [← hs]
    rfl
  unfold swapsWith swC
  simp only [hb, ky, Expr.pos]
  have : (s.sc.names.lookup y == some NameKind.local) = decide (s.sc.names.lookup y = some NameKind.local) := by
    cases h : (s.sc.names.lookup y == some NameKind.local)
    · exact (decide_eq_false (by simpa using h)).symm
    · exact (decide_eq_true (by simpa using h)).symm
  rw [this]
  rfl
theorem sole_sw {e t : PySem.Expr} {l : Nat} {env : PySem.Env} (h : noSw e = true) : swapsWithSole [t] e l env = pure false := by
  show swapsWith e (some t) l env = _
  exact no_sw h
theorem sub_sw {e o b : PySem.Expr} {p2 : Pos} {l : Nat} {env : PySem.Env} : swapsWithSole [.Subscript o b p2] e l env = pure false := by
  show swapsWith e (some (.Subscript o b p2)) l env = _
  cases e <;> rfl
theorem no_tup {e : PySem.Expr} {ts : List PySem.Expr} {env : PySem.Env} (h : isTupE e = false) : swappedStores ts e env = pure none := by
  rcases ts with _ | ⟨t, _ | ⟨t2, r⟩⟩
  · rfl
  · cases e <;> first | (cases h; done) | (cases t <;> rfl)
  · cases t <;> cases e <;> first | rfl | cases h
theorem sub_asg {o b : PySem.Expr} {env : PySem.Env} {p2 : Pos} (h : notSl b = true) (v : Value) : assign (.Subscript o b p2) env v = (do
      let ov ← holding [v] (eval o env)
      let iv ← holding [v, ov] (eval b env)
      standAt p2
      holding [v, ov, iv] (setItem ov iv v)
      release [v, ov, iv] []) := by
  cases b <;> first | rfl | cases h
theorem par_ok {x y : Str} {px py pt pt2 : Pos} {kt k2 : Nat} {a b : PySem.Expr} {env : PySem.Env} {s : Sc} (hk : env.scope.kind = .function) (hs : env.scope = s.sc) (h : parB s x y px py [a, b] = true) :
    swappedStores [.Tuple [.Name x px, .Name y py] kt pt] (.Tuple [a, b] k2 pt2) env = pure (some [x, y]) := by
  unfold parB at h
  simp only [ck_and, decide_eq_true_eq, Bool.not_eq_true'] at h
  obtain ⟨⟨⟨⟨⟨⟨h1, h2⟩, h3⟩, h4⟩, h5⟩, h6⟩, h7⟩ := h
  have hb : env.blockKind = .function := by
    unfold Env.blockKind
    rw [hk]
    rfl
  have ky : ∀ z, env.kindOf z = s.sc.names.lookup z := fun z => by
    rw [← hs]
    rfl
  have hst : ([a, b].any fun | .Starred .. => true | _ => false) = false := by
    simp only [List.all_cons, List.all_nil, Bool.and_true, ck_and] at h5
    simp only [List.any_cons, List.any_nil, Bool.or_false, Bool.or_eq_false_iff]
    refine ⟨?_, ?_⟩
    · revert h5
      cases a <;> first | (intro _; rfl) | (intro z; exact absurd z.1 (by simp [notStar]))
    · revert h5
      cases b <;> first | (intro _; rfl) | (intro z; exact absurd z.2 (by simp [notStar]))
  have e1 : (some NameKind.local == some NameKind.local) = true := rfl
  have e2 : (py.line == px.line) = true := h3
  have e3 : (y == x) = false := by
    cases q : (y == x) with
    | false => rfl
    | true =>
      have := eq_of_beq q
      subst this
      simp at h4
  have k1 : (env.kindOf x == some NameKind.local) = true := by rw [ky, h1]; rfl
  have k2 : (env.kindOf y == some NameKind.local) = true := by rw [ky, h2]; rfl
  have e4 : (x == y) = false := h4
  unfold swappedStores
  simp only [hb, List.length_cons, List.length_nil, hst, h6, h7, k1, k2, e2, Expr.pos, List.head?_cons, Option.map_some, Option.getD_some, List.filterMap_cons, List.filterMap_nil, Bool.and_self, Bool.and_true, if_true, beq_self_eq_true]
  have e5 : [x, y].eraseDups.length = 2 := by
    simp [List.eraseDups, List.eraseDupsBy, List.eraseDupsBy.loop, e3, e4]
  have e6 : (!(true || 0 + 1 + 1 == 3) || 0 + 1 + 1 != 0 + 1 + 1 || ScopeKind.function != ScopeKind.function) = false := rfl
  have e7 : (0 + 1 + 1 != 0 + 1 + 1 || [x, y].eraseDups.length != 0 + 1 + 1) = false := by
    rw [e5]
    rfl
  rw [e6, e7]
  simp only [Bool.false_eq_true, if_false, List.any_cons, List.any_nil, Bool.or_false] at hst ⊢
  exact if_neg fun z => Bool.noConfusion (hst.symm.trans z)
section
variable {C : Ck} {s : Sc} {X : Cx} {S : Sit}
theorem XcIs.hot {K : PySem.W.Frag} {P : Program} {mg : Str → Option Value} {Z : Wd} {d : Xd} (k : XcIs K P mg Z d) (p : Addr → Value → Option Addr → Prop) : XcIs K P mg (Z.hot p) d := ⟨k.at_, k.ex, k.isi, k.new, k.newF⟩
theorem XcAll.hot {K : PySem.W.Frag} {Z : Wd} (k : XcAll K Z) (p : Addr → Value → Option Addr → Prop) : XcAll K (Z.hot p) := fun n h => by
  obtain ⟨D, e, T⟩ := k n h
  exact ⟨D, e, T.hcl, T.ga, T.gg, T.exC, T.hdC, T.ha, T.hm, T.ty, T.hn, T.ht, T.fno⟩
theorem tr_cok (k : Cok C s X S) (h0 : s.hot = false) {W : WX} {pn : List (Addr × Obj)} {xe : Value → Shared → Prop} (tk : Takes (X.tr pn xe) W) (ow : PassesOwn (model X.prog X.w) X.A X.env xe) : Cok C s (X.tr pn xe) ⟨S.Z, S.Γ, W⟩ :=
  ⟨k.N, k.nd, k.sc, k.kind, k.cell, k.K, fun _ => k.calm h0, tk, k.hu, ow, fun _ f hf => ⟨(k.fns h0 f hf).gl⟩, fun _ f hf => ⟨(k.gens h0 f hf).gl⟩, fun _ f hf => ⟨(k.keys h0 f hf).gl⟩, k.blts, k.cst, fun z => absurd z (by rw [h0]; decide), k.topx, k.xcs, k.xal, k.an⟩
theorem hot_cok (k : Cok C s X S) {a : Addr} {oe : Obj} {cls : Value} {dd : Option Addr} {pn : List (Addr × Obj)} {p : Addr → Value → Option Addr → Prop} (hz : Zc cls dd oe) (hv : ∃ vs, oe.data = .fields vs) (hp : ∀ a' c' d', p a' c' d' → a' = a ∧ c' = cls ∧ d' = dd) :
    Cok C (hotS s) (X.suite a ((a, oe) :: pn)) (S.hot p) :=
  ⟨k.N, k.nd, k.sc, k.kind, k.cell, k.K, fun z => Bool.noConfusion (show true = false from z), takes0, k.hu, PassesOwn.never, fun z => Bool.noConfusion (show true = false from z), fun z => Bool.noConfusion (show true = false from z), fun z => Bool.noConfusion (show true = false from z), k.blts, k.cst,
    fun _ => ⟨X, a, oe, cls, dd, pn, rfl, hz, hv, hp⟩, fun z => Bool.noConfusion (show false = true from z), fun d hd => (k.xcs d hd).hot p, fun h => (k.xal h).hot p, k.an⟩
end
section
variable {C : Ck} {rec : Q → Bool} (ih : ∀ q, rec q = true → Holds C q) {s : Sc} {X : Cx} {S : Sit} (k : Cok C s X S)
include ih k
theorem comp_asg (h0 : s.hot = false) {i : Nat} {x : Str} {p pos spos : Pos} {elt : PySem.Expr} {gs : List Comprehension} {scope : Scope} {me : E} (h1 : setB C s i x = true) (h2 : swC s scope pos p x = true) (h : ckComp C rec s elt scope gs me = true) :
    PS X (.Assign [.Name x p] (.ListComp elt gs scope pos) spos) (tS S (.asgC i me)) := by
  have hkd : X.env.scope.kind = .function := by
    rw [k.sc]
    exact k.kind
  obtain ⟨a, b, c⟩ := set_of k h1
  have hl : X.env.scope.names.lookup x = some .local := by
    rw [k.sc]
    unfold swC at h2
    simp only [ck_and, decide_eq_true_eq] at h2
    exact h2.1.1
  have hsw : ∀ g, swapsWith (.ListComp elt g scope pos) (some (.Name x p)) spos.line X.env = pure true := fun g => by rw [sw_lc hkd k.sc, h2]
  have cv : ∀ D σ H, tS S (.asgC i me) D σ H → tS S (.asg (.nm i) me) D σ H := fun D σ H ⟨F, Fb, env, fr, q⟩ => ⟨F, Fb, env, fr, by
    rw [evS] at q
    rw [evS]
    exact q⟩
  unfold ckComp at h
  split at h
  · rename_i tg iter ifs me t mi mifs own
    simp only [ck_and] at h
    obtain ⟨⟨⟨⟨⟨⟨⟨h1, h2⟩, h3⟩, h4⟩, h5⟩, h6⟩, h7⟩, h8⟩ := h
    have ok : BlkOk X.N X.env.scope scope (Mi.ownP C own) := by
      rw [k.N, k.sc]
      exact blkOk_by h1
    have q := ps_setLc (py := p) (pos := pos) (spos := spos) (k.calm h0) (k_nd k) a hl (hsw _) (ih _ h5 X S k) ok (fun s0 H c cl fp => ih _ h6 _ _ (blk_cok ih k h0 ok.kind s0 H c cl fp)) (fun s0 H c cl fp => ih _ h7 _ _ (blk_cok ih k h0 ok.kind s0 H c cl fp))
      (fun s0 H c cl fp => frz_of (ih _ h8 _ _ (blk_cok ih k h0 ok.kind s0 H c cl fp)) (not_lent h4)) (not_set h3)
    rw [ownP_map] at q
    exact PS.imp q fun D σ H z => lc_imp (fun i hi => of_decide_eq_true (List.all_eq_true.mp h2 i hi)) (asg_imp (not_lent rfl) (cv D σ H z))
  · rename_i tg iter tg1 iter1 ifs1 me t mi t1 mi1 mifs1 own own1
    simp only [ck_and] at h
    obtain ⟨⟨⟨⟨⟨⟨⟨⟨⟨⟨⟨⟨h1, h2⟩, h3⟩, h4⟩, h5⟩, h6⟩, h7⟩, h8⟩, h9⟩, h10⟩, h11⟩, h12⟩, h13⟩ := h
    have ok : BlkOk X.N X.env.scope scope (Mi.ownP C own) := by
      rw [k.N, k.sc]
      exact blkOk_by h1
    have q := ps_setLc2 (py := p) (pos := pos) (spos := spos) (vs1 := own1) (k.calm h0) (k_nd k) a hl (hsw _) (ih _ h8 X S k) ok (fun i hi => by
      rw [ownP_map]
      exact of_decide_eq_true (List.all_eq_true.mp h3 i hi)) (fun s0 H c cl fp => ih _ h9 _ _ (blk_cok ih k h0 ok.kind s0 H c cl fp)) (fun s0 H c cl fp => ts_nil (S := S.calm))
      (fun s0 H c cl fp => ih _ h10 _ _ (blk_cok ih k h0 ok.kind s0 H c cl fp)) (fun s0 H c cl fp => ih _ h11 _ _ (blk_cok ih k h0 ok.kind s0 H c cl fp)) (fun s0 H c cl fp => ih _ h12 _ _ (blk_cok ih k h0 ok.kind s0 H c cl fp))
      (fun s0 H c cl fp => frz_of (ih _ h13 _ _ (blk_cok ih k h0 ok.kind s0 H c cl fp)) (not_lent h7)) (not_set h5) (fun env x => not_set h6 x)
    rw [ownP_map] at q
    exact PS.imp q fun D σ H z => lc2_imp (fun i hi => of_decide_eq_true (List.all_eq_true.mp h2 i hi)) (fun i hi => of_decide_eq_true (List.all_eq_true.mp h4 i hi)) (asg_imp (not_lent rfl) (cv D σ H z))
  · cases h
theorem s_ok {st : PySem.Stmt} {m : Mi.S} (h : ckS C rec s st m = true) : PS X st (tS S m) := by
  have hkd : X.env.scope.kind = .function := by
    rw [k.sc]
    exact k.kind
  unfold ckS at h
  split at h
  · exact s_wf (ih _ h X S k)
  · split at h
    · simp only [ck_and] at h
      obtain ⟨⟨⟨h1, h2⟩, h3⟩, h4⟩ := h
      obtain ⟨a, b, c⟩ := set_of k h1
      refine s_asg (k_nd k) a b c (ih _ h3 X S k) (not_lent h2) ?_
      split at h4
      · rw [sw_lc hkd k.sc, show swC _ _ _ _ _ = false by simpa using h4]
      · exact no_sw h4
    · cases h
  · split at h
    · simp only [ck_and, Bool.not_eq_true'] at h
      obtain ⟨⟨⟨h0, h1⟩, h2⟩, h3⟩ := h
      exact comp_asg ih k h0 h1 h2 h3
    · cases h
  · split at h
    · simp only [ck_and, Bool.not_eq_true'] at h
      obtain ⟨⟨⟨⟨h1, h2⟩, h3⟩, h4⟩, h5⟩ := h
      refine s_asgT (ih _ h4 X S k) (not_lent h1) (ih _ h5 X S k) (sole_sw h2) (no_tup h3) rfl
    · cases h
  · split at h
    · simp only [ck_and, Bool.not_eq_true'] at h
      obtain ⟨⟨⟨⟨⟨h0, h1⟩, h2⟩, h3⟩, h4⟩, h5⟩ := h
      obtain ⟨a, b, c⟩ := set_of k h1
      obtain ⟨a', b', c'⟩ := set_of k h2
      have h3' := h3
      unfold parB at h3'
      simp only [ck_and, decide_eq_true_eq] at h3'
      refine s_par (k.calm h0) (k_nd k) a a' (fun e => by simp [e] at h4) (by rw [k.sc]; exact h3'.1.1.1.1.1.1) (by rw [k.sc]; exact h3'.1.1.1.1.1.2) (ih _ h5 X S k) (par_ok hkd k.sc h3) rfl
    · cases h
  · split at h
    · simp only [ck_and] at h
      obtain ⟨⟨⟨⟨h1, h2⟩, h3⟩, h5⟩, h6⟩ := h
      obtain ⟨a, b, c, d⟩ := name_of k h1
      refine s_setIt a b c d (ih _ h5 X S k) (ih _ h6 X S k) (not_lent h3) (fun v => sub_asg h2 v) sub_sw rfl rfl
    · cases h
  · split at h
    · simp only [ck_and, decide_eq_true_eq] at h
      obtain ⟨⟨⟨⟨⟨h1, h2⟩, h3⟩, h4⟩, h5⟩, h6⟩ := h
      subst h1
      obtain ⟨a, b, c, d⟩ := name_of k h2
      refine s_app a b c d (ih _ h6 X S k) (not_lent h3) h4 rfl ?_ h5 rfl
      rw [star_cons h4]
      rfl
    · cases h
  · split at h
    · simp only [ck_and, decide_eq_true_eq] at h
      obtain ⟨⟨⟨⟨⟨⟨⟨h1, h2⟩, h3⟩, h4⟩, h5⟩, h6⟩, h7⟩, h8⟩ := h
      subst h1
      obtain ⟨a, b, c, d⟩ := name_of k h2
      refine s_ins a b c d (ih _ h7 X S k) (ih _ h8 X S k) (not_lent h3) h4 h5 rfl ?_ h6 rfl
      rw [star_cons h4, star_cons h5]
      rfl
    · cases h
  · split at h
    · simp only [ck_and, decide_eq_true_eq] at h
      obtain ⟨⟨⟨⟨h1, h2⟩, h3⟩, h4⟩, h5⟩ := h
      subst h1
      obtain ⟨a, b, c, d⟩ := name_of k h2
      refine s_ext a b c d (ih _ h5 X S k) h3 rfl ?_ h4 rfl
      rw [star_cons h3]
      rfl
    · cases h
  · split at h
    · rw [ck_and] at h
      exact s_expr (ih _ h.2 X S k) (no_sw h.1)
    · cases h
  · split at h
    · exact s_pass
    · exact s_doc
    · cases h
  · split at h
    · exact s_brk
    · cases h
  · split at h
    · exact s_cnt
    · cases h
  · split at h
    · obtain ⟨a, b, c, d⟩ := name_of k h
      exact s_retv a b c d
    · cases h
  · split at h
    · rw [ck_and] at h
      exact s_ret (ih _ h.2 X S k) (not_lent h.1)
    · cases h
  · split at h
    · exact s_retN
    · cases h
  · split at h
    · simp only [ck_and] at h
      exact s_if (ih _ h.1.1 X S k) (ih _ h.1.2 X S k) (ih _ h.2 X S k)
    · cases h
  · split at h
    · simp only [ck_and] at h
      exact s_while k.ow (ih _ h.1 X S k) (ih _ h.2 X S k)
    · cases h
  · split at h
    · simp only [ck_and, Bool.not_eq_true'] at h
      obtain ⟨⟨⟨⟨h0, h1⟩, h2⟩, h3⟩, h4⟩ := h
      exact s_for k.ow (k.calm h0) (ih _ h2 X S k) (ih _ h3 X S k) (ih _ h4 X S k) (not_set h1)
    · cases h
  · split at h
    · simp only [ck_and, Bool.not_eq_true'] at h
      obtain ⟨⟨⟨⟨⟨h0, h1⟩, h2⟩, h3⟩, h4⟩, h5⟩ := h
      obtain ⟨d, hd, rfl, rfl, hf, he⟩ := xc_of h5
      rw [ck_and] at hf
      obtain ⟨hr, hf⟩ := hf
      exact s_rais (k.calm h0) k.tk (k.xcs d hd) (k.xal he) (fun e => by rw [e] at h4; cases h4) hr (Option.isNone_iff_eq_none.mp hf) (gl_of k h2) (dbg_of h3)
    · cases h
  · split at h
    · simp only [ck_and, Bool.not_eq_true'] at h
      obtain ⟨⟨⟨⟨⟨⟨⟨⟨h0, h1⟩, h2⟩, h3⟩, h4⟩, h5⟩, h6⟩, h7⟩, h8⟩ := h
      obtain ⟨d, hd, rfl, rfl, hf, he⟩ := xc_of h7
      rw [ck_and] at hf
      obtain ⟨hr, hf⟩ := hf
      split at hf
      · rename_i m f e
        have e1 := eq_of_beq hf
        subst e1
        exact s_raisF (k.calm h0) k.tk ((k.topx h1).2.2.2.mono (of_decide_eq_true h2)) (k.xcs d hd) hr e (gl_of k h3) (dbg_of h4) (ih _ h8 X S k) (not_lent h5) h6
      · cases hf
    · cases h
  · split at h
    · simp only [ck_and, Bool.not_eq_true'] at h
      obtain ⟨⟨⟨⟨⟨⟨⟨h0, h1⟩, h2⟩, h3⟩, h4⟩, h5⟩, h6⟩, h7⟩ := h
      obtain ⟨d, hd, rfl, rfl, _, he⟩ := xc_of h4
      obtain ⟨t1, t2, t3, t4⟩ := k.topx h1
      have nm := (k.xcs d hd).names (gl_of k h2) (dbg_of h3)
      have body := fun (W : WX) (pn : List (Addr × Obj)) (xe : Value → Shared → Prop) (tk : Takes (X.tr pn xe) W) (ow : PassesOwn (model X.prog X.w) X.A X.env xe) => ih _ h6 (X.tr pn xe) ⟨S.Z, S.Γ, W⟩ (tr_cok k h0 tk ow)
      split at h5
      · exact s_tryOnly k.K t1 t2 nm k.tk (k.xcs d hd) body fun a oe cls dd pn hz hv => ih _ h7 _ _ (hot_cok k hz hv fun a' c' d' z => absurd z (t3 _ _ _))
      · simp only [ck_and, decide_eq_true_eq] at h5
        exact s_tryAs k.K t1 t2 (k_nd k) (by rw [k.N]; exact h5.1) (by show X.env.scope.names.lookup _ = _; rw [k.sc]; exact h5.2) nm k.tk t3 (k.xcs d hd) body fun a oe cls dd pn hz hv => ih _ h7 _ _ (hot_cok k hz hv fun a' c' d' z => z)
      · cases h5
    · cases h
  · cases h
theorem ss_ok {es : List PySem.Stmt} {ms : List Mi.S} (h : ckSs rec s es ms = true) : PSs X es (tSs S ms) := by
  unfold ckSs at h
  split at h
  · exact ss_nil
  · rw [ck_and] at h
    exact ss_cons (ih _ h.1 X S k) (ih _ h.2 X S k)
  · cases h
end
/-- never reached: any text will do -/
def nevE : E → Bool
  | .never => true
  | _ => false
def nevS : Mi.S → Bool
  | .never => true
  | _ => false
theorem nev_e {X : Cx} {S : Sit} {e : PySem.Expr} {m : E} (h : nevE m = true) : PE X e (tE S m) := by
  cases m <;> first | (cases h; done) | exact ⟨fun pins s σ H Q I ⟨F, Fb, env, fr, q⟩ => by rw [evE] at q; exact q.elim⟩
theorem nev_s {X : Cx} {S : Sit} {e : PySem.Stmt} {m : Mi.S} (h : nevS m = true) : PS X e (tS S m) := by
  cases m <;> first | (cases h; done) | exact ⟨fun pins s σ H D I ⟨F, Fb, env, fr, q⟩ => by rw [evS] at q; exact q.elim⟩
def ck (C : Ck) : Nat → Q → Bool
  | 0, _ => false
  | n + 1, q => match q with
    | .e s e m => nevE m || ckE C (ck C n) s e m
    | .t s e m => ckT C (ck C n) s e m
    | .w s e m => ckW (ck C n) s e m
    | .g s e m => ckG C (ck C n) s e m
    | .r s e m => ckG C (ck C n) s e m
    | .ls s e m => ckLs (ck C n) s e m
    | .fs s e m => ckFs (ck C n) s e m
    | .as s e m => ckAs (ck C n) s e m
    | .o s e m => ckO (ck C n) s e m
    | .i s tg e m => ckI C (ck C n) s tg e m
    | .tg s e t => ckTg C (ck C n) s e t
    | .tgs s e t => ckTgs (ck C n) s e t
    | .ts s e m => ckTs (ck C n) s e m
    | .s s e m => nevS m || ckS C (ck C n) s e m
    | .ss s e m => ckSs (ck C n) s e m
theorem ck_ok (C : Ck) : ∀ (n : Nat) (q : Q), ck C n q = true → Holds C q
  | 0, _, h => by cases h
  | n + 1, q, h => by
    have ih := ck_ok C n
    cases q with
    | e s e m => exact fun X S k => (Bool.or_eq_true _ _ ▸ h : nevE m = true ∨ ckE C (ck C n) s e m = true).elim nev_e fun h => e_ok ih k h
    | t s e m => exact fun X S k => t_ok ih k h
    | w s e m => exact fun X S k => w_ok ih k h
    | g s e m => exact fun X S k => g_ok ih k h
    | r s e m => exact fun X S k => r_ok ih k h
    | ls s e m => exact fun X S k => ls_ok ih k h
    | fs s e m => exact fun X S k => fs_ok ih k h
    | as s e m => exact fun X S k => as_ok ih k h
    | o s e m => exact fun X S k => o_ok ih k h
    | i s tg e m => exact fun X S k => i_ok ih k h
    | tg s e t => exact fun X S k => tg_ok ih k h
    | tgs s e t => exact fun X S k => tgs_ok ih k h
    | ts s e m => exact fun X S k => ts_ok ih k h
    | s s e m => exact fun X S k => (Bool.or_eq_true _ _ ▸ h : nevS m = true ∨ ckS C (ck C n) s e m = true).elim nev_s fun h => s_ok ih k h
    | ss s e m => exact fun X S k => ss_ok ih k h
/-! #### generator defs -/
def ckGs (C : Ck) : Nat → Sc → List PySem.Stmt → List G → Bool
  | 0, _, _, _ => false
  | n + 1, s, es, gs => match es, gs with
    | [], [] => true
    | st :: sts, g :: gs => (match g, st with
        | .pl m, st => ck C n (.s s st m)
        | .yld m, .Expr (.Yield (some e) _) _ => notLent m && ck C n (.e s e m)
        | .fr t mi mb, .For tg it b [] _ => !s.hot && notSet it && ck C n (.i s tg it mi) && ck C n (.tg s tg t) && ckGs C n s b mb
        | _, _ => false) && ckGs C n s sts gs
    | _, _ => false
theorem ckGs_ok (C : Ck) : ∀ (n : Nat) (s : Sc) (es : List PySem.Stmt) (gs : List G), ckGs C n s es gs = true → ∀ X S, Cok C s X S.calm → X.env.scope.isCoroutine = false → interactive X.env = false → GSs X es (tGms S gs)
  | 0, _, _, _, h => by cases h
  | n + 1, s, es, gs, h => fun X S k hco hin => by
    unfold ckGs at h
    split at h
    · exact gms_nil
    · rw [ck_and] at h
      obtain ⟨h, hr⟩ := h
      refine gms_cons ?_ (ckGs_ok C n s _ _ hr X S k hco hin)
      split at h
      · exact gm_pl (ck_ok C n _ h X S.calm k)
      · rw [ck_and] at h
        exact gm_yld (ck_ok C n _ h.2 X S.calm k) (not_lent h.1) hco hin
      · simp only [ck_and, Bool.not_eq_true'] at h
        obtain ⟨⟨⟨⟨h0, h1⟩, h2⟩, h3⟩, h4⟩ := h
        exact gm_for k.ow (k.calm h0) (ck_ok C n _ h2 X S.calm k) (ck_ok C n _ h3 X S.calm k) (ckGs_ok C n s _ _ h4 X S k hco hin) (not_set h1)
      · cases h
    · cases h
end Mi
namespace Mi
open PySem L2
/-! ### a text's defs, in their order -/
structure Dn where
  nm : Str
  qual : Str
  st : PySem.Stmt
  N : List Str
  ps : List Str
  lv : Nat
  b : Body
def isG (d : Dn) : Bool := d.b.gen.isSome
def gl0 : Glob := ⟨fun _ _ => .bad, fun _ _ => .bad, fun _ _ => none, fun _ _ => .bad⟩
/-- the first n bodies -/
def globN (bs : List Body) : Nat → Glob
  | 0 => gl0
  | n + 1 => ⟨fun i as => if i = n then runB (globN bs n) (bs.getD n default) as else (globN bs n).call i as, fun i as => if i = n then runG (globN bs n) (bs.getD n default) as else (globN bs n).gen i as, (globN bs n).meth, (globN bs n).make⟩
theorem call_at {bs : List Body} : ∀ {n i : Nat}, i < n → (globN bs n).call i = runB (globN bs i) (bs.getD i default)
  | n + 1, i, h => by
    funext as
    show (if i = n then _ else _) = _
    by_cases e : i = n
    · rw [if_pos e, e]
    · rw [if_neg e, call_at (show i < n by omega)]
theorem gen_at {bs : List Body} : ∀ {n i : Nat}, i < n → (globN bs n).gen i = runG (globN bs i) (bs.getD i default)
  | n + 1, i, h => by
    funext as
    show (if i = n then _ else _) = _
    by_cases e : i = n
    · rw [if_pos e, e]
    · rw [if_neg e, gen_at (show i < n by omega)]
def fdOf (d : Dn) (i : Nat) : Fd := ⟨d.nm, i, d.b.fresh, d.ps.length⟩
def fdsN (ok : Dn → Bool) : List Dn → Nat → List Fd
  | [], _ => []
  | d :: ds, i => if ok d then fdOf d i :: fdsN ok ds (i + 1) else fdsN ok ds (i + 1)
def scC (gn : Bool) (N ps : List Str) (sc : Scope) : Bool :=
  (match sc.kind with | .function => true | _ => false) && !sc.isCoroutine && sc.isGenerator == gn && decide N.Nodup && decide (N.take ps.length = ps) &&
    ps.all (fun x => decide (sc.names.lookup x = some .local) || decide (sc.names.lookup x = some .cell)) && sc.names.all fun y => match y.2 with | .free => false | _ => true
theorem scC_fn {N ps : List Str} {sc : Scope} (h : scC false N ps sc = true) : FnScope N ps sc := by
  unfold scC at h
  simp only [ck_and, Bool.not_eq_true', decide_eq_true_eq, List.all_eq_true, Bool.or_eq_true, beq_iff_eq] at h
  obtain ⟨⟨⟨⟨⟨⟨h1, h2⟩, h3⟩, h4⟩, h5⟩, h6⟩, h7⟩ := h
  refine ⟨?_, h2, h3, h4, h5, h6, fun y hy e => ?_⟩
  · split at h1
    · assumption
    · cases h1
  · have q := h7 y hy
    rw [e] at q
    cases q
theorem scC_gn {N ps : List Str} {sc : Scope} (h : scC true N ps sc = true) : GScope N ps sc := by
  unfold scC at h
  simp only [ck_and, Bool.not_eq_true', decide_eq_true_eq, List.all_eq_true, Bool.or_eq_true, beq_iff_eq] at h
  obtain ⟨⟨⟨⟨⟨⟨h1, h2⟩, h3⟩, h4⟩, h5⟩, h6⟩, h7⟩ := h
  refine ⟨?_, h2, h3, h4, h5, h6, fun y hy e => ?_⟩
  · split at h1
    · assumption
    · cases h1
  · have q := h7 y hy
    rw [e] at q
    cases q
/-- the i-th def is what its mini text says -/
def ckOf (ds : List Dn) (blts : List Str) (cst : List (Str × D)) (xcs : List Xd) (an : List Str) (i : Nat) (d : Dn) : Ck :=
  ⟨d.N, fdsN (fun e => !isG e && decide (e.lv + 1 ≤ d.lv)) (ds.take i) 0, fdsN (fun e => isG e && decide (e.lv + 4 ≤ d.lv)) (ds.take i) 0, fdsN (fun e => !isG e && !e.b.fresh && decide (e.ps.length = 1) && decide (e.lv + 3 ≤ d.lv)) (ds.take i) 0, blts, cst, xcs, an, d.lv⟩
def dnC (ds : List Dn) (blts : List Str) (cst : List (Str × D)) (xcs : List Xd) (an : List Str) (fuel i : Nat) : Bool := match ds[i]? with
  | some d => scC (isG d) d.N d.ps (defScope d.st) && d.b.n == d.N.length && (match d.b.gen with
      | none => ck (ckOf ds blts cst xcs an i d) fuel (.ss ⟨defScope d.st, defScope d.st, false, true⟩ (defBody d.st) d.b.code)
      | some g => ckGs (ckOf ds blts cst xcs an i d) fuel ⟨defScope d.st, defScope d.st, false, false⟩ (defBody d.st) g)
  | none => false
def dnsC (ds : List Dn) (blts : List Str) (cst : List (Str × D)) (xcs : List Xd) (an : List Str) (fuel : Nat) : Nat → Bool
  | 0 => true
  | n + 1 => dnsC ds blts cst xcs an fuel n && dnC ds blts cst xcs an fuel n
theorem dnsC_at {ds : List Dn} {blts : List Str} {cst : List (Str × D)} {xcs : List Xd} {an : List Str} {fuel : Nat} : ∀ {n : Nat}, dnsC ds blts cst xcs an fuel n = true → ∀ i, i < n → dnC ds blts cst xcs an fuel i = true
  | n + 1, h, i, hi => by
    rw [dnsC, ck_and] at h
    by_cases e : i = n
    · rw [e]
      exact h.2
    · exact dnsC_at h.1 i (by omega)
structure DnOk (K : PySem.W.Frag) (mg : Str → Option Value) (d : Dn) : Prop where
  ex : ∃ f fd, Fun K d.nm d.qual d.st f fd ∧ mg d.nm = some (.ref f) ∧ ∀ us : List Value, us.length = d.ps.length → bindArgs fd ⟨us, []⟩ = pure (d.ps.zip us)
/-- what the head tells -/
structure Told (K : PySem.W.Frag) (mg : Str → Option Value) (ds : List Dn) (blts : List Str) (cst : List (Str × D)) : Prop where
  dn : ∀ d ∈ ds, DnOk K mg d
  bl : ∀ x ∈ blts, mg x = none
  cs : ∀ p ∈ cst, ∃ v u, mg p.1 = some u ∧ RelV v u ∧ isCst p.2 v
/-- .. of the exceptions -/
structure ToldX (K : PySem.W.Frag) (P : Program) (mg : Str → Option Value) (Z : Wd) (xcs : List Xd) (an : List Str) : Prop where
  xc : ∀ d ∈ xcs, XcIs K P mg Z d
  al : xcs.isEmpty = false → XcAll K Z
  an : ∀ k, Z.an k = an.getD k Str.empty
  ex : ∀ a c d, ¬ Z.ex a c d
theorem fdsN_mem {ok : Dn → Bool} : ∀ {ds : List Dn} {i : Nat} {f : Fd}, f ∈ fdsN ok ds i → ∃ j d, ds[j]? = some d ∧ ok d = true ∧ f = fdOf d (i + j)
  | [], _, _, h => by simp [fdsN] at h
  | d :: ds, i, f, h => by
    have tl : f ∈ fdsN ok ds (i + 1) → ∃ j d', (d :: ds)[j]? = some d' ∧ ok d' = true ∧ f = fdOf d' (i + j) := fun h => by
      obtain ⟨j, d', e1, e2, e3⟩ := fdsN_mem h
      exact ⟨j + 1, d', e1, e2, by rw [e3, show i + 1 + j = i + (j + 1) by omega]⟩
    rw [fdsN] at h
    split at h
    · rename_i hk
      rcases List.mem_cons.mp h with e | h
      · exact ⟨0, d, rfl, hk, e⟩
      · exact tl h
    · exact tl h
section
variable {P : Program} {w : World} {K : PySem.W.Frag} {mg : Str → Option Value} {ds : List Dn} {blts : List Str} {cst : List (Str × D)} {xcs : List Xd} {an : List Str} {Z : Wd} {fuel : Nat}
theorem def_ok (T : Told K mg ds blts cst) (TX : ToldX K P mg Z xcs an) (hZ : Z.K = K) (hC : dnsC ds blts cst xcs an fuel ds.length = true) : ∀ (i : Nat) (d : Dn), ds[i]? = some d →
    ∃ f fd, (isG d = false → ∀ base : Heap, FnOk P w K mg base (L2.CX P w) (d.lv + 1) f fd d.ps (spF Z d.b.fresh d.ps.length (runB (globN (ds.map (·.b)) i) d.b))) ∧ (isG d = true → ∀ base : Heap, GFn P w K mg base (d.lv + 1) f fd d.ps (spGF Z d.ps.length (runG (globN (ds.map (·.b)) i) d.b))) ∧
      mg d.nm = some (.ref f) ∧ PySem.W.keepIn K (.ref f) = true ∧ ∀ us : List Value, us.length = d.ps.length → bindArgs fd ⟨us, []⟩ = pure (d.ps.zip us) := by
  intro i
  induction i using Nat.strongRecOn with
  | _ i ih =>
    intro d hd
    have hi : i < ds.length := (List.getElem?_eq_some_iff.mp hd).1
    have c := dnsC_at hC i hi
    unfold dnC at c
    rw [hd] at c
    simp only [ck_and, beq_iff_eq] at c
    obtain ⟨⟨c1, c2⟩, c3⟩ := c
    obtain ⟨f, fd, F, hm, hb⟩ := (T.dn d (List.mem_of_getElem? hd)).ex
    have cok : ∀ (base : Heap) (W : WX) (X : Cx) (tp : Bool), BodyCx P w K mg base d.N (defScope d.st) d.lv tp W X → d.N.Nodup → (defScope d.st).kind = .function → Cok (ckOf ds blts cst xcs an i d) ⟨defScope d.st, defScope d.st, false, tp⟩ X ⟨Z, globN (ds.map (·.b)) i, W⟩ := fun base W X tp B hnd hkd => by
      have hu := B.room.un
      have get : ∀ {ok : Dn → Bool} {g : Fd}, g ∈ fdsN ok (ds.take i) 0 → ∃ j d', j < i ∧ ds[j]? = some d' ∧ ok d' = true ∧ g = fdOf d' j := fun {ok g} hg => by
        obtain ⟨j, d', e1, e3, e2⟩ := fdsN_mem hg
        rw [Nat.zero_add] at e2
        rw [List.getElem?_take] at e1
        split at e1
        · exact ⟨j, d', by assumption, e1, e3, e2⟩
        · cases e1
      refine ⟨B.N, hnd, B.sc, hkd, fun _ _ => by rw [B.fn], by rw [B.K]; exact hZ.symm, fun _ => B.calm, B.tk, by omega, B.ow, fun _ g hg => ?_, fun _ g hg => ?_, fun _ g hg => ?_, fun x hx => by rw [B.mg]; exact T.bl x hx, fun p hp => by rw [B.mg]; exact T.cs p hp, fun z => Bool.noConfusion (show false = true from z), fun z => ⟨(B.top z).1, (B.top z).2, TX.ex, B.room⟩, fun e he => by rw [B.K, B.prog, B.mg]; exact TX.xc e he, fun h => by rw [B.K]; exact TX.al h, TX.an⟩
      · obtain ⟨j, d', hj, e1, e3, rfl⟩ := get hg
        simp only [ck_and, Bool.not_eq_true', decide_eq_true_eq] at e3
        obtain ⟨f', fd', G, _, hm', hk', hb'⟩ := ih j hj d' e1
        have eb : (globN (ds.map (·.b)) i).call j = runB (globN (ds.map (·.b)) j) d'.b := by
          rw [call_at hj, List.getD_eq_getElem?_getD, List.getElem?_map, e1]
          rfl
        refine ⟨d'.lv + 1, f', fd', d'.ps, ?_, B.room.mono e3.2, by rw [B.mg]; exact hm', by rw [B.K]; exact hk', by rw [B.K]; exact .all hb'⟩
        show FnOk X.prog X.w X.K X.mg X.base (L2.CX X.prog X.w) (d'.lv + 1) f' fd' d'.ps (spF Z d'.b.fresh d'.ps.length ((globN (ds.map (·.b)) i).call j))
        rw [eb, B.prog, B.w, B.K, B.mg, B.base]
        exact G e3.1 base
      · obtain ⟨j, d', hj, e1, e3, rfl⟩ := get hg
        simp only [ck_and, decide_eq_true_eq] at e3
        obtain ⟨f', fd', _, G, hm', hk', hb'⟩ := ih j hj d' e1
        have eb : (globN (ds.map (·.b)) i).gen j = runG (globN (ds.map (·.b)) j) d'.b := by
          rw [gen_at hj, List.getD_eq_getElem?_getD, List.getElem?_map, e1]
          rfl
        refine ⟨d'.lv + 1, f', fd', d'.ps, ?_, B.room.mono (by have := e3.2; omega), by rw [B.mg]; exact hm', by rw [B.K]; exact hk', by rw [B.K]; exact .all hb'⟩
        show GFn X.prog X.w X.K X.mg X.base (d'.lv + 1) f' fd' d'.ps (spGF Z d'.ps.length ((globN (ds.map (·.b)) i).gen j))
        rw [eb, B.prog, B.w, B.K, B.mg, B.base]
        exact G e3.1 base
      · obtain ⟨j, d', hj, e1, e3, rfl⟩ := get hg
        simp only [ck_and, Bool.not_eq_true', decide_eq_true_eq] at e3
        obtain ⟨⟨⟨e4, e5⟩, e6⟩, e7⟩ := e3
        obtain ⟨f', fd', G, _, hm', hk', hb'⟩ := ih j hj d' e1
        have eb : (globN (ds.map (·.b)) i).call j = runB (globN (ds.map (·.b)) j) d'.b := by
          rw [call_at hj, List.getD_eq_getElem?_getD, List.getElem?_map, e1]
          rfl
        refine ⟨d'.lv + 1, f', fd', d'.ps, ?_, B.room.mono (by omega), by rw [B.mg]; exact hm', by rw [B.K]; exact hk', by rw [B.K]; exact .all hb'⟩
        show FnOk X.prog X.w X.K X.mg X.base (L2.CX X.prog X.w) (d'.lv + 1) f' fd' d'.ps (spF Z false 1 ((globN (ds.map (·.b)) i).call j))
        rw [eb, B.prog, B.w, B.K, B.mg, B.base]
        have q := G e4 base
        rw [e5, e6] at q
        exact q
    refine ⟨f, fd, fun hg base => ?_, fun hg base => ?_, hm, F.kp, hb⟩
    · rw [hg] at c1
      have sc := scC_fn c1
      have e : d.b.gen = none := by
        unfold isG at hg
        cases q : d.b.gen with
        | none => rfl
        | some g => rw [q] at hg; cases hg
      rw [e] at c3
      exact fn_ok F sc c2 fun W X B => ck_ok _ _ _ c3 X _ (cok base W X true B sc.nd sc.kind)
    · rw [hg] at c1
      have sc := scC_gn c1
      obtain ⟨g, e⟩ : ∃ g, d.b.gen = some g := by
        unfold isG at hg
        cases q : d.b.gen with
        | none => rw [q] at hg; cases hg
        | some g => exact ⟨g, rfl⟩
      rw [e] at c3
      exact gen_ok F sc c2 e fun X B => ckGs_ok _ _ _ _ _ c3 X _ (cok base _ X false B.cx sc.nd sc.kind) (by rw [B.cx.sc]; exact sc.co) B.q
/-- the law's promise -/
def spLaw (K : PySem.W.Frag) (n : Nat) : Sp := fun vs H Q _ => ∃ (a : Addr) (ns : List Int), vs = [.ref a] ∧ Only H ∧ SqL K H a (ns.map V.int) ∧ ns.length ≤ n ∧ ∀ H', Q (.bl true) H'
theorem law_ok {n : Nat} (T : Told K mg ds blts cst) (TX : ToldX K P mg Z xcs an) (hZ : Z.K = K) (hC : dnsC ds blts cst xcs an fuel ds.length = true) {i : Nat} {d : Dn} (hd : ds[i]? = some d) (hg : isG d = false) (hp : d.ps = [x])
    (plain : ∀ ns : List Int, ns.length ≤ n → runB (globN (ds.map (·.b)) i) d.b [.frz (.scr ns)] = .ok (.bl true)) :
    ∃ f fd, (∀ base : Heap, FnOk P w K mg base (L2.CX P w) (d.lv + 1) f fd [x] (spLaw K n)) ∧ mg d.nm = some (.ref f) ∧ ∀ u : Value, bindArgs fd ⟨[u], []⟩ = pure [(x, u)] := by
  obtain ⟨f, fd, F, _, hm, _, hb⟩ := def_ok (P := P) (w := w) T TX hZ hC i d hd
  have F := F hg
  rw [hp] at F hb
  refine ⟨f, fd, fun base => (F base).imp fun vs H Q E h => ?_, hm, fun u => hb [u] rfl⟩
  obtain ⟨a, ns, rfl, hO, hS, hl, k⟩ := h
  refine ⟨rfl, fun b => b = a ∧ H b ≠ none, [.frz (.scr ns)], fun b h => h.2, ⟨.ref a, [], rfl, ?_, rfl⟩, ?_⟩
  · show Rep Z _ H (.scr ns) (.ref a)
    rcases hS with hS | hS
    · have fz : ∃ o, H a = some (.frz o (.lst (ns.map V.int))) := by
        rcases hO a with z | ⟨o, xs, z⟩
        · rcases hS with q | ⟨o, q⟩
          · rw [z] at q
            cases q
          · rw [z] at q
            cases q
        · rcases hS with q | ⟨o', q⟩
          · rw [z] at q
            cases q
          · exact ⟨o', q⟩
      obtain ⟨o, z⟩ := fz
      exact .inl ⟨a, rfl, ⟨o, z⟩, rfl, some_ne z⟩
    · refine .inr ⟨a, rfl, .inr ?_⟩
      rw [hZ]
      exact hS
  · rw [plain ns hl]
    intro v F' H' g p
    have e : v = .bl true := by
      cases hf : d.b.fresh <;> (rw [hf] at p; exact p)
    rw [e]
    exact k H'
end
/-- with exceptions alone -/
def wdX (K : PySem.W.Frag) (an : List Str) (xc : Nat → Value) : Wd := ⟨K, fun k => an.getD k Str.empty, fun _ _ => False, xc, fun _ _ _ => False⟩
theorem law_okX {P : Program} {w : World} {K : PySem.W.Frag} {mg : Str → Option Value} {ds : List Dn} {blts : List Str} {cst : List (Str × D)} {xcs : List Xd} {an : List Str} {xc : Nat → Value} {fuel n : Nat} {x : Str} (T : Told K mg ds blts cst) (TX : ToldX K P mg (wdX K an xc) xcs an) (hC : dnsC ds blts cst xcs an fuel ds.length = true) {i : Nat} {d : Dn} (hd : ds[i]? = some d) (hg : isG d = false) (hp : d.ps = [x])
    (plain : ∀ ns : List Int, ns.length ≤ n → runB (globN (ds.map (·.b)) i) d.b [.frz (.scr ns)] = .ok (.bl true)) :
    ∃ f fd, (∀ base : Heap, FnOk P w K mg base (L2.CX P w) (d.lv + 1) f fd [x] (spLaw K n)) ∧ mg d.nm = some (.ref f) ∧ ∀ u : Value, bindArgs fd ⟨[u], []⟩ = pure [(x, u)] := law_ok (Z := wdX K an xc) T TX rfl hC hd hg hp plain
theorem told0 {K : PySem.W.Frag} {P : Program} {mg : Str → Option Value} : ToldX K P mg (wdX K [] fun _ => .none) [] [] := ⟨fun _ h => (by cases h), fun h => (by cases h), fun _ => rfl, fun _ _ _ z => z⟩
/-! ### from the head -/
section
variable {K : PySem.W.Frag} {mg : Str → Option Value} {h : Heap}
theorem dn_mk {d : Dn} {f : Addr} {oc : Value} {od an : Option Addr} {osl : Array (Option Value)} {kV doc pm cdv ct : Value} (X : K.In h) (G : h.Ns mainGlobals mg) (a : PySem.W.nsIn K mainGlobals d.nm = some (some (.ref f)))
    (l : K.lookup f = some ⟨oc, od, .func (PySem.W.fnOf d.nm d.qual (defArgs d.st) (defBody d.st) (defScope d.st) .none kV doc pm an cdv ct), osl⟩) (c : PySem.W.codeIn K cdv d.qual = true) (k : PySem.W.keepIn K (.ref f) = true)
    (b : ∀ (kV doc pm : Value) (an : Option Addr) (cdv ct : Value) (us : List Value), us.length = d.ps.length → bindArgs (PySem.W.fnOf d.nm d.qual (defArgs d.st) (defBody d.st) (defScope d.st) .none kV doc pm an cdv ct) ⟨us, []⟩ = pure (d.ps.zip us)) : DnOk K mg d :=
  ⟨⟨f, _, fun_mk l c k, PySem.W.mg_of X G a, b _ _ _ _ _ _⟩⟩
theorem cst_int {x : Str} {i : Int} {t : Tok} (X : K.In h) (G : h.Ns mainGlobals mg) (a : PySem.W.nsIn K mainGlobals x = some (some (.int i t))) : ∃ v u, mg x = some u ∧ RelV v u ∧ isCst (.int i) v := ⟨.int i, _, PySem.W.mg_of X G a, ⟨t, rfl⟩, rfl⟩
theorem cst_str {x : Str} {i : Str} {t : Tok} (X : K.In h) (G : h.Ns mainGlobals mg) (a : PySem.W.nsIn K mainGlobals x = some (some (.str i t))) : ∃ v u, mg x = some u ∧ RelV v u ∧ isCst (.str i) v := ⟨.str i, _, PySem.W.mg_of X G a, ⟨t, rfl⟩, rfl⟩
end
theorem walk {l : PySem.W.OpenLaw} {n k : Nat} {x : Str} {q : Program} {loose : List Str} {XP : (Str → Option Value) → Heap → Prop} {YP : World → Heap → Prop} {d : DefRec} {K : Params → PySem.W.Frag} (hn : l.most = some n) (hn2 : n ≤ sizeLine) (hdf : d.params.defaults = []) (hr : Room k PySem.callerA)
    (hY : ∀ (w : World) (h : Heap), YP w h → (K w.params).In h)
    (F : ∀ (w : World) (mg : Str → Option Value) (h : Heap), (K w.params).In h → h.Ns mainGlobals mg → ∃ f fd, (∀ base : Heap, FnOk l.prog w (K w.params) mg base (L2.CX l.prog w) k f fd [x] (spLaw (K w.params) n)) ∧ mg d.name = some (.ref f) ∧ ∀ u : Value, bindArgs fd ⟨[u], []⟩ = pure [(x, u)]) :
    PySem.W.WalkO q loose XP YP l.row.toRowW d [] (fun f vs => PySem.call f vs) := by
  refine L2.walk_of (n := n) (k := k) (x := x) (CX := fun w => L2.CX l.prog w) (sp := fun w => spLaw (K w.params) n) hn hn2 hdf hr hY (fun w mg fa h KX G hfa => ?_) (fun _ H a ns hl hO hS => ⟨a, ns, rfl, hO, hS, hl, fun _ => rfl⟩) fun w H s e s' z => ?_
  · obtain ⟨f, fd, F, hm, hb⟩ := F w mg h KX G
    have e := hm.symm.trans hfa
    cases e
    exact ⟨fd, fun s u => .of_eq (hb u), fun base _ _ => F base⟩
  · obtain ⟨_, _, _, _, _, _, _, _, _, _, _, _, z⟩ := z
    exact z
end Mi
namespace Mi
open PySem L2
/-! ### the exception classes, told -/
/-- the classes by their numbers -/
def xcT (ls : List (Nat × Addr)) (n : Nat) : Value := if n = 0 then .type "ValueError" else .ref (match ls.lookup n with | some a => a | none => (ls.lookup 1).getD 0)
section
variable {K : PySem.W.Frag} {P : Program} {mg : Str → Option Value} {an : List Str} {ls : List (Nat × Addr)}
/-- what is told of one class -/
structure XcT (K : PySem.W.Frag) (an : List Str) (D : Addr) : Prop where
  ga : PySem.W.findIn K (.ref D) "__getattribute__" = some (some (.builtin "BaseException.__getattribute__"))
  gg : PySem.W.findIn K (.ref D) "__getattr__" = some none
  exC : PySem.W.subIn K (.ref D) (.type "BaseException") = some true
  hdC : PySem.W.hasDictIn K D = true
  ha : PySem.W.findIn K (.ref D) "__class__" = some (some (.builtin "object.__class__"))
  hm : PySem.W.mroIn K D (.type "object") = some true
  ty : PySem.W.typeIn K (.ref D) = some (.type "type")
  hn : PySem.W.specialIn K (.builtin "object.__class__") "__get__" = some (some (.builtin "getset_descriptor.__get__"))
  ht : PySem.W.takesIn K (.builtin "object.__class__") = some true
  fno : ∀ f ∈ Str.empty :: an, PySem.W.findIn K (.ref D) f = some none
theorem XcT.hcl {D : Addr} (h : XcT K an D) : ∃ cd, PySem.W.clsIn K D = some cd := by
  obtain ⟨cd, e, _⟩ := PySem.W.any_some h.hdC
  exact ⟨cd, e⟩
theorem getD_mem (an : List Str) (k : Nat) : an.getD k Str.empty ∈ Str.empty :: an := by
  rw [List.getD_eq_getElem?_getD]
  cases h : an[k]? with
  | none => exact List.mem_cons_self
  | some f => exact List.mem_cons_of_mem _ (List.mem_of_getElem? h)
theorem XcT.xf {D : Addr} {xc : Nat → Value} (h : XcT K an D) : XcF K (wdX K an xc) D := by
  obtain ⟨cd, e⟩ := h.hcl
  exact ⟨by rw [e]; rfl, h.ga, h.gg, h.exC, h.hdC, h.ha, h.hm, h.ty, h.hn, h.ht, fun k => h.fno _ (getD_mem an k)⟩
theorem lookup_mem {n : Nat} {a : Addr} : ∀ {ls : List (Nat × Addr)}, ls.lookup n = some a → (n, a) ∈ ls
  | [], h => by cases h
  | (m, b) :: r, h => by
    rw [List.lookup_cons] at h
    split at h
    · rename_i e
      cases h
      rw [eq_of_beq e]
      exact List.mem_cons_self
    · exact List.mem_cons_of_mem _ (lookup_mem h)
/-- all classes together -/
structure XcS (K : PySem.W.Frag) (an : List Str) (ls : List (Nat × Addr)) : Prop where
  one : ∃ a, ls.lookup 1 = some a
  tl : ∀ p ∈ ls, XcT K an p.2
  sub : ∀ p ∈ ls, ∀ q ∈ ls, PySem.W.subIn K (.ref p.2) (.ref q.2) = some (subX p.1 q.1)
  ve : ∀ q ∈ ls, PySem.W.subIn K (.type "ValueError") (.ref q.2) = some false
  nz : ∀ p ∈ ls, p.1 ≠ 0
theorem XcS.at_ (T : XcS K an ls) (n : Nat) (h0 : n ≠ 0) : ∃ m D, (m, D) ∈ ls ∧ xcT ls n = .ref D ∧ ∀ c, ls.lookup c ≠ none → subX n c = subX m c := by
  unfold xcT
  rw [if_neg h0]
  cases h : ls.lookup n with
  | some a => exact ⟨n, a, lookup_mem h, rfl, fun _ _ => rfl⟩
  | none =>
    obtain ⟨a, e⟩ := T.one
    refine ⟨1, a, lookup_mem e, by rw [e]; rfl, fun c hc => ?_⟩
    have nc : n ≠ c := fun e => hc (by rw [← e]; exact h)
    have cz : c ≠ 0 := by
      cases q : ls.lookup c with
      | none => exact absurd q hc
      | some b => exact T.nz _ (lookup_mem q)
    unfold subX
    have e1 : (n == c) = false := by simpa using nc
    have e2 : (c == 0) = false := by simpa using cz
    have e3 : (n != 0) = true := by simpa using h0
    rw [e1, e2, e3]
    by_cases h1 : c = 1
    · subst h1
      rfl
    · have e4 : (c == 1) = false := by simpa using h1
      have e5 : (1 == c) = false := by simpa using fun e : 1 = c => h1 e.symm
      rw [e4, e5]
      rfl
theorem XcS.all (T : XcS K an ls) : XcAll K (wdX K an (xcT ls)) := fun n h0 => by
  obtain ⟨m, D, hm, e, _⟩ := T.at_ n h0
  exact ⟨D, e, (T.tl _ hm).xf⟩
theorem XcS.ex (T : XcS K an ls) {c : Nat} {C : Addr} (hc : ls.lookup c = some C) (n : Nat) : PySem.W.exmOne K (xcT ls n) (.ref C) = some (subX n c) := by
  have tc := T.tl _ (lookup_mem hc)
  by_cases h0 : n = 0
  · subst h0
    have cz := T.nz _ (lookup_mem hc)
    have e : subX 0 c = false := by
      unfold subX
      have e1 : (0 == c) = false := by simpa using fun e : 0 = c => cz e.symm
      have e2 : (c == 0) = false := by simpa using cz
      rw [e1, e2]
      simp
    rw [e]
    exact PySem.W.exm_ref tc.exC tc.hdC tc.ty (T.ve _ (lookup_mem hc))
  · obtain ⟨m, D, hm, e, hs⟩ := T.at_ n h0
    rw [e, hs c (by rw [hc]; exact fun z => by cases z)]
    exact PySem.W.exm_ref tc.exC tc.hdC tc.ty (T.sub _ hm _ (lookup_mem hc))
theorem XcS.isi (T : XcS K an ls) {c : Nat} {C : Addr} (hc : ls.lookup c = some C) (n : Nat) (h0 : n ≠ 0) : PySem.W.kitOne K (xcT ls n) (.ref C) = some (subX n c) := by
  have tc := T.tl _ (lookup_mem hc)
  obtain ⟨m, D, hm, e, hs⟩ := T.at_ n h0
  rw [e, hs c (by rw [hc]; exact fun z => by cases z)]
  have sm := T.sub _ hm _ (lookup_mem hc)
  unfold PySem.W.kitOne
  by_cases he : (Value.ref D == Value.ref C) = true
  · rw [if_pos he]
    have ed : D = C := Value.ref.inj (eq_of_beq he)
    subst ed
    have ss := T.sub _ hm _ hm
    have sm : PySem.W.subIn K (.ref D) (.ref D) = some (subX m c) := sm
    rw [ss] at sm
    rw [← Option.some.inj sm]
    simp [subX]
  · rw [if_neg he]
    obtain ⟨cd, ec⟩ := tc.hcl
    show (if ((PySem.W.clsIn K C).isSome && PySem.W.typeIn K (.ref C) == some (.type "type")) = true then PySem.W.subIn K (.ref D) (.ref C) else none) = _
    have ty : PySem.W.typeIn K (.ref C) = some (.type "type") := tc.ty
    have ec : PySem.W.clsIn K C = some cd := ec
    rw [ec, ty, if_pos (by simp)]
    exact sm
/-- a class that is named -/
theorem XcS.is {h : Heap} (T : XcS K an ls) (X : K.In h) (G : h.Ns mainGlobals mg) {d : Xd} {C : Addr} (hc : ls.lookup d.id = some C) (a : PySem.W.nsIn K mainGlobals d.nm = some (some (.ref C))) (kp : PySem.W.keepIn K (.ref C) = true)
    (new : d.rs = true → d.fld = none → PySem.W.excIn K C PySem.HandSPX.veTail "ValueError.__new__" = true)
    (newF : d.rs = true → ∀ k f, d.fld = some (k, f) → an.getD k Str.empty = f ∧ mg "super" = none ∧ ∃ fI fd sf x, IniK K P C f fI fd sf x ∧ Binds K fd [sf, x] []) : XcIs K P mg (wdX K an (xcT ls)) d := by
  have e : xcT ls d.id = .ref C := by
    unfold xcT
    rw [if_neg (T.nz _ (lookup_mem hc)), hc]
  refine ⟨⟨C, PySem.W.mg_of X G a, e, kp⟩, fun n => ?_, fun n h0 => ?_, fun hr h => ⟨C, e, new hr h⟩, fun hr k f h => ?_⟩
  · show PySem.W.exmOne K (xcT ls n) (xcT ls d.id) = _
    rw [e]
    exact T.ex hc n
  · show PySem.W.kitOne K (xcT ls n) (xcT ls d.id) = _
    rw [e]
    exact T.isi hc n h0
  · obtain ⟨h1, h2, fI, fd, sf, x, N, B⟩ := newF hr k f h
    exact ⟨h1, h2, C, fI, fd, sf, x, e, N, B⟩
/-- a class with __init__: what is told -/
theorem ini_mk {C fI cc c0 : Addr} {f sf x nm q qual file : Str} {N : Addr} {bs bm sub : List Value} {sn : List Str} {ab : Bool} {col : Option Bool} {dd od od2 od3 ano : Option Addr} {k0 k1 k2 k3 k5 : Option Value} {oc oc2 oc3 dV kV doc pm ct : Value} {osl osl2 osl3 : Array (Option Value)} {ps : Arguments} {b : List PySem.Stmt} {sc : Scope} {vs : Array Value} {tf : Tok} {ar : PySem.Arg}
    (l1 : K.lookup C = some (excClassObj nm q C N bs bm true sn sub ab col dd k0 k1 k2 k3 k5 "ValueError.__new__")) (l2 : PySem.HandSPX.refsVE bm = true) (sa : PySem.W.findIn K (.ref C) "__setattr__" = some (some (.builtin "object.__setattr__")))
    (exC : PySem.W.subIn K (.ref C) (.type "BaseException") = some true) (ty : PySem.W.typeIn K (.ref C) = some (.type "type")) (kp : PySem.W.keepIn K (.ref C) = true) (iC : PySem.W.findIn K (.ref C) "__init__" = some (some (.ref fI))) (tI : PySem.W.typeIn K (.ref fI) = some (.type "function"))
    (lk : K.lookup fI = some ⟨oc, od, .func ⟨"__init__", qual, ps, .stmts b, sc, mainGlobals, [("__class__", cc)], dV, kV, doc, pm, ano, .ref c0, ct, builtinsNs⟩, osl⟩) (cd : PySem.W.codeIn K (.ref c0) qual = true) (hb : iniB b sf x f = true) (hs : iniSc sc sf x = true)
    (har : (ps.posonlyargs ++ ps.args).head? = some ar) (ear : ar.arg = sf) (lcc : K.lookup cc = some ⟨oc2, od2, .cell (some (.ref C)), osl2⟩) (lc0 : K.lookup c0 = some ⟨oc3, od3, .fields vs, osl3⟩) (hvs : vs[2]? = some (.str file tf)) (hfile : ((P.main.file : Str) == file) = true) (top : (P.main.scope.names.lookup ("super" : Str)).isSome = false)
    (fno : PySem.W.findIn K (.ref C) f = some none) (sup : PySem.W.ks_superIn K C C "__init__" = some (some (.builtin "ValueError.__init__"))) (sV : PySem.W.subIn K (.ref C) (.type "ValueError") = some true) (sS : PySem.W.subIn K (.ref C) (.ref C) = some true) (opq : PySem.W.nsIn K cStatics "thirdparty.any" = some none)
    (hbd : ∀ us : List Value, us.length = 2 → bindArgs ⟨"__init__", qual, ps, .stmts b, sc, mainGlobals, [("__class__", cc)], dV, kV, doc, pm, ano, .ref c0, ct, builtinsNs⟩ ⟨us, []⟩ = pure ([sf, x].zip us)) :
    ∃ fI fd sf x, IniK K P C f fI fd sf x ∧ Binds K fd [sf, x] [] :=
  ⟨fI, _, sf, x, ⟨⟨⟨nm, q, N, bs, bm, sn, sub, ab, col, dd, k0, k1, k2, k3, k5, l1, l2⟩, sa, exC, ty, kp⟩, iC, tI, ⟨oc, od, osl, lk⟩, cd, ⟨b, rfl, hb⟩, hs, rfl, rfl, ⟨ar, har, ear⟩, ⟨cc, oc2, od2, osl2, rfl, lcc⟩, ⟨c0, oc3, od3, osl3, vs, file, tf, rfl, lc0, hvs, hfile⟩, top, fno, sup, sV, sS, opq⟩, .all fun us h => hbd us h⟩
end
end Mi
namespace Mi
open PySem L2
/-! ### reading a mini text -/
section
variable {Γ : Glob} {env : Env} {α β : Type}
@[simp] theorem gt_zero (a : Slot) (r : Env) : gt (a :: r) 0 = a := id rfl
@[simp] theorem gt_succ (a : Slot) (r : Env) (i : Nat) : gt (a :: r) (i + 1) = gt r i := id rfl
@[simp] theorem val_frz (d : D) : (Slot.frz d).val = .ok d := id rfl
@[simp] theorem val_own (d : D) : (Slot.own d).val = .ok d := id rfl
@[simp] theorem val_bor (d : D) : (Slot.bor d).val = .ok d := id rfl
@[simp] theorem val_un : Slot.un.val = .bad := id rfl
@[simp] theorem b_ok (a : α) (f : α → R β) : (R.ok a).bind f = f a := id rfl
@[simp] theorem b_exc (x : Xn) (f : α → R β) : (R.exc x : R α).bind f = .exc x := id rfl
@[simp] theorem b_bad (f : α → R β) : (R.bad : R α).bind f = .bad := id rfl
@[simp] theorem m_ok (a : α) (f : α → β) : (R.ok a).map f = .ok (f a) := id rfl
@[simp] theorem m_exc (x : Xn) (f : α → β) : (R.exc x : R α).map f = .exc x := id rfl
@[simp] theorem n_ok (a : α) : (R.ok a).nox = .ok a := id rfl
@[simp] theorem o_ok' (a : α) (env : Env) (f : α → Out) : (R.ok a).out env f = f a := id rfl
@[simp] theorem y_ok (a : α) (f : α → Out) : (R.ok a).only f = f a := id rfl
@[simp] theorem go_ok (a : α) (f : α → GO) : (R.ok a).go f = f a := id rfl
@[simp] theorem optR_some (a : α) : optR (some a) = .ok a := id rfl
@[simp] theorem ev_var (i : Nat) : evE Γ (.var i) env = match gt env i with
      | .frz d => .ok d
      | _ => .bad := id rfl
@[simp] theorem ev_peek (i : Nat) : evE Γ (.peek i) env = (gt env i).val := id rfl
@[simp] theorem ev_cst (d : D) : evE Γ (.cst d) env = .ok d := id rfl
@[simp] theorem ev_bin (o : Bop) (a b : E) : evE Γ (.bin o a b) env = (evE Γ a env).bind fun x => (evE Γ b env).bind fun y => binD o x y := id rfl
@[simp] theorem ev_cmp (o : Cop) (a b : E) : evE Γ (.cmp o a b) env = (evE Γ a env).bind fun x => (evE Γ b env).bind fun y => cmpD o x y := id rfl
@[simp] theorem ev_isN (ng : Bool) (a : E) : evE Γ (.isN ng a) env = (evE Γ a env).bind fun x => .ok (.bl (if ng then !isNone x else isNone x)) := id rfl
@[simp] theorem ev_neg (a : E) : evE Γ (.neg a) env = (evE Γ a env).bind fun x => (intOf x).map fun i => .int (-i) := id rfl
@[simp] theorem ev_not (a : E) : evE Γ (.not a) env = (evE Γ a env).bind fun x => (truth x).map fun b => .bl (!b) := id rfl
@[simp] theorem ev_and (a b : E) : evE Γ (.and a b) env = (evE Γ a env).bind fun x => match x with
      | .bl true => evE Γ b env
      | .bl false => .ok (.bl false)
      | _ => .bad := id rfl
@[simp] theorem ev_or (a b : E) : evE Γ (.or a b) env = (evE Γ a env).bind fun x => match x with
      | .bl true => .ok (.bl true)
      | .bl false => evE Γ b env
      | _ => .bad := id rfl
@[simp] theorem ev_ife (c a b : E) : evE Γ (.ife c a b) env = (evE Γ c env).bind fun x => (truth x).bind fun t => if t then evE Γ a env else evE Γ b env := id rfl
@[simp] theorem ev_tup (xs : List E) : evE Γ (.tup xs) env = (evEs Γ xs env).map .tup := id rfl
@[simp] theorem ev_lst (xs : List E) : evE Γ (.lst xs) env = (evEs Γ xs env).map .lst := id rfl
@[simp] theorem ev_idx (a i : E) : evE Γ (.idx a i) env = (evE Γ a env).bind fun x => (evE Γ i env).bind fun y => idxD x y := id rfl
@[simp] theorem ev_sl (a : E) (lo hi : Option E) : evE Γ (.sl a lo hi) env = (evE Γ a env).bind fun x => (evO Γ lo env).bind fun l => (evO Γ hi env).bind fun h => slD x l h := id rfl
@[simp] theorem ev_comp (elt : E) (t : Tgt) (it : E) (ifs : List E) (own : List Nat) : evE Γ (.comp elt t it ifs own) env = (evE Γ it env).bind fun s => (items s).bind fun xs =>
      (compL (fun x => bindT t x (wipe env own)) (evIfs Γ ifs) (evE Γ elt) xs).nox.bind made := id rfl
@[simp] theorem ev_comp2 (elt : E) (t : Tgt) (it : E) (t1 : Tgt) (it1 : E) (ifs1 : List E) (own own1 : List Nat) : evE Γ (.comp2 elt t it t1 it1 ifs1 own own1) env = (evE Γ it env).bind fun s => (items s).bind fun xs =>
      (compL2 (fun x => bindT t x (wipe env own)) (fun e => (evE Γ it1 e).bind fun s1 => (items s1).bind fun ys =>
        compL (fun y => bindT t1 y (wipe e own1)) (evIfs Γ ifs1) (evE Γ elt) ys) xs).nox.bind made := id rfl
@[simp] theorem ev_call (fr : Bool) (f : Nat) (xs : List E) : evE Γ (.call fr f xs) env = (evAs Γ xs env).bind fun as => Γ.call f as := id rfl
@[simp] theorem ev_bi (b : Bi) (xs : List E) : evE Γ (.bi b xs) env = (evEs Γ xs env).bind fun ds => biD b ds := id rfl
@[simp] theorem ev_rng (lo : Option E) (hi : E) : evE Γ (.rng lo hi none) env = (evR Γ lo env).bind fun l => (evE Γ hi env).bind fun h => (intOf h).bind fun j => rngD l j := id rfl
@[simp] theorem ev_enum (a : E) : evE Γ (.enum a) env = (evE Γ a env).bind fun x => enumD x := id rfl
@[simp] theorem ev_zip (a b : E) : evE Γ (.zip a b) env = (evE Γ a env).bind fun x => (evE Γ b env).bind fun y => zipD x y := id rfl
@[simp] theorem ev_tru (a : E) : evE Γ (.tru a) env = (evE Γ a env).bind fun x => (truth x).map .bl := id rfl
@[simp] theorem ev_isi (t : Ty) (a : E) : evE Γ (.isi t a) env = (evE Γ a env).bind fun x => isiD t x := id rfl
@[simp] theorem ev_glist (f : Nat) (xs : List E) : evE Γ (.glist f xs) env = (evAs Γ xs env).bind fun as => (Γ.gen f as).nox.bind made := id rfl
@[simp] theorem evs_nil : evEs Γ [] env = .ok [] := id rfl
@[simp] theorem evs_cons (e : E) (r : List E) : evEs Γ (e :: r) env = (evE Γ e env).bind fun x => (evEs Γ r env).map (x :: ·) := id rfl
@[simp] theorem eva_nil : evAs Γ [] env = .ok [] := id rfl
@[simp] theorem eva_cons (e : E) (r : List E) : evAs Γ (e :: r) env = (evE Γ e env).bind fun x => (evAs Γ r env).map (lend env x e :: ·) := id rfl
@[simp] theorem evo_none : evO Γ none env = .ok none := id rfl
@[simp] theorem evo_some (e : E) : evO Γ (some e) env = (evE Γ e env).bind fun x => (intOf x).map some := id rfl
@[simp] theorem evr_none : evR Γ none env = .ok 0 := id rfl
@[simp] theorem evr_some (e : E) : evR Γ (some e) env = (evE Γ e env).bind intOf := id rfl
@[simp] theorem evi_nil : evIfs Γ [] env = .ok true := id rfl
@[simp] theorem evi_cons (e : E) (r : List E) : evIfs Γ (e :: r) env = (evE Γ e env).bind fun x => (truth x).bind fun b => if b then evIfs Γ r env else .ok false := id rfl
@[simp] theorem es_asg (i : Nat) (e : E) : evS Γ (.asg (.nm i) e) env = (evE Γ e env).out env fun d => .nx (env.set i (if frs e && isMut d then .own d else .frz d)) := id rfl
@[simp] theorem es_asgT (ts : List Tgt) (e : E) : evS Γ (.asg (.tup ts) e) env = (evE Γ e env).out env fun d => (bindT (.tup ts) d env).only .nx := id rfl
@[simp] theorem es_asgC (i : Nat) (e : E) : evS Γ (.asgC i e) env = (evE Γ e env).out env fun d => .nx (env.set i (if frs e && isMut d then .own d else .frz d)) := id rfl
@[simp] theorem es_par (i j : Nat) (a b : E) : evS Γ (.par i j a b) env = (evE Γ a env).out env fun x => (evE Γ b env).out env fun y => .nx ((env.set i (.frz x)).set j (.frz y)) := id rfl
@[simp] theorem es_setIt (i : Nat) (k e : E) : evS Γ (.setIt i k e) env = (evE Γ e env).out env fun d => (ownL (gt env i)).only fun xs => (evE Γ k env).out env fun kd => (intOf kd).only fun k =>
      (setD xs k d).only fun ys => .nx (env.set i (.own (.lst ys))) := id rfl
@[simp] theorem es_app (i : Nat) (e : E) : evS Γ (.app i e) env = (ownL (gt env i)).only fun xs => (evE Γ e env).out env fun d => if decide (xs.length < 1000000) then .nx (env.set i (.own (.lst (xs ++ [d])))) else .bad := id rfl
@[simp] theorem es_ins (i : Nat) (k e : E) : evS Γ (.ins i k e) env = (ownL (gt env i)).only fun xs => (evE Γ k env).out env fun kd => (intOf kd).only fun k => (evE Γ e env).out env fun d => if decide (xs.length < 1000000 ∧ 0 ≤ k ∧ k ≤ 1000000) then .nx (env.set i (.own (.lst (xs.take k.toNat ++ [d] ++ xs.drop k.toNat)))) else .bad := id rfl
@[simp] theorem es_ext (i : Nat) (e : E) : evS Γ (.ext i e) env = (ownL (gt env i)).only fun xs => (evE Γ e env).out env fun d => match d with
      | .lst ys => if lenLine (xs.length + ys.length) then .nx (env.set i (.own (.lst (xs ++ ys)))) else .bad
      | _ => .bad := id rfl
@[simp] theorem ev_srt (f : Nat) (a : E) : evE Γ (.srt f a) env = (evE Γ a env).bind fun d => srtD (fun x => Γ.call f [.frz x]) d := id rfl
@[simp] theorem ev_rev (a : E) : evE Γ (.rev a) env = (evE Γ a env).bind revD := id rfl
@[simp] theorem es_whl (c : E) (body : List S) : evS Γ (.whl c body) env = evWhl (fun e => (evE Γ c e).bind truth) (evSs Γ body) env fuel env := id rfl
@[simp] theorem es_expr (e : E) : evS Γ (.expr e) env = (evE Γ e env).out env fun _ => .nx env := id rfl
@[simp] theorem es_ret (e : E) : evS Γ (.ret e) env = (evE Γ e env).out env fun d => .ret d (frs e) := id rfl
@[simp] theorem es_retv (i : Nat) : evS Γ (.retv i) env = match gt env i with
      | .own d => .ret d true
      | .frz d => .ret d false
      | _ => .bad := id rfl
@[simp] theorem es_retN : evS Γ .retN env = .ret .non false := id rfl
@[simp] theorem es_ife (c : E) (a b : List S) : evS Γ (.ife c a b) env = ((evE Γ c env).bind truth).out env fun t => if t then evSs Γ a env else evSs Γ b env := id rfl
@[simp] theorem es_fr (t : Tgt) (it : E) (body : List S) : evS Γ (.fr t it body) env = ((evE Γ it env).bind items).out env fun xs =>
      (evFor (evSs Γ body) (bindT t) env xs (onAll lock (pks it) env)).onEnv (unlock env (pks it)) := id rfl
@[simp] theorem es_brk : evS Γ .brk env = .bk env := id rfl
@[simp] theorem es_cnt : evS Γ .cnt env = .ct env := id rfl
@[simp] theorem es_pass : evS Γ .pass env = .nx env := id rfl
@[simp] theorem es_wf (is : List Nat) (s : S) : evS Γ (.wf is s) env = evS Γ s (onAll freeze is env) := id rfl
@[simp] theorem ess_nil : evSs Γ [] env = .nx env := id rfl
@[simp] theorem ess_cons (s : S) (r : List S) : evSs Γ (s :: r) env = match evS Γ s env with
    | .nx e => evSs Γ r e
    | o => o := id rfl
@[simp] theorem onAll_nil (f : Slot → Slot) (env : Env) : onAll f [] env = env := id rfl
@[simp] theorem onAll_cons (f : Slot → Slot) (i : Nat) (r : List Nat) (env : Env) : onAll f (i :: r) env = onAll f r (env.set i (f (gt env i))) := id rfl
@[simp] theorem unlock_nil (e0 env : Env) : unlock e0 [] env = env := id rfl
@[simp] theorem unlock_cons (e0 : Env) (i : Nat) (r : List Nat) (env : Env) : unlock e0 (i :: r) env = unlock e0 r (env.set i (un1 (gt e0 i) (gt env i))) := id rfl
@[simp] theorem on_nx (f : Env → Env) (e : Env) : (Out.nx e).onEnv f = .nx (f e) := id rfl
@[simp] theorem on_ret (f : Env → Env) (d : D) (o : Bool) : (Out.ret d o).onEnv f = .ret d o := id rfl
@[simp] theorem mask_un (r : Env) (s : Slot) (r' : Env) : mask (.un :: r) (s :: r') = .un :: mask r r' := id rfl
@[simp] theorem mask_own (d : D) (r : Env) (s : Slot) (r' : Env) : mask (.own d :: r) (s :: r') = s :: mask r r' := id rfl
@[simp] theorem mask_frz (d : D) (r : Env) (s : Slot) (r' : Env) : mask (.frz d :: r) (s :: r') = s :: mask r r' := id rfl
@[simp] theorem mask_bor (d : D) (r : Env) (s : Slot) (r' : Env) : mask (.bor d :: r) (s :: r') = s :: mask r r' := id rfl
@[simp] theorem mask_nil : mask [] [] = [] := id rfl
@[simp] theorem ef_nil (body : Env → Out) (bd : D → Env → R Env) (e0 env : Env) : evFor body bd e0 [] env = .nx env := id rfl
theorem ef_cons (body : Env → Out) (bd : D → Env → R Env) (e0 : Env) (x : D) (xs : List D) (env : Env) : evFor body bd e0 (x :: xs) env = (bd x env).only fun e1 => match body e1 with
      | .nx e2 => evFor body bd e0 xs (mask e0 e2)
      | .ct e2 => evFor body bd e0 xs (mask e0 e2)
      | .bk e2 => .nx (mask e0 e2)
      | o => o := id rfl
@[simp] theorem bt_nm (i : Nat) (d : D) (env : Env) : bindT (.nm i) d env = .ok (env.set i (.frz d)) := id rfl
@[simp] theorem bt_tup (ts : List Tgt) (xs : List D) (env : Env) : bindT (.tup ts) (.tup xs) env = bindTs ts xs env := id rfl
@[simp] theorem bts_nil (env : Env) : bindTs [] [] env = .ok env := id rfl
@[simp] theorem bts_cons (t : Tgt) (ts : List Tgt) (x : D) (xs : List D) (env : Env) : bindTs (t :: ts) (x :: xs) env = (bindT t x env).bind (bindTs ts xs) := id rfl
@[simp] theorem ownL_own (xs : List D) : ownL (.own (.lst xs)) = .ok xs := id rfl
@[simp] theorem lock_frz (d : D) : lock (.frz d) = .frz d := id rfl
@[simp] theorem lock_own (d : D) : lock (.own d) = .bor d := id rfl
@[simp] theorem lock_bor (d : D) : lock (.bor d) = .bor d := id rfl
@[simp] theorem freeze_frz (d : D) : freeze (.frz d) = .frz d := id rfl
@[simp] theorem freeze_own (d : D) : freeze (.own d) = .frz d := id rfl
@[simp] theorem un1_f (d : D) (s : Slot) : un1 (.frz d) s = s := by cases s <;> rfl
@[simp] theorem un1_b (d : D) (s : Slot) : un1 (.bor d) s = s := by cases s <;> rfl
@[simp] theorem un1_ob (d e : D) : un1 (.own d) (.bor e) = .own e := id rfl
@[simp] theorem mut_int (i : Int) : isMut (.int i) = false := id rfl
@[simp] theorem mut_bl (i : Bool) : isMut (.bl i) = false := id rfl
@[simp] theorem mut_tup (i : List D) : isMut (.tup i) = false := id rfl
@[simp] theorem mut_non : isMut .non = false := id rfl
@[simp] theorem mut_lst (i : List D) : isMut (.lst i) = true := id rfl
@[simp] theorem pks_peek (i : Nat) : pks (.peek i) = [i] := id rfl
@[simp] theorem items_lst (xs : List D) : items (.lst xs) = .ok xs := id rfl
@[simp] theorem items_tup (xs : List D) : items (.tup xs) = .ok xs := id rfl
@[simp] theorem items_itr (xs : List D) : items (.itr xs) = .ok xs := id rfl
@[simp] theorem truth_bl (b : Bool) : truth (.bl b) = .ok b := id rfl
end
/-! ### the draws that every law makes -/
theorem atI_nat {α : Type} {l : List α} {k : Nat} : L2.atI l (k : Int) = l[k]? := by
  unfold L2.atI L2.ixN
  by_cases h : k < l.length
  · simp [h]
  · simp [h]
def cellB : Body := ⟨2, false, [.ife (.cmp .lt (.peek 1) (.bi .len [.peek 0])) [.ret (.idx (.peek 0) (.peek 1))] [], .ret (.bin .add (.bin .mul (.cst (.int 7919)) (.peek 1)) (.cst (.int 104729)))], none⟩
def cellN (ns : List Int) (k : Nat) : Int := match ns[k]? with
  | some v => v
  | none => 7919 * (k : Int) + 104729
theorem cell_eq (Γ : Glob) (ns : List Int) (k : Nat) : runB Γ cellB [.frz (.scr ns), .frz (.int k)] = .ok (.int (cellN ns k)) := by
  unfold cellN
  by_cases h : k < ns.length
  · have h' : (k : Int) < ns.length := by omega
    have e : L2.atI ns (k : Int) = some ns[k] := by
      rw [atI_nat, List.getElem?_eq_getElem h]
    simp [runB, cellB, biD, lenD, cmpD, ltD, idxD, h', h, e]
  · have h' : ¬ (k : Int) < ns.length := by omega
    have h2 : ns[k]? = none := List.getElem?_eq_none (by omega)
    simp [runB, cellB, biD, lenD, cmpD, ltD, h', h2, binD, mulD, addD, fitMul, Mi.frs]
def drawsB : Body := ⟨6, true, [.asg (.nm 2) (.cst (.int 0)), .ife (.cmp .ge (.peek 0) (.bin .pow (.cst (.int 10)) (.cst (.int 18)))) [.asg (.nm 2) (.bin .sub (.peek 0) (.bin .pow (.cst (.int 10)) (.cst (.int 18))))] [],
  .asg (.nm 3) (.bin .mod (.bin .mul (.bi .int [.peek 0]) (.cst (.int 48271))) (.cst (.int 2147483647))), .asg (.nm 4) (.lst []),
  .fr (.nm 5) (.peek 1) [.asg (.nm 3) (.bin .mod (.bin .add (.bin .mul (.peek 3) (.cst (.int 16807))) (.cst (.int 10007))) (.cst (.int 2147483647))), .ife (.cmp .gt (.peek 2) (.cst (.int 0))) [.app 4 (.bin .mod (.peek 2) (.peek 5)), .asg (.nm 2) (.bin .fdiv (.peek 2) (.peek 5))] [.app 4 (.bin .mod (.bin .fdiv (.peek 3) (.cst (.int 64))) (.peek 5))]],
  .retv 4], none⟩
def drawsL : Int → Int → List Int → List Int
  | _, _, [] => []
  | rest, state, l :: ls => if 0 < rest then rest % l :: drawsL (rest / l) ((state * 16807 + 10007) % 2147483647) ls else ((state * 16807 + 10007) % 2147483647) / 64 % l :: drawsL rest ((state * 16807 + 10007) % 2147483647) ls
def drawsN (c : Int) (ls : List Int) : List Int := drawsL (if 1000000000000000000 ≤ c then c - 1000000000000000000 else 0) (c * 48271 % 2147483647) ls
theorem drawsL_len : ∀ (ls : List Int) (r s : Int), (drawsL r s ls).length = ls.length
  | [], _, _ => rfl
  | l :: ls, r, s => by
    rw [drawsL]
    split <;> simp [drawsL_len ls]
theorem drawsN_len (c : Int) (ls : List Int) : (drawsN c ls).length = ls.length := drawsL_len ls _ _
theorem drawsL_in : ∀ (ls : List Int) (r s : Int), (∀ l ∈ ls, 0 < l) → ∀ (i : Nat) (l v : Int), ls[i]? = some l → (drawsL r s ls)[i]? = some v → 0 ≤ v ∧ v < l
  | [], _, _, _, i, l, v, h, _ => by simp at h
  | x :: ls, r, s, hp, i, l, v, h, g => by
    have hx := hp x List.mem_cons_self
    have ih := fun r s i l v => drawsL_in ls r s (fun l hl => hp l (List.mem_cons_of_mem _ hl)) i l v
    rw [drawsL] at g
    cases i with
    | zero =>
      simp at h
      subst h
      split at g
      · simp at g
        subst g
        exact ⟨Int.emod_nonneg _ (by omega), Int.emod_lt_of_pos _ hx⟩
      · simp at g
        subst g
        exact ⟨Int.emod_nonneg _ (by omega), Int.emod_lt_of_pos _ hx⟩
    | succ i =>
      split at g
      · exact ih _ _ i l v (by simpa using h) (by simpa using g)
      · exact ih _ _ i l v (by simpa using h) (by simpa using g)
theorem drawsN_in {c : Int} {ls : List Int} (hp : ∀ l ∈ ls, 0 < l) {i : Nat} {l v : Int} (h : ls[i]? = some l) (g : (drawsN c ls)[i]? = some v) : 0 ≤ v ∧ v < l := drawsL_in ls _ _ hp i l v h g
theorem draws_loop (Γ : Glob) (c : D) (L : Slot) (hL : ∃ d, L = .frz d ∨ L = .bor d) (e2 e3 e4 : D) : ∀ (ls : List Int) (acc : List D) (rest state : Int), (∀ l ∈ ls, fitDiv l = true) → acc.length + ls.length < 1000000 →
    ∃ r' s' : Int, evFor (evSs Γ [.asg (.nm 3) (.bin .mod (.bin .add (.bin .mul (.peek 3) (.cst (.int 16807))) (.cst (.int 10007))) (.cst (.int 2147483647))), .ife (.cmp .gt (.peek 2) (.cst (.int 0))) [.app 4 (.bin .mod (.peek 2) (.peek 5)), .asg (.nm 2) (.bin .fdiv (.peek 2) (.peek 5))] [.app 4 (.bin .mod (.bin .fdiv (.peek 3) (.cst (.int 64))) (.peek 5))]])
      (bindT (.nm 5)) [.frz c, L, .frz e2, .frz e3, .own e4, .un] (ls.map .int) [.frz c, L, .frz (.int rest), .frz (.int state), .own (.lst acc), .un] = .nx [.frz c, L, .frz (.int r'), .frz (.int s'), .own (.lst (acc ++ (drawsL rest state ls).map .int)), .un]
  | [], acc, rest, state, _, _ => ⟨rest, state, by simp [drawsL]⟩
  | l :: ls, acc, rest, state, hp, hl => by
    have hl1 := hp l List.mem_cons_self
    have hpos : 0 < l := by
      unfold fitDiv at hl1
      exact (of_decide_eq_true hl1).1
    rw [List.length_cons] at hl
    have mL : ∀ (r r' : Env) (s : Slot), mask (L :: r) (s :: r') = s :: mask r r' := fun r r' s => by
      obtain ⟨d, h | h⟩ := hL <;> (subst h; rfl)
    by_cases h : 0 < rest
    · obtain ⟨r', s', e⟩ := draws_loop Γ c L hL e2 e3 e4 ls (acc ++ [.int (rest % l)]) (rest / l) ((state * 16807 + 10007) % 2147483647) (fun l h => hp l (List.mem_cons_of_mem _ h)) (by rw [List.length_append, List.length_singleton]; omega)
      refine ⟨r', s', ?_⟩
      rw [List.map_cons, ef_cons]
      have ha : acc.length < 1000000 := by omega
      simp [binD, modD, addD, mulD, fitMul, cmpD, gtD, h, hpos, fdivD, hl1, ha, mL, Mi.frs]
      rw [e, drawsL, if_pos h]
      simp
    · obtain ⟨r', s', e⟩ := draws_loop Γ c L hL e2 e3 e4 ls (acc ++ [.int (((state * 16807 + 10007) % 2147483647) / 64 % l)]) rest ((state * 16807 + 10007) % 2147483647) (fun l h => hp l (List.mem_cons_of_mem _ h)) (by rw [List.length_append, List.length_singleton]; omega)
      refine ⟨r', s', ?_⟩
      rw [List.map_cons, ef_cons]
      have ha : acc.length < 1000000 := by omega
      have h64 : fitDiv 64 = true := by decide +kernel
      simp [binD, modD, addD, mulD, fitMul, cmpD, gtD, h, hpos, fdivD, ha, mL, Mi.frs, h64]
      rw [e, drawsL, if_neg h]
      simp
theorem draws_eq (Γ : Glob) (c : Int) (ls : List Int) {L : Slot} (hL : L = .frz (.lst (ls.map .int)) ∨ L = .bor (.lst (ls.map .int))) (hp : ∀ l ∈ ls, fitDiv l = true) (hl : ls.length < 1000000) : runB Γ drawsB [.frz (.int c), L] = .ok (.lst ((drawsN c ls).map .int)) := by
  have hv : L.val = .ok (.lst (ls.map .int)) := by
    rcases hL with h | h <;> (subst h; rfl)
  have hk : lock L = L := by
    rcases hL with h | h <;> (subst h; rfl)
  have hu : ∀ s, un1 L s = s := fun s => by
    rcases hL with h | h <;> (subst h; simp)
  have hL2 : ∃ d, L = .frz d ∨ L = .bor d := ⟨_, hL⟩
  have p18 : (10 : Int) ^ 18 = 1000000000000000000 := by decide +kernel
  have fp : fitPow 10 18 = true := by decide +kernel
  by_cases h : 1000000000000000000 ≤ c
  · obtain ⟨r', s', e⟩ := draws_loop Γ (.int c) L hL2 (.int (c - 1000000000000000000)) (.int (c * 48271 % 2147483647)) (.lst []) ls [] (c - 1000000000000000000) (c * 48271 % 2147483647) hp (by simpa using hl)
    simp [runB, drawsB, cmpD, geD, binD, powD, fp, p18, h, subD, mulD, modD, fitMul, biD, int1D, Mi.frs, hv, hk, hu]
    rw [e]
    simp [hk, hu, drawsN, h]
  · obtain ⟨r', s', e⟩ := draws_loop Γ (.int c) L hL2 (.int 0) (.int (c * 48271 % 2147483647)) (.lst []) ls [] 0 (c * 48271 % 2147483647) hp (by simpa using hl)
    simp [runB, drawsB, cmpD, geD, binD, powD, fp, p18, h, subD, mulD, modD, fitMul, biD, int1D, Mi.frs, hv, hk, hu]
    rw [e]
    simp [hk, hu, drawsN, h]
/-! ### comprehensions and loops as functions of lists -/
section
variable {bd : D → R Env} {tst : Env → R Bool} {elt : Env → R D}
theorem compL_filter {ι : Type} (f : ι → D) (p : ι → Bool) (g : ι → D) : ∀ (xs : List ι), (∀ x ∈ xs, ∃ e, bd (f x) = .ok e ∧ tst e = .ok (p x) ∧ (p x = true → elt e = .ok (g x))) → compL bd tst elt (xs.map f) = .ok ((xs.filter p).map g)
  | [], _ => rfl
  | x :: xs, h => by
    obtain ⟨e, h1, h2, h3⟩ := h x List.mem_cons_self
    have ih := compL_filter f p g xs fun y hy => h y (List.mem_cons_of_mem _ hy)
    rw [List.map_cons, compL, h1, b_ok, h2, b_ok]
    cases hp : p x with
    | true => simp [h3 hp, ih, hp]
    | false => simp [ih, hp]
theorem compL_map {ι : Type} (f : ι → D) (g : ι → D) (xs : List ι) (h : ∀ x ∈ xs, ∃ e, bd (f x) = .ok e ∧ tst e = .ok true ∧ elt e = .ok (g x)) : compL bd tst elt (xs.map f) = .ok (xs.map g) := by
  rw [compL_filter f (fun _ => true) g xs fun x hx => by
    obtain ⟨e, h1, h2, h3⟩ := h x hx
    exact ⟨e, h1, h2, fun _ => h3⟩, List.filter_eq_self.mpr fun _ _ => rfl]
theorem compL2_flat {ι : Type} {inner : Env → R (List D)} (f : ι → D) (g : ι → List D) : ∀ (xs : List ι), (∀ x ∈ xs, ∃ e, bd (f x) = .ok e ∧ inner e = .ok (g x)) → compL2 bd inner (xs.map f) = .ok (xs.flatMap g)
  | [], _ => rfl
  | x :: xs, h => by
    obtain ⟨e, h1, h2⟩ := h x List.mem_cons_self
    have ih := compL2_flat f g xs fun y hy => h y (List.mem_cons_of_mem _ hy)
    rw [List.map_cons, compL2, h1, b_ok, h2, b_ok, ih]
    simp
end
theorem ef_steps {body : Env → Out} {bd : D → Env → R Env} {e0 : Env} (St : Nat → Env) : ∀ (xs : List D) (i : Nat), (∀ j x, xs[j]? = some x → ∃ e1 e2, bd x (St (i + j)) = .ok e1 ∧ body e1 = .nx e2 ∧ mask e0 e2 = St (i + j + 1)) → evFor body bd e0 xs (St i) = .nx (St (i + xs.length))
  | [], i, _ => rfl
  | x :: xs, i, h => by
    obtain ⟨e1, e2, h1, h2, h3⟩ := h 0 x rfl
    rw [ef_cons, Nat.add_zero] at *
    rw [h1, y_ok, h2]
    show evFor body bd e0 xs (mask e0 e2) = _
    rw [h3, ef_steps St xs (i + 1) fun j y hy => by
      obtain ⟨f1, f2, k1, k2, k3⟩ := h (j + 1) y (by simpa using hy)
      exact ⟨f1, f2, by rw [show i + 1 + j = i + (j + 1) by omega]; exact k1, k2, by rw [k3]; congr 1; omega⟩]
    rw [List.length_cons]
    congr 2
    omega
@[simp] theorem wipe_nil' (env : Env) : wipe env [] = env := rfl
@[simp] theorem wipe_cons' (env : Env) (i : Nat) (r : List Nat) : wipe env (i :: r) = (wipe env r).set i .un := rfl
mutual
theorem eqD_self : ∀ (n : Nat) (d : D), eqOk n d = true → eqD d d = true
  | n, .non, _ => by simp [eqD]
  | n, .bl b, _ => by simp [eqD]
  | n, .int i, _ => by simp [eqD]
  | n, .str s, _ => by simp [eqD]
  | n + 1, .tup xs, h => by
    rw [eqOk] at h
    rw [eqD]
    exact eqDs_self n xs h
  | n + 1, .lst xs, h => by
    rw [eqOk] at h
    rw [eqD]
    exact eqDs_self n xs h
  | 0, .tup _, h => by simp [eqOk] at h
  | 0, .lst _, h => by simp [eqOk] at h
  | n, .dct _ _, h => by cases n <;> simp [eqOk] at h
  | n, .ins _ _ _, h => by cases n <;> simp [eqOk] at h
  | n, .scr _, h => by cases n <;> simp [eqOk] at h
  | n, .itr _, h => by cases n <;> simp [eqOk] at h
theorem eqDs_self : ∀ (n : Nat) (d : List D), d.all (eqOk n) = true → eqDs d d = true
  | _, [], _ => by simp [eqDs]
  | n, d :: ds, h => by
    rw [List.all_cons, Bool.and_eq_true] at h
    rw [eqDs, eqD_self n d h.1, eqDs_self n ds h.2]
    rfl
end
theorem eqR_self {d : D} (h : eqOk 60 d = true) : eqR d d = .ok (.bl true) := by simp [eqR, h, eqD_self 60 d h]
theorem neR_self {d : D} (h : eqOk 60 d = true) : neR d d = .ok (.bl false) := by simp [neR, h, eqD_self 60 d h]
theorem atI_last {α : Type} (l : List α) : L2.atI l (-1) = l.getLast? := by
  unfold L2.atI L2.ixN
  rw [if_neg (by omega), List.getLast?_eq_getElem?]
  by_cases h : 1 ≤ l.length
  · rw [if_pos (by omega), Option.bind_some]
    congr 1
    omega
  · rw [if_neg (by omega), List.getElem?_eq_none (by omega)]
    rfl
/-- a tuple of naturals -/
def tupN (c : List Nat) : D := .tup (c.map fun (k : Nat) => D.int (k : Int))
theorem eqOk_tupN (n : Nat) (c : List Nat) : eqOk (n + 2) (tupN c) = true := by
  unfold tupN
  rw [eqOk, List.all_eq_true]
  intro d hd
  obtain ⟨k, _, rfl⟩ := List.mem_map.mp hd
  rfl
theorem range_from (s : Nat) : ∀ n : Nat, (List.range n).filter (fun k => decide (s ≤ k)) = (List.range (n - s)).map (s + ·)
  | 0 => by simp
  | n + 1 => by
    rw [List.range_succ, List.filter_append, range_from s n]
    by_cases h : s ≤ n
    · rw [show n + 1 - s = (n - s) + 1 by omega, List.range_succ, List.map_append]
      simp [h]
    · rw [show n + 1 - s = n - s by omega]
      simp [h]
theorem rngD_nat (a b : Nat) (ha : a < 4000000000) (hb : b < 4000000000) : rngD (a : Int) (b : Int) = .ok (.itr ((List.range (b - a)).map fun (k : Nat) => .int ((a + k : Nat) : Int))) := by
  have h1 : small62 (a : Int) = true := decide_eq_true (by omega)
  have h2 : small62 (b : Int) = true := decide_eq_true (by omega)
  unfold rngD
  rw [h1, h2, show ((b : Int) - (a : Int)).toNat = b - a by omega]
  simp
theorem rngD_zero (b : Nat) (hb : b < 4000000000) : rngD 0 (b : Int) = .ok (.itr ((List.range b).map fun (k : Nat) => .int (k : Int))) := by
  have h := rngD_nat 0 b (by omega) hb
  simp only [Nat.sub_zero, Nat.zero_add] at h
  exact h
theorem run_ret {Γ : Glob} {b : Body} {as : List Slot} {env : Env} {d : D} {own : Bool} (he : as ++ List.replicate (b.n - as.length) .un = env) (h : evSs Γ b.code env = .ret d own) (hf : (b.fresh && isMut d && !own) = false) : runB Γ b as = .ok d := by
  unfold runB
  rw [he, h]
  simp [hf]
theorem ess_nx {Γ : Glob} {s : S} {r : List S} {env e : Env} {o : Out} (h : evS Γ s env = .nx e) (h2 : evSs Γ r e = o) : evSs Γ (s :: r) env = o := by rw [ess_cons, h, ← h2]
theorem ess_rt {Γ : Glob} {s : S} {r : List S} {env : Env} {d : D} {b : Bool} (h : evS Γ s env = .ret d b) : evSs Γ (s :: r) env = .ret d b := by rw [ess_cons, h]
theorem es_for {Γ : Glob} {t : Tgt} {it : E} {body : List S} {env e1 e2 : Env} {xs : List D} {o : Out} (h1 : (evE Γ it env).bind items = .ok xs) (h2 : onAll lock (pks it) env = e1) (h3 : evFor (evSs Γ body) (bindT t) env xs e1 = .nx e2) (h4 : .nx (unlock env (pks it) e2) = o) : evS Γ (.fr t it body) env = o := by
  rw [es_fr, h1, o_ok', h2, h3, on_nx, h4]
theorem es_for_ret {Γ : Glob} {t : Tgt} {it : E} {body : List S} {env e1 : Env} {xs : List D} {d : D} {b : Bool} (h1 : (evE Γ it env).bind items = .ok xs) (h2 : onAll lock (pks it) env = e1) (h3 : evFor (evSs Γ body) (bindT t) env xs e1 = .ret d b) : evS Γ (.fr t it body) env = .ret d b := by
  rw [es_fr, h1, o_ok', h2, h3, on_ret]
theorem rng0 {Γ : Glob} {a : E} {env : Env} {n : Nat} (h : evE Γ a env = .ok (.int (n : Int))) (hn : n < 4000000000) : (evE Γ (.rng none a none) env).bind items = .ok ((List.range n).map fun (k : Nat) => .int (k : Int)) := by
  rw [ev_rng, evr_none, b_ok, h, b_ok, intOf, b_ok, rngD_zero n hn, b_ok, items_itr]
theorem ef_nx {body : Env → Out} {bd : D → Env → R Env} {e0 : Env} {x : D} {xs : List D} {env e1 e2 e3 : Env} {o : Out} (h1 : bd x env = .ok e1) (h2 : body e1 = .nx e2) (hm : mask e0 e2 = e3) (h3 : evFor body bd e0 xs e3 = o) : evFor body bd e0 (x :: xs) env = o := by
  rw [ef_cons, h1, y_ok, h2]
  show evFor body bd e0 xs (mask e0 e2) = o
  rw [hm, h3]
theorem ef_ret {body : Env → Out} {bd : D → Env → R Env} {e0 : Env} {x : D} {xs : List D} {env e1 : Env} {d : D} {b : Bool} (h1 : bd x env = .ok e1) (h2 : body e1 = .ret d b) : evFor body bd e0 (x :: xs) env = .ret d b := by
  rw [ef_cons, h1, y_ok, h2]
theorem es_if {Γ : Glob} {c : E} {a b : List S} {env : Env} {t : Bool} {o : Out} (h : evE Γ c env = .ok (.bl t)) (h2 : (if t then evSs Γ a env else evSs Γ b env) = o) : evS Γ (.ife c a b) env = o := by
  rw [es_ife, h, b_ok, truth_bl, o_ok', h2]
theorem eg_nx {Γ : Glob} {s : G} {r : List G} {env e : Env} {ys zs : List D} {o : GO} (h : evG Γ s env ys = .nx e zs) (h2 : evGs Γ r e zs = o) : evGs Γ (s :: r) env ys = o := by
  show (match evG Γ s env ys with
      | .nx e ys2 => evGs Γ r e ys2
      | .bad => .bad) = o
  rw [h, ← h2]
theorem egf_nx {body : Env → List D → GO} {bd : D → Env → R Env} {e0 : Env} {x : D} {xs : List D} {env e1 e2 e3 : Env} {ys zs : List D} {o : GO} (h1 : bd x env = .ok e1) (h2 : body e1 ys = .nx e2 zs) (hm : mask e0 e2 = e3) (h3 : evGFor body bd e0 xs e3 zs = o) : evGFor body bd e0 (x :: xs) env ys = o := by
  show (bd x env).go (fun e1 => match body e1 ys with
      | .nx e2 ys2 => evGFor body bd e0 xs (mask e0 e2) ys2
      | .bad => .bad) = o
  rw [h1, go_ok, h2]
  show evGFor body bd e0 xs (mask e0 e2) zs = o
  rw [hm, h3]
theorem eg_for {Γ : Glob} {t : Tgt} {it : E} {body : List G} {env e1 e2 : Env} {xs ys zs : List D} {o : GO} (h1 : (evE Γ it env).bind items = .ok xs) (h2 : onAll lock (pks it) env = e1) (h3 : evGFor (evGs Γ body) (bindT t) env xs e1 ys = .nx e2 zs) (h4 : .nx (unlock env (pks it) e2) zs = o) : evG Γ (.fr t it body) env ys = o := by
  show (((evE Γ it env).bind items).go fun xs => (evGFor (evGs Γ body) (bindT t) env xs (onAll lock (pks it) env) ys).onEnv (unlock env (pks it))) = o
  rw [h1, go_ok, h2, h3, ← h4]
  rfl
theorem runG_ok {Γ : Glob} {b : Body} {g : List G} {as : List Slot} {env e : Env} {ys : List D} (hb : b.gen = some g) (he : as ++ List.replicate (b.n - as.length) .un = env) (h : evGs Γ g env [] = .nx e ys) : runG Γ b as = .ok ys := by
  unfold runG
  rw [hb]
  dsimp only
  rw [he, h]
end Mi
namespace Mi
open PySem L2
/-! ### tuples of integers, items, their order -/
abbrev Itm := Int × List Int
def tupZ (l : List Int) : D := .tup (l.map .int)
def it (p : Itm) : D := .tup [.int p.1, tupZ p.2]
def rkey (p : Itm) : D := .tup [.int (-p.1), tupZ p.2]
def lexZ : List Int → List Int → Bool
  | [], [] => false
  | [], _ :: _ => true
  | _ :: _, [] => false
  | x :: r, y :: t => decide (x < y) || (!decide (y < x) && lexZ r t)
def bef (p q : Itm) : Bool := decide (q.1 < p.1) || (decide (p.1 = q.1) && lexZ p.2 q.2)
theorem lexZ_irr : ∀ a : List Int, lexZ a a = false
  | [] => rfl
  | x :: r => by rw [lexZ, lexZ_irr r]; simp
theorem lexZ_trans : ∀ a b c : List Int, lexZ a b = true → lexZ b c = true → lexZ a c = true
  | [], [], _, h, _ => by simp [lexZ] at h
  | _ :: _, [], _, h, _ => by simp [lexZ] at h
  | _, _ :: _, [], _, h => by simp [lexZ] at h
  | [], y :: b, z :: c, _, _ => rfl
  | x :: a, y :: b, z :: c, h1, h2 => by
    rw [lexZ] at *
    simp only [Bool.or_eq_true, Bool.and_eq_true, Bool.not_eq_true', decide_eq_true_eq, decide_eq_false_iff_not] at *
    rcases h1 with h1 | ⟨h1, h3⟩ <;> rcases h2 with h2 | ⟨h2, h4⟩
    · left; omega
    · left; omega
    · left; omega
    · by_cases h : x < z
      · exact .inl h
      · exact .inr ⟨by omega, lexZ_trans a b c h3 h4⟩
theorem lexZ_tot : ∀ a b : List Int, lexZ a b = false → lexZ b a = false → a = b
  | [], [], _, _ => rfl
  | [], _ :: _, h, _ => by simp [lexZ] at h
  | _ :: _, [], _, h => by simp [lexZ] at h
  | x :: a, y :: b, h1, h2 => by
    rw [lexZ] at *
    simp only [Bool.or_eq_false_iff, Bool.and_eq_false_iff, Bool.not_eq_false', decide_eq_true_eq, decide_eq_false_iff_not] at *
    have e : x = y := by omega
    subst e
    have h3 : lexZ a b = false := by
      rcases h1.2 with h | h
      · omega
      · exact h
    have h4 : lexZ b a = false := by
      rcases h2.2 with h | h
      · omega
      · exact h
    rw [lexZ_tot a b h3 h4]
theorem bef_irr (p : Itm) : bef p p = false := by unfold bef; rw [lexZ_irr]; simp
theorem bef_trans {p q r : Itm} (h1 : bef p q = true) (h2 : bef q r = true) : bef p r = true := by
  unfold bef at *
  simp only [Bool.or_eq_true, Bool.and_eq_true, decide_eq_true_eq] at *
  rcases h1 with h1 | ⟨h1, h3⟩ <;> rcases h2 with h2 | ⟨h2, h4⟩
  · left; omega
  · left; omega
  · left; omega
  · exact .inr ⟨by omega, lexZ_trans _ _ _ h3 h4⟩
theorem bef_tot {p q : Itm} (h1 : bef p q = false) (h2 : bef q p = false) : p = q := by
  unfold bef at *
  simp only [Bool.or_eq_false_iff, Bool.and_eq_false_iff, decide_eq_false_iff_not] at *
  have e : p.1 = q.1 := by omega
  have h3 : lexZ p.2 q.2 = false := by
    rcases h1.2 with h | h
    · omega
    · exact h
  have h4 : lexZ q.2 p.2 = false := by
    rcases h2.2 with h | h
    · omega
    · exact h
  exact Prod.ext e (lexZ_tot _ _ h3 h4)
/-! #### the order that the model gives -/
def toksZ : List Int → List (Int ⊕ List Nat)
  | [] => []
  | x :: r => .inl 1 :: .inl x :: toksZ r
theorem toks_all : ∀ l : List Int, PySem.W.keyToksAll (toPys (l.map .int)) = toksZ l ++ [.inl 0]
  | [] => rfl
  | x :: r => by
    show Sum.inl 1 :: ([Sum.inl x] ++ PySem.W.keyToksAll (toPys (r.map .int))) = _
    rw [toks_all r]
    rfl
open PyProof.Rows in
theorem lex_toks : ∀ (a b : List Int) (s t : List (Int ⊕ List Nat)), lexLt itemOrd (toksZ a ++ .inl 0 :: s) (toksZ b ++ .inl 0 :: t) = if a = b then lexLt itemOrd s t else lexZ a b
  | [], [], s, t => by
    rw [if_pos rfl]
    exact lex_self (O := itemOrd) (.inl 0) s t
  | [], y :: b, s, t => rfl
  | x :: a, [], s, t => rfl
  | x :: a, y :: b, s, t => by
    show lexLt itemOrd (.inl 1 :: .inl x :: (toksZ a ++ .inl 0 :: s)) (.inl 1 :: .inl y :: (toksZ b ++ .inl 0 :: t)) = _
    rw [lex_self (O := itemOrd), lex_cons, lex_toks a b s t]
    show (decide (x < y) || (!decide (y < x) && _)) = _
    by_cases h : x = y
    · subst h
      by_cases h2 : a = b
      · subst h2
        simp
      · have : ¬ (x :: a = x :: b) := fun z => h2 (List.cons.inj z).2
        rw [if_neg h2, if_neg this, lexZ]
    · have : ¬ (x :: a = y :: b) := fun z => h (List.cons.inj z).1
      rw [if_neg this, lexZ]
      by_cases h3 : x < y
      · simp [h3]
      · have : y < x := by omega
        simp [h3, this]
theorem bef_tupZ (a b : List Int) : befD (tupZ a) (tupZ b) = lexZ a b := by
  unfold befD PySem.W.dataLt
  show PyProof.Rows.lexLt PyProof.Rows.itemOrd (PySem.W.keyToksAll (toPys (a.map .int))) (PySem.W.keyToksAll (toPys (b.map .int))) = _
  rw [toks_all, toks_all, lex_toks]
  split
  · rename_i h
    rw [h, lexZ_irr]
    rfl
  · rfl
theorem bef_rkey (p q : Itm) : befD (rkey p) (rkey q) = bef p q := by
  unfold befD PySem.W.dataLt
  show PyProof.Rows.lexLt PyProof.Rows.itemOrd (.inl 1 :: .inl (-p.1) :: .inl 1 :: (PySem.W.keyToksAll (toPys (p.2.map .int)) ++ [.inl 0])) (.inl 1 :: .inl (-q.1) :: .inl 1 :: (PySem.W.keyToksAll (toPys (q.2.map .int)) ++ [.inl 0])) = _
  rw [toks_all, toks_all, PyProof.Rows.lex_self (O := PyProof.Rows.itemOrd), PyProof.Rows.lex_cons, PyProof.Rows.lex_self (O := PyProof.Rows.itemOrd), List.append_assoc, List.append_assoc]
  show (decide (-p.1 < -q.1) || (!decide (-q.1 < -p.1) && PyProof.Rows.lexLt PyProof.Rows.itemOrd (toksZ p.2 ++ .inl 0 :: [.inl 0]) (toksZ q.2 ++ .inl 0 :: [.inl 0]))) = _
  rw [lex_toks]
  unfold bef
  have e : (if p.2 = q.2 then PyProof.Rows.lexLt PyProof.Rows.itemOrd [Sum.inl 0] [Sum.inl 0] else lexZ p.2 q.2) = lexZ p.2 q.2 := by
    split
    · rename_i h
      rw [h, lexZ_irr]
      rfl
    · rfl
  rw [e]
  by_cases h1 : q.1 < p.1
  · have : -p.1 < -q.1 := by omega
    simp [h1, this]
  · by_cases h2 : p.1 = q.1
    · simp [h2]
    · have : -q.1 < -p.1 := by omega
      have h3 : ¬ -p.1 < -q.1 := by omega
      simp [h1, h2, h3, this]
theorem eqOk_ints (n : Nat) (l : List Int) : (l.map D.int).all (eqOk (n + 1)) = true := by
  rw [List.all_eq_true]
  intro d hd
  obtain ⟨i, _, rfl⟩ := List.mem_map.mp hd
  rfl
theorem eqOk_tupZ (n : Nat) (l : List Int) : eqOk (n + 2) (tupZ l) = true := eqOk_ints n l
theorem eqOk_it (n : Nat) (p : Itm) : eqOk (n + 3) (it p) = true := by
  show ([.int p.1, tupZ p.2] : List D).all (eqOk (n + 2)) = true
  rw [List.all_cons, List.all_cons, List.all_nil, eqOk_tupZ]
  rfl
theorem eqOk_its (n : Nat) (l : List Itm) : (l.map it).all (eqOk (n + 3)) = true := by
  rw [List.all_eq_true]
  intro d hd
  obtain ⟨i, _, rfl⟩ := List.mem_map.mp hd
  exact eqOk_it n i
theorem alike_ints : ∀ a b : List Int, PySem.W.alikeAll (toPys (a.map .int)) (toPys (b.map .int)) = true
  | [], _ => by simp [toPys, PySem.W.alikeAll]
  | _ :: _, [] => by simp [toPys, PySem.W.alikeAll]
  | x :: a, y :: b => by
    show (PySem.W.alike (.int x) (.int y) && PySem.W.alikeAll (toPys (a.map .int)) (toPys (b.map .int))) = true
    rw [alike_ints a b]
    rfl
theorem alike_tupZ (a b : List Int) : PySem.W.alike (toPy (tupZ a)) (toPy (tupZ b)) = true := alike_ints a b
theorem alike_pair (v w : Int) (a b : List Int) : PySem.W.alike (toPy (.tup [.int v, tupZ a])) (toPy (.tup [.int w, tupZ b])) = true := by
  show (PySem.W.alike (.int v) (.int w) && (PySem.W.alike (toPy (tupZ a)) (toPy (tupZ b)) && true)) = true
  rw [alike_tupZ]
  rfl
theorem lt_tupZ (a b : List Int) : ltD (tupZ a) (tupZ b) = .ok (.bl (lexZ a b)) := by
  have h : ordOk (tupZ a) (tupZ b) = true := by
    unfold ordOk
    rw [eqOk_tupZ, eqOk_tupZ, alike_tupZ]
    rfl
  show (if ordOk (tupZ a) (tupZ b) then R.ok (D.bl (befD (tupZ a) (tupZ b))) else .bad) = _
  rw [h, bef_tupZ]
  rfl
theorem eqDs_ints : ∀ a b : List Int, eqDs (a.map .int) (b.map .int) = decide (a = b)
  | [], [] => rfl
  | [], _ :: _ => rfl
  | _ :: _, [] => rfl
  | x :: a, y :: b => by
    show ((x == y) && eqDs (a.map .int) (b.map .int)) = _
    rw [eqDs_ints a b]
    by_cases h : x = y <;> by_cases h2 : a = b <;> simp [h, h2]
theorem eqD_tupZ (a b : List Int) : eqD (tupZ a) (tupZ b) = decide (a = b) := eqDs_ints a b
theorem eqD_it (p q : Itm) : eqD (it p) (it q) = decide (p = q) := by
  show ((p.1 == q.1) && (eqD (tupZ p.2) (tupZ q.2) && true)) = _
  rw [eqD_tupZ]
  obtain ⟨a, b⟩ := p
  obtain ⟨c, d⟩ := q
  by_cases h : a = c <;> by_cases h2 : b = d <;> simp [h, h2]
theorem it_inj {p q : Itm} (h : it p = it q) : p = q := by
  have e : eqD (it p) (it q) = true := by
    rw [h, eqD_it]
    simp
  rw [eqD_it] at e
  exact of_decide_eq_true e
theorem neR_it (p q : Itm) : neR (it p) (it q) = .ok (.bl (!decide (p = q))) := by
  unfold neR
  rw [eqOk_it 57, eqOk_it 57, eqD_it]
  rfl
theorem in_tupZ (x : Int) (l : List Int) : inD (.int x) (tupZ l) = .ok (decide (x ∈ l)) := by
  show isinD (.int x) (l.map .int) = _
  unfold isinD
  rw [eqOk_ints 59]
  show R.ok _ = _
  congr 1
  induction l with
  | nil => rfl
  | cons y l ih =>
    rw [List.map_cons, List.any_cons, ih]
    show ((y == x) || _) = _
    by_cases h : y = x
    · simp [h]
    · have : ¬ x = y := fun z => h z.symm
      simp [h, this]
/-! #### the ranked list -/
def ins (p : Itm) : List Itm → List Itm
  | [] => [p]
  | q :: r => if bef q p then q :: ins p r else if q = p then q :: r else p :: q :: r
def rkA (acc : List Itm) (l : List Itm) : List Itm := l.foldl (fun acc p => ins p acc) acc
def rk (l : List Itm) : List Itm := rkA [] l
abbrev Rkd (l : List Itm) : Prop := l.Pairwise fun p q => bef p q = true
theorem ins_mem (p x : Itm) : ∀ l : List Itm, x ∈ ins p l ↔ x = p ∨ x ∈ l
  | [] => by simp [ins]
  | q :: r => by
    rw [ins]
    split
    · rw [List.mem_cons, ins_mem p x r, List.mem_cons]
      constructor
      · rintro (h | h | h)
        · exact .inr (.inl h)
        · exact .inl h
        · exact .inr (.inr h)
      · rintro (h | h | h)
        · exact .inr (.inl h)
        · exact .inl h
        · exact .inr (.inr h)
    · split
      · rename_i h
        subst h
        simp
      · simp
theorem ins_pw (p : Itm) : ∀ l : List Itm, Rkd l → Rkd (ins p l)
  | [], _ => by simp [ins]
  | q :: r, h => by
    rw [ins]
    have h' := List.pairwise_cons.mp h
    split
    · rename_i h1
      refine List.pairwise_cons.mpr ⟨fun x hx => ?_, ins_pw p r h'.2⟩
      rcases (ins_mem p x r).mp hx with e | hx
      · rw [e]; exact h1
      · exact h'.1 x hx
    · rename_i h1
      split
      · exact h
      · rename_i h2
        have h3 : bef p q = true := by
          cases c : bef p q with
          | true => rfl
          | false => exact absurd (bef_tot (by simpa using h1) c) h2
        refine List.pairwise_cons.mpr ⟨fun x hx => ?_, h⟩
        rcases List.mem_cons.mp hx with e | hx
        · rw [e]; exact h3
        · exact bef_trans h3 (h'.1 x hx)
theorem ins_len (p : Itm) : ∀ l : List Itm, (ins p l).length ≤ l.length + 1
  | [] => by simp [ins]
  | q :: r => by
    rw [ins]
    split
    · have := ins_len p r
      rw [List.length_cons, List.length_cons]
      omega
    · split
      · rw [List.length_cons]; omega
      · rw [List.length_cons, List.length_cons]; omega
theorem rkA_mem (x : Itm) : ∀ (l acc : List Itm), x ∈ rkA acc l ↔ x ∈ acc ∨ x ∈ l
  | [], acc => by simp [rkA]
  | p :: l, acc => by
    show x ∈ rkA (ins p acc) l ↔ _
    rw [rkA_mem x l, ins_mem, List.mem_cons]
    constructor
    · rintro ((h | h) | h)
      · exact .inr (.inl h)
      · exact .inl h
      · exact .inr (.inr h)
    · rintro (h | h | h)
      · exact .inl (.inr h)
      · exact .inl (.inl h)
      · exact .inr h
theorem rkA_pw : ∀ (l acc : List Itm), Rkd acc → Rkd (rkA acc l)
  | [], _, h => h
  | p :: l, acc, h => rkA_pw l (ins p acc) (ins_pw p acc h)
theorem rkA_len : ∀ (l acc : List Itm), (rkA acc l).length ≤ acc.length + l.length
  | [], _ => Nat.le_refl _
  | p :: l, acc => by
    have h1 := rkA_len l (ins p acc)
    have h2 := ins_len p acc
    show (rkA (ins p acc) l).length ≤ _
    rw [List.length_cons]
    omega
theorem rk_mem {x : Itm} {l : List Itm} : x ∈ rk l ↔ x ∈ l := by
  unfold rk
  rw [rkA_mem]
  simp
theorem rk_pw (l : List Itm) : Rkd (rk l) := rkA_pw l [] .nil
theorem rk_len (l : List Itm) : (rk l).length ≤ l.length := by
  have := rkA_len l []
  rw [List.length_nil] at this
  unfold rk
  omega
theorem rkd_uniq : ∀ {l m : List Itm}, Rkd l → Rkd m → (∀ x, x ∈ l ↔ x ∈ m) → l = m
  | [], [], _, _, _ => rfl
  | [], q :: m, _, _, h => by simpa using (h q).mpr List.mem_cons_self
  | p :: l, [], _, _, h => by simpa using (h p).mp List.mem_cons_self
  | p :: l, q :: m, hl, hm, h => by
    have a := List.pairwise_cons.mp hl
    have b := List.pairwise_cons.mp hm
    have e : p = q := by
      rcases List.mem_cons.mp ((h p).mp List.mem_cons_self) with e | h1
      · exact e
      · rcases List.mem_cons.mp ((h q).mpr List.mem_cons_self) with e | h2
        · exact e.symm
        · have := bef_trans (a.1 q h2) (b.1 p h1)
          rw [bef_irr] at this
          cases this
    subst e
    rw [rkd_uniq a.2 b.2 fun x => ?_]
    constructor
    · intro hx
      rcases List.mem_cons.mp ((h x).mp (List.mem_cons_of_mem _ hx)) with e | h1
      · have := a.1 x hx
        rw [e, bef_irr] at this
        cases this
      · exact h1
    · intro hx
      rcases List.mem_cons.mp ((h x).mpr (List.mem_cons_of_mem _ hx)) with e | h1
      · have := b.1 x hx
        rw [e, bef_irr] at this
        cases this
      · exact h1
theorem rk_ext {l m : List Itm} (h : ∀ x, x ∈ l ↔ x ∈ m) : rk l = rk m := rkd_uniq (rk_pw l) (rk_pw m) fun x => by rw [rk_mem, rk_mem]; exact h x
theorem rk_eq {l m : List Itm} (hl : Rkd l) (h : ∀ x, x ∈ l ↔ x ∈ m) : l = rk m := rkd_uniq hl (rk_pw m) fun x => by rw [rk_mem]; exact h x
/-! #### sorted(sorted(set(items)), key=rank) -/
theorem key_it (p : Itm) : keyD 8 (it p) = true := by
  show ([.int p.1, tupZ p.2] : List D).all (keyD 7) = true
  have : keyD 7 (tupZ p.2) = true := by
    show (p.2.map D.int).all (keyD 6) = true
    rw [List.all_eq_true]
    intro d hd
    obtain ⟨i, _, rfl⟩ := List.mem_map.mp hd
    rfl
  rw [List.all_cons, List.all_cons, List.all_nil, this]
  rfl
theorem sortOk_pairs (xs : List D) (h : ∀ d ∈ xs, ∃ v l, d = .tup [.int v, tupZ l]) : sortOk xs = true := by
  unfold sortOk
  simp only [Bool.and_eq_true, Bool.or_eq_true, List.all_eq_true]
  refine ⟨⟨fun d hd => ?_, fun d hd e he => ?_⟩, .inl fun d hd => ?_⟩
  · obtain ⟨v, l, rfl⟩ := h d hd
    exact eqOk_it 57 (v, l)
  · obtain ⟨v, l, rfl⟩ := h d hd
    obtain ⟨w, m, rfl⟩ := h e he
    exact alike_pair v w l m
  · obtain ⟨v, l, rfl⟩ := h d hd
    rfl
theorem sset_its (l : List Itm) (hl : l.length < 1000) : ssetD [.lst (l.map it)] = .ok (.lst ((dedD (l.map it)).mergeSort (PySem.W.dataLe false toPy))) := by
  unfold ssetD
  dsimp only
  rw [if_pos]
  have h1 : (l.map it).all (keyD 8) = true := by
    rw [List.all_eq_true]
    intro d hd
    obtain ⟨p, _, rfl⟩ := List.mem_map.mp hd
    exact key_it p
  have h2 : (l.map it).all isTup = true := by
    rw [List.all_eq_true]
    intro d hd
    obtain ⟨p, _, rfl⟩ := List.mem_map.mp hd
    rfl
  have h3 : sortOk (l.map it) = true := sortOk_pairs _ fun d hd => by
    obtain ⟨p, _, rfl⟩ := List.mem_map.mp hd
    exact ⟨p.1, p.2, rfl⟩
  rw [h1, h2, h3, decide_eq_true (by rw [List.length_map]; exact hl)]
  rfl
theorem all_its {xs : List D} (h : ∀ d ∈ xs, ∃ p, d = it p) : ∃ l : List Itm, xs = l.map it := by
  induction xs with
  | nil => exact ⟨[], rfl⟩
  | cons d xs ih =>
    obtain ⟨p, rfl⟩ := h d List.mem_cons_self
    obtain ⟨l, rfl⟩ := ih fun d hd => h d (List.mem_cons_of_mem _ hd)
    exact ⟨p :: l, rfl⟩
/-- what sorted(set(items)) holds: each item once -/
theorem sset_of (l : List Itm) (hl : l.length < 1000) : ∃ m : List Itm, ssetD [.lst (l.map it)] = .ok (.lst (m.map it)) ∧ m.Nodup ∧ ∀ x, x ∈ m ↔ x ∈ l := by
  have hk : (l.map it).all (keyD 8) = true := by
    rw [List.all_eq_true]
    intro d hd
    obtain ⟨p, _, rfl⟩ := List.mem_map.mp hd
    exact key_it p
  have pm := List.mergeSort_perm (dedD (l.map it)) (PySem.W.dataLe false toPy)
  have sub : ∀ d, d ∈ (dedD (l.map it)).mergeSort (PySem.W.dataLe false toPy) ↔ d ∈ l.map it := fun d => by
    rw [pm.mem_iff]
    exact ⟨ded_sub _ d, ded_all _ hk d⟩
  have nd : ((dedD (l.map it)).mergeSort (PySem.W.dataLe false toPy)).Nodup := pm.nodup_iff.mpr (ded_nodup _ hk)
  obtain ⟨m, hm⟩ := all_its (xs := (dedD (l.map it)).mergeSort (PySem.W.dataLe false toPy)) fun d hd => by
    obtain ⟨p, _, rfl⟩ := List.mem_map.mp ((sub d).mp hd)
    exact ⟨p, rfl⟩
  rw [hm] at sub nd
  refine ⟨m, by rw [sset_its l hl, hm], ?_, fun x => ?_⟩
  · exact List.Pairwise.imp (fun {a b} (h : it a ≠ it b) e => h (congrArg it e)) (List.pairwise_map.mp nd)
  · constructor
    · intro hx
      obtain ⟨p, hp, e⟩ := List.mem_map.mp ((sub (it x)).mp (List.mem_map_of_mem hx))
      rw [← it_inj e]
      exact hp
    · intro hx
      obtain ⟨p, hp, e⟩ := List.mem_map.mp ((sub (it x)).mpr (List.mem_map_of_mem hx))
      rw [← it_inj e]
      exact hp
theorem keysL_map {run : D → R D} {f g : Itm → D} (h : ∀ p, run (f p) = .ok (g p)) : ∀ m : List Itm, keysL run (m.map f) = .ok (m.map g)
  | [] => rfl
  | p :: m => by
    rw [List.map_cons, keysL, h, b_ok, keysL_map h m]
    rfl
theorem perm_map {α β : Type} {f : α → β} {z : List β} {l : List α} (h : z.Perm (l.map f)) : ∃ m : List α, m.Perm l ∧ z = m.map f := by
  have e : PySem.W.EachIs (fun b a => b = f a) (l.map f) l := by
    clear h
    induction l with
    | nil => exact .nil
    | cons a l ih => exact .cons rfl ih
  obtain ⟨m, hm, e⟩ := each_perm h e
  refine ⟨m, hm, ?_⟩
  clear h hm
  induction e with
  | nil => rfl
  | cons h _ ih => rw [List.map_cons, h, ih]
theorem sortK_rk (m : List Itm) (hm : m.Nodup) : sortK (m.map it) (m.map rkey) = (rk m).map it := by
  unfold sortK
  have hz : (m.map it).zip (m.map rkey) = m.map fun p => (it p, rkey p) := by
    rw [List.zip_map']
  rw [hz]
  obtain ⟨z, pz, ez⟩ := perm_map (List.mergeSort_perm (m.map fun p => (it p, rkey p)) (PySem.W.dataLe false fun p : D × D => toPy p.2))
  have pw := List.pairwise_mergeSort (dataLe_trans fun p : D × D => toPy p.2) (dataLe_total _) (m.map fun p => (it p, rkey p))
  rw [ez] at pw ⊢
  have pw := List.pairwise_map.mp pw
  have nd : z.Nodup := pz.nodup_iff.mpr hm
  have hr : Rkd z := by
    refine (pw.and nd).imp fun {p q} h => ?_
    obtain ⟨h1, h2⟩ := h
    rw [PySem.W.dataLe_eq] at h1
    simp only [cond, Bool.not_eq_true'] at h1
    have h1 : bef q p = false := by
      rw [← bef_rkey]
      exact h1
    cases c : bef p q with
    | true => rfl
    | false => exact absurd (bef_tot c h1) h2
  rw [List.map_map, rk_eq hr fun x => pz.mem_iff]
  rfl
end Mi
namespace Mi
open PySem L2
/-! ### a slot that is looked at -/
def Sn (d : D) (L : Slot) : Prop := L = .frz d ∨ L = .bor d
theorem Sn.f (d : D) : Sn d (.frz d) := .inl rfl
theorem Sn.b (d : D) : Sn d (.bor d) := .inr rfl
section
variable {d : D} {L : Slot} (h : Sn d L)
include h
theorem Sn.val : L.val = .ok d := by rcases h with h | h <;> (subst h; rfl)
theorem Sn.lk : lock L = L := by rcases h with h | h <;> (subst h; rfl)
theorem Sn.un (s : Slot) : un1 L s = s := by rcases h with h | h <;> (subst h; cases s <;> rfl)
theorem Sn.le : lendS d L = L := by rcases h with h | h <;> (subst h; rfl)
theorem Sn.mk (r : Env) (s : Slot) (r' : Env) : mask (L :: r) (s :: r') = s :: mask r r' := by rcases h with h | h <;> (subst h; rfl)
end
@[simp] theorem lend_peek (env : Env) (d : D) (i : Nat) : lend env d (.peek i) = lendS d (gt env i) := id rfl
@[simp] theorem lendS_own (d e : D) : lendS d (.own e) = .bor d := id rfl
@[simp] theorem lendS_bor (d e : D) : lendS d (.bor e) = .bor d := id rfl
@[simp] theorem lendS_frz (d e : D) : lendS d (.frz e) = .frz d := id rfl
/-! ### statements, one after the other -/
section
variable {Γ : Glob} {r : List S} {env e1 e2 e3 : Env} {o : Out} {d : D}
theorem ess_asg {i : Nat} {e : E} (h : evE Γ e env = .ok d) (he : env.set i (if frs e && isMut d then .own d else .frz d) = e1) (h2 : evSs Γ r e1 = o) : evSs Γ (.asg (.nm i) e :: r) env = o :=
  ess_nx (by rw [es_asg, h, o_ok', he]) h2
theorem ess_asgC {i : Nat} {e : E} (h : evE Γ e env = .ok d) (he : env.set i (if frs e && isMut d then .own d else .frz d) = e1) (h2 : evSs Γ r e1 = o) : evSs Γ (.asgC i e :: r) env = o :=
  ess_nx (by rw [es_asgC, h, o_ok', he]) h2
theorem ess_if {c : E} {a b : List S} {t : Bool} (h : evE Γ c env = .ok (.bl t)) (h2 : evSs Γ (if t then a else b) env = .nx e1) (h3 : evSs Γ r e1 = o) : evSs Γ (.ife c a b :: r) env = o :=
  ess_nx (es_if h (by cases t <;> exact h2)) h3
theorem ess_if_ret {c : E} {a b : List S} {t : Bool} {w : Bool} (h : evE Γ c env = .ok (.bl t)) (h2 : evSs Γ (if t then a else b) env = .ret d w) : evSs Γ (.ife c a b :: r) env = .ret d w :=
  ess_rt (es_if h (by cases t <;> exact h2))
theorem ess_for {t : Tgt} {it : E} {body : List S} {xs : List D} (h1 : (evE Γ it env).bind items = .ok xs) (h2 : onAll lock (pks it) env = e1) (h3 : evFor (evSs Γ body) (bindT t) env xs e1 = .nx e2) (h4 : unlock env (pks it) e2 = e3) (h5 : evSs Γ r e3 = o) : evSs Γ (.fr t it body :: r) env = o :=
  ess_nx (es_for h1 h2 h3 rfl) (by rw [h4]; exact h5)
theorem ess_ret {e : E} (h : evE Γ e env = .ok d) : evSs Γ (.ret e :: r) env = .ret d (frs e) := ess_rt (by rw [es_ret, h, o_ok'])
theorem ess_app {i : Nat} {e : E} {xs : List D} (h0 : gt env i = .own (.lst xs)) (h : evE Γ e env = .ok d) (hl : xs.length < 1000000) (he : env.set i (.own (.lst (xs ++ [d]))) = e1) (h2 : evSs Γ r e1 = o) : evSs Γ (.app i e :: r) env = o :=
  ess_nx (by rw [es_app, h0, ownL_own, y_ok, h, o_ok', if_pos (decide_eq_true hl), he]) h2
theorem ess_wf {is : List Nat} {s : S} (h : evSs Γ (s :: r) (onAll freeze is env) = o) (hs : ∃ e, evS Γ s (onAll freeze is env) = .nx e) : evSs Γ (.wf is s :: r) env = o := by
  obtain ⟨e, he⟩ := hs
  rw [ess_cons, he] at h
  exact ess_nx (by rw [es_wf, he]) h
end
/-! ### loops -/
section
variable {ι : Type} {body : Env → Out} {bd : D → Env → R Env} {e0 : Env}
theorem ef_find {env : Env} {d : D} {b : Bool} (f : ι → D) (p : ι → Bool) : ∀ xs : List ι, (∀ x ∈ xs, ∃ e1, bd (f x) env = .ok e1 ∧ (p x = true → body e1 = .ret d b) ∧ (p x = false → ∃ e2, body e1 = .nx e2 ∧ mask e0 e2 = env)) →
    evFor body bd e0 (xs.map f) env = if xs.any p then .ret d b else .nx env
  | [], _ => rfl
  | x :: xs, h => by
    obtain ⟨e1, h1, h2, h3⟩ := h x List.mem_cons_self
    rw [List.map_cons, List.any_cons]
    cases c : p x with
    | true => exact ef_ret h1 (h2 c)
    | false =>
      obtain ⟨e2, h4, h5⟩ := h3 c
      exact ef_nx h1 h4 h5 (ef_find f p xs fun y hy => h y (List.mem_cons_of_mem _ hy))
theorem ef_same {env : Env} (f : ι → D) : ∀ xs : List ι, (∀ x ∈ xs, ∃ e1 e2, bd (f x) env = .ok e1 ∧ body e1 = .nx e2 ∧ mask e0 e2 = env) → evFor body bd e0 (xs.map f) env = .nx env
  | [], _ => rfl
  | x :: xs, h => by
    obtain ⟨e1, e2, h1, h2, h3⟩ := h x List.mem_cons_self
    exact ef_nx h1 h2 h3 (ef_same f xs fun y hy => h y (List.mem_cons_of_mem _ hy))
theorem ef_fold {σ : Type} (f : ι → D) (step : σ → ι → σ) (St : σ → Env) (P : Nat → σ → Prop) (N : Nat) : ∀ (xs : List ι) (i : Nat) (s : σ), i + xs.length ≤ N → P i s → (∀ i s x, x ∈ xs → i < N → P i s → P (i + 1) (step s x) ∧ ∃ e1 e2, bd (f x) (St s) = .ok e1 ∧ body e1 = .nx e2 ∧ mask e0 e2 = St (step s x)) →
    evFor body bd e0 (xs.map f) (St s) = .nx (St (xs.foldl step s)) ∧ P (i + xs.length) (xs.foldl step s)
  | [], i, s, _, h0, _ => ⟨rfl, h0⟩
  | x :: xs, i, s, hN, h0, h => by
    rw [List.length_cons] at hN
    obtain ⟨hP, e1, e2, h1, h2, h3⟩ := h i s x List.mem_cons_self (by omega) h0
    obtain ⟨a, b⟩ := ef_fold f step St P N xs (i + 1) (step s x) (by omega) hP fun i s y hy => h i s y (List.mem_cons_of_mem _ hy)
    refine ⟨ef_nx h1 h2 h3 a, ?_⟩
    rw [List.length_cons, show i + (xs.length + 1) = i + 1 + xs.length by omega]
    exact b
/-- some state -/
theorem ef_ex {σ : Type} (f : ι → D) (St : σ → Env) (P : Nat → σ → Prop) (N : Nat) : ∀ (xs : List ι) (i : Nat) (s : σ), i + xs.length ≤ N → P i s → (∀ i s x, x ∈ xs → i < N → P i s → ∃ s', P (i + 1) s' ∧ ∃ e1 e2, bd (f x) (St s) = .ok e1 ∧ body e1 = .nx e2 ∧ mask e0 e2 = St s') →
    ∃ s', P (i + xs.length) s' ∧ evFor body bd e0 (xs.map f) (St s) = .nx (St s')
  | [], i, s, _, h0, _ => ⟨s, h0, rfl⟩
  | x :: xs, i, s, hN, h0, h => by
    rw [List.length_cons] at hN
    obtain ⟨s1, hP, e1, e2, h1, h2, h3⟩ := h i s x List.mem_cons_self (by omega) h0
    obtain ⟨s', a, b⟩ := ef_ex f St P N xs (i + 1) s1 (by omega) hP fun i s y hy => h i s y (List.mem_cons_of_mem _ hy)
    refine ⟨s', ?_, ef_nx h1 h2 h3 b⟩
    rw [List.length_cons, show i + (xs.length + 1) = i + 1 + xs.length by omega]
    exact a
/-- a list that grows by what each turn adds -/
theorem ef_acc {α : Type} (f : ι → D) (g : ι → List α) (St : List α → Env) (B : Nat) (xs : List ι) (acc : List α) (hb : acc.length + (xs.flatMap g).length ≤ B) (h : ∀ acc x, x ∈ xs → acc.length + (g x).length ≤ B → ∃ e1 e2, bd (f x) (St acc) = .ok e1 ∧ body e1 = .nx e2 ∧ mask e0 e2 = St (acc ++ g x)) :
    evFor body bd e0 (xs.map f) (St acc) = .nx (St (acc ++ xs.flatMap g)) := by
  induction xs generalizing acc with
  | nil => rw [List.flatMap_nil, List.append_nil]; rfl
  | cons x xs ih =>
    rw [List.flatMap_cons, List.length_append] at hb
    obtain ⟨e1, e2, h1, h2, h3⟩ := h acc x List.mem_cons_self (by omega)
    rw [List.flatMap_cons, ← List.append_assoc]
    exact ef_nx h1 h2 h3 (ih (acc ++ g x) (by rw [List.length_append]; omega) fun acc y hy => h acc y (List.mem_cons_of_mem _ hy))
end
theorem made_ok {ys : List D} (h : ys.length ≤ 1000000) : made ys = .ok (.lst ys) := by
  unfold made
  rw [show lenLine ys.length = true from decide_eq_true h]
  rfl
theorem add_lst {xs ys : List D} (h : xs.length + ys.length ≤ 1000000) : addD (.lst xs) (.lst ys) = .ok (.lst (xs ++ ys)) := by
  unfold addD
  dsimp only
  rw [show lenLine (xs.length + ys.length) = true from decide_eq_true h]
  rfl
theorem bin_add (x y : D) : binD .add x y = addD x y := rfl
theorem bin_mul (x y : D) : binD .mul x y = mulD x y := rfl
theorem bin_mod (x y : D) : binD .mod x y = modD x y := rfl
theorem mod_int {i j : Int} (h : 0 < j) : modD (.int i) (.int j) = .ok (.int (i % j)) := by
  unfold modD
  dsimp only
  rw [decide_eq_true h]
  rfl
theorem mul_small {i j : Int} (h : -18446744073709551616 < j ∧ j < 18446744073709551616) : mulD (.int i) (.int j) = .ok (.int (i * j)) := by
  unfold mulD fitMul
  dsimp only
  rw [show (decide (-(2 ^ 64) < j ∧ j < 2 ^ 64)) = true from decide_eq_true (by omega), Bool.or_true, Bool.true_or]
  rfl
theorem cut_map {ι : Type} (f : ι → D) (l : List ι) (lo hi : Option Int) : ∃ m : List ι, m.length ≤ l.length ∧ (∀ x ∈ m, x ∈ l) ∧ cutD (l.map f) lo hi = m.map f := by
  refine ⟨(l.drop (HT.sIx (l.map f).length 0 lo)).take (HT.sIx (l.map f).length (l.map f).length hi - HT.sIx (l.map f).length 0 lo), ?_, fun x hx => ?_, ?_⟩
  · rw [List.length_take, List.length_drop]
    omega
  · exact List.mem_of_mem_drop (List.mem_of_mem_take hx)
  · unfold cutD
    rw [List.map_take, List.map_drop]
/-- draws, one after the other -/
def Dr : List Int → List Int → Prop
  | [], [] => True
  | l :: ls, v :: vs => (0 ≤ v ∧ v < l) ∧ Dr ls vs
  | _, _ => False
theorem drawsL_dr : ∀ (ls : List Int) (r s : Int), (∀ l ∈ ls, 0 < l) → Dr ls (drawsL r s ls)
  | [], _, _, _ => trivial
  | l :: ls, r, s, h => by
    have hl := h l List.mem_cons_self
    rw [drawsL]
    split
    · exact ⟨⟨Int.emod_nonneg _ (by omega), Int.emod_lt_of_pos _ hl⟩, drawsL_dr ls _ _ fun l hl => h l (List.mem_cons_of_mem _ hl)⟩
    · exact ⟨⟨Int.emod_nonneg _ (by omega), Int.emod_lt_of_pos _ hl⟩, drawsL_dr ls _ _ fun l hl => h l (List.mem_cons_of_mem _ hl)⟩
theorem drawsN_dr {c : Int} {ls : List Int} (h : ∀ l ∈ ls, 0 < l) : Dr ls (drawsN c ls) := drawsL_dr ls _ _ h
theorem Dr.cons {l : Int} {ls vs : List Int} (h : Dr (l :: ls) vs) : ∃ v vs', vs = v :: vs' ∧ 0 ≤ v ∧ v < l ∧ Dr ls vs' := by
  cases vs with
  | nil => exact h.elim
  | cons v vs => exact ⟨v, vs, rfl, h.1.1, h.1.2, h.2⟩
theorem Dr.nil {vs : List Int} (h : Dr [] vs) : vs = [] := by
  cases vs with
  | nil => rfl
  | cons v vs => exact h.elim
theorem fit_small {ls : List Int} (h : ∀ l ∈ ls, 0 < l ∧ l < 18446744073709551616) : ∀ l ∈ ls, fitDiv l = true := fun l hl => by
  obtain ⟨a, b⟩ := h l hl
  unfold fitDiv
  refine decide_eq_true ⟨a, ?_⟩
  have h1 : l.natAbs < 2 ^ 64 := by omega
  have h2 : l.natAbs.log2 < 64 := (Nat.log2_lt (by omega)).mpr h1
  omega
theorem sortI_asc {l : List Int} (h : l.Nodup) : (sortI l).Pairwise (· < ·) := by
  have nd : (sortI l).Nodup := (sortI_perm l).nodup_iff.mpr h
  exact ((sortI_pw l).and nd).imp fun h => by
    have h1 := h.1
    have h2 : _ ≠ _ := h.2
    omega
theorem toInts_map : ∀ l : List Int, toInts (l.map .int) = some l
  | [] => rfl
  | i :: l => by
    show (toInts (l.map .int)).map (i :: ·) = _
    rw [toInts_map l]
    rfl
theorem sorted_ints (l : List Int) : sortedD [.lst (l.map .int)] = .ok (.lst ((sortI l).map .int)) := by
  unfold sortedD
  dsimp only
  rw [toInts_map]
theorem sortI_len (l : List Int) : (sortI l).length = l.length := (sortI_perm l).length_eq
/-! ### apart, joined -/
def apartB : Body := ⟨3, false, [.fr (.nm 2) (.peek 0) [.ife (.cmp .isin (.peek 2) (.peek 1)) [.ret (.cst (.bl false))] []], .ret (.cst (.bl true))], none⟩
def apZ (p q : List Int) : Bool := !(p.any fun x => decide (x ∈ q))
theorem apart_run (Γ : Glob) (p q : List Int) : runB Γ apartB [.frz (tupZ p), .frz (tupZ q)] = .ok (.bl (apZ p q)) := by
  have lp : evFor (evSs Γ [.ife (.cmp .isin (.peek 2) (.peek 1)) [.ret (.cst (.bl false))] []]) (bindT (.nm 2)) [.frz (tupZ p), .frz (tupZ q), .un] (p.map D.int) [.frz (tupZ p), .frz (tupZ q), .un] =
      if p.any (fun x => decide (x ∈ q)) then .ret (.bl false) false else .nx [.frz (tupZ p), .frz (tupZ q), .un] := by
    refine ef_find D.int (fun x => decide (x ∈ q)) p fun x _ => ⟨[.frz (tupZ p), .frz (tupZ q), .frz (.int x)], rfl, ?_⟩
    have c : evE Γ (.cmp .isin (.peek 2) (.peek 1)) [.frz (tupZ p), .frz (tupZ q), .frz (.int x)] = .ok (.bl (decide (x ∈ q))) := by
      simp [cmpD, in_tupZ]
    refine ⟨fun h => ?_, fun h => ?_⟩
    · rw [h] at c
      exact ess_if_ret c rfl
    · rw [h] at c
      exact ⟨_, ess_if c rfl rfl, rfl⟩
  refine run_ret (env := [.frz (tupZ p), .frz (tupZ q), .un]) (own := false) rfl ?_ rfl
  unfold apZ
  cases c : p.any fun x => decide (x ∈ q) with
  | true =>
    rw [c] at lp
    exact ess_rt (es_for_ret (xs := p.map D.int) rfl rfl lp)
  | false =>
    rw [c] at lp
    exact ess_for (xs := p.map D.int) rfl rfl lp rfl (ess_ret rfl)
def joinedB (ap : Nat) : Body := ⟨2, false, [.ife (.not (.call false ap [.peek 0, .peek 1])) [.ret (.cst .non)] [], .ret (.bi .tuple [.bi .sorted [.bin .add (.bi .list [.peek 0]) (.bi .list [.peek 1])]])], none⟩
def jn (p q : List Int) : Option (List Int) := if apZ p q then some (sortI (p ++ q)) else none
def optT : Option (List Int) → D
  | none => .non
  | some l => tupZ l
theorem joined_run {Γ : Glob} {ap : Nat} (ha : ∀ p q, Γ.call ap [.frz (tupZ p), .frz (tupZ q)] = .ok (.bl (apZ p q))) (p q : List Int) (hb : p.length + q.length ≤ 1000000) : runB Γ (joinedB ap) [.frz (tupZ p), .frz (tupZ q)] = .ok (optT (jn p q)) := by
  have c : evE Γ (.not (.call false ap [.peek 0, .peek 1])) [.frz (tupZ p), .frz (tupZ q)] = .ok (.bl (!apZ p q)) := by
    simp [ha]
  unfold jn
  cases h : apZ p q with
  | false =>
    rw [h] at c
    exact run_ret (own := false) rfl (ess_if_ret c rfl) rfl
  | true =>
    rw [h] at c
    refine run_ret (env := [.frz (tupZ p), .frz (tupZ q)]) (own := true) rfl (ess_if c rfl (ess_ret (d := tupZ (sortI (p ++ q))) ?_)) rfl
    have e1 : evE Γ (.bin .add (.bi .list [.peek 0]) (.bi .list [.peek 1])) [.frz (tupZ p), .frz (tupZ q)] = .ok (.lst ((p ++ q).map .int)) := by
      show addD (.lst (p.map .int)) (.lst (q.map .int)) = _
      rw [add_lst (by rw [List.length_map, List.length_map]; exact hb), List.map_append]
    rw [ev_bi, evs_cons, ev_bi, evs_cons, e1]
    rw [b_ok, evs_nil, m_ok, b_ok, show biD Bi.sorted [.lst ((p ++ q).map .int)] = sortedD [.lst ((p ++ q).map .int)] from rfl, sorted_ints]
    rfl
/-! ### rank, ranked -/
def rankB : Body := ⟨1, false, [.ret (.tup [.neg (.idx (.peek 0) (.cst (.int 0))), .idx (.peek 0) (.cst (.int 1))])], none⟩
theorem rank_run (Γ : Glob) (p : Itm) : runB Γ rankB [.frz (it p)] = .ok (rkey p) := rfl
def rankedB (k : Nat) : Body := ⟨1, true, [.ret (.srt k (.bi .sset [.peek 0]))], none⟩
theorem ranked_run {Γ : Glob} {k : Nat} (hr : ∀ p, Γ.call k [.frz (it p)] = .ok (rkey p)) (l : List Itm) (hl : l.length < 1000) {L : Slot} (h : Sn (.lst (l.map it)) L) : runB Γ (rankedB k) [L] = .ok (.lst ((rk l).map it)) := by
  obtain ⟨m, e1, nd, hm⟩ := sset_of l hl
  refine run_ret (own := true) rfl (ess_ret (d := .lst ((rk l).map it)) ?_) rfl
  rw [ev_srt, ev_bi, evs_cons, ev_peek]
  show R.bind (R.bind (R.bind L.val _) _) _ = _
  rw [h.val, b_ok, evs_nil, m_ok, b_ok]
  show R.bind (ssetD [.lst (l.map it)]) _ = _
  rw [e1, b_ok, srtD, keysL_map hr, n_ok, b_ok, if_pos (sortOk_pairs _ fun d hd => by
    obtain ⟨p, _, rfl⟩ := List.mem_map.mp hd
    exact ⟨-p.1, p.2, rfl⟩), sortK_rk m nd, rk_ext hm]
end Mi
namespace Mi
open PySem L2
/-! ### _law_same, by copies -/
def sameB (rec : E) : Body := ⟨3, false, [.ife (.isN false (.peek 1)) [.ret (.isN false (.peek 0))] [], .ife (.isi .bool (.peek 1)) [.ret (.and (.isi .bool (.peek 0)) (.cmp .eq (.peek 0) (.peek 1)))] [], .ife (.isi .int (.peek 1)) [.ret (.and (.isi .int (.peek 0)) (.and (.not (.isi .bool (.peek 0))) (.cmp .eq (.peek 0) (.peek 1))))] [],
  .ife (.isi .str (.peek 1)) [.ret (.and (.isi .str (.peek 0)) (.cmp .eq (.peek 0) (.peek 1)))] [], .ife (.and (.isi .tuple (.peek 1)) (.not (.isi .tuple (.peek 0)))) [.ret (.cst (.bl false))] [], .ife (.and (.isi .list (.peek 1)) (.not (.isi .list (.peek 0)))) [.ret (.cst (.bl false))] [], .ife (.cmp .ne (.bi .len [.peek 0]) (.bi .len [.peek 1])) [.ret (.cst (.bl false))] [],
  .fr (.nm 2) (.rng none (.bi .len [.peek 1]) none) [.ife (.not rec) [.ret (.cst (.bl false))] []], .ret (.cst (.bl true))], none⟩
def sameR (k : Nat) : E := .call false k [.idx (.peek 0) (.peek 2), .idx (.peek 1) (.peek 2)]
/-- data n deep -/
def sd : Nat → D → Bool
  | _, .non => true
  | _, .bl _ => true
  | _, .int _ => true
  | _, .str s => PyData.strOk s
  | 0, .tup xs => xs.isEmpty
  | 0, .lst xs => xs.isEmpty
  | n + 1, .tup xs => xs.all (sd n) && decide (xs.length ≤ 1000000)
  | n + 1, .lst xs => xs.all (sd n) && decide (xs.length ≤ 1000000)
  | _, _ => false
section
variable {Γ : Glob} {rec : E} {L M : Slot}
theorem same_seq {d : D} {xs : List D} (hd : d = .tup xs ∨ d = .lst xs) (hL : Sn d L) (hM : Sn d M) (hl : xs.length ≤ 1000000) (hr : ∀ (i : Nat) x, xs[i]? = some x → evE Γ rec [L, M, .frz (.int i)] = .ok (.bl true)) : runB Γ (sameB rec) [L, M] = .ok (.bl true) := by
  have lp : evFor (evSs Γ [.ife (.not rec) [.ret (.cst (.bl false))] []]) (bindT (.nm 2)) [L, M, .un] ((List.range xs.length).map fun (k : Nat) => D.int (k : Int)) [L, M, .un] = .nx [L, M, .un] := by
    rw [ef_find (fun (k : Nat) => D.int (k : Int)) (fun _ => false) (d := .non) (b := false) (List.range xs.length) fun k hk => ⟨[L, M, .frz (.int k)], rfl, fun h => (by cases h), fun _ => ⟨[L, M, .frz (.int k)], ?_, ?_⟩⟩]
    · simp
    · have hk := List.mem_range.mp hk
      have e : evE Γ (.not rec) [L, M, .frz (.int k)] = .ok (.bl false) := by
        rw [ev_not, hr k xs[k] (List.getElem?_eq_getElem hk), b_ok]
        rfl
      exact ess_if e rfl rfl
    · rw [hL.mk, hM.mk]
      rfl
  refine run_ret (env := [L, M, .un]) (own := false) rfl ?_ rfl
  have v1 : evE Γ (.peek 1) [L, M, .un] = .ok d := by rw [ev_peek, gt_succ, gt_zero, hM.val]
  have v0 : evE Γ (.peek 0) [L, M, .un] = .ok d := by rw [ev_peek, gt_zero, hL.val]
  have k1 : evE Γ (.isN false (.peek 1)) [L, M, .un] = .ok (.bl false) := by rw [ev_isN, v1]; rcases hd with h | h <;> (subst h; rfl)
  have k2 : evE Γ (.isi .bool (.peek 1)) [L, M, .un] = .ok (.bl false) := by rw [ev_isi, v1]; rcases hd with h | h <;> (subst h; rfl)
  have k3 : evE Γ (.isi .int (.peek 1)) [L, M, .un] = .ok (.bl false) := by rw [ev_isi, v1]; rcases hd with h | h <;> (subst h; rfl)
  have k4 : evE Γ (.isi .str (.peek 1)) [L, M, .un] = .ok (.bl false) := by rw [ev_isi, v1]; rcases hd with h | h <;> (subst h; rfl)
  have k5 : evE Γ (.and (.isi .tuple (.peek 1)) (.not (.isi .tuple (.peek 0)))) [L, M, .un] = .ok (.bl false) := by rw [ev_and, ev_isi, v1, ev_not, ev_isi, v0]; rcases hd with h | h <;> (subst h; rfl)
  have k6 : evE Γ (.and (.isi .list (.peek 1)) (.not (.isi .list (.peek 0)))) [L, M, .un] = .ok (.bl false) := by rw [ev_and, ev_isi, v1, ev_not, ev_isi, v0]; rcases hd with h | h <;> (subst h; rfl)
  have l0 : evE Γ (.bi .len [.peek 0]) [L, M, .un] = .ok (.int xs.length) := by rw [ev_bi, evs_cons, v0]; rcases hd with h | h <;> (subst h; rfl)
  have l1 : evE Γ (.bi .len [.peek 1]) [L, M, .un] = .ok (.int xs.length) := by rw [ev_bi, evs_cons, v1]; rcases hd with h | h <;> (subst h; rfl)
  have k7 : evE Γ (.cmp .ne (.bi .len [.peek 0]) (.bi .len [.peek 1])) [L, M, .un] = .ok (.bl false) := by
    rw [ev_cmp, l0, l1]
    exact neR_self (d := .int xs.length) rfl
  exact ess_if k1 rfl (ess_if k2 rfl (ess_if k3 rfl (ess_if k4 rfl (ess_if k5 rfl (ess_if k6 rfl (ess_if k7 rfl (ess_for (rng0 l1 (by omega)) rfl lp rfl (ess_ret rfl))))))))
theorem same_atom {d : D} (hd : (∃ i, d = .int i) ∨ (∃ b, d = .bl b) ∨ d = .non ∨ ∃ s, d = .str s ∧ PyData.strOk s = true) (hL : Sn d L) (hM : Sn d M) : runB Γ (sameB rec) [L, M] = .ok (.bl true) := by
  have v1 : evE Γ (.peek 1) [L, M, .un] = .ok d := by rw [ev_peek, gt_succ, gt_zero, hM.val]
  have v0 : evE Γ (.peek 0) [L, M, .un] = .ok d := by rw [ev_peek, gt_zero, hL.val]
  refine run_ret (env := [L, M, .un]) (own := false) rfl ?_ rfl
  rcases hd with ⟨i, rfl⟩ | ⟨b, rfl⟩ | rfl | ⟨s, rfl, hs⟩
  · have k1 : evE Γ (.isN false (.peek 1)) [L, M, .un] = .ok (.bl false) := by rw [ev_isN, v1]; rfl
    have k2 : evE Γ (.isi .bool (.peek 1)) [L, M, .un] = .ok (.bl false) := by rw [ev_isi, v1]; rfl
    have k3 : evE Γ (.isi .int (.peek 1)) [L, M, .un] = .ok (.bl true) := by rw [ev_isi, v1]; rfl
    refine ess_if k1 rfl (ess_if k2 rfl (ess_if_ret k3 (ess_ret ?_)))
    rw [ev_and, ev_isi, v0, b_ok]
    show evE Γ (.and (.not (.isi .bool (.peek 0))) (.cmp .eq (.peek 0) (.peek 1))) [L, M, .un] = _
    rw [ev_and, ev_not, ev_isi, v0, b_ok]
    show evE Γ (.cmp .eq (.peek 0) (.peek 1)) [L, M, .un] = _
    rw [ev_cmp, v0, v1]
    exact eqR_self (d := .int i) rfl
  · have k1 : evE Γ (.isN false (.peek 1)) [L, M, .un] = .ok (.bl false) := by rw [ev_isN, v1]; rfl
    have k2 : evE Γ (.isi .bool (.peek 1)) [L, M, .un] = .ok (.bl true) := by rw [ev_isi, v1]; rfl
    refine ess_if k1 rfl (ess_if_ret k2 (ess_ret ?_))
    rw [ev_and, ev_isi, v0, b_ok]
    show evE Γ (.cmp .eq (.peek 0) (.peek 1)) [L, M, .un] = _
    rw [ev_cmp, v0, v1]
    exact eqR_self (d := .bl b) rfl
  · have k1 : evE Γ (.isN false (.peek 1)) [L, M, .un] = .ok (.bl true) := by rw [ev_isN, v1]; rfl
    refine ess_if_ret k1 (ess_ret ?_)
    rw [ev_isN, v0]
    rfl
  · have k1 : evE Γ (.isN false (.peek 1)) [L, M, .un] = .ok (.bl false) := by rw [ev_isN, v1]; rfl
    have k2 : evE Γ (.isi .bool (.peek 1)) [L, M, .un] = .ok (.bl false) := by rw [ev_isi, v1]; rfl
    have k3 : evE Γ (.isi .int (.peek 1)) [L, M, .un] = .ok (.bl false) := by rw [ev_isi, v1]; rfl
    have k4 : evE Γ (.isi .str (.peek 1)) [L, M, .un] = .ok (.bl true) := by rw [ev_isi, v1]; rfl
    refine ess_if k1 rfl (ess_if k2 rfl (ess_if k3 rfl (ess_if_ret k4 (ess_ret ?_))))
    rw [ev_and, ev_isi, v0, b_ok]
    show evE Γ (.cmp .eq (.peek 0) (.peek 1)) [L, M, .un] = _
    rw [ev_cmp, v0, v1]
    exact eqR_self (d := .str s) hs
theorem same_run0 {d : D} (h : sd 0 d = true) (hL : Sn d L) (hM : Sn d M) : runB Γ (sameB rec) [L, M] = .ok (.bl true) := by
  cases d with
  | non => exact same_atom (.inr (.inr (.inl rfl))) hL hM
  | bl b => exact same_atom (.inr (.inl ⟨b, rfl⟩)) hL hM
  | int i => exact same_atom (.inl ⟨i, rfl⟩) hL hM
  | str s => exact same_atom (.inr (.inr (.inr ⟨s, rfl, h⟩))) hL hM
  | tup xs =>
    cases xs with
    | nil => exact same_seq (.inl rfl) hL hM (by simp) fun i x hx => by simp at hx
    | cons x r => cases h
  | lst xs =>
    cases xs with
    | nil => exact same_seq (.inr rfl) hL hM (by simp) fun i x hx => by simp at hx
    | cons x r => cases h
  | dct _ _ => cases h
  | ins _ _ _ => cases h
  | scr _ => cases h
  | itr _ => cases h
theorem same_runS {n k : Nat} (ih : ∀ d, sd n d = true → Γ.call k [.frz d, .frz d] = .ok (.bl true)) {d : D} (h : sd (n + 1) d = true) (hL : Sn d L) (hM : Sn d M) : runB Γ (sameB (sameR k)) [L, M] = .ok (.bl true) := by
  have go : ∀ xs, (d = .tup xs ∨ d = .lst xs) → xs.all (sd n) = true → ∀ (i : Nat) x, xs[i]? = some x → evE Γ (sameR k) [L, M, .frz (.int i)] = .ok (.bl true) := fun xs hd ha i x hx => by
    have hx' := ih x (List.all_eq_true.mp ha x (List.mem_of_getElem? hx))
    have e : ∀ N, Sn d N → (Mi.Slot.val N).bind (fun x => (evE Γ (.peek 2) [L, M, .frz (.int i)]).bind fun y => idxD x y) = .ok x := fun N hN => by
      rw [hN.val, b_ok, show evE Γ (.peek 2) [L, M, .frz (.int i)] = .ok (.int i) from rfl, b_ok]
      rcases hd with h | h
      · subst h
        show optR (L2.atI xs (i : Int)) = _
        rw [atI_nat, hx]
        rfl
      · subst h
        show optR (L2.atI xs (i : Int)) = _
        rw [atI_nat, hx]
        rfl
    have e0 : evE Γ (.idx (.peek 0) (.peek 2)) [L, M, .frz (.int i)] = .ok x := e L hL
    have e1 : evE Γ (.idx (.peek 1) (.peek 2)) [L, M, .frz (.int i)] = .ok x := e M hM
    unfold sameR
    rw [ev_call, eva_cons, e0, b_ok, eva_cons, e1, b_ok, eva_nil]
    exact hx'
  cases d with
  | non => exact same_atom (.inr (.inr (.inl rfl))) hL hM
  | bl b => exact same_atom (.inr (.inl ⟨b, rfl⟩)) hL hM
  | int i => exact same_atom (.inl ⟨i, rfl⟩) hL hM
  | str s => exact same_atom (.inr (.inr (.inr ⟨s, rfl, h⟩))) hL hM
  | tup xs =>
    rw [sd, Bool.and_eq_true, decide_eq_true_eq] at h
    exact same_seq (.inl rfl) hL hM h.2 (go xs (.inl rfl) h.1)
  | lst xs =>
    rw [sd, Bool.and_eq_true, decide_eq_true_eq] at h
    exact same_seq (.inr rfl) hL hM h.2 (go xs (.inr rfl) h.1)
  | dct _ _ => cases h
  | ins _ _ _ => cases h
  | scr _ => cases h
  | itr _ => cases h
theorem sd_ints (n : Nat) (l : List Int) : (l.map D.int).all (sd n) = true := by
  rw [List.all_eq_true]
  intro d hd
  obtain ⟨i, _, rfl⟩ := List.mem_map.mp hd
  cases n <;> rfl
theorem sd_tupZ (n : Nat) (l : List Int) (h : l.length ≤ 1000000) : sd (n + 1) (tupZ l) = true := by
  show ((l.map D.int).all (sd n) && decide ((l.map D.int).length ≤ 1000000)) = true
  rw [sd_ints, List.length_map, decide_eq_true h]
  rfl
theorem sd_it (n : Nat) (p : Itm) (h : p.2.length ≤ 1000000) : sd (n + 2) (it p) = true := by
  show ((sd (n + 1) (.int p.1) && (sd (n + 1) (tupZ p.2) && true)) && true) = true
  rw [sd_tupZ n p.2 h]
  rfl
theorem sd_its (n : Nat) (l : List Itm) (hl : l.length ≤ 1000000) (h : ∀ p ∈ l, p.2.length ≤ 1000000) : sd (n + 3) (.lst (l.map it)) = true := by
  show ((l.map it).all (sd (n + 2)) && decide ((l.map it).length ≤ 1000000)) = true
  rw [List.length_map, decide_eq_true hl, Bool.and_true, List.all_eq_true]
  intro d hd
  obtain ⟨p, hp, rfl⟩ := List.mem_map.mp hd
  exact sd_it n p (h p hp)
end
end Mi
namespace Mi
open PySem L2
/-! ### _law_before, _law_by_rank -/
def beforeB : Body := ⟨2, false, [.ife (.cmp .ne (.idx (.peek 0) (.cst (.int 0))) (.idx (.peek 1) (.cst (.int 0)))) [.ret (.cmp .gt (.idx (.peek 0) (.cst (.int 0))) (.idx (.peek 1) (.cst (.int 0))))] [], .ret (.cmp .lt (.idx (.peek 0) (.cst (.int 1))) (.idx (.peek 1) (.cst (.int 1))))], none⟩
theorem before_run (Γ : Glob) (p q : Itm) : runB Γ beforeB [.frz (it p), .frz (it q)] = .ok (.bl (bef p q)) := by
  have c : evE Γ (.cmp .ne (.idx (.peek 0) (.cst (.int 0))) (.idx (.peek 1) (.cst (.int 0)))) [.frz (it p), .frz (it q)] = .ok (.bl (!(p.1 == q.1))) := rfl
  unfold bef
  by_cases h : p.1 = q.1
  · have e : (!(p.1 == q.1)) = false := by simp [h]
    rw [e] at c
    refine run_ret (env := [.frz (it p), .frz (it q)]) (own := false) rfl (ess_if c rfl (ess_ret ?_)) rfl
    have : ¬ q.1 < p.1 := by omega
    rw [decide_eq_false this, decide_eq_true h, Bool.false_or, Bool.true_and]
    exact lt_tupZ p.2 q.2
  · have e : (!(p.1 == q.1)) = true := by simp [h]
    rw [e] at c
    refine run_ret (env := [.frz (it p), .frz (it q)]) (own := false) rfl (ess_if_ret c (ess_ret ?_)) rfl
    rw [decide_eq_false h, Bool.false_and, Bool.or_false]
    rfl
def pl (p : Itm) : List Itm → Nat
  | [] => 0
  | q :: r => if bef q p then pl p r + 1 else 0
theorem pl_lt {p : Itm} : ∀ {l : List Itm} {j : Nat}, j < pl p l → ∃ q, l[j]? = some q ∧ bef q p = true
  | [], j, h => by simp [pl] at h
  | q :: r, j, h => by
    rw [pl] at h
    split at h
    · rename_i c
      cases j with
      | zero => exact ⟨q, rfl, c⟩
      | succ j => exact pl_lt (l := r) (by omega)
    · omega
theorem pl_le {p : Itm} : ∀ l : List Itm, pl p l ≤ l.length
  | [] => Nat.le_refl _
  | q :: r => by
    rw [pl]
    have := pl_le (p := p) r
    rw [List.length_cons]
    split <;> omega
theorem pl_at {p : Itm} : ∀ {l : List Itm} {q : Itm}, l[pl p l]? = some q → bef q p = false
  | [], _, h => by simp [pl] at h
  | q :: r, x, h => by
    rw [pl] at h
    split at h
    · exact pl_at (l := r) (by simpa using h)
    · rename_i c
      simp at h
      subst h
      simpa using c
theorem ins_pl {p : Itm} : ∀ l : List Itm, ins p l = if l[pl p l]? = some p then l else l.take (pl p l) ++ [p] ++ l.drop (pl p l)
  | [] => rfl
  | q :: r => by
    rw [ins, pl]
    split
    · rw [ins_pl r]
      have e : (q :: r)[pl p r + 1]? = r[pl p r]? := by simp
      rw [e]
      split <;> rfl
    · have e : (q :: r)[0]? = some q := rfl
      rw [e]
      by_cases h : q = p
      · rw [if_pos h, if_pos (by rw [h])]
      · rw [if_neg h, if_neg (by simpa using h)]
        rfl
def byRankB (bf : Nat) : Body := ⟨4, true, [.asg (.nm 1) (.lst []), .fr (.nm 2) (.peek 0) [.asg (.nm 3) (.cst (.int 0)), .whl (.and (.cmp .lt (.peek 3) (.bi .len [.peek 1])) (.call false bf [.idx (.peek 1) (.peek 3), .peek 2])) [.asg (.nm 3) (.bin .add (.peek 3) (.cst (.int 1)))],
  .ife (.or (.cmp .eq (.peek 3) (.bi .len [.peek 1])) (.cmp .ne (.idx (.peek 1) (.peek 3)) (.peek 2))) [.ins 1 (.peek 3) (.var 2)] []], .retv 1], none⟩
section
variable {Γ : Glob} {bf : Nat} (hb : ∀ p q, Γ.call bf [.frz (it p), .frz (it q)] = .ok (.bl (bef p q))) {L : Slot} {d : D} (hL : Sn d L)
abbrev brE (L : Slot) (acc : List Itm) (p : Itm) (k : Nat) : Env := [L, .own (.lst (acc.map it)), .frz (it p), .frz (.int (k : Int))]
theorem br_at {acc : List Itm} {p q : Itm} {k : Nat} (h : acc[k]? = some q) : evE Γ (.idx (.peek 1) (.peek 3)) (brE L acc p k) = .ok (it q) := by
  show optR (L2.atI (acc.map it) (k : Int)) = _
  rw [atI_nat, List.getElem?_map, h]
  rfl
theorem br_len (acc : List Itm) (p : Itm) (k : Nat) : evE Γ (.bi .len [.peek 1]) (brE L acc p k) = .ok (.int acc.length) := by
  show lenD [.lst (acc.map it)] = _
  unfold lenD
  dsimp only
  rw [List.length_map]
include hb in
theorem br_cond (acc : List Itm) (p : Itm) (k : Nat) (hk : k ≤ pl p acc) : evE Γ (.and (.cmp .lt (.peek 3) (.bi .len [.peek 1])) (.call false bf [.idx (.peek 1) (.peek 3), .peek 2])) (brE L acc p k) = .ok (.bl (decide (k < pl p acc))) := by
  rw [ev_and, ev_cmp, br_len, show evE Γ (.peek 3) (brE L acc p k) = .ok (.int (k : Int)) from rfl, b_ok, b_ok]
  show R.bind (R.ok (D.bl (decide ((k : Int) < (acc.length : Int))))) _ = _
  rw [b_ok]
  have call : ∀ q, acc[k]? = some q → evE Γ (.call false bf [.idx (.peek 1) (.peek 3), .peek 2]) (brE L acc p k) = .ok (.bl (bef q p)) := fun q hq => by
    rw [ev_call, eva_cons, br_at hq, b_ok]
    exact hb q p
  by_cases h : k < acc.length
  · rw [decide_eq_true (show (k : Int) < (acc.length : Int) by omega)]
    obtain ⟨q, hq⟩ : ∃ q, acc[k]? = some q := ⟨_, List.getElem?_eq_getElem h⟩
    show evE Γ (.call false bf [.idx (.peek 1) (.peek 3), .peek 2]) (brE L acc p k) = _
    rw [call q hq]
    by_cases h2 : k < pl p acc
    · obtain ⟨q', h3, h4⟩ := pl_lt h2
      rw [hq] at h3
      cases h3
      rw [h4, decide_eq_true h2]
    · have e : k = pl p acc := by omega
      rw [e] at hq
      rw [pl_at hq, decide_eq_false h2]
  · have := pl_le (p := p) acc
    rw [decide_eq_false (show ¬ (k : Int) < (acc.length : Int) by omega), decide_eq_false (show ¬ k < pl p acc by omega)]
include hb hL in
theorem br_whl (acc : List Itm) (p : Itm) (k0 : Nat) : ∀ (n k m : Nat), k + m = pl p acc → m < n → evWhl (fun e => (evE Γ (.and (.cmp .lt (.peek 3) (.bi .len [.peek 1])) (.call false bf [.idx (.peek 1) (.peek 3), .peek 2])) e).bind truth) (evSs Γ [.asg (.nm 3) (.bin .add (.peek 3) (.cst (.int 1)))]) (brE L acc p k0) n (brE L acc p k) = .nx (brE L acc p (pl p acc))
  | 0, _, _, _, h => absurd h (Nat.not_lt_zero _)
  | n + 1, k, m, h, hn => by
    rw [evWhl, br_cond hb acc p k (by omega), b_ok, truth_bl, o_ok']
    cases m with
    | zero =>
      rw [decide_eq_false (show ¬ k < pl p acc by omega), ← h]
      rfl
    | succ m =>
      rw [decide_eq_true (show k < pl p acc by omega)]
      have e : evSs Γ [.asg (.nm 3) (.bin .add (.peek 3) (.cst (.int 1)))] (brE L acc p k) = .nx (brE L acc p (k + 1)) := rfl
      rw [if_pos rfl, e]
      show evWhl _ _ _ n (mask (brE L acc p k0) (brE L acc p (k + 1))) = _
      have em : mask (brE L acc p k0) (brE L acc p (k + 1)) = brE L acc p (k + 1) := by
        rw [brE, brE, hL.mk]
        rfl
      rw [em]
      exact br_whl acc p k0 n (k + 1) m (by omega) (by omega)
include hb hL in
theorem br_turn (acc : List Itm) (p : Itm) (ha : acc.length < 90000) : ∃ e2, evSs Γ [.asg (.nm 3) (.cst (.int 0)), .whl (.and (.cmp .lt (.peek 3) (.bi .len [.peek 1])) (.call false bf [.idx (.peek 1) (.peek 3), .peek 2])) [.asg (.nm 3) (.bin .add (.peek 3) (.cst (.int 1)))],
  .ife (.or (.cmp .eq (.peek 3) (.bi .len [.peek 1])) (.cmp .ne (.idx (.peek 1) (.peek 3)) (.peek 2))) [.ins 1 (.peek 3) (.var 2)] []] [L, .own (.lst (acc.map it)), .frz (it p), .un] = .nx (brE L (ins p acc) p e2) := by
  have hple := pl_le (p := p) acc
  refine ⟨pl p acc, ess_asg (e1 := brE L acc p 0) rfl rfl (ess_nx (e := brE L acc p (pl p acc)) ?_ ?_)⟩
  · rw [es_whl]
    exact br_whl hb hL acc p 0 fuel 0 (pl p acc) (by omega) (Nat.lt_of_le_of_lt hple (Nat.lt_trans ha (by decide)))
  · have c : evE Γ (.or (.cmp .eq (.peek 3) (.bi .len [.peek 1])) (.cmp .ne (.idx (.peek 1) (.peek 3)) (.peek 2))) (brE L acc p (pl p acc)) = .ok (.bl (!decide (acc[pl p acc]? = some p))) := by
      rw [ev_or, ev_cmp, br_len, show evE Γ (.peek 3) (brE L acc p (pl p acc)) = .ok (.int (pl p acc : Int)) from rfl, b_ok, b_ok]
      show R.bind (R.ok (D.bl ((pl p acc : Int) == (acc.length : Int)))) _ = _
      rw [b_ok]
      by_cases h : pl p acc = acc.length
      · have e : ((pl p acc : Int) == (acc.length : Int)) = true := by simp [h]
        have e2 : acc[pl p acc]? = none := List.getElem?_eq_none (by omega)
        rw [e, e2]
        rfl
      · have e : ((pl p acc : Int) == (acc.length : Int)) = false := by simpa using (by omega : ¬ (pl p acc : Int) = (acc.length : Int))
        obtain ⟨q, hq⟩ : ∃ q, acc[pl p acc]? = some q := ⟨_, List.getElem?_eq_getElem (by omega)⟩
        rw [e, hq]
        show evE Γ (.cmp .ne (.idx (.peek 1) (.peek 3)) (.peek 2)) (brE L acc p (pl p acc)) = _
        rw [ev_cmp, br_at hq, b_ok, show evE Γ (.peek 2) (brE L acc p (pl p acc)) = .ok (it p) from rfl, b_ok]
        show neR (it q) (it p) = _
        rw [neR_it]
        by_cases h2 : q = p <;> simp [h2]
    rw [ins_pl]
    by_cases h : acc[pl p acc]? = some p
    · rw [if_pos h]
      rw [decide_eq_true h] at c
      exact ess_if c rfl rfl
    · rw [if_neg h]
      rw [decide_eq_false h] at c
      refine ess_if (e1 := brE L (acc.take (pl p acc) ++ [p] ++ acc.drop (pl p acc)) p (pl p acc)) c (ess_nx ?_ rfl) rfl
      rw [es_ins]
      show R.only (R.ok (acc.map it)) _ = _
      rw [y_ok, show evE Γ (.peek 3) (brE L acc p (pl p acc)) = .ok (.int (pl p acc : Int)) from rfl, o_ok', intOf, y_ok, show evE Γ (.var 2) (brE L acc p (pl p acc)) = .ok (it p) from rfl, o_ok',
        if_pos (decide_eq_true ⟨by rw [List.length_map]; omega, by omega, by omega⟩), Int.toNat_natCast, ← List.map_take, ← List.map_drop]
      show Out.nx [L, .own (.lst (List.map it (List.take (pl p acc) acc) ++ [it p] ++ List.map it (List.drop (pl p acc) acc))), .frz (it p), .frz (.int (pl p acc : Int))] = _
      rw [show List.map it (List.take (pl p acc) acc) ++ [it p] ++ List.map it (List.drop (pl p acc) acc) = (acc.take (pl p acc) ++ [p] ++ acc.drop (pl p acc)).map it by simp]
include hb in
theorem by_rank_run (l : List Itm) (hl : l.length < 90000) {L : Slot} (h : Sn (.lst (l.map it)) L) : runB Γ (byRankB bf) [L] = .ok (.lst ((rk l).map it)) := by
  have lp := (ef_fold (body := evSs Γ [.asg (.nm 3) (.cst (.int 0)), .whl (.and (.cmp .lt (.peek 3) (.bi .len [.peek 1])) (.call false bf [.idx (.peek 1) (.peek 3), .peek 2])) [.asg (.nm 3) (.bin .add (.peek 3) (.cst (.int 1)))],
      .ife (.or (.cmp .eq (.peek 3) (.bi .len [.peek 1])) (.cmp .ne (.idx (.peek 1) (.peek 3)) (.peek 2))) [.ins 1 (.peek 3) (.var 2)] []]) (bd := bindT (.nm 2)) (e0 := [L, .own (.lst []), .un, .un])
    it (fun acc p => ins p acc) (fun acc => [L, .own (.lst (acc.map it)), .un, .un]) (fun i acc => acc.length ≤ i) l.length l 0 [] (by omega) (Nat.le_refl _) fun i acc p hp hN hi => ?_)
  · have e := lp.1
    refine run_ret (env := [L, .un, .un, .un]) (own := true) rfl (ess_asg (e1 := [L, .own (.lst []), .un, .un]) rfl rfl (ess_for (xs := l.map it) (e2 := [L, .own (.lst ((rk l).map it)), .un, .un]) (e3 := [L, .own (.lst ((rk l).map it)), .un, .un]) ?_ ?_ e ?_ (ess_rt ?_))) rfl
    · rw [ev_peek, gt_zero, h.val, b_ok, items_lst]
    · rw [pks_peek, onAll_cons, gt_zero, h.lk]
      rfl
    · rw [pks_peek, unlock_cons, gt_zero, gt_zero, h.un]
      rfl
    · rfl
  · have hi2 : acc.length ≤ i := hi
    refine ⟨Nat.le_trans (ins_len p acc) (by omega), ?_⟩
    obtain ⟨k, hk⟩ := br_turn hb h acc p (by omega)
    refine ⟨_, _, rfl, hk, ?_⟩
    rw [brE, h.mk]
    rfl
end
end Mi
namespace Mi
/-! ### sums -/
def sm : Nat → (Nat → Int) → Int
  | 0, _ => 0
  | n + 1, f => sm n f + f n
theorem sm_congr {n : Nat} {f g : Nat → Int} (h : ∀ i, i < n → f i = g i) : sm n f = sm n g := by
  induction n with
  | zero => rfl
  | succ n ih => rw [sm, sm, ih fun i hi => h i (by omega), h n (by omega)]
theorem sm_add (n : Nat) (f g : Nat → Int) : sm n (fun i => f i + g i) = sm n f + sm n g := by
  induction n with
  | zero => rfl
  | succ n ih => rw [sm, sm, sm, ih]; omega
theorem sm_mul (n : Nat) (c : Int) (f : Nat → Int) : sm n (fun i => c * f i) = c * sm n f := by
  induction n with
  | zero => simp [sm]
  | succ n ih => rw [sm, sm, ih]; grind
theorem sm_zero (n : Nat) : sm n (fun _ => 0) = 0 := by
  induction n with
  | zero => rfl
  | succ n ih => rw [sm, ih]; rfl
theorem sm_set {n k : Nat} (hk : k < n) (a : Int) (f : Nat → Int) : sm n (fun i => if i = k then a else f i) = sm n f - f k + a := by
  induction n with
  | zero => omega
  | succ n ih =>
    rw [sm, sm]
    by_cases h : k = n
    · subst h
      rw [if_pos rfl, sm_congr (g := f) fun i hi => if_neg (by omega)]
      omega
    · rw [ih (by omega), if_neg (by omega)]
      omega
theorem sm_dvd {n : Nat} {f : Nat → Int} (h : ∀ i, i < n → (97 : Int) ∣ f i) : (97 : Int) ∣ sm n f := by
  induction n with
  | zero => exact Int.dvd_zero _
  | succ n ih => exact Int.dvd_add (ih fun i hi => h i (by omega)) (h n (by omega))
theorem sm_swap (n m : Nat) (f : Nat → Nat → Int) : sm n (fun i => sm m (f i)) = sm m (fun j => sm n fun i => f i j) := by
  induction n with
  | zero => rw [sm]; exact (sm_zero m).symm
  | succ n ih =>
    rw [sm, ih]
    rw [← sm_add]
    rfl
/-! ### modulo 97 -/
theorem p97 {a b : Int} (h : (97 : Int) ∣ a * b) : (97 : Int) ∣ a ∨ (97 : Int) ∣ b := by
  have ha := Int.emod_emod_of_dvd a (Int.dvd_refl 97)
  obtain ⟨x, hx⟩ : ∃ x : _root_.Fin 97, (x.val : Int) = a % 97 := ⟨⟨(a % 97).toNat, by omega⟩, by show (((a % 97).toNat : Nat) : Int) = _; omega⟩
  obtain ⟨y, hy⟩ : ∃ y : _root_.Fin 97, (y.val : Int) = b % 97 := ⟨⟨(b % 97).toNat, by omega⟩, by show (((b % 97).toNat : Nat) : Int) = _; omega⟩
  have key : ∀ x y : _root_.Fin 97, (x.val * y.val) % 97 = 0 → x.val = 0 ∨ y.val = 0 := by decide +kernel
  have h0 : a * b % 97 = 0 := Int.emod_eq_zero_of_dvd h
  rw [Int.mul_emod, ← hx, ← hy] at h0
  rcases key x y (by omega) with z | z
  · left
    exact Int.dvd_of_emod_eq_zero (by omega)
  · right
    exact Int.dvd_of_emod_eq_zero (by omega)
theorem inv_ex {a : Int} (h : ¬ (97 : Int) ∣ a) : ∃ x : Int, (97 : Int) ∣ a * x - 1 := by
  obtain ⟨y, hy⟩ : ∃ y : _root_.Fin 97, (y.val : Int) = a % 97 := ⟨⟨(a % 97).toNat, by omega⟩, by show (((a % 97).toNat : Nat) : Int) = _; omega⟩
  have key : ∀ y : _root_.Fin 97, y.val ≠ 0 → ∃ x : _root_.Fin 97, (y.val * x.val) % 97 = 1 := by decide +kernel
  obtain ⟨x, hx⟩ := key y (fun e => h (Int.dvd_of_emod_eq_zero (by omega)))
  refine ⟨x.val, Int.dvd_of_emod_eq_zero ?_⟩
  have e : a * (x.val : Int) % 97 = 1 := by
    rw [Int.mul_emod, ← hy]
    have : ((y.val : Int) * ((x.val : Int) % 97)) % 97 = ((y.val * x.val % 97 : Nat) : Int) := by
      have : (x.val : Int) % 97 = (x.val : Int) := by omega
      rw [this]
      omega
    rw [this, hx]
    rfl
  omega
/-! ### relations among rows -/
abbrev Mx := Nat → Nat → Int
/-- the sum of the first n rows, each times its coefficient -/
def cb (n : Nat) (c : Nat → Int) (M : Mx) (j : Nat) : Int := sm n fun i => c i * M i j
def Rel (w n : Nat) (c : Nat → Int) (M : Mx) : Prop := ∀ j, j < w → (97 : Int) ∣ cb n c M j
def Ind (w n : Nat) (M : Mx) : Prop := ∀ c, Rel w n c M → ∀ i, i < n → (97 : Int) ∣ c i
def Sp (w n : Nat) (M : Mx) (v : Nat → Int) : Prop := ∃ c, ∀ j, j < w → (97 : Int) ∣ v j - cb n c M j
theorem Ind.ext {w n : Nat} {M M' : Mx} (h : ∀ i, i < n → ∀ j, j < w → (97 : Int) ∣ M i j - M' i j) (hi : Ind w n M) : Ind w n M' := by
  intro c hc
  refine hi c fun j hj => ?_
  have d : (97 : Int) ∣ cb n c M j - cb n c M' j := by
    have e : cb n c M j - cb n c M' j = sm n fun i => c i * (M i j - M' i j) := by
      unfold cb
      have : (fun i => c i * M i j) = fun i => c i * (M i j - M' i j) + c i * M' i j := by funext i; grind
      rw [this, sm_add]
      omega
    rw [e]
    exact sm_dvd fun i hi => Int.dvd_trans (h i hi j hj) (Int.dvd_mul_left _ _)
  have := Int.dvd_add d (hc j hj)
  rwa [Int.sub_add_cancel] at this
/-- one more row -/
theorem ind_succ {w n : Nat} {M : Mx} (hi : Ind w n M) : Ind w (n + 1) M ↔ ¬ Sp w n M (M n) := by
  constructor
  · rintro h ⟨c, hc⟩
    have := h (fun i => if i = n then -1 else c i) (fun j hj => ?_) n (by omega)
    · rw [if_pos rfl] at this
      omega
    · unfold cb
      rw [sm]
      dsimp only
      rw [if_pos rfl, sm_congr (g := fun i => c i * M i j) fun i hi => by rw [if_neg (by omega)]]
      have e := hc j hj
      unfold cb at e
      have : sm n (fun i => c i * M i j) + -1 * M n j = -(M n j - sm n fun i => c i * M i j) := by omega
      rw [this]
      exact (Int.dvd_neg).mpr e
  · intro h c hc
    by_cases hn : (97 : Int) ∣ c n
    · have hr : Rel w n c M := fun j hj => by
        have e := hc j hj
        unfold cb at e ⊢
        rw [sm] at e
        have d : (97 : Int) ∣ c n * M n j := Int.dvd_trans hn (Int.dvd_mul_right _ _)
        have := Int.dvd_sub e d
        rwa [Int.add_sub_cancel] at this
      intro i hi'
      by_cases e : i = n
      · rw [e]
        exact hn
      · exact hi c hr i (by omega)
    · exfalso
      obtain ⟨x, hx⟩ := inv_ex hn
      refine h ⟨fun i => -(x * c i), fun j hj => ?_⟩
      have e := hc j hj
      unfold cb at e ⊢
      rw [sm] at e
      have e2 : sm n (fun i => -(x * c i) * M i j) = -(x * sm n fun i => c i * M i j) := by
        have : (fun i => -(x * c i) * M i j) = fun i => (-x) * (c i * M i j) := by funext i; grind
        rw [this, sm_mul]
        grind
      rw [e2]
      obtain ⟨k, hk⟩ := e
      obtain ⟨l, hl⟩ := hx
      generalize sm n (fun i => c i * M i j) = s at hk
      exact ⟨x * k - l * M n j, by grind⟩
end Mi
namespace Mi
/-! ### clearing -/
def swM (a b : Nat) (M : Mx) : Mx := fun i => if i = a then M b else if i = b then M a else M i
theorem sm_sw {n a b : Nat} (ha : a < n) (hb : b < n) (f : Nat → Int) : sm n (fun i => if i = a then f b else if i = b then f a else f i) = sm n f := by
  rw [sm_set ha (f b) (fun i => if i = b then f a else f i), sm_set hb (f a) f]
  by_cases h : a = b
  · subst h
    rw [if_pos rfl]
    omega
  · rw [if_neg h]
    omega
theorem ind_sw1 {w n a b : Nat} {M : Mx} (ha : a < n) (hb : b < n) (h : Ind w n M) : Ind w n (swM a b M) := by
  intro c hc
  have key := h (fun i => if i = a then c b else if i = b then c a else c i) fun j hj => by
    have e := hc j hj
    have : cb n c (swM a b M) j = cb n (fun i => if i = a then c b else if i = b then c a else c i) M j := by
      unfold cb
      rw [← sm_sw ha hb]
      refine sm_congr fun i hi => ?_
      unfold swM
      dsimp only
      by_cases h1 : i = a
      · subst h1
        rw [if_pos rfl, if_pos rfl]
        by_cases h2 : b = i
        · simp [h2]
        · simp [h2]
      · rw [if_neg h1, if_neg h1]
        by_cases h2 : i = b
        · subst h2
          simp [h1]
        · simp [h1, h2]
    rwa [this] at e
  intro i hi
  by_cases h1 : i = a
  · have k := key b hb
    try dsimp only at k
    by_cases h2 : b = a
    · rw [if_pos h2] at k
      rw [h1, ← h2]
      exact k
    · rw [if_neg h2, if_pos rfl] at k
      rw [h1]
      exact k
  · by_cases h2 : i = b
    · have k := key a ha
      try dsimp only at k
      rw [if_pos rfl] at k
      rw [h2]
      exact k
    · have k := key i hi
      try dsimp only at k
      rw [if_neg h1, if_neg h2] at k
      exact k
theorem sw_sw (a b : Nat) (M : Mx) : swM a b (swM a b M) = M := by
  funext i
  unfold swM
  by_cases h1 : i = a
  · rw [if_pos h1]
    by_cases h2 : b = a
    · rw [if_pos h2, h2, h1]
    · rw [if_neg h2, if_pos rfl, h1]
  · rw [if_neg h1]
    by_cases h2 : i = b
    · rw [if_pos h2, if_pos rfl, h2]
    · rw [if_neg h2, if_neg h1, if_neg h2]
theorem ind_sw {w n a b : Nat} {M : Mx} (ha : a < n) (hb : b < n) : Ind w n M ↔ Ind w n (swM a b M) :=
  ⟨ind_sw1 ha hb, fun h => by have := ind_sw1 ha hb h; rwa [sw_sw] at this⟩
def elM (k d : Nat) (L o : Int) (M : Mx) : Mx := fun i => if i = k then fun j => L * M k j - o * M d j else M i
theorem cb_el {n k d : Nat} (hk : k < n) (L o : Int) (M : Mx) (c : Nat → Int) (j : Nat) : cb n c (elM k d L o M) j = cb n c M j - c k * M k j + c k * (L * M k j - o * M d j) := by
  have : cb n c (elM k d L o M) j = sm n fun i => if i = k then c k * (L * M k j - o * M d j) else c i * M i j := by
    unfold cb
    refine sm_congr fun i hi => ?_
    unfold elM
    by_cases h : i = k
    · rw [if_pos h, if_pos h, h]
    · rw [if_neg h, if_neg h]
  rw [this, sm_set hk _ fun i => c i * M i j]
  rfl
theorem cb_two {n k d : Nat} (hk : k < n) (hd : d < n) (hkd : k ≠ d) (M : Mx) (c : Nat → Int) (x y : Int) (j : Nat) : cb n (fun i => if i = d then y else if i = k then x else c i) M j = cb n c M j - c k * M k j + x * M k j - c d * M d j + y * M d j := by
  have e1 : cb n (fun i => if i = d then y else if i = k then x else c i) M j = sm n fun i => if i = d then y * M d j else if i = k then x * M k j else c i * M i j := by
    unfold cb
    refine sm_congr fun i hi => ?_
    dsimp only
    by_cases h : i = d
    · rw [if_pos h, if_pos h, h]
    · rw [if_neg h, if_neg h]
      by_cases h2 : i = k
      · rw [if_pos h2, if_pos h2, h2]
      · rw [if_neg h2, if_neg h2]
  rw [e1, sm_set hd, sm_set hk, if_neg (fun e : d = k => hkd e.symm)]
  rfl
theorem ind_el {w n k d : Nat} {M : Mx} (hk : k < n) (hd : d < n) (hkd : k ≠ d) {L o : Int} (hL : ¬ (97 : Int) ∣ L) : Ind w n M ↔ Ind w n (elM k d L o M) := by
  constructor
  · intro h c hc
    have key := h (fun i => if i = d then c d - o * c k else if i = k then c k * L else c i) fun j hj => by
      have e := hc j hj
      rw [cb_el hk] at e
      rw [cb_two hk hd hkd]
      have : cb n c M j - c k * M k j + c k * L * M k j - c d * M d j + (c d - o * c k) * M d j = cb n c M j - c k * M k j + c k * (L * M k j - o * M d j) := by grind
      rwa [this]
    have kk := key k hk
    try dsimp only at kk
    rw [if_neg hkd, if_pos rfl] at kk
    have kk : (97 : Int) ∣ c k := (p97 kk).resolve_right hL
    have kd := key d hd
    try dsimp only at kd
    rw [if_pos rfl] at kd
    intro i hi
    by_cases h1 : i = d
    · rw [h1]
      have := Int.dvd_add kd (Int.dvd_trans kk (Int.dvd_mul_left o (c k)))
      rwa [Int.sub_add_cancel] at this
    · by_cases h2 : i = k
      · rw [h2]
        exact kk
      · have ki := key i hi
        try dsimp only at ki
        rwa [if_neg h1, if_neg h2] at ki
  · intro h c hc
    have key := h (fun i => if i = d then L * c d + o * c k else if i = k then c k else L * c i) fun j hj => by
      rw [cb_el hk, cb_two hk hd hkd (fun i => M i) (fun i => L * c i)]
      have e1 : cb n (fun i => L * c i) (fun i => M i) j = L * cb n c M j := by
        unfold cb
        rw [← sm_mul]
        exact sm_congr fun i hi => by grind
      rw [e1, if_neg hkd, if_pos rfl]
      have e := hc j hj
      have : L * cb n c M j - L * c k * M k j + c k * M k j - L * c d * M d j + (L * c d + o * c k) * M d j - c k * M k j + c k * (L * M k j - o * M d j) = L * cb n c M j := by grind
      rw [this]
      exact Int.dvd_trans e (Int.dvd_mul_left _ _)
    have kk := key k hk
    try dsimp only at kk
    rw [if_neg hkd, if_pos rfl] at kk
    have kd := key d hd
    try dsimp only at kd
    rw [if_pos rfl] at kd
    intro i hi
    by_cases h1 : i = d
    · rw [h1]
      have := Int.dvd_sub kd (Int.dvd_trans kk (Int.dvd_mul_left o (c k)))
      rw [Int.add_sub_cancel] at this
      exact (p97 this).resolve_left hL
    · by_cases h2 : i = k
      · rw [h2]
        exact kk
      · have ki := key i hi
        try dsimp only at ki
        rw [if_neg h1, if_neg h2] at ki
        exact (p97 ki).resolve_left hL
/-- how far the clearing stands -/
structure Ech (n col d : Nat) (M : Mx) : Prop where
  le : d ≤ n
  lo : ∀ k, d ≤ k → k < n → ∀ j, j < col → (97 : Int) ∣ M k j
  up : ∀ c : Nat → Int, (∀ j, j < col → (97 : Int) ∣ sm d fun i => c i * M i j) → ∀ i, i < d → (97 : Int) ∣ c i
theorem ech_0 (n : Nat) (M : Mx) : Ech n 0 0 M := ⟨Nat.zero_le _, fun _ _ _ j hj => absurd hj (by omega), fun _ _ i hi => absurd hi (by omega)⟩
theorem Ech.skip {n col d : Nat} {M : Mx} (h : Ech n col d M) (hz : ∀ k, d ≤ k → k < n → (97 : Int) ∣ M k col) : Ech n (col + 1) d M :=
  ⟨h.le, fun k h1 h2 j hj => by
    by_cases e : j = col
    · rw [e]; exact hz k h1 h2
    · exact h.lo k h1 h2 j (by omega), fun c hc => h.up c fun j hj => hc j (by omega)⟩
theorem Ech.step {n col d : Nat} {M M' : Mx} (h : Ech n col d M) (hd : d < n) (hs : ∀ i, i < d → M' i = M i) (hp : ¬ (97 : Int) ∣ M' d col) (hz : ∀ k, d < k → k < n → (97 : Int) ∣ M' k col) (hl : ∀ k, d ≤ k → k < n → ∀ j, j < col → (97 : Int) ∣ M' k j) : Ech n (col + 1) (d + 1) M' := by
  refine ⟨by omega, fun k h1 h2 j hj => ?_, fun c hc => ?_⟩
  · by_cases e : j = col
    · rw [e]; exact hz k (by omega) h2
    · exact hl k (by omega) h2 j (by omega)
  · have e0 : ∀ j, sm d (fun i => c i * M' i j) = sm d (fun i => c i * M i j) := fun j => sm_congr fun i hi => by rw [hs i hi]
    have up := h.up c fun j hj => by
      have e := hc j (by omega)
      rw [sm, e0] at e
      have := Int.dvd_sub e (Int.dvd_trans (hl d (Nat.le_refl _) hd j hj) (Int.dvd_mul_left (c d) _))
      rwa [Int.add_sub_cancel] at this
    intro i hi
    by_cases e : i = d
    · have q := hc col (by omega)
      rw [sm] at q
      have z : (97 : Int) ∣ sm d fun i => c i * M' i col := sm_dvd fun i hi => Int.dvd_trans (up i hi) (Int.dvd_mul_right _ _)
      have := Int.dvd_sub q z
      rw [Int.add_comm, Int.add_sub_cancel] at this
      rw [e]
      exact (p97 this).resolve_right hp
    · exact up i (by omega)
theorem Ech.ind {w n d : Nat} {M : Mx} (h : Ech n w d M) : Ind w n M ↔ d = n := by
  constructor
  · intro hi
    rcases Nat.lt_or_ge d n with hd | hd
    · exfalso
      have := hi (fun i => if i = d then 1 else 0) (fun j hj => ?_) d hd
      · rw [if_pos rfl] at this
        omega
      · have : cb n (fun i => if i = d then 1 else 0) M j = M d j := by
          have e : cb n (fun i => if i = d then 1 else 0) M j = sm n fun i => if i = d then M d j else 0 := by
            unfold cb
            refine sm_congr fun i hi => ?_
            dsimp only
            by_cases e : i = d
            · rw [if_pos e, if_pos e, e]; omega
            · rw [if_neg e, if_neg e]; omega
          rw [e, sm_set hd, sm_zero]
          omega
        rw [this]
        exact h.lo d (Nat.le_refl _) hd j hj
    · exact Nat.le_antisymm h.le hd
  · rintro rfl c hc
    exact h.up c hc
/-! ### spans -/
theorem cb_add (n : Nat) (c e : Nat → Int) (M : Mx) (j : Nat) : cb n (fun i => c i + e i) M j = cb n c M j + cb n e M j := by
  unfold cb
  rw [← sm_add]
  exact sm_congr fun i hi => by grind
theorem cb_mul (n : Nat) (x : Int) (c : Nat → Int) (M : Mx) (j : Nat) : cb n (fun i => x * c i) M j = x * cb n c M j := by
  unfold cb
  rw [← sm_mul]
  exact sm_congr fun i hi => by grind
section
variable {w n m : Nat} {M M' : Mx} {u v : Nat → Int}
theorem Sp.congr (h : Sp w n M v) (e : ∀ j, j < w → (97 : Int) ∣ u j - v j) : Sp w n M u := by
  obtain ⟨c, hc⟩ := h
  refine ⟨c, fun j hj => ?_⟩
  have := Int.dvd_add (e j hj) (hc j hj)
  have q : u j - v j + (v j - cb n c M j) = u j - cb n c M j := by omega
  rwa [q] at this
theorem Sp.zero (h : ∀ j, j < w → (97 : Int) ∣ u j) : Sp w n M u := ⟨fun _ => 0, fun j hj => by
  have : cb n (fun _ => 0) M j = 0 := by
    unfold cb
    rw [sm_congr (g := fun _ => 0) fun i hi => by simp, sm_zero]
  rw [this, Int.sub_zero]
  exact h j hj⟩
theorem Sp.add (h : Sp w n M u) (k : Sp w n M v) : Sp w n M fun j => u j + v j := by
  obtain ⟨c, hc⟩ := h
  obtain ⟨e, he⟩ := k
  refine ⟨fun i => c i + e i, fun j hj => ?_⟩
  rw [cb_add]
  have := Int.dvd_add (hc j hj) (he j hj)
  have q : u j - cb n c M j + (v j - cb n e M j) = u j + v j - (cb n c M j + cb n e M j) := by omega
  rwa [q] at this
theorem Sp.mul (x : Int) (h : Sp w n M u) : Sp w n M fun j => x * u j := by
  obtain ⟨c, hc⟩ := h
  refine ⟨fun i => x * c i, fun j hj => ?_⟩
  rw [cb_mul]
  have := Int.dvd_trans (hc j hj) (Int.dvd_mul_left x _)
  rwa [Int.mul_sub] at this
theorem Sp.row {i : Nat} (h : i < n) : Sp w n M (M i) := by
  refine ⟨fun k => if k = i then 1 else 0, fun j hj => ?_⟩
  have : cb n (fun k => if k = i then 1 else 0) M j = M i j := by
    have e : cb n (fun k => if k = i then 1 else 0) M j = sm n fun k => if k = i then M i j else 0 := by
      unfold cb
      refine sm_congr fun k hk => ?_
      dsimp only
      by_cases e : k = i
      · rw [if_pos e, if_pos e, e]; omega
      · rw [if_neg e, if_neg e]; omega
    rw [e, sm_set h, sm_zero]
    omega
  rw [this, Int.sub_self]
  exact Int.dvd_zero _
theorem Sp.cb (c : Nat → Int) : ∀ n, (∀ i, i < n → Sp w m M' (M i)) → Sp w m M' (Mi.cb n c M)
  | 0, _ => .zero fun j _ => by show (97 : Int) ∣ 0; exact Int.dvd_zero _
  | n + 1, h => by
    have a := Sp.cb c n fun i hi => h i (by omega)
    have b := (h n (by omega)).mul (c n)
    exact a.add b
/-- the span of what is in a span -/
theorem Sp.le (h : ∀ i, i < n → Sp w m M' (M i)) (k : Sp w n M v) : Sp w m M' v := by
  obtain ⟨c, hc⟩ := k
  exact (Sp.cb c n h).congr hc
theorem Sp.more (h : Sp w n M v) : Sp w (n + 1) M v := h.le fun i hi => .row (by omega)
theorem Sp.rows (h : Sp w n M v) (e : ∀ i, i < n → ∀ j, j < w → M' i j = M i j) : Sp w n M' v := h.le fun i hi => (Sp.row hi).congr fun j hj => by rw [← e i hi j hj, Int.sub_self]; exact Int.dvd_zero _
end
end Mi
namespace Mi
/-! ### rows as lists -/
def vz (r : List Int) (j : Nat) : Int := r.getD j 0
def mx (rows : List (List Int)) : Mx := fun i => vz (rows.getD i [])
abbrev Bs := List (Nat × List Int)
def bmx (B : Bs) : Mx := fun i => vz (B.getD i (0, [])).2
def pvt (B : Bs) (i : Nat) : Nat := (B.getD i (0, [])).1
theorem vz_lt {r : List Int} {j : Nat} (h : j < r.length) : vz r j = r[j] := by
  unfold vz
  rw [List.getD_eq_getElem?_getD, List.getElem?_eq_getElem h]
  rfl
theorem vz_ge {r : List Int} {j : Nat} (h : r.length ≤ j) : vz r j = 0 := by
  unfold vz
  rw [List.getD_eq_getElem?_getD, List.getElem?_eq_none h]
  rfl
theorem vz_map {r : List Int} {j : Nat} {g : Int → Int} (h : j < r.length) : vz (r.map g) j = g (vz r j) := by
  rw [vz_lt h, vz_lt (by simpa using h)]
  simp
theorem vz_zip {r s : List Int} {j : Nat} {g : Int → Int → Int} (h : j < r.length) (k : j < s.length) : vz (List.zipWith g r s) j = g (vz r j) (vz s j) := by
  rw [vz_lt h, vz_lt k, vz_lt (by simp; omega)]
  simp
theorem vz_mem {r : List Int} {j : Nat} (h : j < r.length) : vz r j ∈ r := by
  rw [vz_lt h]
  exact List.getElem_mem h
theorem vz_app1 {r s : List Int} {j : Nat} (h : j < r.length) : vz (r ++ s) j = vz r j := by
  unfold vz
  rw [List.getD_eq_getElem?_getD, List.getElem?_append_left h, ← List.getD_eq_getElem?_getD]
theorem vz_app2 {r s : List Int} {j : Nat} (h : r.length ≤ j) : vz (r ++ s) j = vz s (j - r.length) := by
  unfold vz
  rw [List.getD_eq_getElem?_getD, List.getElem?_append_right h, ← List.getD_eq_getElem?_getD]
theorem mod_dvd (a : Int) : (97 : Int) ∣ a % 97 - a := by
  have := Int.emod_add_mul_ediv a 97
  exact ⟨-(a / 97), by omega⟩
theorem dvd_zero_res {a : Int} (h0 : 0 ≤ a) (h1 : a < 97) (h : (97 : Int) ∣ a) : a = 0 := by
  obtain ⟨k, hk⟩ := h
  omega
/-- one clearing -/
def redS (rest : List Int) (p : Nat × List Int) : List Int := if vz rest p.1 = 0 then rest else List.zipWith (fun a b => (a - vz rest p.1 * b) % 97) rest p.2
def redL (row : List Int) (B : Bs) : List Int := B.foldl redS (row.map (· % 97))
structure BsOk (W w : Nat) (B : Bs) : Prop where
  ww : w ≤ W
  len : ∀ p ∈ B, p.2.length = W
  pv : ∀ p ∈ B, p.1 < w
  one : ∀ i, i < B.length → (97 : Int) ∣ bmx B i (pvt B i) - 1
  low : ∀ i, i < B.length → ∀ l, l < i → (97 : Int) ∣ bmx B i (pvt B l)
theorem bs_nil {W w : Nat} (h : w ≤ W) : BsOk W w [] := ⟨h, fun _ h => by simp at h, fun _ h => by simp at h, fun _ h => by simp at h, fun _ h => by simp at h⟩
theorem getD_app1 {α : Type} {l m : List α} {i : Nat} {a : α} (h : i < l.length) : (l ++ m).getD i a = l.getD i a := by
  rw [List.getD_eq_getElem?_getD, List.getElem?_append_left h, ← List.getD_eq_getElem?_getD]
theorem getD_snoc {α : Type} {l : List α} {b a : α} : (l ++ [b]).getD l.length a = b := by
  rw [List.getD_eq_getElem?_getD, List.getElem?_append_right (Nat.le_refl _), Nat.sub_self]
  rfl
theorem getD_mem' {α : Type} {l : List α} {i : Nat} {a : α} (h : i < l.length) : l.getD i a ∈ l := by
  rw [List.getD_eq_getElem?_getD, List.getElem?_eq_getElem h]
  exact List.getElem_mem h
theorem bmx_app {B : Bs} {p : Nat × List Int} {i : Nat} (h : i < B.length) : bmx (B ++ [p]) i = bmx B i := by
  unfold bmx
  rw [getD_app1 h]
theorem pvt_app {B : Bs} {p : Nat × List Int} {i : Nat} (h : i < B.length) : pvt (B ++ [p]) i = pvt B i := by
  unfold pvt
  rw [getD_app1 h]
theorem bmx_snoc {B : Bs} {p : Nat × List Int} : bmx (B ++ [p]) B.length = vz p.2 := by
  unfold bmx
  rw [getD_snoc]
theorem pvt_snoc {B : Bs} {p : Nat × List Int} : pvt (B ++ [p]) B.length = p.1 := by
  unfold pvt
  rw [getD_snoc]
theorem BsOk.init {W w : Nat} {B : Bs} {p : Nat × List Int} (h : BsOk W w (B ++ [p])) : BsOk W w B := by
  refine ⟨h.ww, fun q hq => h.len q (List.mem_append_left _ hq), fun q hq => h.pv q (List.mem_append_left _ hq), fun i hi => ?_, fun i hi l hl => ?_⟩
  · have := h.one i (by rw [List.length_append]; omega)
    rwa [bmx_app hi, pvt_app hi] at this
  · have := h.low i (by rw [List.length_append]; omega) l hl
    rwa [bmx_app hi, pvt_app (by omega)] at this
theorem sm_only {n l : Nat} {F : Nat → Int} (hl : l < n) (h : ∀ i, i < n → i ≠ l → (97 : Int) ∣ F i) : (97 : Int) ∣ sm n F - F l := by
  have e := sm_set hl 0 F
  rw [Int.add_zero] at e
  rw [← e]
  refine sm_dvd fun i hi => ?_
  by_cases h2 : i = l
  · rw [if_pos h2]
    exact Int.dvd_zero _
  · rw [if_neg h2]
    exact h i hi h2
theorem snoc_ind {α : Type} {P : List α → Prop} (h0 : P []) (h1 : ∀ l a, P l → P (l ++ [a])) (l : List α) : P l := by
  have : ∀ n (l : List α), l.length = n → P l := by
    intro n
    induction n with
    | zero => intro l hl; rw [List.length_eq_zero_iff.mp hl]; exact h0
    | succ n ih =>
      intro l hl
      have hn : l ≠ [] := by intro e; rw [e] at hl; simp at hl
      rw [← List.dropLast_concat_getLast hn]
      exact h1 _ _ (ih _ (by rw [List.length_dropLast]; omega))
  exact this _ l rfl
structure RedOk (W : Nat) (row : List Int) (B : Bs) (f : Nat → Int) (rest : List Int) : Prop where
  len : rest.length = W
  res : ∀ x ∈ rest, 0 ≤ x ∧ x < 97
  eq : ∀ j, j < W → (97 : Int) ∣ vz rest j - (vz row j - cb B.length f (bmx B) j)
  pz : ∀ i, i < B.length → vz rest (pvt B i) = 0
theorem red_ok {W w : Nat} (row : List Int) (hr : row.length = W) (B : Bs) : BsOk W w B → ∃ f, RedOk W row B f (redL row B) := by
  refine snoc_ind (P := fun B => BsOk W w B → ∃ f, RedOk W row B f (redL row B)) (fun _ => ?_) (fun B p ih h => ?_) B
  · refine ⟨fun _ => 0, ⟨?_, fun x hx => ?_, fun j hj => ?_, fun i hi => by simp at hi⟩⟩
    · show (row.map (· % 97)).length = W
      simpa using hr
    · obtain ⟨y, _, rfl⟩ := List.mem_map.mp (show x ∈ row.map (· % 97) from hx)
      exact ⟨Int.emod_nonneg _ (by omega), Int.emod_lt_of_pos _ (by omega)⟩
    · show (97 : Int) ∣ vz (row.map (· % 97)) j - (vz row j - 0)
      rw [vz_map (by omega), Int.sub_zero]
      exact mod_dvd _
  · obtain ⟨f, R⟩ := ih h.init
    have e : redL row (B ++ [p]) = redS (redL row B) p := by
      unfold redL
      rw [List.foldl_append]
      rfl
    rw [e]
    generalize redL row B = rest at R
    have hp := h.len p (by simp)
    have hpv := h.pv p (by simp)
    have hww := h.ww
    have one := h.one B.length (by simp)
    rw [bmx_snoc, pvt_snoc] at one
    have low : ∀ l, l < B.length → (97 : Int) ∣ vz p.2 (pvt B l) := fun l hl => by
      have := h.low B.length (by simp) l hl
      rwa [bmx_snoc, pvt_app hl] at this
    have cbE : ∀ x j, cb (B ++ [p]).length (fun i => if i = B.length then x else f i) (bmx (B ++ [p])) j = cb B.length f (bmx B) j + x * vz p.2 j := fun x j => by
      rw [List.length_append]
      unfold cb
      show sm B.length _ + _ = _
      rw [sm_congr (g := fun i => f i * bmx B i j) fun i hi => by dsimp only; rw [if_neg (by omega), bmx_app hi]]
      dsimp only
      rw [if_pos rfl, bmx_snoc]
    unfold redS
    by_cases hz : vz rest p.1 = 0
    · rw [if_pos hz]
      refine ⟨fun i => if i = B.length then 0 else f i, ⟨R.len, R.res, fun j hj => ?_, fun i hi => ?_⟩⟩
      · rw [cbE, Int.zero_mul, Int.add_zero]
        exact R.eq j hj
      · by_cases hi2 : i < B.length
        · rw [pvt_app hi2]
          exact R.pz i hi2
        · have : i = B.length := by rw [List.length_append] at hi; simp at hi; omega
          rw [this, pvt_snoc]
          exact hz
    · rw [if_neg hz]
      have len : (List.zipWith (fun a b => (a - vz rest p.1 * b) % 97) rest p.2).length = W := by simp [R.len, hp]
      have res : ∀ x ∈ List.zipWith (fun a b => (a - vz rest p.1 * b) % 97) rest p.2, 0 ≤ x ∧ x < 97 := fun x hx => by
        obtain ⟨a, b, _, _, rfl⟩ : ∃ a b, a ∈ rest ∧ b ∈ p.2 ∧ (a - vz rest p.1 * b) % 97 = x := by
          obtain ⟨i, hi, rfl⟩ := List.getElem_of_mem hx
          simp only [List.getElem_zipWith]
          exact ⟨_, _, List.getElem_mem _, List.getElem_mem _, rfl⟩
        exact ⟨Int.emod_nonneg _ (by omega), Int.emod_lt_of_pos _ (by omega)⟩
      have at_ : ∀ j, j < W → vz (List.zipWith (fun a b => (a - vz rest p.1 * b) % 97) rest p.2) j = (vz rest j - vz rest p.1 * vz p.2 j) % 97 := fun j hj => vz_zip (by rw [R.len]; exact hj) (by rw [hp]; exact hj)
      refine ⟨fun i => if i = B.length then vz rest p.1 else f i, ⟨len, res, fun j hj => ?_, fun i hi => ?_⟩⟩
      · rw [cbE, at_ j hj]
        have a := mod_dvd (vz rest j - vz rest p.1 * vz p.2 j)
        have b := R.eq j hj
        have := Int.dvd_add a b
        have q : (vz rest j - vz rest p.1 * vz p.2 j) % 97 - (vz rest j - vz rest p.1 * vz p.2 j) + (vz rest j - (vz row j - cb B.length f (bmx B) j)) = (vz rest j - vz rest p.1 * vz p.2 j) % 97 - (vz row j - (cb B.length f (bmx B) j + vz rest p.1 * vz p.2 j)) := by omega
        rwa [q] at this
      · by_cases hi2 : i < B.length
        · have hw : pvt B i < W := Nat.lt_of_lt_of_le (h.pv _ (List.mem_append_left _ (getD_mem' (a := (0, [])) hi2))) hww
          rw [pvt_app hi2, at_ _ hw, R.pz i hi2, Int.zero_sub]
          exact Int.emod_eq_zero_of_dvd ((Int.dvd_neg).mpr (Int.dvd_trans (low i hi2) (Int.dvd_mul_left _ _)))
        · have : i = B.length := by rw [List.length_append] at hi; simp at hi; omega
          rw [this, pvt_snoc, at_ _ (by omega)]
          refine Int.emod_eq_zero_of_dvd ?_
          have q : vz rest p.1 - vz rest p.1 * vz p.2 p.1 = -(vz rest p.1 * (vz p.2 p.1 - 1)) := by grind
          rw [q]
          exact (Int.dvd_neg).mpr (Int.dvd_trans one (Int.dvd_mul_left _ _))
/-- nothing is left exactly of what is a sum -/
theorem red_zero {W w : Nat} {row : List Int} {B : Bs} {f : Nat → Int} {rest : List Int} (h : BsOk W w B) (R : RedOk W row B f rest) : (∀ j, j < w → vz rest j = 0) ↔ Sp w B.length (bmx B) (vz row) := by
  have hww := h.ww
  have rz : ∀ j, (97 : Int) ∣ vz rest j → vz rest j = 0 := fun j hd => by
    by_cases hj : j < rest.length
    · have := R.res _ (vz_mem hj)
      exact dvd_zero_res this.1 this.2 hd
    · exact vz_ge (by omega)
  constructor
  · intro hz
    refine ⟨f, fun j hj => ?_⟩
    have := R.eq j (by omega)
    rw [hz j hj, Int.zero_sub] at this
    exact (Int.dvd_neg).mp this
  · rintro ⟨c, hc⟩
    have eg : ∀ j, j < w → (97 : Int) ∣ vz rest j - cb B.length (fun i => c i + -1 * f i) (bmx B) j := fun j hj => by
      have a := R.eq j (by omega)
      have b := hc j hj
      rw [cb_add, cb_mul]
      have := Int.dvd_add a b
      have q : vz rest j - (vz row j - cb B.length f (bmx B) j) + (vz row j - cb B.length c (bmx B) j) = vz rest j - (cb B.length c (bmx B) j + -1 * cb B.length f (bmx B) j) := by omega
      rwa [q] at this
    generalize (fun i => c i + -1 * f i) = g at eg
    have gz : ∀ l, l < B.length → (97 : Int) ∣ g l := by
      intro l
      induction l using Nat.strongRecOn with
      | _ l ih =>
        intro hl
        have hp : pvt B l < w := h.pv _ (getD_mem' (a := (0, [])) hl)
        have a := eg _ hp
        rw [R.pz l hl, Int.zero_sub] at a
        have a := (Int.dvd_neg).mp a
        have b := sm_only (F := fun i => g i * bmx B i (pvt B l)) hl fun i hi hne => by
          rcases Nat.lt_or_gt_of_ne hne with z | z
          · exact Int.dvd_trans (ih i z hi) (Int.dvd_mul_right _ _)
          · exact Int.dvd_trans (h.low i hi l z) (Int.dvd_mul_left _ _)
        have d := Int.dvd_sub a b
        have q : cb B.length g (bmx B) (pvt B l) - (sm B.length (fun i => g i * bmx B i (pvt B l)) - g l * bmx B l (pvt B l)) = g l * bmx B l (pvt B l) := by
          unfold cb
          omega
        rw [q] at d
        have e := Int.dvd_trans (h.one l hl) (Int.dvd_mul_left (g l) _)
        have := Int.dvd_sub d e
        have q : g l * bmx B l (pvt B l) - g l * (bmx B l (pvt B l) - 1) = g l := by grind
        rwa [q] at this
    intro j hj
    refine rz j ?_
    have z : (97 : Int) ∣ cb B.length g (bmx B) j := sm_dvd fun i hi => Int.dvd_trans (gz i hi) (Int.dvd_mul_right _ _)
    have := Int.dvd_add (eg j hj) z
    rwa [Int.sub_add_cancel] at this
/-- the rest, made a row of the basis -/
theorem bs_snoc {W w p : Nat} {row : List Int} {B : Bs} {f : Nat → Int} {rest : List Int} {x : Int} (h : BsOk W w B) (R : RedOk W row B f rest) (hp : p < w) (hx : (97 : Int) ∣ x * vz rest p - 1) : BsOk W w (B ++ [(p, rest.map fun a => x * a % 97)]) := by
  have hww := h.ww
  have at_ : ∀ j, j < W → vz (rest.map fun a => x * a % 97) j = x * vz rest j % 97 := fun j hj => vz_map (g := fun a => x * a % 97) (by rw [R.len]; exact hj)
  refine ⟨h.ww, fun q hq => ?_, fun q hq => ?_, fun i hi => ?_, fun i hi l hl => ?_⟩
  · rcases List.mem_append.mp hq with hq | hq
    · exact h.len q hq
    · rw [List.mem_singleton.mp hq]
      simp [R.len]
  · rcases List.mem_append.mp hq with hq | hq
    · exact h.pv q hq
    · rw [List.mem_singleton.mp hq]
      exact hp
  · by_cases hi2 : i < B.length
    · rw [bmx_app hi2, pvt_app hi2]
      exact h.one i hi2
    · have : i = B.length := by rw [List.length_append] at hi; simp at hi; omega
      rw [this, bmx_snoc, pvt_snoc]
      show (97 : Int) ∣ vz (rest.map fun a => x * a % 97) p - 1
      rw [at_ p (by omega)]
      have := Int.dvd_add (mod_dvd (x * vz rest p)) hx
      have q : x * vz rest p % 97 - x * vz rest p + (x * vz rest p - 1) = x * vz rest p % 97 - 1 := by omega
      rwa [q] at this
  · by_cases hi2 : i < B.length
    · rw [bmx_app hi2, pvt_app (by omega)]
      exact h.low i hi2 l hl
    · have : i = B.length := by rw [List.length_append] at hi; simp at hi; omega
      rw [this, bmx_snoc, pvt_app (by omega)]
      show (97 : Int) ∣ vz (rest.map fun a => x * a % 97) (pvt B l)
      have hl2 : l < B.length := by omega
      have hw : pvt B l < W := Nat.lt_of_lt_of_le (h.pv _ (getD_mem' (a := (0, [])) hl2)) hww
      rw [at_ _ hw, R.pz l hl2, Int.mul_zero]
      exact Int.dvd_zero _
/-- the same span -/
def SpE (w n : Nat) (M M' : Mx) : Prop := (∀ i, i < n → Sp w n M' (M i)) ∧ ∀ i, i < n → Sp w n M (M' i)
theorem SpE.iff {w n : Nat} {M M' : Mx} (h : SpE w n M M') (v : Nat → Int) : Sp w n M v ↔ Sp w n M' v := ⟨fun k => k.le h.1, fun k => k.le h.2⟩
theorem spe_snoc {W w p : Nat} {row : List Int} {B : Bs} {f : Nat → Int} {rest : List Int} {x : Int} {D D' : Mx} (h : BsOk W w B) (R : RedOk W row B f rest) (hp : p < w) (hx : (97 : Int) ∣ x * vz rest p - 1) (hs : SpE w B.length D (bmx B))
    (hD : ∀ i, i < B.length → D' i = D i) (hR : D' B.length = vz row) : SpE w (B.length + 1) D' (bmx (B ++ [(p, rest.map fun a => x * a % 97)])) := by
  have hww := h.ww
  have at_ : ∀ j, j < W → vz (rest.map fun a => x * a % 97) j = x * vz rest j % 97 := fun j hj => vz_map (g := fun a => x * a % 97) (by rw [R.len]; exact hj)
  have inB : ∀ {v : Nat → Int}, Sp w B.length (bmx B) v → Sp w (B.length + 1) (bmx (B ++ [(p, rest.map fun a => x * a % 97)])) v := fun {v} k => (k.rows (M' := bmx (B ++ [(p, rest.map fun a => x * a % 97)])) fun i hi j hj => by rw [bmx_app hi]).more
  have inD : ∀ {v : Nat → Int}, Sp w B.length D v → Sp w (B.length + 1) D' v := fun {v} k => (k.rows (M' := D') fun i hi j hj => by rw [hD i hi]).more
  have cbS : Sp w B.length (bmx B) (cb B.length f (bmx B)) := Sp.cb f B.length fun i hi => .row hi
  constructor
  · intro i hi
    by_cases hi2 : i < B.length
    · rw [hD i hi2]
      exact inB (hs.1 i hi2)
    · have : i = B.length := by omega
      rw [this, hR]
      have a := (Sp.row (w := w) (M := bmx (B ++ [(p, rest.map fun a => x * a % 97)])) (i := B.length) (n := B.length + 1) (by omega)).mul (vz rest p)
      refine (a.add (inB cbS)).congr fun j hj => ?_
      rw [bmx_snoc]
      show (97 : Int) ∣ vz row j - (vz rest p * vz (rest.map fun a => x * a % 97) j + cb B.length f (bmx B) j)
      rw [at_ j (by omega)]
      obtain ⟨k1, e1⟩ := R.eq j (by omega)
      obtain ⟨k2, e2⟩ := mod_dvd (x * vz rest j)
      obtain ⟨k3, e3⟩ := hx
      generalize x * vz rest j % 97 = y at e2
      generalize cb B.length f (bmx B) j = z at e1
      exact ⟨-k1 - vz rest p * k2 - vz rest j * k3, by grind⟩
  · intro i hi
    by_cases hi2 : i < B.length
    · rw [bmx_app hi2]
      exact inD (hs.2 i hi2)
    · have : i = B.length := by omega
      rw [this, bmx_snoc]
      have a := (Sp.row (w := w) (M := D') (i := B.length) (n := B.length + 1) (by omega)).mul x
      rw [hR] at a
      have b := (inD ((hs.iff _).mpr cbS)).mul (-x)
      refine (a.add b).congr fun j hj => ?_
      show (97 : Int) ∣ vz (rest.map fun a => x * a % 97) j - (x * vz row j + -x * cb B.length f (bmx B) j)
      rw [at_ j (by omega)]
      obtain ⟨k1, e1⟩ := R.eq j (by omega)
      obtain ⟨k2, e2⟩ := mod_dvd (x * vz rest j)
      generalize x * vz rest j % 97 = y at e2
      generalize cb B.length f (bmx B) j = z at e1
      exact ⟨k2 + x * k1, by grind⟩
end Mi
namespace Mi
open PySem L2
/-! ### rows of ints as data -/
def rowD (r : List Int) : D := .lst (r.map .int)
def rowsD (l : List (List Int)) : D := .lst (l.map rowD)
def bD (p : Nat × List Int) : D := .tup [.int p.1, rowD p.2]
def basD (B : Bs) : D := .lst (B.map bD)
theorem mul_l {i j : Int} (h : -18446744073709551616 < i ∧ i < 18446744073709551616) : mulD (.int i) (.int j) = .ok (.int (i * j)) := by
  unfold mulD fitMul
  dsimp only
  rw [show (decide (-(2 ^ 64) < i ∧ i < 2 ^ 64)) = true from decide_eq_true (by omega), Bool.true_or, Bool.true_or]
  rfl
theorem idx_row {r : List Int} {j : Nat} (h : j < r.length) : idxD (rowD r) (.int j) = .ok (.int (vz r j)) := by
  show optR (L2.atI (r.map D.int) (j : Int)) = _
  rw [Mi.atI_nat, List.getElem?_map, List.getElem?_eq_getElem h, vz_lt h]
  rfl
theorem idx_rows {l : List (List Int)} {j : Nat} (h : j < l.length) : idxD (rowsD l) (.int j) = .ok (rowD (l.getD j [])) := by
  show optR (L2.atI (l.map rowD) (j : Int)) = _
  rw [Mi.atI_nat, List.getElem?_map, List.getElem?_eq_getElem h, List.getD_eq_getElem?_getD, List.getElem?_eq_getElem h]
  rfl
theorem zipL_ints : ∀ r s : List Int, zipL (r.map .int) (s.map .int) = (r.zip s).map fun p => .tup [.int p.1, .int p.2]
  | [], _ => by simp [zipL]
  | _ :: _, [] => by simp [zipL]
  | x :: r, y :: s => by
    rw [List.map_cons, List.map_cons, zipL, zipL_ints r s]
    rfl
theorem zipL_rows : ∀ (r : List Int) (s : List (List Int)), zipL (r.map .int) (s.map rowD) = (r.zip s).map fun p => .tup [.int p.1, rowD p.2]
  | [], _ => by simp [zipL]
  | _ :: _, [] => by simp [zipL]
  | x :: r, y :: s => by
    rw [List.map_cons, List.map_cons, zipL, zipL_rows r s]
    rfl
theorem zipWith_map (g : Int → Int → Int) : ∀ r s : List Int, (r.zip s).map (fun p => g p.1 p.2) = List.zipWith g r s
  | [], _ => by simp
  | _ :: _, [] => by simp
  | x :: r, y :: s => by simp [zipWith_map g r s]
theorem enumL_map {α : Type} (f : α → D) : ∀ (l : List α) (n : Nat), enumL n (l.map f) = (l.zipIdx n).map fun p => .tup [.int (p.2 : Int), f p.1]
  | [], _ => rfl
  | a :: l, n => by
    rw [List.map_cons, enumL, enumL_map f l (n + 1), List.zipIdx_cons]
    rfl
section
variable {Γ : Glob} {env : Env} {elt it a b : E} {own : List Nat} {i j : Nat}
theorem comp_m {ι : Type} {f : ι → D} {g : ι → D} (r : List ι) (hi : (evE Γ it env).bind items = .ok (r.map f)) (hl : r.length ≤ 1000000) (h : ∀ x ∈ r, evE Γ elt ((wipe env own).set i (.frz (f x))) = .ok (g x)) :
    evE Γ (.comp elt (.nm i) it [] own) env = .ok (.lst (r.map g)) := by
  show ((evE Γ it env).bind fun s => (items s).bind fun xs => (compL (fun x => bindT (.nm i) x (wipe env own)) (evIfs Γ []) (evE Γ elt) xs).nox.bind made) = _
  have : ∀ (F : List D → R D), ((evE Γ it env).bind fun s => (items s).bind F) = ((evE Γ it env).bind items).bind F := fun F => by cases evE Γ it env <;> rfl
  rw [this, hi, b_ok, compL_map f g r fun x hx => ⟨_, rfl, rfl, h x hx⟩, n_ok, b_ok]
  exact made_ok (by rw [List.length_map]; exact hl)
theorem comp_t {ι : Type} {f : ι → D} {g : ι → D} (ts : List Tgt) (r : List ι) (hi : (evE Γ it env).bind items = .ok (r.map f)) (hl : r.length ≤ 1000000) (h : ∀ x ∈ r, ∃ e, bindT (.tup ts) (f x) (wipe env own) = .ok e ∧ evE Γ elt e = .ok (g x)) :
    evE Γ (.comp elt (.tup ts) it [] own) env = .ok (.lst (r.map g)) := by
  show ((evE Γ it env).bind fun s => (items s).bind fun xs => (compL (fun x => bindT (.tup ts) x (wipe env own)) (evIfs Γ []) (evE Γ elt) xs).nox.bind made) = _
  have : ∀ (F : List D → R D), ((evE Γ it env).bind fun s => (items s).bind F) = ((evE Γ it env).bind items).bind F := fun F => by cases evE Γ it env <;> rfl
  rw [this, hi, b_ok, compL_map f g r fun x hx => by
    obtain ⟨e, h1, h2⟩ := h x hx
    exact ⟨e, h1, rfl, h2⟩, n_ok, b_ok]
  exact made_ok (by rw [List.length_map]; exact hl)
/-- .. over two rows -/
theorem comp_z {g : Int → Int → Int} (r s : List Int) (hz : evE Γ (.zip a b) env = .ok (.itr (zipL (r.map .int) (s.map .int)))) (hl : r.length ≤ 1000000) (h : ∀ x ∈ r, ∀ y ∈ s, evE Γ elt (((wipe env own).set i (.frz (.int x))).set j (.frz (.int y))) = .ok (.int (g x y))) :
    evE Γ (.comp elt (.tup [.nm i, .nm j]) (.zip a b) [] own) env = .ok (rowD (List.zipWith g r s)) := by
  rw [comp_t (f := fun p : Int × Int => .tup [.int p.1, .int p.2]) (g := fun p => .int (g p.1 p.2)) _ (r.zip s) (by rw [hz, zipL_ints]; rfl) (by rw [List.length_zip]; omega) fun p hp => ⟨_, rfl, h _ (List.of_mem_zip hp).1 _ (List.of_mem_zip hp).2⟩]
  rw [← zipWith_map, rowD, List.map_map]
  rfl
end
end Mi
namespace Mi
open PySem L2
/-! ### reduced, pivot_of -/
def reducedB : Body := ⟨8, true, [.asgC 2 (.comp (.bin .mod (.peek 6) (.cst (.int 97))) (.nm 6) (.peek 0) [] [6]), .fr (.tup [.nm 3, .nm 4]) (.peek 1) [.asg (.nm 5) (.idx (.peek 2) (.peek 3)), .ife (.cmp .ne (.peek 5) (.cst (.int 0))) [.asgC 2 (.comp (.bin .mod (.bin .sub (.peek 6) (.bin .mul (.peek 5) (.peek 7))) (.cst (.int 97))) (.tup [.nm 6, .nm 7]) (.zip (.peek 2) (.peek 4)) [] [6, 7])] []], .retv 2], none⟩
theorem redS_len {rest : List Int} {p : Nat × List Int} (h : p.2.length = rest.length) : (redS rest p).length = rest.length := by
  unfold redS
  split
  · rfl
  · rw [List.length_zipWith]
    omega
theorem redS_res {rest : List Int} {p : Nat × List Int} (h : ∀ x ∈ rest, 0 ≤ x ∧ x < 97) : ∀ x ∈ redS rest p, 0 ≤ x ∧ x < 97 := by
  intro x hx
  unfold redS at hx
  split at hx
  · exact h x hx
  · obtain ⟨i, hi, rfl⟩ := List.getElem_of_mem hx
    simp only [List.getElem_zipWith]
    exact ⟨Int.emod_nonneg _ (by omega), Int.emod_lt_of_pos _ (by omega)⟩
theorem ne_int (i j : Int) : neR (.int i) (.int j) = .ok (.bl (decide (i ≠ j))) := by
  show R.ok (D.bl (!(i == j))) = _
  by_cases h : i = j
  · simp [h]
  · simp [h]
theorem eq_int (i j : Int) : eqR (.int i) (.int j) = .ok (.bl (decide (i = j))) := by
  show R.ok (D.bl (i == j)) = _
  by_cases h : i = j
  · simp [h]
  · simp [h]
theorem reduced_run (Γ : Glob) (row : List Int) (B : Bs) {L1 L2 : Slot} (h1 : Sn (rowD row) L1) (h2 : Sn (basD B) L2) (hl : row.length ≤ 1000000) (hB : ∀ p ∈ B, p.2.length = row.length ∧ p.1 < row.length) : runB Γ reducedB [L1, L2] = .ok (rowD (redL row B)) := by
  refine run_ret (env := [L1, L2, .un, .un, .un, .un, .un, .un]) (own := true) rfl ?_ rfl
  have c1 : evE Γ (.comp (.bin .mod (.peek 6) (.cst (.int 97))) (.nm 6) (.peek 0) [] [6]) [L1, L2, .un, .un, .un, .un, .un, .un] = .ok (rowD (row.map (· % 97))) := by
    refine (comp_m (f := D.int) (g := fun x => .int (x % 97)) row ?_ hl ?_).trans ?_
    · show (L1.val.bind items) = _
      rw [h1.val]
      rfl
    · intro x _
      exact mod_int (j := 97) (by decide)
    · rw [rowD, List.map_map]
      rfl
  refine ess_asgC (e1 := [L1, L2, .own (rowD (row.map (· % 97))), .un, .un, .un, .un, .un]) c1 rfl ?_
  let St : List Int → Env := fun rest => [L1, L2, .own (rowD rest), .un, .un, .un, .un, .un]
  have lp := ef_fold (body := evSs Γ [.asg (.nm 5) (.idx (.peek 2) (.peek 3)), .ife (.cmp .ne (.peek 5) (.cst (.int 0))) [.asgC 2 (.comp (.bin .mod (.bin .sub (.peek 6) (.bin .mul (.peek 5) (.peek 7))) (.cst (.int 97))) (.tup [.nm 6, .nm 7]) (.zip (.peek 2) (.peek 4)) [] [6, 7])] []]) (bd := bindT (.tup [.nm 3, .nm 4])) (e0 := [L1, L2, .own (rowD (row.map (· % 97))), .un, .un, .un, .un, .un])
    bD redS St (fun _ rest => rest.length = row.length ∧ ∀ x ∈ rest, 0 ≤ x ∧ x < 97) B.length B 0 (row.map (· % 97)) (by omega) ⟨by simp, fun x hx => by
      obtain ⟨y, _, rfl⟩ := List.mem_map.mp hx
      exact ⟨Int.emod_nonneg _ (by omega), Int.emod_lt_of_pos _ (by omega)⟩⟩ fun i rest p hp _ ⟨hr, hres⟩ => by
      obtain ⟨hp2, hp1⟩ := hB p hp
      refine ⟨⟨by rw [redS_len (by omega)]; exact hr, redS_res hres⟩, [L1, L2, .own (rowD rest), .frz (.int p.1), .frz (rowD p.2), .un, .un, .un], [L1, L2, .own (rowD (redS rest p)), .frz (.int p.1), .frz (rowD p.2), .frz (.int (vz rest p.1)), .un, .un], rfl, ?_, ?_⟩
      · refine ess_asg (d := .int (vz rest p.1)) (e1 := [L1, L2, .own (rowD rest), .frz (.int p.1), .frz (rowD p.2), .frz (.int (vz rest p.1)), .un, .un]) (idx_row (by omega)) rfl ?_
        have c : evE Γ (.cmp .ne (.peek 5) (.cst (.int 0))) [L1, L2, .own (rowD rest), .frz (.int p.1), .frz (rowD p.2), .frz (.int (vz rest p.1)), .un, .un] = .ok (.bl (decide (vz rest p.1 ≠ 0))) := ne_int _ _
        refine ess_if c ?_ rfl
        unfold redS
        by_cases hz : vz rest p.1 = 0
        · rw [if_pos hz, decide_eq_false (by simpa using hz)]
          rfl
        · rw [if_neg hz, decide_eq_true (by simpa using hz)]
          have bz := hres _ (vz_mem (r := rest) (j := p.1) (by omega))
          generalize vz rest p.1 = f at bz
          refine ess_asgC (d := rowD (List.zipWith (fun a b => (a - f * b) % 97) rest p.2)) ?_ rfl rfl
          refine comp_z rest p.2 rfl (by omega) fun x _ y _ => ?_
          show ((mulD (.int f) (.int y)).bind fun z => subD (.int x) z).bind (fun z => modD z (.int 97)) = _
          rw [mul_l (by omega), b_ok]
          show modD (.int (x - f * y)) (.int 97) = _
          rw [mod_int (by omega)]
      · show mask [L1, L2, .own (rowD (row.map (· % 97))), .un, .un, .un, .un, .un] _ = _
        rw [h1.mk, h2.mk]
        rfl
  refine ess_for (xs := B.map bD) (by show (L2.val.bind items) = _; rw [h2.val]; rfl) (e1 := [L1, L2, .own (rowD (row.map (· % 97))), .un, .un, .un, .un, .un]) ?_ lp.1 rfl ?_
  · show [L1, lock L2, _, _, _, _, _, _] = _
    rw [h2.lk]
  · show evSs Γ [.retv 2] [L1, un1 L2 L2, .own (rowD (redL row B)), .un, .un, .un, .un, .un] = _
    rfl
def pivotB : Body := ⟨3, false, [.fr (.tup [.nm 1, .nm 2]) (.enum (.peek 0)) [.ife (.cmp .ne (.peek 2) (.cst (.int 0))) [.retv 1] []], .ret (.neg (.cst (.int 1)))], none⟩
/-- the first column that is not 0, or -1 -/
def pivF : List Int → Nat → Option Nat
  | [], _ => none
  | x :: r, n => if x = 0 then pivF r (n + 1) else some n
def pivZ (r : List Int) : Int := match pivF r 0 with
  | some k => k
  | none => -1
theorem pivF_some : ∀ {r : List Int} {n k : Nat}, pivF r n = some k → n ≤ k ∧ k < n + r.length ∧ vz r (k - n) ≠ 0 ∧ ∀ j, j < k - n → vz r j = 0
  | [], _, _, h => by cases h
  | x :: r, n, k, h => by
    rw [pivF] at h
    by_cases hx : x = 0
    · rw [if_pos hx] at h
      obtain ⟨a, b, c, d⟩ := pivF_some h
      have e : k - n = (k - (n + 1)) + 1 := by omega
      refine ⟨by omega, by rw [List.length_cons]; omega, ?_, fun j hj => ?_⟩
      · rw [e]
        exact c
      · cases j with
        | zero => exact hx
        | succ j => exact d j (by omega)
    · rw [if_neg hx] at h
      cases h
      refine ⟨Nat.le_refl _, by rw [List.length_cons]; omega, ?_, fun j hj => by omega⟩
      rw [Nat.sub_self]
      exact hx
theorem pivF_none : ∀ {r : List Int} {n : Nat}, pivF r n = none → ∀ j, vz r j = 0
  | [], _, _, j => by simp [vz]
  | x :: r, n, h, j => by
    rw [pivF] at h
    by_cases hx : x = 0
    · rw [if_pos hx] at h
      cases j with
      | zero => exact hx
      | succ j => exact pivF_none h j
    · rw [if_neg hx] at h
      cases h
theorem pivot_run (Γ : Glob) (r : List Int) {L : Slot} (h : Sn (rowD r) L) : runB Γ pivotB [L] = .ok (.int (pivZ r)) := by
  have it : (evE Γ (.enum (.peek 0)) [L, .un, .un]).bind items = .ok (enumL 0 (r.map D.int)) := by
    show ((L.val.bind enumD).bind items) = _
    rw [h.val]
    rfl
  have lp : ∀ (r : List Int) (n : Nat), evFor (evSs Γ [.ife (.cmp .ne (.peek 2) (.cst (.int 0))) [.retv 1] []]) (bindT (.tup [.nm 1, .nm 2])) [L, .un, .un] (enumL n (r.map D.int)) [L, .un, .un] = match pivF r n with
      | some k => .ret (.int k) false
      | none => .nx [L, .un, .un] := by
    intro r
    induction r with
    | nil => intro n; rfl
    | cons x r ih =>
      intro n
      rw [List.map_cons, enumL, pivF]
      have c : evE Γ (.cmp .ne (.peek 2) (.cst (.int 0))) [L, .frz (.int n), .frz (.int x)] = .ok (.bl (decide (x ≠ 0))) := ne_int _ _
      by_cases hx : x = 0
      · rw [if_pos hx]
        rw [decide_eq_false (by simpa using hx)] at c
        refine ef_nx (e1 := [L, .frz (.int n), .frz (.int x)]) rfl (e2 := [L, .frz (.int n), .frz (.int x)]) (ess_if c rfl rfl) ?_ (ih (n + 1))
        rw [h.mk]
        rfl
      · rw [if_neg hx]
        rw [decide_eq_true (by simpa using hx)] at c
        exact ef_ret (e1 := [L, .frz (.int n), .frz (.int x)]) rfl (ess_if_ret c rfl)
  have l0 := lp r 0
  unfold pivZ
  cases hp : pivF r 0 with
  | some k =>
    rw [hp] at l0
    refine run_ret (env := [L, .un, .un]) (own := false) rfl (ess_rt (es_for_ret it ?_ l0)) rfl
    show [lock L, .un, .un] = _
    rw [h.lk]
  | none =>
    rw [hp] at l0
    refine run_ret (env := [L, .un, .un]) (own := false) (d := .int (-1)) rfl ?_ rfl
    refine ess_for it (e1 := [L, .un, .un]) ?_ l0 rfl ?_
    · show [lock L, .un, .un] = _
      rw [h.lk]
    · rfl
end Mi
namespace Mi
open PySem L2
/-! ### inverse -/
/-- the loop: high, low, and the two factors -/
def euc : Nat → Int → Int → Int → Int → Option (Int × Int × Int × Int)
  | 0, _, _, _, _ => none
  | n + 1, hi, lo, hf, lf => if 1 < lo then euc n lo (hi - hi / lo * lo) lf (hf - hi / lo * lf) else some (hi, lo, hf, lf)
def small64 (i : Int) : Bool := decide (-18446744073709551616 < i ∧ i < 18446744073709551616)
/-- all that stands in it is small -/
def eucOk : Nat → Int → Int → Int → Int → Bool
  | 0, _, _, _, _ => false
  | n + 1, hi, lo, hf, lf => if 1 < lo then small64 lo && small64 lf && decide (lo < 1000) && eucOk n lo (hi - hi / lo * lo) lf (hf - hi / lo * lf) else true
def eucB : List S := [.asg (.nm 5) (.bin .fdiv (.peek 2) (.peek 1)), .par 2 1 (.var 1) (.bin .sub (.peek 2) (.bin .mul (.peek 5) (.peek 1))), .par 4 3 (.var 3) (.bin .sub (.peek 4) (.bin .mul (.peek 5) (.peek 3)))]
def eSt (i hi lo hf lf : Int) : Env := [.frz (.int i), .frz (.int lo), .frz (.int hi), .frz (.int lf), .frz (.int hf), .un]
theorem fdiv_int {i j : Int} (h : fitDiv j = true) : fdivD (.int i) (.int j) = .ok (.int (i / j)) := by
  unfold fdivD
  dsimp only
  rw [if_pos h]
theorem mul_s {i j : Int} (h : small64 j = true) : mulD (.int i) (.int j) = .ok (.int (i * j)) := mul_small (of_decide_eq_true h)
theorem whl_stop {c : Env → R Bool} {body : Env → Out} {e0 env : Env} {n : Nat} (h : c env = .ok false) : evWhl c body e0 (n + 1) env = .nx env := by
  rw [evWhl, h]
  rfl
theorem whl_step {c : Env → R Bool} {body : Env → Out} {e0 env e2 e3 : Env} {n : Nat} {o : Out} (h : c env = .ok true) (hb : body env = .nx e2) (hm : mask e0 e2 = e3) (hr : evWhl c body e0 n e3 = o) : evWhl c body e0 (n + 1) env = o := by
  rw [evWhl, h, o_ok', if_pos rfl, hb]
  dsimp only
  rw [hm, hr]
theorem euc_run (Γ : Glob) (i : Int) (e0 : Env) (he : ∀ hi lo hf lf : Int, ∀ q : D, mask e0 [.frz (.int i), .frz (.int lo), .frz (.int hi), .frz (.int lf), .frz (.int hf), .frz q] = eSt i hi lo hf lf) : ∀ (n : Nat) (hi lo hf lf : Int) (r : Int × Int × Int × Int) (m : Nat), euc n hi lo hf lf = some r → eucOk n hi lo hf lf = true → n ≤ m →
    evWhl (fun e => (evE Γ (.cmp .gt (.peek 1) (.cst (.int 1))) e).bind truth) (evSs Γ eucB) e0 m (eSt i hi lo hf lf) = .nx (eSt i r.1 r.2.1 r.2.2.1 r.2.2.2)
  | 0, _, _, _, _, _, _, h, _, _ => by cases h
  | n + 1, hi, lo, hf, lf, r, 0, _, _, h => by omega
  | n + 1, hi, lo, hf, lf, r, m + 1, h, hk, hm => by
    have c : (evE Γ (.cmp .gt (.peek 1) (.cst (.int 1))) (eSt i hi lo hf lf)).bind truth = .ok (decide (1 < lo)) := by
      simp [eSt, cmpD, gtD]
    rw [euc] at h
    rw [eucOk] at hk
    by_cases hl : 1 < lo
    · rw [if_pos hl] at h hk
      simp only [Bool.and_eq_true, decide_eq_true_eq] at hk
      obtain ⟨⟨⟨k1, k2⟩, k3⟩, k4⟩ := hk
      rw [decide_eq_true hl] at c
      have fd : fitDiv lo = true := fit_small (ls := [lo]) (fun l hl' => by rw [List.mem_singleton.mp hl']; omega) lo (List.mem_singleton.mpr rfl)
      refine whl_step c (e2 := [.frz (.int i), .frz (.int (hi - hi / lo * lo)), .frz (.int lo), .frz (.int (hf - hi / lo * lf)), .frz (.int lf), .frz (.int (hi / lo))]) ?_ (he _ _ _ _ _) (euc_run Γ i e0 he n _ _ _ _ r m h k4 (by omega))
      unfold eucB eSt
      simp [binD, fdiv_int fd, mul_s k1, mul_s k2, subD]
    · rw [if_neg hl] at h
      rw [decide_eq_false hl] at c
      rw [whl_stop c]
      cases h
      rfl
/-- what inverse says of a residue -/
def invR (lo : Int) : Int := match euc 20 97 lo 0 1 with
  | some r => r.2.2.2 % 97
  | none => 0
theorem inv_all : ∀ k : _root_.Fin 97, k.val ≠ 0 → (euc 20 97 k.val 0 1).isSome = true ∧ eucOk 20 97 k.val 0 1 = true ∧ 1 ≤ invR k.val ∧ invR k.val ≤ 96 ∧ invR k.val * k.val % 97 = 1 := by decide +kernel
def inv97 (i : Int) : Int := invR (i % 97)
theorem inv_ok {i : Int} (h : i % 97 ≠ 0) : 1 ≤ inv97 i ∧ inv97 i ≤ 96 ∧ inv97 i * i % 97 = 1 := by
  obtain ⟨y, hk⟩ : ∃ y : _root_.Fin 97, (y.val : Int) = i % 97 := ⟨⟨(i % 97).toNat, by omega⟩, by show (((i % 97).toNat : Nat) : Int) = _; omega⟩
  obtain ⟨_, _, a, b, c⟩ := inv_all y (fun e => h (by rw [← hk, e]; rfl))
  rw [hk] at a b c
  refine ⟨a, b, ?_⟩
  unfold inv97
  rw [Int.mul_emod] at c ⊢
  rw [Int.emod_emod_of_dvd _ (Int.dvd_refl _)] at c
  exact c
def inverseB (x k : Nat) : Body := ⟨6, false, [.asg (.nm 1) (.bin .mod (.peek 0) (.cst (.int 97))), .ife (.cmp .eq (.peek 1) (.cst (.int 0))) [.raisF x k (.var 0)] [], .asg (.nm 2) (.cst (.int 97)), .asg (.nm 3) (.cst (.int 1)), .asg (.nm 4) (.cst (.int 0)), .whl (.cmp .gt (.peek 1) (.cst (.int 1))) eucB, .ret (.bin .mod (.peek 3) (.cst (.int 97)))], none⟩
theorem inverse_run (Γ : Glob) (x k : Nat) (i : Int) (h : i % 97 ≠ 0) : runB Γ (inverseB x k) [.frz (.int i)] = .ok (.int (inv97 i)) := by
  obtain ⟨y, hk⟩ : ∃ y : _root_.Fin 97, (y.val : Int) = i % 97 := ⟨⟨(i % 97).toNat, by omega⟩, by show (((i % 97).toNat : Nat) : Int) = _; omega⟩
  obtain ⟨a1, a2, _⟩ := inv_all y (fun e => h (by rw [← hk, e]; rfl))
  rw [hk] at a1 a2
  obtain ⟨r, hr⟩ := Option.isSome_iff_exists.mp a1
  have e : inv97 i = r.2.2.2 % 97 := by
    unfold inv97 invR
    rw [hr]
  rw [e]
  refine run_ret (env := [.frz (.int i), .un, .un, .un, .un, .un]) (own := true) rfl ?_ rfl
  refine ess_asg (d := .int (i % 97)) (by simp [binD, mod_int]) rfl ?_
  have c : evE Γ (.cmp .eq (.peek 1) (.cst (.int 0))) [.frz (.int i), .frz (.int (i % 97)), .un, .un, .un, .un] = .ok (.bl false) := by
    simp [cmpD, eqR, eqOk, eqD, h]
  refine ess_if c rfl ?_
  refine ess_asg (d := .int 97) rfl rfl (ess_asg (d := .int 1) rfl rfl (ess_asg (d := .int 0) rfl rfl ?_))
  refine ess_nx (e := eSt i r.1 r.2.1 r.2.2.1 r.2.2.2) ?_ (ess_ret (by simp [eSt, binD, mod_int]))
  exact euc_run Γ i (eSt i 97 (i % 97) 0 1) (fun _ _ _ _ _ => rfl) 20 97 (i % 97) 0 1 r fuel hr a2 (by unfold fuel; omega)
theorem inverse_exc (Γ : Glob) (x k : Nat) (i : Int) (h : i % 97 = 0) : runB Γ (inverseB x k) [.frz (.int i)] = .exc ⟨x, some (k, .int i)⟩ := by
  have c : evE Γ (.cmp .eq (.peek 1) (.cst (.int 0))) [.frz (.int i), .frz (.int (i % 97)), .un, .un, .un, .un] = .ok (.bl true) := by
    simp [cmpD, eqR, eqOk, eqD, h]
  have a : evE Γ (.bin .mod (.peek 0) (.cst (.int 97))) [.frz (.int i), .un, .un, .un, .un, .un] = .ok (.int (i % 97)) := by simp [binD, mod_int]
  have q : evSs Γ (inverseB x k).code [.frz (.int i), .un, .un, .un, .un, .un] = .exc ⟨x, some (k, .int i)⟩ [.frz (.int i), .frz (.int (i % 97)), .un, .un, .un, .un] := by
    refine ess_asg (d := .int (i % 97)) (e1 := [.frz (.int i), .frz (.int (i % 97)), .un, .un, .un, .un]) a rfl ?_
    rw [ess_cons, es_ife, c]
    rfl
  unfold runB
  show (match evSs Γ (inverseB x k).code [.frz (.int i), .un, .un, .un, .un, .un] with | .ret d own => _ | .nx _ => _ | .exc x _ => _ | _ => _) = _
  rw [q]
end Mi
namespace Mi
open PySem L2
/-! ### independent_indexes -/
def indepB (r0 P I : Nat) : Body := ⟨9, true, [.asg (.nm 1) (.lst []), .asg (.nm 2) (.lst []), .fr (.tup [.nm 3, .nm 4]) (.enum (.peek 0)) [.asg (.nm 5) (.call true r0 [.peek 4, .peek 1]), .asg (.nm 6) (.call false P [.peek 5]), .ife (.cmp .ge (.peek 6) (.cst (.int 0))) [.asg (.nm 7) (.call false I [.idx (.peek 5) (.peek 6)]), .app 1 (.tup [.var 6, .comp (.bin .mod (.bin .mul (.peek 7) (.peek 8)) (.cst (.int 97))) (.nm 8) (.peek 5) [] [8]]), .app 2 (.var 3)] []], .retv 2], none⟩
def natsD (l : List Nat) : D := .lst (l.map fun (k : Nat) => D.int (k : Int))
def nrow (rest : List Int) (p : Nat) : Nat × List Int := (p, rest.map fun a => inv97 (vz rest p) * a % 97)
def stepI (s : Bs × List Nat) (x : List Int × Nat) : Bs × List Nat := match pivF (redL x.1 s.1) 0 with
  | none => s
  | some p => (s.1 ++ [nrow (redL x.1 s.1) p], s.2 ++ [x.2])
def indL (rows : List (List Int)) : List Nat := (rows.zipIdx.foldl stepI ([], [])).2
structure CallOk (Γ : Glob) (r0 P I : Nat) : Prop where
  r : ∃ Γ', ∀ as, Γ.call r0 as = runB Γ' reducedB as
  p : ∃ Γ', ∀ as, Γ.call P as = runB Γ' pivotB as
  i : ∀ i : Int, i % 97 ≠ 0 → Γ.call I [.frz (.int i)] = .ok (.int (inv97 i))
theorem redL_len {row : List Int} {w : Nat} (hr : row.length = w) : ∀ (B : Bs), (∀ p ∈ B, p.2.length = w) → (redL row B).length = w ∧ ∀ x ∈ redL row B, 0 ≤ x ∧ x < 97 := by
  intro B
  refine snoc_ind (P := fun B => (∀ p ∈ B, p.2.length = w) → (redL row B).length = w ∧ ∀ x ∈ redL row B, 0 ≤ x ∧ x < 97) (fun _ => ?_) (fun B p ih h => ?_) B
  · refine ⟨by simpa [redL] using hr, fun x hx => ?_⟩
    obtain ⟨y, _, rfl⟩ := List.mem_map.mp (show x ∈ row.map (· % 97) from hx)
    exact ⟨Int.emod_nonneg _ (by omega), Int.emod_lt_of_pos _ (by omega)⟩
  · obtain ⟨a, b⟩ := ih fun q hq => h q (List.mem_append_left _ hq)
    have e : redL row (B ++ [p]) = redS (redL row B) p := by
      unfold redL
      rw [List.foldl_append]
      rfl
    rw [e]
    have hp := h p (by simp)
    exact ⟨by rw [redS_len (by omega)]; exact a, redS_res b⟩
theorem res_ne {x : Int} (h0 : 0 ≤ x) (h1 : x < 97) (h : x ≠ 0) : x % 97 ≠ 0 := by omega
theorem inv_dvd {x : Int} (h : x % 97 ≠ 0) : (97 : Int) ∣ inv97 x * x - 1 := by
  have := (inv_ok h).2.2
  exact Int.dvd_of_emod_eq_zero (by omega)
theorem indep_run {Γ : Glob} {r0 P I : Nat} (hc : CallOk Γ r0 P I) (rows : List (List Int)) (w : Nat) (hw : w ≤ 1000000) (hr : ∀ r ∈ rows, r.length = w) (hn : rows.length < 1000000) {L : Slot} (h : Sn (rowsD rows) L) : runB Γ (indepB r0 P I) [L] = .ok (natsD (indL rows)) := by
  obtain ⟨⟨Γr, cr⟩, ⟨Γp, cp⟩, ci⟩ := hc
  refine run_ret (env := [L, .un, .un, .un, .un, .un, .un, .un, .un]) (own := true) rfl ?_ rfl
  refine ess_asg (d := .lst []) (e1 := [L, .own (.lst []), .un, .un, .un, .un, .un, .un, .un]) rfl rfl (ess_asg (d := .lst []) (e1 := [L, .own (.lst []), .own (.lst []), .un, .un, .un, .un, .un, .un]) rfl rfl ?_)
  let St : Bs × List Nat → Env := fun s => [L, .own (basD s.1), .own (natsD s.2), .un, .un, .un, .un, .un, .un]
  have lp := ef_fold (body := evSs Γ [.asg (.nm 5) (.call true r0 [.peek 4, .peek 1]), .asg (.nm 6) (.call false P [.peek 5]), .ife (.cmp .ge (.peek 6) (.cst (.int 0))) [.asg (.nm 7) (.call false I [.idx (.peek 5) (.peek 6)]), .app 1 (.tup [.var 6, .comp (.bin .mod (.bin .mul (.peek 7) (.peek 8)) (.cst (.int 97))) (.nm 8) (.peek 5) [] [8]]), .app 2 (.var 3)] []])
    (bd := bindT (.tup [.nm 3, .nm 4])) (e0 := [L, .own (.lst []), .own (.lst []), .un, .un, .un, .un, .un, .un])
    (fun x : List Int × Nat => .tup [.int (x.2 : Int), rowD x.1]) stepI St (fun i s => s.1.length ≤ i ∧ s.2.length ≤ i ∧ ∀ p ∈ s.1, p.2.length = w ∧ p.1 < w) rows.length rows.zipIdx 0 ([], []) (by simp) ⟨Nat.le_refl _, Nat.le_refl _, fun p hp => by simp at hp⟩ fun i s x hx hi ⟨hP1, hP2, hP3⟩ => by
      have hx1 : x.1.length = w := hr _ (by
        have := List.mem_zipIdx hx
        rw [this.2.2]
        exact List.getElem_mem _)
      obtain ⟨ln, rs⟩ := redL_len hx1 s.1 fun p hp => (hP3 p hp).1
      have c1 : evE Γ (.call true r0 [.peek 4, .peek 1]) [L, .own (basD s.1), .own (natsD s.2), .frz (.int (x.2 : Int)), .frz (rowD x.1), .un, .un, .un, .un] = .ok (rowD (redL x.1 s.1)) := by
        show (R.ok ([.frz (rowD x.1), .bor (basD s.1)] : List Slot)).bind (fun as => Γ.call r0 as) = _
        rw [b_ok, cr, reduced_run Γr x.1 s.1 (.f _) (.b _) (by omega) fun p hp => by rw [hx1]; exact hP3 p hp]
      have rx : redL x.1 s.1 = redL x.1 s.1 := rfl
      generalize hrest : redL x.1 s.1 = rest at c1 ln rs
      have c2 : evE Γ (.call false P [.peek 5]) [L, .own (basD s.1), .own (natsD s.2), .frz (.int (x.2 : Int)), .frz (rowD x.1), .own (rowD rest), .un, .un, .un] = .ok (.int (pivZ rest)) := by
        show (R.ok ([.bor (rowD rest)] : List Slot)).bind (fun as => Γ.call P as) = _
        rw [b_ok, cp, pivot_run Γp rest (.b _)]
      have c3 : evE Γ (.cmp .ge (.peek 6) (.cst (.int 0))) [L, .own (basD s.1), .own (natsD s.2), .frz (.int (x.2 : Int)), .frz (rowD x.1), .own (rowD rest), .frz (.int (pivZ rest)), .un, .un] = .ok (.bl (decide (0 ≤ pivZ rest))) := rfl
      unfold stepI
      rw [hrest]
      unfold pivZ at c2 c3
      cases hp : pivF rest 0 with
      | none =>
        rw [hp] at c2 c3
        refine ⟨⟨Nat.le_succ_of_le hP1, Nat.le_succ_of_le hP2, hP3⟩, [L, .own (basD s.1), .own (natsD s.2), .frz (.int (x.2 : Int)), .frz (rowD x.1), .un, .un, .un, .un], [L, .own (basD s.1), .own (natsD s.2), .frz (.int (x.2 : Int)), .frz (rowD x.1), .own (rowD rest), .frz (.int (-1)), .un, .un], rfl, ?_, ?_⟩
        · exact ess_asg c1 rfl (ess_asg c2 rfl (ess_if c3 rfl rfl))
        · rw [h.mk]
          rfl
      | some p =>
        rw [hp] at c2 c3
        obtain ⟨_, hpl, hpz, _⟩ := pivF_some hp
        rw [Nat.sub_zero] at hpz
        have hpw : p < w := by omega
        have vr := rs _ (vz_mem (r := rest) (j := p) (by omega))
        have hne := res_ne vr.1 vr.2 hpz
        have c4 : evE Γ (.call false I [.idx (.peek 5) (.peek 6)]) [L, .own (basD s.1), .own (natsD s.2), .frz (.int (x.2 : Int)), .frz (rowD x.1), .own (rowD rest), .frz (.int (p : Int)), .un, .un] = .ok (.int (inv97 (vz rest p))) := by
          show ((R.bind (idxD (rowD rest) (.int (p : Int))) fun d => R.ok [lend _ d _])).bind (fun as => Γ.call I as) = _
          rw [idx_row (by omega), b_ok, b_ok]
          exact ci _ hne
        have c3 : evE Γ (.cmp .ge (.peek 6) (.cst (.int 0))) [L, .own (basD s.1), .own (natsD s.2), .frz (.int (x.2 : Int)), .frz (rowD x.1), .own (rowD rest), .frz (.int (p : Int)), .un, .un] = .ok (.bl true) := c3.trans (by rw [decide_eq_true (show (0 : Int) ≤ (p : Int) by omega)])
        have vi := inv_ok hne
        have en : nrow rest p = (p, rest.map fun a => inv97 (vz rest p) * a % 97) := rfl
        generalize inv97 (vz rest p) = v at c4 vi en
        have c5 : evE Γ (.tup [.var 6, .comp (.bin .mod (.bin .mul (.peek 7) (.peek 8)) (.cst (.int 97))) (.nm 8) (.peek 5) [] [8]]) [L, .own (basD s.1), .own (natsD s.2), .frz (.int (x.2 : Int)), .frz (rowD x.1), .own (rowD rest), .frz (.int (p : Int)), .frz (.int v), .un] = .ok (bD (nrow rest p)) := by
          have cm : evE Γ (.comp (.bin .mod (.bin .mul (.peek 7) (.peek 8)) (.cst (.int 97))) (.nm 8) (.peek 5) [] [8]) [L, .own (basD s.1), .own (natsD s.2), .frz (.int (x.2 : Int)), .frz (rowD x.1), .own (rowD rest), .frz (.int (p : Int)), .frz (.int v), .un] = .ok (rowD (rest.map fun a => v * a % 97)) := by
            refine (comp_m (f := D.int) (g := fun a => .int (v * a % 97)) rest rfl (by omega) ?_).trans ?_
            · intro a _
              show ((mulD (.int v) (.int a)).bind fun z => modD z (.int 97)) = _
              rw [mul_l (by omega), b_ok, mod_int (by decide)]
            · rw [rowD, List.map_map]
              rfl
          rw [en]
          show ((R.ok (D.int (p : Int))).bind fun x => ((evE Γ _ _).bind fun y => (R.ok []).map (y :: ·)).map (x :: ·)).map D.tup = _
          rw [cm]
          rfl
        refine ⟨⟨by rw [List.length_append]; simp; omega, by rw [List.length_append]; simp; omega, fun q hq => ?_⟩, [L, .own (basD s.1), .own (natsD s.2), .frz (.int (x.2 : Int)), .frz (rowD x.1), .un, .un, .un, .un], [L, .own (basD (s.1 ++ [nrow rest p])), .own (natsD (s.2 ++ [x.2])), .frz (.int (x.2 : Int)), .frz (rowD x.1), .own (rowD rest), .frz (.int (p : Int)), .frz (.int v), .un], rfl, ?_, ?_⟩
        · rcases List.mem_append.mp hq with hq | hq
          · exact hP3 q hq
          · rw [List.mem_singleton.mp hq]
            exact ⟨by simp [nrow, ln], hpw⟩
        · refine ess_asg c1 rfl (ess_asg c2 rfl (ess_if c3 ?_ rfl))
          refine ess_asg c4 rfl (ess_app rfl c5 (by rw [List.length_map]; omega) (e1 := [L, .own (basD (s.1 ++ [nrow rest p])), .own (natsD s.2), .frz (.int (x.2 : Int)), .frz (rowD x.1), .own (rowD rest), .frz (.int (p : Int)), .frz (.int v), .un]) ?_ (ess_app rfl (d := .int (x.2 : Int)) rfl (by rw [List.length_map]; omega) ?_ rfl))
          · show _ = [_, Slot.own (.lst ((s.1 ++ [nrow rest p]).map bD)), _, _, _, _, _, _, _]
            rw [List.map_append]
            rfl
          · show _ = [_, _, Slot.own (.lst ((s.2 ++ [x.2]).map fun (k : Nat) => D.int (k : Int))), _, _, _, _, _, _]
            rw [List.map_append]
            rfl
        · rw [h.mk]
          rfl
  have it : (evE Γ (.enum (.peek 0)) [L, .own (.lst []), .own (.lst []), .un, .un, .un, .un, .un, .un]).bind items = .ok (rows.zipIdx.map fun x : List Int × Nat => .tup [.int (x.2 : Int), rowD x.1]) := by
    show ((L.val.bind enumD).bind items) = _
    rw [h.val, ← enumL_map]
    rfl
  refine ess_for it (e1 := [L, .own (.lst []), .own (.lst []), .un, .un, .un, .un, .un, .un]) ?_ lp.1 rfl ?_
  · show [lock L, _, _, _, _, _, _, _, _] = _
    rw [h.lk]
  · show evSs Γ [.retv 2] [un1 L L, .own (basD _), .own (natsD (indL rows)), .un, .un, .un, .un, .un, .un] = _
    rfl
end Mi
namespace Mi
open PySem L2
/-! ### the rows that are no sums of those before them -/
def sel (rows : List (List Int)) (ds : List Nat) : List (List Int) := ds.map fun i => rows.getD i []
open Classical in
noncomputable def dueL (w : Nat) (rows : List (List Int)) : Nat → List Nat
  | 0 => []
  | k + 1 => if Ind w ((dueL w rows k).length + 1) (mx (sel rows (dueL w rows k ++ [k]))) then dueL w rows k ++ [k] else dueL w rows k
theorem sel_app (rows : List (List Int)) (a b : List Nat) : sel rows (a ++ b) = sel rows a ++ sel rows b := List.map_append
theorem sel_len (rows : List (List Int)) (a : List Nat) : (sel rows a).length = a.length := List.length_map _
theorem mx_app {l m : List (List Int)} {i : Nat} (h : i < l.length) : mx (l ++ m) i = mx l i := by
  unfold mx
  rw [getD_app1 h]
theorem mx_snoc {l : List (List Int)} {r : List Int} : mx (l ++ [r]) l.length = vz r := by
  unfold mx
  rw [getD_snoc]
theorem ind_rows {w n : Nat} {M M' : Mx} (h : ∀ i, i < n → M' i = M i) (hi : Ind w n M) : Ind w n M' := hi.ext fun i hn j _ => by rw [h i hn, Int.sub_self]; exact Int.dvd_zero _
theorem dueL_ind (w : Nat) (rows : List (List Int)) : ∀ k, Ind w (dueL w rows k).length (mx (sel rows (dueL w rows k)))
  | 0 => fun c _ i hi => absurd hi (by simp [dueL])
  | k + 1 => by
    rw [dueL]
    split
    · rename_i h
      rw [List.length_append]
      exact h
    · exact dueL_ind w rows k
theorem dueL_lt (w : Nat) (rows : List (List Int)) : ∀ k, ∀ i ∈ dueL w rows k, i < k
  | 0, i, h => by simp [dueL] at h
  | k + 1, i, h => by
    rw [dueL] at h
    split at h
    · rcases List.mem_append.mp h with h | h
      · exact Nat.lt_succ_of_lt (dueL_lt w rows k i h)
      · rw [List.mem_singleton.mp h]
        exact Nat.lt_succ_self k
    · exact Nat.lt_succ_of_lt (dueL_lt w rows k i h)
theorem dueL_len (w : Nat) (rows : List (List Int)) : ∀ k, (dueL w rows k).length ≤ k
  | 0 => by simp [dueL]
  | k + 1 => by
    have := dueL_len w rows k
    rw [dueL]
    split
    · rw [List.length_append]
      simp
      omega
    · omega
/-- the k-th row is one of them exactly if it is no sum of those ahead -/
theorem due_step {w k : Nat} {rows : List (List Int)} : Ind w ((dueL w rows k).length + 1) (mx (sel rows (dueL w rows k ++ [k]))) ↔ ¬ Sp w (dueL w rows k).length (mx (sel rows (dueL w rows k))) (vz (rows.getD k [])) := by
  have e1 : ∀ i, i < (dueL w rows k).length → mx (sel rows (dueL w rows k ++ [k])) i = mx (sel rows (dueL w rows k)) i := fun i hi => by
    rw [sel_app, mx_app (by rw [sel_len]; exact hi)]
  have e2 : mx (sel rows (dueL w rows k ++ [k])) (dueL w rows k).length = vz (rows.getD k []) := by
    rw [sel_app]
    have := mx_snoc (l := sel rows (dueL w rows k)) (r := rows.getD k [])
    rw [sel_len] at this
    exact this
  rw [ind_succ (ind_rows e1 (dueL_ind w rows k)), e2]
  constructor
  · exact fun h k' => h (k'.rows fun i hi j _ => by rw [e1 i hi])
  · exact fun h k' => h (k'.rows fun i hi j _ => by rw [e1 i hi])
/-- how the basis stands -/
structure BasI (W w : Nat) (rows : List (List Int)) (k : Nat) (B : Bs) (ds : List Nat) : Prop where
  ok : BsOk W w B
  len : B.length = ds.length
  due : ds = dueL w rows k
  sp : SpE w B.length (mx (sel rows ds)) (bmx B)
theorem basI_0 {W w : Nat} (h : w ≤ W) (rows : List (List Int)) : BasI W w rows 0 [] [] := ⟨bs_nil h, rfl, rfl, fun i hi => by simp at hi, fun i hi => by simp at hi⟩
section
variable {W w k : Nat} {rows : List (List Int)} {B : Bs} {ds : List Nat} {row : List Int} {f : Nat → Int}
/-- the row that is looked at agrees with the k-th on the first w columns -/
theorem BasI.zero (h : BasI W w rows k B ds) (R : RedOk W row B f (redL row B)) (hrow : ∀ j, j < w → vz row j = vz (rows.getD k []) j) : (∀ j, j < w → vz (redL row B) j = 0) ↔ ¬ Ind w ((dueL w rows k).length + 1) (mx (sel rows (dueL w rows k ++ [k]))) := by
  rw [red_zero h.ok R, due_step, Classical.not_not, ← h.due]
  have e : Sp w B.length (bmx B) (vz row) ↔ Sp w B.length (bmx B) (vz (rows.getD k [])) :=
    ⟨fun z => z.congr fun j hj => by rw [hrow j hj, Int.sub_self]; exact Int.dvd_zero _, fun z => z.congr fun j hj => by rw [hrow j hj, Int.sub_self]; exact Int.dvd_zero _⟩
  rw [e, ← h.sp.iff, ← h.len]
theorem BasI.skip (h : BasI W w rows k B ds) (hn : ¬ Ind w ((dueL w rows k).length + 1) (mx (sel rows (dueL w rows k ++ [k])))) : BasI W w rows (k + 1) B ds := by
  refine ⟨h.ok, h.len, ?_, h.sp⟩
  rw [dueL, if_neg hn]
  exact h.due
theorem BasI.snoc {p : Nat} {rest : List Int} (h : BasI W w rows k B ds) (R : RedOk W row B f rest) (hrow : ∀ j, j < w → vz row j = vz (rows.getD k []) j) (hp : p < w) (hne : vz rest p % 97 ≠ 0) (hi : Ind w ((dueL w rows k).length + 1) (mx (sel rows (dueL w rows k ++ [k])))) : BasI W w rows (k + 1) (B ++ [nrow rest p]) (ds ++ [k]) := by
  have hx := inv_dvd hne
  have e1 : ∀ i, i < B.length → mx (sel rows (ds ++ [k])) i = mx (sel rows ds) i := fun i hi => by
    rw [sel_app, mx_app (by rw [sel_len, ← h.len]; exact hi)]
  have e2 : mx (sel rows (ds ++ [k])) B.length = vz (rows.getD k []) := by
    rw [sel_app, h.len]
    have := mx_snoc (l := sel rows ds) (r := rows.getD k [])
    rw [sel_len] at this
    exact this
  refine ⟨bs_snoc h.ok R hp hx, by simp [h.len], ?_, ?_⟩
  · rw [dueL, if_pos hi, h.due]
  · rw [List.length_append]
    -- the wide row stands for the k-th
    let D' : Mx := fun i => if i < B.length then mx (sel rows ds) i else vz row
    have sp := spe_snoc (D' := D') h.ok R hp hx h.sp (fun i hi => if_pos hi) (if_neg (Nat.lt_irrefl _))
    have q : ∀ i, i < B.length + 1 → ∀ j, j < w → D' i j = mx (sel rows (ds ++ [k])) i j := fun i hi j hj => by
      by_cases hi2 : i < B.length
      · show (if i < B.length then _ else _ : Nat → Int) j = _
        rw [if_pos hi2, e1 i hi2]
      · have : i = B.length := by omega
        rw [this]
        show (if B.length < B.length then _ else _ : Nat → Int) j = _
        rw [if_neg (Nat.lt_irrefl _), e2, hrow j hj]
    exact ⟨fun i hi => (sp.1 i hi).congr fun j hj => by rw [q i hi j hj, Int.sub_self]; exact Int.dvd_zero _, fun i hi => (sp.2 i hi).rows fun i hi j hj => (q i hi j hj).symm⟩
end
theorem foldl_zipIdx {σ : Type} (rows : List (List Int)) (step : σ → List Int × Nat → σ) (Q : Nat → σ → Prop) (s0 : σ) (h0 : Q 0 s0) (h : ∀ k s, k < rows.length → Q k s → Q (k + 1) (step s (rows.getD k [], k))) : Q rows.length (rows.zipIdx.foldl step s0) := by
  have go : ∀ (l : List (List Int)) (n : Nat) (s : σ), (∀ k, k < l.length → l.getD k [] = rows.getD (n + k) []) → n + l.length = rows.length → Q n s → Q rows.length ((l.zipIdx n).foldl step s) := by
    intro l
    induction l with
    | nil =>
      intro n s _ hn hs
      simp at hn
      rw [← hn]
      exact hs
    | cons r l ih =>
      intro n s hl hn hs
      rw [List.length_cons] at hn
      rw [List.zipIdx_cons, List.foldl_cons]
      refine ih (n + 1) _ (fun k hk => ?_) (by omega) ?_
      · have := hl (k + 1) (by rw [List.length_cons]; omega)
        rw [show n + 1 + k = n + (k + 1) by omega, ← this]
        rfl
      · have e : r = rows.getD n [] := hl 0 (by rw [List.length_cons]; omega)
        have := h n s (by omega) hs
        rw [← e] at this
        exact this
  exact go rows 0 s0 (fun k _ => by rw [Nat.zero_add]) (by omega) h0
theorem getD_len {rows : List (List Int)} {w k : Nat} (hr : ∀ r ∈ rows, r.length = w) (hk : k < rows.length) : (rows.getD k []).length = w := hr _ (getD_mem' hk)
theorem indL_due (w : Nat) (rows : List (List Int)) (hr : ∀ r ∈ rows, r.length = w) : indL rows = dueL w rows rows.length := by
  have := foldl_zipIdx rows stepI (fun k s => BasI w w rows k s.1 s.2) ([], []) (basI_0 (Nat.le_refl _) rows) fun k s hk hs => by
    have hl := getD_len hr hk
    obtain ⟨f, R⟩ := red_ok (rows.getD k []) hl s.1 hs.ok
    have hz := hs.zero R fun j _ => rfl
    unfold stepI
    dsimp only
    cases hp : pivF (redL (rows.getD k []) s.1) 0 with
    | none => exact hs.skip (hz.mp fun j _ => pivF_none hp j)
    | some p =>
      obtain ⟨_, h2, h3, _⟩ := pivF_some hp
      rw [Nat.sub_zero] at h3
      rw [R.len, Nat.zero_add] at h2
      have v := R.res _ (vz_mem (r := redL (rows.getD k []) s.1) (j := p) (by rw [R.len]; exact h2))
      exact hs.snoc R (fun j _ => rfl) h2 (res_ne v.1 v.2 h3) (Classical.byContradiction fun hn => h3 (hz.mpr hn p h2))
  exact this.due
end Mi
namespace Mi
open PySem L2
/-! ### relations: what the wide rows keep -/
/-- the row part is the sum of the rows by the other part -/
def Good (w n : Nat) (M : Mx) (u : Nat → Int) : Prop := ∀ j, j < w → (97 : Int) ∣ u j - sm n fun t => u (w + t) * M t j
section
variable {w n : Nat} {M : Mx} {u v : Nat → Int}
theorem Good.congr (h : Good w n M v) (e : ∀ j, j < w + n → (97 : Int) ∣ u j - v j) : Good w n M u := fun j hj => by
  have a := h j hj
  have b : (97 : Int) ∣ sm n fun t => (u (w + t) - v (w + t)) * M t j := sm_dvd fun t ht => Int.dvd_trans (e (w + t) (by omega)) (Int.dvd_mul_right _ _)
  have c : (sm n fun t => u (w + t) * M t j) = (sm n fun t => (u (w + t) - v (w + t)) * M t j) + sm n fun t => v (w + t) * M t j := by
    rw [← sm_add]
    exact sm_congr fun t ht => by grind
  have d := e j (by omega)
  rw [c]
  have := Int.dvd_sub (Int.dvd_add a d) b
  have q : v j - (sm n fun t => v (w + t) * M t j) + (u j - v j) - (sm n fun t => (u (w + t) - v (w + t)) * M t j) = u j - ((sm n fun t => (u (w + t) - v (w + t)) * M t j) + sm n fun t => v (w + t) * M t j) := by omega
  rwa [q] at this
theorem Good.zero : Good w n M fun _ => 0 := fun j hj => by
  have : (sm n fun t => (0 : Int) * M t j) = 0 := by
    rw [sm_congr (g := fun _ => 0) fun i hi => by simp, sm_zero]
  rw [this]
  exact Int.dvd_zero _
theorem Good.add (h : Good w n M u) (k : Good w n M v) : Good w n M fun j => u j + v j := fun j hj => by
  have := Int.dvd_add (h j hj) (k j hj)
  have c : (sm n fun t => (u (w + t) + v (w + t)) * M t j) = (sm n fun t => u (w + t) * M t j) + sm n fun t => v (w + t) * M t j := by
    rw [← sm_add]
    exact sm_congr fun t ht => by grind
  rw [c]
  have q : u j - (sm n fun t => u (w + t) * M t j) + (v j - sm n fun t => v (w + t) * M t j) = u j + v j - ((sm n fun t => u (w + t) * M t j) + sm n fun t => v (w + t) * M t j) := by omega
  rwa [q] at this
theorem Good.mul (x : Int) (h : Good w n M u) : Good w n M fun j => x * u j := fun j hj => by
  have := Int.dvd_trans (h j hj) (Int.dvd_mul_left x _)
  have c : (sm n fun t => x * u (w + t) * M t j) = x * sm n fun t => u (w + t) * M t j := by
    rw [← sm_mul]
    exact sm_congr fun t ht => by grind
  rw [c]
  rwa [Int.mul_sub] at this
theorem Good.cb (c : Nat → Int) (B : Mx) : ∀ m, (∀ i, i < m → Good w n M (B i)) → Good w n M (Mi.cb m c B)
  | 0, _ => (Good.zero (w := w) (n := n) (M := M)).congr fun j _ => by show (97 : Int) ∣ 0 - 0; exact Int.dvd_zero _
  | m + 1, h => (Good.cb c B m fun i hi => h i (by omega)).add ((h m (by omega)).mul (c m))
end
def wideL (row : List Int) (k n : Nat) : List Int := row ++ (List.range n).map fun t => if t = k then 1 else 0
theorem wide_len {row : List Int} {w k n : Nat} (h : row.length = w) : (wideL row k n).length = w + n := by simp [wideL, h]
theorem wide_lo {row : List Int} {k n j : Nat} (h : j < row.length) : vz (wideL row k n) j = vz row j := vz_app1 h
theorem wide_hi {row : List Int} {k n t : Nat} (ht : t < n) : vz (wideL row k n) (row.length + t) = if t = k then 1 else 0 := by
  unfold wideL
  rw [vz_app2 (by omega), Nat.add_sub_cancel_left, vz_lt (by simpa using ht)]
  simp
/-- how the wide basis stands -/
structure WidI (w n : Nat) (rows : List (List Int)) (k : Nat) (B : Bs) : Prop where
  bi : BasI (w + n) w rows k B (List.range k)
  good : ∀ i, i < B.length → Good w n (mx rows) (bmx B i)
  hi : ∀ i, i < B.length → ∀ t, i < t → t < n → (97 : Int) ∣ bmx B i (w + t)
structure RestOk (w n : Nat) (rows : List (List Int)) (k : Nat) (rest : List Int) : Prop where
  len : rest.length = w + n
  res : ∀ x ∈ rest, 0 ≤ x ∧ x < 97
  good : Good w n (mx rows) (vz rest)
  one : vz rest (w + k) = 1
  hi : ∀ t, k < t → t < n → vz rest (w + t) = 0
theorem WidI.rest {w n k : Nat} {rows : List (List Int)} {B : Bs} (h : WidI w n rows k B) (hn : rows.length = n) (hr : ∀ r ∈ rows, r.length = w) (hk : k < n) {f : Nat → Int} {rest : List Int} (R : RedOk (w + n) (wideL (rows.getD k []) k n) B f rest) : RestOk w n rows k rest := by
  have hl : (rows.getD k []).length = w := getD_len hr (by omega)
  have bl : B.length = k := by rw [h.bi.len, List.length_range]
  have hiE : ∀ t, k ≤ t → t < n → (97 : Int) ∣ vz rest (w + t) - (if t = k then 1 else 0) := fun t h1 h2 => by
    have a := R.eq (w + t) (by omega)
    have e := wide_hi (row := rows.getD k []) (k := k) h2
    rw [hl] at e
    rw [e] at a
    have b : (97 : Int) ∣ cb B.length f (bmx B) (w + t) := sm_dvd fun i hi => Int.dvd_trans (h.hi i hi t (by omega) h2) (Int.dvd_mul_left _ _)
    have := Int.dvd_sub a b
    have q : vz rest (w + t) - ((if t = k then 1 else 0) - cb B.length f (bmx B) (w + t)) - cb B.length f (bmx B) (w + t) = vz rest (w + t) - (if t = k then 1 else 0) := by omega
    rwa [q] at this
  have rs : ∀ j, j < w + n → 0 ≤ vz rest j ∧ vz rest j < 97 := fun j hj => R.res _ (vz_mem (by rw [R.len]; exact hj))
  refine ⟨R.len, R.res, ?_, ?_, fun t h1 h2 => ?_⟩
  · have gw : Good w n (mx rows) (vz (wideL (rows.getD k []) k n)) := fun j hj => by
      rw [wide_lo (by omega)]
      have e : (sm n fun t => vz (wideL (rows.getD k []) k n) (w + t) * mx rows t j) = vz (rows.getD k []) j := by
        rw [sm_congr (g := fun t => if t = k then vz (rows.getD k []) j else 0) fun t ht => ?_, sm_set hk, sm_zero]
        · omega
        · have e := wide_hi (row := rows.getD k []) (k := k) ht
          rw [hl] at e
          rw [e]
          by_cases c : t = k
          · rw [if_pos c, if_pos c, Int.one_mul, c]
            rfl
          · rw [if_neg c, if_neg c, Int.zero_mul]
      rw [e, Int.sub_self]
      exact Int.dvd_zero _
    refine (gw.add ((Good.cb f (bmx B) B.length h.good).mul (-1))).congr fun j hj => ?_
    have := R.eq j hj
    have q : vz (wideL (rows.getD k []) k n) j - cb B.length f (bmx B) j = vz (wideL (rows.getD k []) k n) j + -1 * cb B.length f (bmx B) j := by omega
    rwa [q] at this
  · have a := hiE k (Nat.le_refl _) hk
    rw [if_pos rfl] at a
    have := rs (w + k) (by omega)
    obtain ⟨z, hz⟩ := a
    omega
  · have a := hiE t (by omega) h2
    rw [if_neg (by omega), Int.sub_zero] at a
    have := rs (w + t) (by omega)
    exact dvd_zero_res this.1 this.2 a
theorem WidI.snoc {w n k p : Nat} {rows : List (List Int)} {B : Bs} (h : WidI w n rows k B) (hn : rows.length = n) (hr : ∀ r ∈ rows, r.length = w) (hk : k < n) {f : Nat → Int} (R : RedOk (w + n) (wideL (rows.getD k []) k n) B f (redL (wideL (rows.getD k []) k n) B)) (hp : p < w) (hz : vz (redL (wideL (rows.getD k []) k n) B) p ≠ 0) :
    WidI w n rows (k + 1) (B ++ [nrow (redL (wideL (rows.getD k []) k n) B) p]) := by
  have hl : (rows.getD k []).length = w := getD_len hr (by omega)
  have T := h.rest hn hr hk R
  have hrow : ∀ j, j < w → vz (wideL (rows.getD k []) k n) j = vz (rows.getD k []) j := fun j hj => wide_lo (by omega)
  have ind : Ind w ((dueL w rows k).length + 1) (mx (sel rows (dueL w rows k ++ [k]))) := Classical.byContradiction fun hn => hz ((h.bi.zero R hrow).mpr hn p hp)
  have bl : B.length = k := by rw [h.bi.len, List.length_range]
  generalize redL (wideL (rows.getD k []) k n) B = rest at R hz T
  have v := R.res _ (vz_mem (r := rest) (j := p) (by rw [R.len]; omega))
  have bi := h.bi.snoc R hrow hp (res_ne v.1 v.2 hz) ind
  refine ⟨by rw [List.range_succ]; exact bi, fun i hi => ?_, fun i hi t h1 h2 => ?_⟩
  · by_cases hi2 : i < B.length
    · rw [bmx_app hi2]
      exact h.good i hi2
    · have : i = B.length := by rw [List.length_append] at hi; simp at hi; omega
      rw [this, bmx_snoc]
      refine (T.good.mul (inv97 (vz rest p))).congr fun j hj => ?_
      show (97 : Int) ∣ vz (rest.map fun a => inv97 (vz rest p) * a % 97) j - _
      rw [vz_map (g := fun a => inv97 (vz rest p) * a % 97) (by rw [R.len]; exact hj)]
      exact mod_dvd _
  · by_cases hi2 : i < B.length
    · rw [bmx_app hi2]
      exact h.hi i hi2 t h1 h2
    · have : i = B.length := by rw [List.length_append] at hi; simp at hi; omega
      rw [this, bmx_snoc]
      show (97 : Int) ∣ vz (rest.map fun a => inv97 (vz rest p) * a % 97) (w + t)
      rw [vz_map (g := fun a => inv97 (vz rest p) * a % 97) (by rw [R.len]; omega), T.hi t (by omega) h2, Int.mul_zero]
      exact Int.dvd_zero _
/-- what relation says -/
structure RelOk (w : Nat) (rows : List (List Int)) (k : Nat) (told : List Int) : Prop where
  lt : k < rows.length
  due : dueL w rows k = List.range k
  dep : ¬ Ind w ((dueL w rows k).length + 1) (mx (sel rows (dueL w rows k ++ [k])))
  len : told.length = rows.length
  res : ∀ x ∈ told, 0 ≤ x ∧ x < 97
  one : vz told k = 1
  hi : ∀ t, k < t → t < rows.length → vz told t = 0
  sum : ∀ j, j < w → (97 : Int) ∣ sm rows.length fun t => vz told t * mx rows t j
theorem vz_drop {r : List Int} {w t : Nat} : vz (r.drop w) t = vz r (w + t) := by
  unfold vz
  rw [List.getD_eq_getElem?_getD, List.getElem?_drop, ← List.getD_eq_getElem?_getD]
theorem WidI.rel {w n k : Nat} {rows : List (List Int)} {B : Bs} (h : WidI w n rows k B) (hn : rows.length = n) (hr : ∀ r ∈ rows, r.length = w) (hk : k < n) {f : Nat → Int} (R : RedOk (w + n) (wideL (rows.getD k []) k n) B f (redL (wideL (rows.getD k []) k n) B)) (hz : ∀ j, j < w → vz (redL (wideL (rows.getD k []) k n) B) j = 0) :
    RelOk w rows k ((redL (wideL (rows.getD k []) k n) B).drop w) := by
  have hl : (rows.getD k []).length = w := getD_len hr (by omega)
  have T := h.rest hn hr hk R
  have hrow : ∀ j, j < w → vz (wideL (rows.getD k []) k n) j = vz (rows.getD k []) j := fun j hj => wide_lo (by omega)
  have dep := (h.bi.zero R hrow).mp hz
  generalize redL (wideL (rows.getD k []) k n) B = rest at R hz T
  refine ⟨by omega, h.bi.due.symm, dep, by rw [List.length_drop, T.len, hn]; omega, fun x hx => T.res x (List.mem_of_mem_drop hx), by rw [vz_drop]; exact T.one, fun t h1 h2 => by rw [vz_drop]; exact T.hi t h1 (by omega), fun j hj => ?_⟩
  have a := T.good j hj
  rw [hz j hj, Int.zero_sub] at a
  rw [hn, sm_congr (g := fun t => vz rest (w + t) * mx rows t j) fun t _ => by rw [vz_drop]]
  exact (Int.dvd_neg).mp a
end Mi
namespace Mi
open PySem L2
/-! ### relation -/
def relBody (r0 P I : Nat) : List S := [.asg (.nm 5) (.bin .add (.bi .list [.peek 4]) (.comp (.bi .int [.cmp .eq (.peek 9) (.peek 3)]) (.nm 9) (.rng none (.peek 1) none) [] [9])), .asg (.nm 6) (.call true r0 [.peek 5, .peek 2]), .asg (.nm 7) (.call false P [.peek 6]), .ife (.cmp .ge (.peek 7) (.bi .len [.peek 4])) [.ret (.sl (.peek 6) (some (.bi .len [.peek 4])) none)] [], .asg (.nm 8) (.call false I [.idx (.peek 6) (.peek 7)]), .app 2 (.tup [.var 7, .comp (.bin .mod (.bin .mul (.peek 8) (.peek 10)) (.cst (.int 97))) (.nm 10) (.peek 6) [] [10]])]
def relationB (r0 P I : Nat) : Body := ⟨11, true, [.asg (.nm 1) (.bi .len [.peek 0]), .asg (.nm 2) (.lst []), .fr (.tup [.nm 3, .nm 4]) (.enum (.peek 0)) (relBody r0 P I), .ret (.cst .non)], none⟩
def relD : Option (List Int) → D
  | none => .non
  | some r => rowD r
theorem cut_from {α : Type} (f : α → D) (l : List α) (w : Nat) (h : w ≤ l.length) : cutD (l.map f) (some (w : Int)) none = (l.drop w).map f := by
  unfold cutD
  rw [HT.sIx_nat, HT.sIx_none, List.length_map, Nat.min_eq_left h, List.map_drop, List.take_of_length_le (by rw [List.length_drop, List.length_map]; omega)]
theorem relation_run {Γ : Glob} {r0 P I : Nat} (hc : CallOk Γ r0 P I) (rows : List (List Int)) (w : Nat) (hr : ∀ r ∈ rows, r.length = w) (hn : w + rows.length ≤ 100000) {L : Slot} (h : Sn (rowsD rows) L) :
    ∃ t, runB Γ (relationB r0 P I) [L] = .ok (relD t) ∧ match t with
      | none => dueL w rows rows.length = List.range rows.length
      | some told => ∃ k, RelOk w rows k told := by
  obtain ⟨⟨Γr, cr⟩, ⟨Γp, cp⟩, ci⟩ := hc
  obtain ⟨n, en⟩ : ∃ n, rows.length = n := ⟨_, rfl⟩
  let St : Bs → Env := fun B => [L, .frz (.int (n : Int)), .own (basD B), .un, .un, .un, .un, .un, .un, .un, .un]
  have lp : ∀ (l : List (List Int)) (k : Nat) (B : Bs), (∀ i, i < l.length → l.getD i [] = rows.getD (k + i) []) → k + l.length = n → WidI w n rows k B →
      (∃ B', evFor (evSs Γ (relBody r0 P I)) (bindT (.tup [.nm 3, .nm 4])) (St []) (enumL k (l.map rowD)) (St B) = .nx (St B') ∧ dueL w rows n = List.range n) ∨ (∃ told k', evFor (evSs Γ (relBody r0 P I)) (bindT (.tup [.nm 3, .nm 4])) (St []) (enumL k (l.map rowD)) (St B) = .ret (rowD told) true ∧ RelOk w rows k' told) := by
    intro l
    induction l with
    | nil =>
      intro k B _ hk hB
      simp at hk
      refine .inl ⟨B, rfl, ?_⟩
      rw [← hk]
      exact hB.bi.due.symm
    | cons row l ih =>
      intro k B hl hk hB
      rw [List.length_cons] at hk
      have e0 : row = rows.getD k [] := hl 0 (by rw [List.length_cons]; omega)
      have hkn : k < n := by omega
      have hlen : row.length = w := by rw [e0]; exact getD_len hr (by omega)
      have wl := wide_len (k := k) (n := n) hlen
      have hBl : ∀ p ∈ B, p.2.length = (wideL row k n).length ∧ p.1 < (wideL row k n).length := fun p hp => by
        rw [wl]
        exact ⟨hB.bi.ok.len p hp, by have := hB.bi.ok.pv p hp; omega⟩
      obtain ⟨f, Rd⟩ := red_ok (wideL row k n) wl B hB.bi.ok
      have bl : B.length = k := by rw [hB.bi.len, List.length_range]
      rw [List.map_cons, enumL]
      have c1 : evE Γ (.bin .add (.bi .list [.peek 4]) (.comp (.bi .int [.cmp .eq (.peek 9) (.peek 3)]) (.nm 9) (.rng none (.peek 1) none) [] [9])) [L, .frz (.int (n : Int)), .own (basD B), .frz (.int (k : Int)), .frz (rowD row), .un, .un, .un, .un, .un, .un] = .ok (rowD (wideL row k n)) := by
        have cm : evE Γ (.comp (.bi .int [.cmp .eq (.peek 9) (.peek 3)]) (.nm 9) (.rng none (.peek 1) none) [] [9]) [L, .frz (.int (n : Int)), .own (basD B), .frz (.int (k : Int)), .frz (rowD row), .un, .un, .un, .un, .un, .un] = .ok (rowD ((List.range n).map fun t => if t = k then 1 else 0)) := by
          refine (comp_m (f := fun (t : Nat) => D.int (t : Int)) (g := fun (t : Nat) => D.int (if t = k then 1 else 0)) (List.range n) ?_ (by rw [List.length_range]; omega) ?_).trans ?_
          · exact rng0 (a := .peek 1) rfl (by omega)
          · intro t _
            have q : evE Γ (.cmp .eq (.peek 9) (.peek 3)) [L, .frz (.int (n : Int)), .own (basD B), .frz (.int (k : Int)), .frz (rowD row), .un, .un, .un, .un, .frz (.int (t : Int)), .un] = .ok (.bl (decide ((t : Int) = (k : Int)))) := eq_int _ _
            show ((R.bind (evE Γ (.cmp .eq (.peek 9) (.peek 3)) [L, .frz (.int (n : Int)), .own (basD B), .frz (.int (k : Int)), .frz (rowD row), .un, .un, .un, .un, .frz (.int (t : Int)), .un]) fun x => (R.ok []).map (x :: ·)).bind fun ds => biD .int ds) = _
            rw [q]
            by_cases e : t = k
            · rw [e, if_pos rfl, decide_eq_true rfl]
              rfl
            · rw [if_neg e, decide_eq_false (by omega)]
              rfl
          · rw [rowD, List.map_map]
            rfl
        show (R.bind (R.ok (rowD row)) fun x => (evE Γ (.comp (.bi .int [.cmp .eq (.peek 9) (.peek 3)]) (.nm 9) (.rng none (.peek 1) none) [] [9]) _).bind fun y => addD x y) = _
        rw [cm, b_ok, b_ok, rowD, rowD, add_lst (by simp; omega)]
        unfold wideL rowD
        rw [List.map_append]
      have c2 : evE Γ (.call true r0 [.peek 5, .peek 2]) [L, .frz (.int (n : Int)), .own (basD B), .frz (.int (k : Int)), .frz (rowD row), .own (rowD (wideL row k n)), .un, .un, .un, .un, .un] = .ok (rowD (redL (wideL row k n) B)) := by
        show (R.ok ([.bor (rowD (wideL row k n)), .bor (basD B)] : List Slot)).bind (fun as => Γ.call r0 as) = _
        rw [b_ok, cr, reduced_run Γr (wideL row k n) B (.b _) (.b _) (by omega) hBl]
      have T := fun (z : ∀ j, j < w → vz (redL (wideL (rows.getD k []) k n) B) j = 0) (Rd : RedOk (w + n) (wideL (rows.getD k []) k n) B f (redL (wideL (rows.getD k []) k n) B)) => hB.rel en hr hkn Rd z
      have Sn := fun (p : Nat) (hp : p < w) (z : vz (redL (wideL (rows.getD k []) k n) B) p ≠ 0) (Rd : RedOk (w + n) (wideL (rows.getD k []) k n) B f (redL (wideL (rows.getD k []) k n) B)) => hB.snoc en hr hkn Rd hp z
      have one := fun (Rd : RedOk (w + n) (wideL (rows.getD k []) k n) B f (redL (wideL (rows.getD k []) k n) B)) => (hB.rest en hr hkn Rd).one
      rw [← e0] at T Sn one
      have one := one Rd
      have T := fun z => T z Rd
      have Sn := fun p hp z => Sn p hp z Rd
      generalize hrest : redL (wideL row k n) B = rest at c2 Rd T Sn one
      have c3 : evE Γ (.call false P [.peek 6]) [L, .frz (.int (n : Int)), .own (basD B), .frz (.int (k : Int)), .frz (rowD row), .own (rowD (wideL row k n)), .own (rowD rest), .un, .un, .un, .un] = .ok (.int (pivZ rest)) := by
        show (R.ok ([.bor (rowD rest)] : List Slot)).bind (fun as => Γ.call P as) = _
        rw [b_ok, cp, pivot_run Γp rest (.b _)]
      have ln : ∀ (a b c d e : Slot), evE Γ (.bi .len [.peek 4]) [L, .frz (.int (n : Int)), .own (basD B), .frz (.int (k : Int)), .frz (rowD row), .own (rowD (wideL row k n)), a, b, c, d, e] = .ok (.int (w : Int)) := fun a b c d e => by
        show R.ok (D.int ((row.map D.int).length : Int)) = _
        rw [List.length_map, hlen]
      have c4 : ∀ q : Int, evE Γ (.cmp .ge (.peek 7) (.bi .len [.peek 4])) [L, .frz (.int (n : Int)), .own (basD B), .frz (.int (k : Int)), .frz (rowD row), .own (rowD (wideL row k n)), .own (rowD rest), .frz (.int q), .un, .un, .un] = .ok (.bl (decide ((w : Int) ≤ q))) := fun q => by
        show (R.bind (R.ok (D.int q)) fun x => (evE Γ (.bi .len [.peek 4]) _).bind fun y => geD x y) = _
        rw [ln]
        rfl
      cases hp : pivF rest 0 with
      | none =>
        have := pivF_none hp (w + k)
        omega
      | some p =>
        obtain ⟨_, p2, p3, p4⟩ := pivF_some hp
        rw [Nat.sub_zero] at p3 p4
        rw [Rd.len, Nat.zero_add] at p2
        have ep : pivZ rest = (p : Int) := by unfold pivZ; rw [hp]
        rw [ep] at c3
        by_cases hpw : w ≤ p
        · refine .inr ⟨rest.drop w, k, ?_, T fun j hj => p4 j (by omega)⟩
          refine ef_ret (e1 := [L, .frz (.int (n : Int)), .own (basD B), .frz (.int (k : Int)), .frz (rowD row), .un, .un, .un, .un, .un, .un]) rfl ?_
          refine ess_asg c1 rfl (ess_asg c2 rfl (ess_asg c3 rfl (ess_if_ret (c4 p) ?_)))
          rw [decide_eq_true (show (w : Int) ≤ (p : Int) by omega)]
          have c7 : evE Γ (.sl (.peek 6) (some (.bi .len [.peek 4])) none) [L, .frz (.int (n : Int)), .own (basD B), .frz (.int (k : Int)), .frz (rowD row), .own (rowD (wideL row k n)), .own (rowD rest), .frz (.int (p : Int)), .un, .un, .un] = .ok (rowD (rest.drop w)) := by
            rw [ev_sl, evo_some, ln, evo_none]
            show R.ok (D.lst (cutD (rest.map D.int) (some (w : Int)) none)) = _
            rw [cut_from _ _ _ (by rw [Rd.len]; omega)]
            rfl
          exact ess_ret c7
        · have hpw : p < w := by omega
          have vr := Rd.res _ (vz_mem (r := rest) (j := p) (by rw [Rd.len]; omega))
          have hne := res_ne vr.1 vr.2 p3
          have c5 : evE Γ (.call false I [.idx (.peek 6) (.peek 7)]) [L, .frz (.int (n : Int)), .own (basD B), .frz (.int (k : Int)), .frz (rowD row), .own (rowD (wideL row k n)), .own (rowD rest), .frz (.int (p : Int)), .un, .un, .un] = .ok (.int (inv97 (vz rest p))) := by
            show ((R.bind (idxD (rowD rest) (.int (p : Int))) fun d => R.ok [lend _ d _])).bind (fun as => Γ.call I as) = _
            rw [idx_row (by rw [Rd.len]; omega), b_ok, b_ok]
            exact ci _ hne
          have nx := Sn p hpw p3
          have vi := inv_ok hne
          have enr : nrow rest p = (p, rest.map fun a => inv97 (vz rest p) * a % 97) := rfl
          generalize inv97 (vz rest p) = v at c5 vi enr
          have c6 : evE Γ (.tup [.var 7, .comp (.bin .mod (.bin .mul (.peek 8) (.peek 10)) (.cst (.int 97))) (.nm 10) (.peek 6) [] [10]]) [L, .frz (.int (n : Int)), .own (basD B), .frz (.int (k : Int)), .frz (rowD row), .own (rowD (wideL row k n)), .own (rowD rest), .frz (.int (p : Int)), .frz (.int v), .un, .un] = .ok (bD (nrow rest p)) := by
            have cm : evE Γ (.comp (.bin .mod (.bin .mul (.peek 8) (.peek 10)) (.cst (.int 97))) (.nm 10) (.peek 6) [] [10]) [L, .frz (.int (n : Int)), .own (basD B), .frz (.int (k : Int)), .frz (rowD row), .own (rowD (wideL row k n)), .own (rowD rest), .frz (.int (p : Int)), .frz (.int v), .un, .un] = .ok (rowD (rest.map fun a => v * a % 97)) := by
              refine (comp_m (f := D.int) (g := fun a => .int (v * a % 97)) rest rfl (by rw [Rd.len]; omega) ?_).trans ?_
              · intro a _
                show ((mulD (.int v) (.int a)).bind fun z => modD z (.int 97)) = _
                rw [mul_l (by omega), b_ok, mod_int (by decide)]
              · rw [rowD, List.map_map]
                rfl
            rw [enr]
            show ((R.ok (D.int (p : Int))).bind fun x => ((evE Γ _ _).bind fun y => (R.ok []).map (y :: ·)).map (x :: ·)).map D.tup = _
            rw [cm]
            rfl
          have step : evSs Γ (relBody r0 P I) [L, .frz (.int (n : Int)), .own (basD B), .frz (.int (k : Int)), .frz (rowD row), .un, .un, .un, .un, .un, .un] = .nx [L, .frz (.int (n : Int)), .own (basD (B ++ [nrow rest p])), .frz (.int (k : Int)), .frz (rowD row), .own (rowD (wideL row k n)), .own (rowD rest), .frz (.int (p : Int)), .frz (.int v), .un, .un] := by
            refine ess_asg c1 rfl (ess_asg c2 rfl (ess_asg c3 rfl (ess_if (c4 p) (e1 := [L, .frz (.int (n : Int)), .own (basD B), .frz (.int (k : Int)), .frz (rowD row), .own (rowD (wideL row k n)), .own (rowD rest), .frz (.int (p : Int)), .un, .un, .un]) ?_ (ess_asg c5 rfl (ess_app rfl c6 ?_ ?_ rfl)))))
            · rw [decide_eq_false (show ¬ (w : Int) ≤ (p : Int) by omega)]
              rfl
            · rw [List.length_map, bl]
              omega
            · show _ = [_, _, Slot.own (.lst ((B ++ [nrow rest p]).map bD)), _, _, _, _, _, _, _, _]
              rw [List.map_append]
              rfl
          have mk : mask (St []) [L, .frz (.int (n : Int)), .own (basD (B ++ [nrow rest p])), .frz (.int (k : Int)), .frz (rowD row), .own (rowD (wideL row k n)), .own (rowD rest), .frz (.int (p : Int)), .frz (.int v), .un, .un] = St (B ++ [nrow rest p]) := by
            show mask (L :: _) (L :: _) = _
            rw [h.mk]
            rfl
          have hl' : ∀ i, i < l.length → l.getD i [] = rows.getD (k + 1 + i) [] := fun i hi => by
            have := hl (i + 1) (by rw [List.length_cons]; omega)
            rw [show k + 1 + i = k + (i + 1) by omega, ← this]
            rfl
          rcases ih (k + 1) (B ++ [nrow rest p]) hl' (by omega) nx with ⟨B', e1, e2⟩ | ⟨told, k', e1, e2⟩
          · exact .inl ⟨B', ef_nx (e1 := [L, .frz (.int (n : Int)), .own (basD B), .frz (.int (k : Int)), .frz (rowD row), .un, .un, .un, .un, .un, .un]) rfl step mk e1, e2⟩
          · exact .inr ⟨told, k', ef_nx (e1 := [L, .frz (.int (n : Int)), .own (basD B), .frz (.int (k : Int)), .frz (rowD row), .un, .un, .un, .un, .un, .un]) rfl step mk e1, e2⟩
  have start : WidI w n rows 0 [] := ⟨basI_0 (by omega) rows, fun i hi => by simp at hi, fun i hi => by simp at hi⟩
  have it : (evE Γ (.enum (.peek 0)) (St [])).bind items = .ok (enumL 0 (rows.map rowD)) := by
    show ((L.val.bind enumD).bind items) = _
    rw [h.val]
    rfl
  have ln0 : evE Γ (.bi .len [.peek 0]) [L, .un, .un, .un, .un, .un, .un, .un, .un, .un, .un] = .ok (.int (n : Int)) := by
    show (R.bind (R.bind L.val fun x => (R.ok []).map (x :: ·)) fun ds => biD .len ds) = _
    rw [h.val]
    show R.ok (D.int ((rows.map rowD).length : Int)) = _
    rw [List.length_map, en]
  have lk : onAll lock (pks (.enum (.peek 0))) (St []) = St [] := by
    show [lock L, _, _, _, _, _, _, _, _, _, _] = _
    rw [h.lk]
  rcases lp rows 0 [] (fun i _ => by rw [Nat.zero_add]) (by omega) start with ⟨B', e1, e2⟩ | ⟨told, k, e1, e2⟩
  · refine ⟨none, run_ret (env := [L, .un, .un, .un, .un, .un, .un, .un, .un, .un, .un]) (own := false) rfl ?_ rfl, by rw [en]; exact e2⟩
    exact ess_asg ln0 rfl (ess_asg (d := .lst []) (e1 := St []) rfl rfl (ess_for it lk e1 rfl (ess_ret (d := .non) rfl)))
  · refine ⟨some told, run_ret (env := [L, .un, .un, .un, .un, .un, .un, .un, .un, .un, .un]) (own := true) rfl ?_ rfl, k, e2⟩
    exact ess_asg ln0 rfl (ess_asg (d := .lst []) (e1 := St []) rfl rfl (ess_rt (es_for_ret it lk e1)))
end Mi
namespace Mi
open PySem L2
/-! ### _law_count_free -/
def cntIn1 : List S := [.ife (.and (.cmp .lt (.peek 5) (.cst (.int 0))) (.cmp .ne (.bin .mod (.bi .int [.idx (.idx (.peek 2) (.peek 6)) (.peek 4)]) (.cst (.int 97))) (.cst (.int 0)))) [.asg (.nm 5) (.var 6)] []]
def cntIn2 : List S := [.asg (.nm 9) (.idx (.idx (.peek 2) (.peek 6)) (.peek 4)), .setIt 2 (.peek 6) (.comp (.bin .mod (.bin .sub (.bin .mul (.idx (.peek 8) (.peek 4)) (.idx (.idx (.peek 2) (.peek 6)) (.peek 10))) (.bin .mul (.peek 9) (.idx (.peek 8) (.peek 10)))) (.cst (.int 97))) (.nm 10) (.rng none (.peek 1) none) [] [10])]
def cntTurn : List S := [.asg (.nm 5) (.neg (.cst (.int 1))), .fr (.nm 6) (.rng (some (.peek 3)) (.bi .len [.peek 2]) none) cntIn1, .ife (.cmp .ge (.peek 5) (.cst (.int 0))) [.asg (.nm 8) (.idx (.peek 2) (.peek 5)), .setIt 2 (.peek 5) (.idx (.peek 2) (.peek 3)), .setIt 2 (.peek 3) (.var 8), .fr (.nm 6) (.rng (some (.bin .add (.peek 3) (.cst (.int 1)))) (.bi .len [.peek 2]) none) cntIn2, .asg (.nm 3) (.bin .add (.peek 3) (.cst (.int 1)))] []]
def countB : Body := ⟨11, false, [.asg (.nm 2) (.comp (.bi .list [.peek 7]) (.nm 7) (.peek 0) [] [7]), .asg (.nm 3) (.cst (.int 0)), .fr (.nm 4) (.rng none (.peek 1) none) cntTurn, .retv 3], none⟩
def Bnd (x : Int) : Prop := x.natAbs < 2 ^ 1000
theorem bnd_res {x : Int} (h0 : 0 ≤ x) (h1 : x < 97) : Bnd x := by
  unfold Bnd
  have : x.natAbs < 97 := by omega
  exact Nat.lt_trans this (by decide +kernel)
theorem mul_bnd {i j : Int} (hi : Bnd i) (hj : Bnd j) : mulD (.int i) (.int j) = .ok (.int (i * j)) := by
  have lg : ∀ x : Int, Bnd x → x.natAbs.log2 ≤ 1000 := fun x hx => by
    by_cases h : x.natAbs = 0
    · rw [h]
      decide
    · exact Nat.le_of_lt ((Nat.log2_lt h).mpr hx)
  have a := lg i hi
  have b := lg j hj
  unfold mulD fitMul
  dsimp only
  rw [show (decide (i.natAbs.log2 + j.natAbs.log2 < 1000000)) = true from decide_eq_true (by omega), Bool.or_true]
  rfl
theorem mx_set {l : List (List Int)} {a : Nat} {x : List Int} (h : a < l.length) : mx (l.set a x) = fun i => if i = a then vz x else mx l i := by
  funext i
  unfold mx
  rw [List.getD_eq_getElem?_getD]
  by_cases e : i = a
  · rw [if_pos e, e, List.getElem?_set_self h]
    rfl
  · rw [if_neg e, List.getElem?_set_ne (fun z => e z.symm), ← List.getD_eq_getElem?_getD]
theorem set_rows {l : List (List Int)} {k : Nat} {x : List Int} (h : k < l.length) : setD (l.map rowD) (k : Int) (rowD x) = .ok ((l.set k x).map rowD) := by
  unfold setD
  have : L2.ixN (l.map rowD).length (k : Int) = some k := by
    unfold L2.ixN
    rw [List.length_map]
    simp [h]
  rw [this]
  show R.ok _ = _
  rw [List.map_set]
structure MatOk (n w : Nat) (M : List (List Int)) : Prop where
  len : M.length = n
  row : ∀ r ∈ M, r.length = w
  bnd : ∀ r ∈ M, ∀ x ∈ r, Bnd x
theorem MatOk.set {n w k : Nat} {M : List (List Int)} {x : List Int} (h : MatOk n w M) (hx : x.length = w) (hb : ∀ y ∈ x, Bnd y) : MatOk n w (M.set k x) := by
  refine ⟨by rw [List.length_set]; exact h.len, fun r hr => ?_, fun r hr => ?_⟩
  · rcases List.mem_or_eq_of_mem_set hr with hr | hr
    · exact h.row r hr
    · rw [hr]; exact hx
  · rcases List.mem_or_eq_of_mem_set hr with hr | hr
    · exact h.bnd r hr
    · rw [hr]; exact hb
theorem MatOk.at_ {n w k : Nat} {M : List (List Int)} (h : MatOk n w M) (hk : k < n) : M.getD k [] ∈ M := getD_mem' (by rw [h.len]; exact hk)
section
variable {n w : Nat}
/-- the first row with something in the column -/
theorem cnt_find {Γ : Glob} {L : Slot} {M : List (List Int)} (hM : MatOk n w M) (h : Sn D.non L ∨ True) (d col : Nat) (hd : d ≤ n) (hc : col < w) (hn : n < 100000) (e0 : Env) (he : ∀ (a : Int) (k : D), mask e0 [L, .frz (.int (w : Int)), .own (rowsD M), .frz (.int (d : Int)), .frz (.int (col : Int)), .frz (.int a), .frz k, .un, .un, .un, .un] = [L, .frz (.int (w : Int)), .own (rowsD M), .frz (.int (d : Int)), .frz (.int (col : Int)), .frz (.int a), .un, .un, .un, .un, .un]) :
    ∃ a : Int, ((a = -1 ∧ ∀ t, d ≤ t → t < n → (97 : Int) ∣ mx M t col) ∨ ∃ t : Nat, d ≤ t ∧ t < n ∧ a = (t : Int) ∧ ¬ (97 : Int) ∣ mx M t col) ∧
      evFor (evSs Γ cntIn1) (bindT (.nm 6)) e0 ((List.range (n - d)).map fun (k : Nat) => D.int ((d + k : Nat) : Int)) [L, .frz (.int (w : Int)), .own (rowsD M), .frz (.int (d : Int)), .frz (.int (col : Int)), .frz (.int (-1)), .un, .un, .un, .un, .un] =
        .nx [L, .frz (.int (w : Int)), .own (rowsD M), .frz (.int (d : Int)), .frz (.int (col : Int)), .frz (.int a), .un, .un, .un, .un, .un] := by
  let St : Int → Env := fun a => [L, .frz (.int (w : Int)), .own (rowsD M), .frz (.int (d : Int)), .frz (.int (col : Int)), .frz (.int a), .un, .un, .un, .un, .un]
  have go : ∀ (l : List Nat) (i : Nat) (a : Int), (∀ j, j < l.length → l[j]? = some (i + j)) → d + i + l.length = n → ((a = -1 ∧ ∀ t, d ≤ t → t < d + i → (97 : Int) ∣ mx M t col) ∨ ∃ t : Nat, d ≤ t ∧ t < d + i ∧ a = (t : Int) ∧ ¬ (97 : Int) ∣ mx M t col) →
      ∃ a' : Int, ((a' = -1 ∧ ∀ t, d ≤ t → t < n → (97 : Int) ∣ mx M t col) ∨ ∃ t : Nat, d ≤ t ∧ t < n ∧ a' = (t : Int) ∧ ¬ (97 : Int) ∣ mx M t col) ∧ evFor (evSs Γ cntIn1) (bindT (.nm 6)) e0 (l.map fun (k : Nat) => D.int ((d + k : Nat) : Int)) (St a) = .nx (St a') := by
    intro l
    induction l with
    | nil =>
      intro i a _ hl hp
      have : d + i = n := by simpa using hl
      rw [this] at hp
      exact ⟨a, hp, rfl⟩
    | cons k l ih =>
      intro i a hk hl hp
      rw [List.length_cons] at hl
      have ek : k = i := by simpa using hk 0 (by simp)
      subst ek
      have hkn : d + k < n := by omega
      have rw_ : (M.getD (d + k) []).length = w := hM.row _ (hM.at_ hkn)
      have c : evE Γ (.and (.cmp .lt (.peek 5) (.cst (.int 0))) (.cmp .ne (.bin .mod (.bi .int [.idx (.idx (.peek 2) (.peek 6)) (.peek 4)]) (.cst (.int 97))) (.cst (.int 0)))) [L, .frz (.int (w : Int)), .own (rowsD M), .frz (.int (d : Int)), .frz (.int (col : Int)), .frz (.int a), .frz (.int ((d + k : Nat) : Int)), .un, .un, .un, .un] = .ok (.bl (decide (a < 0) && decide (mx M (d + k) col % 97 ≠ 0))) := by
        have x1 : evE Γ (.idx (.idx (.peek 2) (.peek 6)) (.peek 4)) [L, .frz (.int (w : Int)), .own (rowsD M), .frz (.int (d : Int)), .frz (.int (col : Int)), .frz (.int a), .frz (.int ((d + k : Nat) : Int)), .un, .un, .un, .un] = .ok (.int (mx M (d + k) col)) := by
          show (R.bind (R.bind (R.ok (rowsD M)) fun x => idxD x (.int ((d + k : Nat) : Int))) fun x => idxD x (.int (col : Int))) = _
          rw [b_ok, idx_rows (by rw [hM.len]; exact hkn), b_ok, idx_row (by omega)]
          rfl
        have x2 : evE Γ (.cmp .ne (.bin .mod (.bi .int [.idx (.idx (.peek 2) (.peek 6)) (.peek 4)]) (.cst (.int 97))) (.cst (.int 0))) [L, .frz (.int (w : Int)), .own (rowsD M), .frz (.int (d : Int)), .frz (.int (col : Int)), .frz (.int a), .frz (.int ((d + k : Nat) : Int)), .un, .un, .un, .un] = .ok (.bl (decide (mx M (d + k) col % 97 ≠ 0))) := by
          rw [ev_cmp, ev_bin, ev_bi, evs_cons, x1, b_ok, evs_nil, m_ok, b_ok]
          show (R.bind (R.bind (R.ok (D.int (mx M (d + k) col))) fun x => modD x (.int 97)) fun x => neR x (.int 0)) = _
          rw [b_ok, mod_int (by decide), b_ok]
          exact ne_int _ _
        show (R.bind (R.ok (D.bl (decide (a < 0)))) fun x => _) = _
        cases decide (a < 0) with
        | true => exact x2
        | false => rfl
      have hk' : ∀ j, j < l.length → l[j]? = some (k + 1 + j) := fun j hj => by
        have := hk (j + 1) (by rw [List.length_cons]; omega)
        rw [List.getElem?_cons_succ] at this
        rw [this]
        exact congrArg some (by omega)
      rw [List.map_cons]
      by_cases hh : a < 0 ∧ mx M (d + k) col % 97 ≠ 0
      · rw [decide_eq_true hh.1, decide_eq_true hh.2] at c
        obtain ⟨a', p1, p2⟩ := ih (k + 1) ((d + k : Nat) : Int) hk' (by omega) (.inr ⟨d + k, by omega, by omega, rfl, fun z => hh.2 (Int.emod_eq_zero_of_dvd z)⟩)
        refine ⟨a', p1, ef_nx (e1 := [L, .frz (.int (w : Int)), .own (rowsD M), .frz (.int (d : Int)), .frz (.int (col : Int)), .frz (.int a), .frz (.int ((d + k : Nat) : Int)), .un, .un, .un, .un]) rfl (ess_if c (ess_asg (d := .int ((d + k : Nat) : Int)) rfl rfl rfl) rfl) (he _ _) p2⟩
      · have cf : (decide (a < 0) && decide (mx M (d + k) col % 97 ≠ 0)) = false := by
          cases z : (decide (a < 0) && decide (mx M (d + k) col % 97 ≠ 0)) with
          | false => rfl
          | true =>
            rw [Bool.and_eq_true, decide_eq_true_eq, decide_eq_true_eq] at z
            exact absurd z hh
        rw [cf] at c
        obtain ⟨a', p1, p2⟩ := ih (k + 1) a hk' (by omega) (by
          rcases hp with ⟨q1, q2⟩ | ⟨t, q1, q2, q3, q4⟩
          · refine .inl ⟨q1, fun t h1 h2 => ?_⟩
            by_cases et : t = d + k
            · rw [et]
              refine Int.dvd_of_emod_eq_zero (Classical.byContradiction fun z => hh ⟨by omega, z⟩)
            · exact q2 t h1 (by omega)
          · exact .inr ⟨t, q1, by omega, q3, q4⟩)
        exact ⟨a', p1, ef_nx (e1 := [L, .frz (.int (w : Int)), .own (rowsD M), .frz (.int (d : Int)), .frz (.int (col : Int)), .frz (.int a), .frz (.int ((d + k : Nat) : Int)), .un, .un, .un, .un]) rfl (ess_if c rfl rfl) (he _ _) p2⟩
  exact go (List.range (n - d)) 0 (-1) (fun j hj => by
    rw [List.length_range] at hj
    rw [List.getElem?_range hj, Nat.zero_add]) (by rw [List.length_range]; omega) (.inl ⟨rfl, fun t h1 h2 => by omega⟩)
end
end Mi
namespace Mi
open PySem L2
section
variable {n w : Nat}
/-- what stands after some rows are cleared -/
structure Clr (n w d col i : Nat) (M0 M : List (List Int)) : Prop where
  ok : MatOk n w M
  up : ∀ k, k ≤ d → mx M k = mx M0 k
  rest : ∀ k, d + 1 + i ≤ k → mx M k = mx M0 k
  zero : ∀ k, d < k → k < d + 1 + i → (97 : Int) ∣ mx M k col
  low : ∀ k, d ≤ k → k < n → ∀ j, j < col → (97 : Int) ∣ mx M k j
  ind : Ind w n (mx M0) ↔ Ind w n (mx M)
def newRow (w : Nat) (L o : Int) (a b : List Int) : List Int := (List.range w).map fun j => (L * vz a j - o * vz b j) % 97
theorem newRow_at {w j : Nat} {L o : Int} {a b : List Int} (h : j < w) : vz (newRow w L o a b) j = (L * vz a j - o * vz b j) % 97 := by
  unfold newRow
  rw [vz_lt (by simpa using h)]
  simp
theorem newRow_bnd {w : Nat} {L o : Int} {a b : List Int} : ∀ x ∈ newRow w L o a b, Bnd x := fun x hx => by
  obtain ⟨j, _, rfl⟩ := List.mem_map.mp hx
  exact bnd_res (Int.emod_nonneg _ (by omega)) (Int.emod_lt_of_pos _ (by omega))
theorem Clr.step {d col i : Nat} {M0 M : List (List Int)} (h : Clr n w d col i M0 M) (hk : d + 1 + i < n) (hc : col < w) (hL : ¬ (97 : Int) ∣ mx M0 d col) :
    Clr n w d col (i + 1) M0 (M.set (d + 1 + i) (newRow w (mx M0 d col) (mx M (d + 1 + i) col) (M.getD (d + 1 + i) []) (M0.getD d []))) := by
  obtain ⟨k, ek⟩ : ∃ k, k = d + 1 + i := ⟨_, rfl⟩
  rw [← ek] at hk ⊢
  have hl : k < M.length := by rw [h.ok.len]; exact hk
  have e := mx_set (x := newRow w (mx M0 d col) (mx M k col) (M.getD k []) (M0.getD d [])) hl
  have ed : mx M d = vz (M0.getD d []) := h.up d (Nat.le_refl _)
  have at_ : ∀ j, j < w → vz (newRow w (mx M0 d col) (mx M k col) (M.getD k []) (M0.getD d [])) j = (mx M0 d col * mx M k j - mx M k col * mx M0 d j) % 97 := fun j hj => newRow_at hj
  refine ⟨h.ok.set (by simp [newRow]) newRow_bnd, fun t ht => ?_, fun t ht => ?_, fun t h1 h2 => ?_, fun t h1 h2 j hj => ?_, ?_⟩
  · rw [e]
    dsimp only
    rw [if_neg (by omega)]
    exact h.up t ht
  · rw [e]
    dsimp only
    rw [if_neg (by omega)]
    exact h.rest t (by omega)
  · rw [e]
    dsimp only
    by_cases et : t = k
    · rw [if_pos et, at_ col hc]
      have : mx M0 d col * mx M k col - mx M k col * mx M0 d col = 0 := by grind
      rw [this]
      exact Int.dvd_zero _
    · rw [if_neg et]
      exact h.zero t h1 (by omega)
  · rw [e]
    dsimp only
    by_cases et : t = k
    · rw [if_pos et, at_ j (by omega)]
      have a := h.low k (by omega) hk j hj
      have b := h.low d (Nat.le_refl _) (by omega) j hj
      rw [h.up d (Nat.le_refl _)] at b
      exact Int.dvd_of_emod_eq_zero (by
        have : (97 : Int) ∣ mx M0 d col * mx M k j - mx M k col * mx M0 d j := Int.dvd_sub (Int.dvd_trans a (Int.dvd_mul_left _ _)) (Int.dvd_trans b (Int.dvd_mul_left _ _))
        rw [Int.emod_emod_of_dvd _ (Int.dvd_refl _)]
        exact Int.emod_eq_zero_of_dvd this)
    · rw [if_neg et]
      exact h.low t h1 h2 j hj
  · rw [h.ind, ind_el (k := k) (d := d) hk (by omega) (by omega) (L := mx M0 d col) (o := mx M k col) hL, e]
    have q : ∀ i, i < n → ∀ j, j < w → (97 : Int) ∣ elM k d (mx M0 d col) (mx M k col) (mx M) i j - (if i = k then vz (newRow w (mx M0 d col) (mx M k col) (M.getD k []) (M0.getD d [])) else mx M i) j := fun i hi j hj => by
      unfold elM
      by_cases ei : i = k
      · rw [if_pos ei, if_pos ei, at_ j hj, h.up d (Nat.le_refl _)]
        have := mod_dvd (mx M0 d col * mx M k j - mx M k col * mx M0 d j)
        have z := (Int.dvd_neg).mpr this
        rwa [Int.neg_sub] at z
      · rw [if_neg ei, if_neg ei, Int.sub_self]
        exact Int.dvd_zero _
    constructor
    · exact fun z => z.ext fun i hi j hj => q i hi j hj
    · exact fun z => z.ext fun i hi j hj => by
        have := (Int.dvd_neg).mpr (q i hi j hj)
        rwa [Int.neg_sub] at this
theorem cnt_clear {Γ : Glob} {L : Slot} {M0 : List (List Int)} {d col : Nat} {at_ : Int} (hd : d < n) (hc : col < w) (hw : w < 100000) (hn : n < 100000) (hlead : (M0.getD d []).length = w ∧ ∀ x ∈ M0.getD d [], Bnd x) (hL : ¬ (97 : Int) ∣ mx M0 d col) (e0 : Env)
    (he : ∀ (M : List (List Int)) (k o : D), mask e0 [L, .frz (.int (w : Int)), .own (rowsD M), .frz (.int (d : Int)), .frz (.int (col : Int)), .frz (.int at_), .frz k, .un, .frz (rowD (M0.getD d [])), .frz o, .un] = [L, .frz (.int (w : Int)), .own (rowsD M), .frz (.int (d : Int)), .frz (.int (col : Int)), .frz (.int at_), .un, .un, .frz (rowD (M0.getD d [])), .un, .un]) :
    ∀ (l : List Nat) (i : Nat) (M : List (List Int)), (∀ j, j < l.length → l[j]? = some (i + j)) → d + 1 + i + l.length = n → Clr n w d col i M0 M →
      ∃ M', Clr n w d col (n - (d + 1)) M0 M' ∧ evFor (evSs Γ cntIn2) (bindT (.nm 6)) e0 (l.map fun (k : Nat) => D.int ((d + 1 + k : Nat) : Int)) [L, .frz (.int (w : Int)), .own (rowsD M), .frz (.int (d : Int)), .frz (.int (col : Int)), .frz (.int at_), .un, .un, .frz (rowD (M0.getD d [])), .un, .un] =
        .nx [L, .frz (.int (w : Int)), .own (rowsD M'), .frz (.int (d : Int)), .frz (.int (col : Int)), .frz (.int at_), .un, .un, .frz (rowD (M0.getD d [])), .un, .un] := by
  intro l
  induction l with
  | nil =>
    intro i M _ hl hC
    have : i = n - (d + 1) := by simp at hl; omega
    rw [this] at hC
    exact ⟨M, hC, rfl⟩
  | cons k l ih =>
    intro i M hk hl hC
    rw [List.length_cons] at hl
    have ek : k = i := by simpa using hk 0 (by simp)
    subst ek
    have hkn : d + 1 + k < n := by omega
    have hk' : ∀ j, j < l.length → l[j]? = some (k + 1 + j) := fun j hj => by
      have := hk (j + 1) (by rw [List.length_cons]; omega)
      rw [List.getElem?_cons_succ] at this
      rw [this]
      exact congrArg some (by omega)
    have memk := hC.ok.at_ hkn
    have lk := hC.ok.row _ memk
    have bk := hC.ok.bnd _ memk
    obtain ⟨ll, lb⟩ := hlead
    have x1 : ∀ (a b : Slot), evE Γ (.idx (.idx (.peek 2) (.peek 6)) (.peek 4)) [L, .frz (.int (w : Int)), .own (rowsD M), .frz (.int (d : Int)), .frz (.int (col : Int)), .frz (.int at_), .frz (.int ((d + 1 + k : Nat) : Int)), .un, .frz (rowD (M0.getD d [])), a, b] = .ok (.int (mx M (d + 1 + k) col)) := fun a b => by
      show (R.bind (R.bind (R.ok (rowsD M)) fun x => idxD x (.int ((d + 1 + k : Nat) : Int))) fun x => idxD x (.int (col : Int))) = _
      rw [b_ok, idx_rows (by rw [hC.ok.len]; exact hkn), b_ok, idx_row (by omega)]
      rfl
    have bo : Bnd (mx M (d + 1 + k) col) := bk _ (vz_mem (by omega))
    have bL : Bnd (mx M0 d col) := lb _ (vz_mem (by omega))
    have c2 : evE Γ (.comp (.bin .mod (.bin .sub (.bin .mul (.idx (.peek 8) (.peek 4)) (.idx (.idx (.peek 2) (.peek 6)) (.peek 10))) (.bin .mul (.peek 9) (.idx (.peek 8) (.peek 10)))) (.cst (.int 97))) (.nm 10) (.rng none (.peek 1) none) [] [10]) [L, .frz (.int (w : Int)), .own (rowsD M), .frz (.int (d : Int)), .frz (.int (col : Int)), .frz (.int at_), .frz (.int ((d + 1 + k : Nat) : Int)), .un, .frz (rowD (M0.getD d [])), .frz (.int (mx M (d + 1 + k) col)), .un] = .ok (rowD (newRow w (mx M0 d col) (mx M (d + 1 + k) col) (M.getD (d + 1 + k) []) (M0.getD d []))) := by
      refine (comp_m (f := fun (t : Nat) => D.int (t : Int)) (g := fun (j : Nat) => D.int ((mx M0 d col * vz (M.getD (d + 1 + k) []) j - mx M (d + 1 + k) col * vz (M0.getD d []) j) % 97)) (List.range w) ?_ (by rw [List.length_range]; omega) ?_).trans ?_
      · exact rng0 (a := .peek 1) rfl (by omega)
      · intro j hj
        have hj := List.mem_range.mp hj
        show ((R.bind (R.bind (R.bind (idxD (rowD (M0.getD d [])) (.int (col : Int))) fun x => (R.bind (R.bind (R.ok (rowsD M)) fun x => idxD x (.int ((d + 1 + k : Nat) : Int))) fun x => idxD x (.int (j : Int))).bind fun y => mulD x y) fun x => (R.bind (idxD (rowD (M0.getD d [])) (.int (j : Int))) fun y => mulD (.int (mx M (d + 1 + k) col)) y).bind fun y => subD x y)) fun x => modD x (.int 97)) = _
        rw [idx_row (by omega), b_ok, b_ok, idx_rows (by rw [hC.ok.len]; exact hkn), b_ok, idx_row (by omega), b_ok]
        have m1 : mulD (.int (vz (M0.getD d []) col)) (.int (vz (M.getD (d + 1 + k) []) j)) = .ok (.int (mx M0 d col * vz (M.getD (d + 1 + k) []) j)) := mul_bnd bL (bk _ (vz_mem (by omega)))
        rw [m1, b_ok, idx_row (by omega), b_ok, mul_bnd bo (lb _ (vz_mem (by omega))), b_ok]
        exact mod_int (j := 97) (by decide)
      · rw [rowD, newRow, List.map_map]
        rfl
    have nx := hC.step hkn hc hL
    obtain ⟨M', p1, p2⟩ := ih (k + 1) _ hk' (by omega) nx
    refine ⟨M', p1, ?_⟩
    rw [List.map_cons]
    refine ef_nx (e1 := [L, .frz (.int (w : Int)), .own (rowsD M), .frz (.int (d : Int)), .frz (.int (col : Int)), .frz (.int at_), .frz (.int ((d + 1 + k : Nat) : Int)), .un, .frz (rowD (M0.getD d [])), .un, .un]) rfl (e2 := [L, .frz (.int (w : Int)), .own (rowsD (M.set (d + 1 + k) (newRow w (mx M0 d col) (mx M (d + 1 + k) col) (M.getD (d + 1 + k) []) (M0.getD d [])))), .frz (.int (d : Int)), .frz (.int (col : Int)), .frz (.int at_), .frz (.int ((d + 1 + k : Nat) : Int)), .un, .frz (rowD (M0.getD d [])), .frz (.int (mx M (d + 1 + k) col)), .un]) ?_ (he _ _ _) p2
    refine ess_asg (d := .int (mx M (d + 1 + k) col)) (e1 := [L, .frz (.int (w : Int)), .own (rowsD M), .frz (.int (d : Int)), .frz (.int (col : Int)), .frz (.int at_), .frz (.int ((d + 1 + k : Nat) : Int)), .un, .frz (rowD (M0.getD d [])), .frz (.int (mx M (d + 1 + k) col)), .un]) (x1 _ _) rfl (ess_nx (e := _) ?_ rfl)
    rw [es_setIt, c2, o_ok']
    show ((R.ok (M.map rowD)).only fun xs => (R.ok (D.int ((d + 1 + k : Nat) : Int))).out _ fun kd => (intOf kd).only fun k => (setD xs k _).only fun ys => Out.nx _) = _
    rw [y_ok, o_ok']
    show ((setD (M.map rowD) ((d + 1 + k : Nat) : Int) _).only fun ys => Out.nx _) = _
    rw [set_rows (by rw [hC.ok.len]; exact hkn), y_ok]
    rfl
end
end Mi
namespace Mi
open PySem L2
section
variable {n w : Nat}
theorem rng2 {Γ : Glob} {a b : E} {env : Env} {x y : Nat} (ha : evE Γ a env = .ok (.int (x : Int))) (hb : evE Γ b env = .ok (.int (y : Int))) (hx : x < 4000000000) (hy : y < 4000000000) : (evE Γ (.rng (some a) b none) env).bind items = .ok ((List.range (y - x)).map fun (k : Nat) => .int ((x + k : Nat) : Int)) := by
  rw [ev_rng, evr_some, ha, b_ok, intOf, b_ok, hb, b_ok, intOf, b_ok, rngD_nat x y hx hy, b_ok, items_itr]
theorem len_rows {Γ : Glob} {M : List (List Int)} {env : Env} {i : Nat} (h : gt env i = .own (rowsD M)) : evE Γ (.bi .len [.peek i]) env = .ok (.int (M.length : Int)) := by
  show (R.bind (R.bind (gt env i).val fun x => (R.ok []).map (x :: ·)) fun ds => biD .len ds) = _
  rw [h]
  show R.ok (D.int ((M.map rowD).length : Int)) = _
  rw [List.length_map]
/-- how the count stands ahead of a column -/
structure CntI (n w col d : Nat) (M0 M : List (List Int)) : Prop where
  ok : MatOk n w M
  ech : Ech n col d (mx M)
  ind : Ind w n (mx M0) ↔ Ind w n (mx M)
def cSt (L : Slot) (w : Nat) (M : List (List Int)) (d : Nat) : Env := [L, .frz (.int (w : Int)), .own (rowsD M), .frz (.int (d : Int)), .un, .un, .un, .un, .un, .un, .un]
theorem cnt_turn {Γ : Glob} {L : Slot} {dL : D} (hL : Sn dL L) {M0 M : List (List Int)} {d col : Nat} (h : CntI n w col d M0 M) (hc : col < w) (hw : w < 100000) (hn : n < 100000) (e0 : Env) (he0 : ∃ M1 d1, e0 = cSt L w M1 d1) :
    ∃ M' d', CntI n w (col + 1) d' M0 M' ∧ ∃ e2, evSs Γ cntTurn ([L, .frz (.int (w : Int)), .own (rowsD M), .frz (.int (d : Int)), .frz (.int (col : Int)), .un, .un, .un, .un, .un, .un]) = .nx e2 ∧ mask e0 e2 = cSt L w M' d' := by
  obtain ⟨M1, d1, rfl⟩ := he0
  have hd := h.ech.le
  have c1 : evE Γ (.neg (.cst (.int 1))) [L, .frz (.int (w : Int)), .own (rowsD M), .frz (.int (d : Int)), .frz (.int (col : Int)), .un, .un, .un, .un, .un, .un] = .ok (.int (-1)) := rfl
  let E1 : Env := [L, .frz (.int (w : Int)), .own (rowsD M), .frz (.int (d : Int)), .frz (.int (col : Int)), .frz (.int (-1)), .un, .un, .un, .un, .un]
  obtain ⟨a, ha, lp1⟩ := cnt_find (Γ := Γ) (L := L) h.ok (.inr trivial) d col hd hc hn E1 fun a k => by
    show mask (L :: _) (L :: _) = _
    rw [hL.mk]
    rfl
  have it1 : (evE Γ (.rng (some (.peek 3)) (.bi .len [.peek 2]) none) E1).bind items = .ok ((List.range (n - d)).map fun (k : Nat) => D.int ((d + k : Nat) : Int)) := by
    have := rng2 (Γ := Γ) (a := .peek 3) (b := .bi .len [.peek 2]) (env := E1) (x := d) (y := M.length) rfl (len_rows rfl) (by omega) (by rw [h.ok.len]; omega)
    rw [h.ok.len] at this
    exact this
  let E2 : Env := [L, .frz (.int (w : Int)), .own (rowsD M), .frz (.int (d : Int)), .frz (.int (col : Int)), .frz (.int a), .un, .un, .un, .un, .un]
  have c3 : evE Γ (.cmp .ge (.peek 5) (.cst (.int 0))) E2 = .ok (.bl (decide (0 ≤ a))) := rfl
  rcases ha with ⟨rfl, hz⟩ | ⟨t, h1, h2, rfl, hp⟩
  · refine ⟨M, d, ⟨h.ok, h.ech.skip hz, h.ind⟩, E2, ?_, ?_⟩
    · exact ess_asg c1 rfl (ess_for it1 rfl lp1 rfl (ess_if c3 rfl rfl))
    · show mask (L :: _) (L :: _) = _
      rw [hL.mk]
      rfl
  · have hdn : d < n := by omega
    have c3 : evE Γ (.cmp .ge (.peek 5) (.cst (.int 0))) E2 = .ok (.bl true) := c3.trans (by rw [decide_eq_true (show (0 : Int) ≤ (t : Int) by omega)])
    have mt := h.ok.at_ h2
    have md := h.ok.at_ hdn
    -- the two rows change their places
    have ok1 : MatOk n w (M.set t (M.getD d [])) := h.ok.set (h.ok.row _ md) (h.ok.bnd _ md)
    have ok2 : MatOk n w ((M.set t (M.getD d [])).set d (M.getD t [])) := ok1.set (h.ok.row _ mt) (h.ok.bnd _ mt)
    have e2 : mx ((M.set t (M.getD d [])).set d (M.getD t [])) = swM d t (mx M) := by
      rw [mx_set (by rw [ok1.len]; exact hdn), mx_set (by rw [h.ok.len]; exact h2)]
      rfl
    generalize hM2 : (M.set t (M.getD d [])).set d (M.getD t []) = M2 at ok2 e2
    have ed : mx M2 d = mx M t := by
      rw [e2]
      unfold swM
      rw [if_pos rfl]
    have eg : M2.getD d [] = M.getD t [] := by
      rw [← hM2, List.getD_eq_getElem?_getD, List.getElem?_set_self (by rw [List.length_set, h.ok.len]; exact hdn)]
      rfl
    have ind2 : Ind w n (mx M0) ↔ Ind w n (mx M2) := by
      rw [h.ind, e2]
      exact ind_sw hdn h2
    have low2 : ∀ k, d ≤ k → k < n → ∀ j, j < col → (97 : Int) ∣ mx M2 k j := fun k k1 k2 j hj => by
      rw [e2]
      unfold swM
      split
      · exact h.ech.lo t h1 h2 j hj
      · split
        · exact h.ech.lo d (Nat.le_refl _) hdn j hj
        · exact h.ech.lo k k1 k2 j hj
    have up2 : ∀ i, i < d → mx M2 i = mx M i := fun i hi => by
      rw [e2]
      unfold swM
      rw [if_neg (by omega), if_neg (by omega)]
    have hL2 : ¬ (97 : Int) ∣ mx M2 d col := by rw [ed]; exact hp
    have clr0 : Clr n w d col 0 M2 M2 := ⟨ok2, fun _ _ => rfl, fun _ _ => rfl, fun k h1 h2 => by omega, low2, Iff.rfl⟩
    let E3 : Env := [L, .frz (.int (w : Int)), .own (rowsD M2), .frz (.int (d : Int)), .frz (.int (col : Int)), .frz (.int (t : Int)), .un, .un, .frz (rowD (M2.getD d [])), .un, .un]
    obtain ⟨M3, C, lp2⟩ := cnt_clear (Γ := Γ) (L := L) (M0 := M2) (at_ := (t : Int)) hdn hc hw hn (by rw [eg]; exact ⟨h.ok.row _ mt, h.ok.bnd _ mt⟩) hL2 E3 (fun M k o => by
      show mask (L :: _) (L :: _) = _
      rw [hL.mk]
      rfl) (List.range (n - (d + 1))) 0 M2 (fun j hj => by
        rw [List.length_range] at hj
        rw [List.getElem?_range hj, Nat.zero_add]) (by rw [List.length_range]; omega) clr0
    have it2 : (evE Γ (.rng (some (.bin .add (.peek 3) (.cst (.int 1)))) (.bi .len [.peek 2]) none) E3).bind items = .ok ((List.range (n - (d + 1))).map fun (k : Nat) => D.int ((d + 1 + k : Nat) : Int)) := by
      have := rng2 (Γ := Γ) (a := .bin .add (.peek 3) (.cst (.int 1))) (b := .bi .len [.peek 2]) (env := E3) (x := d + 1) (y := M2.length) rfl (len_rows rfl) (by omega) (by rw [ok2.len]; omega)
      rw [ok2.len] at this
      exact this
    have ech3 : Ech n (col + 1) (d + 1) (mx M3) := by
      refine h.ech.step hdn (fun i hi => by rw [C.up i (by omega), up2 i hi]) (by rw [C.up d (Nat.le_refl _)]; exact hL2) (fun k k1 k2 => C.zero k k1 (by omega)) fun k k1 k2 j hj => C.low k k1 k2 j hj
    refine ⟨M3, d + 1, ⟨C.ok, ech3, ind2.trans C.ind⟩, [L, .frz (.int (w : Int)), .own (rowsD M3), .frz (.int ((d + 1 : Nat) : Int)), .frz (.int (col : Int)), .frz (.int (t : Int)), .un, .un, .frz (rowD (M2.getD d [])), .un, .un], ?_, ?_⟩
    · refine ess_asg c1 rfl (ess_for it1 rfl lp1 rfl (ess_if c3 (e1 := [L, .frz (.int (w : Int)), .own (rowsD M3), .frz (.int ((d + 1 : Nat) : Int)), .frz (.int (col : Int)), .frz (.int (t : Int)), .un, .un, .frz (rowD (M2.getD d [])), .un, .un]) ?_ rfl))
      have x1 : evE Γ (.idx (.peek 2) (.peek 5)) E2 = .ok (rowD (M.getD t [])) := idx_rows (by rw [h.ok.len]; exact h2)
      refine ess_asg (e1 := [L, .frz (.int (w : Int)), .own (rowsD M), .frz (.int (d : Int)), .frz (.int (col : Int)), .frz (.int (t : Int)), .un, .un, .frz (rowD (M.getD t [])), .un, .un]) x1 rfl ?_
      refine ess_nx (e := [L, .frz (.int (w : Int)), .own (rowsD (M.set t (M.getD d []))), .frz (.int (d : Int)), .frz (.int (col : Int)), .frz (.int (t : Int)), .un, .un, .frz (rowD (M.getD t [])), .un, .un]) ?_ ?_
      · rw [es_setIt]
        show ((idxD (rowsD M) (.int (d : Int))).out _ fun v => (R.ok (M.map rowD)).only fun xs => (R.ok (D.int (t : Int))).out _ fun kd => (intOf kd).only fun k => (setD xs k v).only fun ys => Out.nx _) = _
        rw [idx_rows (by rw [h.ok.len]; exact hdn), o_ok', y_ok, o_ok']
        show ((setD (M.map rowD) (t : Int) _).only fun ys => Out.nx _) = _
        rw [set_rows (by rw [h.ok.len]; exact h2), y_ok]
        rfl
      · refine ess_nx (e := E3) ?_ ?_
        · rw [es_setIt]
          show ((R.ok (rowD (M.getD t []))).out _ fun v => (R.ok ((M.set t (M.getD d [])).map rowD)).only fun xs => (R.ok (D.int (d : Int))).out _ fun kd => (intOf kd).only fun k => (setD xs k v).only fun ys => Out.nx _) = _
          rw [o_ok', y_ok, o_ok']
          show ((setD ((M.set t (M.getD d [])).map rowD) (d : Int) _).only fun ys => Out.nx _) = _
          rw [set_rows (by rw [ok1.len]; exact hdn), y_ok, hM2]
          show _ = Out.nx [_, _, _, _, _, _, _, _, Slot.frz (rowD (M2.getD d [])), _, _]
          rw [eg]
          rfl
        · exact ess_for it2 rfl lp2 rfl (ess_asg (d := .int ((d + 1 : Nat) : Int)) rfl rfl rfl)
    · show mask (L :: _) (L :: _) = _
      rw [hL.mk]
      rfl
/-- the count is that of all rows exactly if none is a sum of others -/
theorem count_run (Γ : Glob) (rows : List (List Int)) (hM : MatOk n w rows) (hw : w < 100000) (hn : n < 100000) {L : Slot} (h : Sn (rowsD rows) L) :
    ∃ d : Nat, runB Γ countB [L, .frz (.int (w : Int))] = .ok (.int (d : Int)) ∧ d ≤ n ∧ (Ind w n (mx rows) ↔ d = n) := by
  have c0 : evE Γ (.comp (.bi .list [.peek 7]) (.nm 7) (.peek 0) [] [7]) [L, .frz (.int (w : Int)), .un, .un, .un, .un, .un, .un, .un, .un, .un] = .ok (rowsD rows) := by
    refine (comp_m (f := rowD) (g := rowD) rows ?_ (by rw [hM.len]; omega) ?_).trans ?_
    · show (L.val.bind items) = _
      rw [h.val]
      rfl
    · intro r _
      rfl
    · rfl
  have go : ∀ (l : List Nat) (col : Nat) (M : List (List Int)) (d : Nat), (∀ j, j < l.length → l[j]? = some (col + j)) → col + l.length = w → CntI n w col d rows M →
      ∃ M' d', CntI n w w d' rows M' ∧ evFor (evSs Γ cntTurn) (bindT (.nm 4)) (cSt L w rows 0) (l.map fun (k : Nat) => D.int (k : Int)) (cSt L w M d) = .nx (cSt L w M' d') := by
    intro l
    induction l with
    | nil =>
      intro col M d _ hl hI
      have : col = w := by simpa using hl
      rw [this] at hI
      exact ⟨M, d, hI, rfl⟩
    | cons k l ih =>
      intro col M d hk hl hI
      rw [List.length_cons] at hl
      have ek : k = col := by simpa using hk 0 (by simp)
      subst ek
      obtain ⟨M', d', p1, e2, p2, p3⟩ := cnt_turn (Γ := Γ) (L := L) h hI (by omega) hw hn (cSt L w rows 0) ⟨_, _, rfl⟩
      obtain ⟨M'', d'', q1, q2⟩ := ih (k + 1) M' d' (fun j hj => by
        have := hk (j + 1) (by rw [List.length_cons]; omega)
        rw [List.getElem?_cons_succ] at this
        rw [this]
        exact congrArg some (by omega)) (by omega) p1
      refine ⟨M'', d'', q1, ?_⟩
      rw [List.map_cons]
      exact ef_nx (e1 := [L, .frz (.int (w : Int)), .own (rowsD M), .frz (.int (d : Int)), .frz (.int (k : Int)), .un, .un, .un, .un, .un, .un]) rfl p2 p3 q2
  obtain ⟨M', d', hI, lp⟩ := go (List.range w) 0 rows 0 (fun j hj => by
    rw [List.length_range] at hj
    rw [List.getElem?_range hj, Nat.zero_add]) (by rw [List.length_range]; omega) ⟨hM, ech_0 n _, Iff.rfl⟩
  refine ⟨d', run_ret (env := [L, .frz (.int (w : Int)), .un, .un, .un, .un, .un, .un, .un, .un, .un]) (own := false) rfl ?_ rfl, hI.ech.le, hI.ind.trans hI.ech.ind⟩
  have it : (evE Γ (.rng none (.peek 1) none) (cSt L w rows 0)).bind items = .ok ((List.range w).map fun (k : Nat) => D.int (k : Int)) := by
    have q : evE Γ (.peek 1) (cSt L w rows 0) = .ok (.int (w : Int)) := rfl
    exact rng0 (n := w) q (by omega)
  exact ess_asg (e1 := [L, .frz (.int (w : Int)), .own (rowsD rows), .un, .un, .un, .un, .un, .un, .un, .un]) c0 rfl (ess_asg (d := .int 0) (e1 := cSt L w rows 0) rfl rfl (ess_for it rfl lp rfl rfl))
end
end Mi
namespace LawK00
open PySem L2 Mi
def top (i : Nat) : PySem.Stmt := PySem.Challenge.pw_fewserve_k00_first_relation.main.body.getD i (.Pass ⟨0, 0, 0, 0⟩)
def b_inverse : Body := ⟨6, false, [.asg (.nm 1) (.bin .mod (.peek 0) (.cst (.int 97))), .ife (.cmp .eq (.peek 1) (.cst (.int 0))) [.raisF 2 0 (.var 0)] [], .asg (.nm 2) (.cst (.int 97)), .asg (.nm 3) (.cst (.int 1)), .asg (.nm 4) (.cst (.int 0)), .whl (.cmp .gt (.peek 1) (.cst (.int 1))) [.asg (.nm 5) (.bin .fdiv (.peek 2) (.peek 1)), .par 2 1 (.var 1) (.bin .sub (.peek 2) (.bin .mul (.peek 5) (.peek 1))), .par 4 3 (.var 3) (.bin .sub (.peek 4) (.bin .mul (.peek 5) (.peek 3)))], .ret (.bin .mod (.peek 3) (.cst (.int 97)))], none⟩
def b_dot : Body := ⟨4, false, [.ret (.bin .mod (.bi .sum [.comp (.bin .mul (.peek 2) (.peek 3)) (.tup [.nm 2, .nm 3]) (.zip (.peek 0) (.peek 1)) [] [2, 3]]) (.cst (.int 97)))], none⟩
def b_combine : Body := ⟨8, true, [.asg (.nm 3) (.bin .mul (.lst [.cst (.int 0)]) (.peek 2)), .fr (.tup [.nm 4, .nm 5]) (.zip (.peek 0) (.peek 1)) [.asgC 3 (.comp (.bin .mod (.bin .add (.peek 6) (.bin .mul (.peek 4) (.peek 7))) (.cst (.int 97))) (.tup [.nm 6, .nm 7]) (.zip (.peek 3) (.peek 5)) [] [6, 7])], .retv 3], none⟩
def b_reduced : Body := ⟨8, true, [.asgC 2 (.comp (.bin .mod (.peek 6) (.cst (.int 97))) (.nm 6) (.peek 0) [] [6]), .fr (.tup [.nm 3, .nm 4]) (.peek 1) [.asg (.nm 5) (.idx (.peek 2) (.peek 3)), .ife (.cmp .ne (.peek 5) (.cst (.int 0))) [.asgC 2 (.comp (.bin .mod (.bin .sub (.peek 6) (.bin .mul (.peek 5) (.peek 7))) (.cst (.int 97))) (.tup [.nm 6, .nm 7]) (.zip (.peek 2) (.peek 4)) [] [6, 7])] []], .retv 2], none⟩
def b_pivot_of : Body := ⟨3, false, [.fr (.tup [.nm 1, .nm 2]) (.enum (.peek 0)) [.ife (.cmp .ne (.peek 2) (.cst (.int 0))) [.retv 1] []], .ret (.neg (.cst (.int 1)))], none⟩
def b_independent_indexes : Body := ⟨9, true, [.asg (.nm 1) (.lst []), .asg (.nm 2) (.lst []), .fr (.tup [.nm 3, .nm 4]) (.enum (.peek 0)) [.asg (.nm 5) (.call true 3 [.peek 4, .peek 1]), .asg (.nm 6) (.call false 4 [.peek 5]), .ife (.cmp .ge (.peek 6) (.cst (.int 0))) [.asg (.nm 7) (.call false 0 [.idx (.peek 5) (.peek 6)]), .app 1 (.tup [.var 6, .comp (.bin .mod (.bin .mul (.peek 7) (.peek 8)) (.cst (.int 97))) (.nm 8) (.peek 5) [] [8]]), .app 2 (.var 3)] []], .retv 2], none⟩
def b_independent : Body := ⟨1, false, [.ret (.cmp .eq (.bi .len [.call true 5 [.peek 0]]) (.bi .len [.peek 0]))], none⟩
def b_relation : Body := ⟨11, true, [.asg (.nm 1) (.bi .len [.peek 0]), .asg (.nm 2) (.lst []), .fr (.tup [.nm 3, .nm 4]) (.enum (.peek 0)) [.asg (.nm 5) (.bin .add (.bi .list [.peek 4]) (.comp (.bi .int [.cmp .eq (.peek 9) (.peek 3)]) (.nm 9) (.rng none (.peek 1) none) [] [9])), .asg (.nm 6) (.call true 3 [.peek 5, .peek 2]), .asg (.nm 7) (.call false 4 [.peek 6]), .ife (.cmp .ge (.peek 7) (.bi .len [.peek 4])) [.ret (.sl (.peek 6) (some (.bi .len [.peek 4])) none)] [], .asg (.nm 8) (.call false 0 [.idx (.peek 6) (.peek 7)]), .app 2 (.tup [.var 7, .comp (.bin .mod (.bin .mul (.peek 8) (.peek 10)) (.cst (.int 97))) (.nm 10) (.peek 6) [] [10]])], .ret (.cst .non)], none⟩
def b__law_cell : Body := ⟨2, false, [.ife (.cmp .lt (.peek 1) (.bi .len [.peek 0])) [.ret (.idx (.peek 0) (.peek 1))] [], .ret (.bin .add (.bin .mul (.cst (.int 7919)) (.peek 1)) (.cst (.int 104729)))], none⟩
def b__law_draws : Body := ⟨6, true, [.asg (.nm 2) (.cst (.int 0)), .ife (.cmp .ge (.peek 0) (.bin .pow (.cst (.int 10)) (.cst (.int 18)))) [.asg (.nm 2) (.bin .sub (.peek 0) (.bin .pow (.cst (.int 10)) (.cst (.int 18))))] [], .asg (.nm 3) (.bin .mod (.bin .mul (.bi .int [.peek 0]) (.cst (.int 48271))) (.cst (.int 2147483647))), .asg (.nm 4) (.lst []), .fr (.nm 5) (.peek 1) [.asg (.nm 3) (.bin .mod (.bin .add (.bin .mul (.peek 3) (.cst (.int 16807))) (.cst (.int 10007))) (.cst (.int 2147483647))), .ife (.cmp .gt (.peek 2) (.cst (.int 0))) [.app 4 (.bin .mod (.peek 2) (.peek 5)), .asg (.nm 2) (.bin .fdiv (.peek 2) (.peek 5))] [.app 4 (.bin .mod (.bin .fdiv (.peek 3) (.cst (.int 64))) (.peek 5))]], .retv 4], none⟩
def b__law_count_free : Body := ⟨11, false, [.asg (.nm 2) (.comp (.bi .list [.peek 7]) (.nm 7) (.peek 0) [] [7]), .asg (.nm 3) (.cst (.int 0)), .fr (.nm 4) (.rng none (.peek 1) none) [.asg (.nm 5) (.neg (.cst (.int 1))), .fr (.nm 6) (.rng (some (.peek 3)) (.bi .len [.peek 2]) none) [.ife (.and (.cmp .lt (.peek 5) (.cst (.int 0))) (.cmp .ne (.bin .mod (.bi .int [.idx (.idx (.peek 2) (.peek 6)) (.peek 4)]) (.cst (.int 97))) (.cst (.int 0)))) [.asg (.nm 5) (.var 6)] []], .ife (.cmp .ge (.peek 5) (.cst (.int 0))) [.asg (.nm 8) (.idx (.peek 2) (.peek 5)), .setIt 2 (.peek 5) (.idx (.peek 2) (.peek 3)), .setIt 2 (.peek 3) (.var 8), .fr (.nm 6) (.rng (some (.bin .add (.peek 3) (.cst (.int 1)))) (.bi .len [.peek 2]) none) [.asg (.nm 9) (.idx (.idx (.peek 2) (.peek 6)) (.peek 4)), .setIt 2 (.peek 6) (.comp (.bin .mod (.bin .sub (.bin .mul (.idx (.peek 8) (.peek 4)) (.idx (.idx (.peek 2) (.peek 6)) (.peek 10))) (.bin .mul (.peek 9) (.idx (.peek 8) (.peek 10)))) (.cst (.int 97))) (.nm 10) (.rng none (.peek 1) none) [] [10])], .asg (.nm 3) (.bin .add (.peek 3) (.cst (.int 1)))] []], .retv 3], none⟩
def b__law_rows : Body := ⟨8, true, [.asg (.nm 2) (.lst []), .fr (.nm 3) (.rng none (.idx (.call true 9 [.call false 8 [.peek 0, .cst (.int 0)], .lst [.cst (.int 5), .cst (.int 7), .cst (.int 4)]]) (.cst (.int 1))) none) [.asg (.nm 4) (.call true 9 [.call false 8 [.peek 0, .bin .add (.cst (.int 1)) (.peek 3)], .lst [.cst (.int 8), .cst (.int 97), .cst (.int 97), .cst (.int 97), .cst (.int 97), .cst (.int 97), .cst (.int 97), .bin .pow (.cst (.int 10)) (.cst (.int 15))]]), .asgC 5 (.comp (.var 6) (.nm 6) (.sl (.peek 4) (some (.cst (.int 1))) (some (.bin .add (.cst (.int 1)) (.peek 1)))) [] [6]), .ife (.cmp .eq (.idx (.peek 4) (.cst (.int 0))) (.cst (.int 1))) [.asgC 5 (.comp (.bin .sub (.bin .mod (.peek 6) (.cst (.int 5))) (.cst (.int 2))) (.nm 6) (.peek 5) [] [6])] [], .ife (.cmp .eq (.idx (.peek 4) (.cst (.int 0))) (.cst (.int 2))) [.asgC 5 (.comp (.bin .add (.bin .mul (.bin .sub (.peek 6) (.cst (.int 48))) (.bin .add (.bin .pow (.cst (.int 10)) (.cst (.int 12))) (.idx (.peek 4) (.cst (.int 7))))) (.cst (.int 1))) (.nm 6) (.peek 5) [] [6])] [], .ife (.and (.cmp .eq (.idx (.peek 4) (.cst (.int 0))) (.cst (.int 3))) (.cmp .gt (.peek 3) (.cst (.int 0)))) [.asg (.nm 5) (.bi .list [.idx (.peek 2) (.bin .mod (.idx (.peek 4) (.cst (.int 5))) (.peek 3))])] [], .ife (.and (.cmp .eq (.idx (.peek 4) (.cst (.int 0))) (.cst (.int 4))) (.cmp .gt (.peek 3) (.cst (.int 0)))) [.asgC 5 (.comp (.bin .mul (.idx (.peek 4) (.cst (.int 6))) (.peek 6)) (.nm 6) (.idx (.peek 2) (.bin .mod (.idx (.peek 4) (.cst (.int 5))) (.peek 3))) [] [6])] [], .ife (.and (.cmp .eq (.idx (.peek 4) (.cst (.int 0))) (.cst (.int 5))) (.cmp .gt (.peek 3) (.cst (.int 1)))) [.asgC 5 (.comp (.bin .add (.idx (.idx (.peek 2) (.bin .mod (.idx (.peek 4) (.cst (.int 5))) (.peek 3))) (.peek 7)) (.bin .mul (.idx (.peek 4) (.cst (.int 6))) (.idx (.idx (.peek 2) (.bin .mod (.idx (.peek 4) (.cst (.int 4))) (.peek 3))) (.peek 7)))) (.nm 7) (.rng none (.peek 1) none) [] [7])] [], .wf [5] (.app 2 (.var 5))], .retv 2], none⟩
def b__law_is_residues : Body := ⟨3, false, [.ife (.or (.not (.isi .list (.peek 0))) (.cmp .ne (.bi .len [.peek 0]) (.peek 1))) [.ret (.cst (.bl false))] [], .fr (.nm 2) (.peek 0) [.ife (.or (.not (.isi .int (.peek 2))) (.or (.isi .bool (.peek 2)) (.or (.cmp .lt (.peek 2) (.cst (.int 0))) (.cmp .gt (.peek 2) (.cst (.int 96)))))) [.ret (.cst (.bl false))] []], .ret (.cst (.bl true))], none⟩
def b__law_right : Body := ⟨9, false, [.ife (.cmp .eq (.bi .len [.peek 3]) (.bi .len [.peek 1])) [.ret (.isN false (.peek 0))] [], .asg (.nm 4) (.cst (.int 0)), .whl (.and (.cmp .lt (.peek 4) (.bi .len [.peek 3])) (.cmp .eq (.idx (.peek 3) (.peek 4)) (.peek 4))) [.asg (.nm 4) (.bin .add (.peek 4) (.cst (.int 1)))], .ife (.or (.not (.call false 12 [.peek 0, .bi .len [.peek 1]])) (.cmp .ne (.idx (.peek 0) (.peek 4)) (.cst (.int 1)))) [.ret (.cst (.bl false))] [], .fr (.nm 5) (.rng (some (.bin .add (.peek 4) (.cst (.int 1)))) (.bi .len [.peek 1]) none) [.ife (.cmp .ne (.idx (.peek 0) (.peek 5)) (.cst (.int 0))) [.ret (.cst (.bl false))] []], .fr (.nm 6) (.rng none (.peek 2) none) [.asg (.nm 7) (.comp (.idx (.peek 8) (.peek 6)) (.nm 8) (.peek 1) [] [8]), .ife (.or (.cmp .ne (.bin .mod (.bi .sum [.comp (.bin .mul (.idx (.peek 0) (.peek 5)) (.idx (.peek 7) (.peek 5))) (.nm 5) (.rng none (.bi .len [.peek 1]) none) [] [5]]) (.cst (.int 97))) (.cst (.int 0))) (.cmp .ne (.call false 1 [.peek 0, .peek 7]) (.cst (.int 0)))) [.ret (.cst (.bl false))] []], .ret (.cmp .eq (.call true 2 [.peek 0, .peek 1, .peek 2]) (.bin .mul (.lst [.cst (.int 0)]) (.peek 2)))], none⟩
def b__law_inverted : Body := ⟨3, false, [.tri 2 (some 1) [.asg (.nm 2) (.call false 0 [.peek 0])] [.ret (.and (.cmp .eq (.bin .mod (.peek 0) (.cst (.int 97))) (.cst (.int 0))) (.and (.cmp .eq (.xattr 1 0) (.peek 0)) (.and (.xisi 1 1) (.not (.xisi 1 3)))))], .ife (.or (.not (.isi .int (.peek 2))) (.or (.isi .bool (.peek 2)) (.or (.cmp .lt (.peek 2) (.cst (.int 1))) (.cmp .gt (.peek 2) (.cst (.int 96)))))) [.ret (.cst (.bl false))] [], .ret (.cmp .eq (.bin .mod (.bin .mul (.peek 2) (.peek 0)) (.cst (.int 97))) (.cst (.int 1)))], none⟩
def b_law : Body := ⟨13, false, [.asg (.nm 1) (.idx (.call true 9 [.call false 8 [.peek 0, .cst (.int 0)], .lst [.cst (.int 5), .cst (.int 7), .cst (.int 4)]]) (.cst (.int 0))), .asg (.nm 2) (.call true 11 [.peek 0, .peek 1]), .asg (.nm 3) (.lst []), .fr (.nm 4) (.rng none (.bi .len [.peek 2]) none) [.ife (.cmp .gt (.call false 10 [.bin .add (.comp (.idx (.peek 2) (.peek 12)) (.nm 12) (.peek 3) [] [12]) (.lst [.idx (.peek 2) (.peek 4)]), .peek 1]) (.bi .len [.peek 3])) [.app 3 (.var 4)] []], .asg (.nm 5) (.call true 9 [.call false 8 [.peek 0, .cst (.int 8)], .lst [.cst (.int 97), .cst (.int 200), .bin .pow (.cst (.int 10)) (.cst (.int 15)), .bin .pow (.cst (.int 10)) (.cst (.int 15))]]), .fr (.nm 6) (.lst [.idx (.peek 5) (.cst (.int 0)), .bin .sub (.idx (.peek 5) (.cst (.int 1))) (.cst (.int 100)), .bin .sub (.cst (.int 0)) (.idx (.peek 5) (.cst (.int 2))), .bin .mul (.cst (.int 97)) (.idx (.peek 5) (.cst (.int 3)))]) [.ife (.not (.call false 14 [.peek 6])) [.ret (.cst (.bl false))] []], .ife (.cmp .ne (.cst (.int 97)) (.cst (.int 97))) [.ret (.cst (.bl false))] [], .asgC 7 (.comp (.bi .list [.peek 11]) (.nm 11) (.peek 2) [] [11]), .asg (.nm 8) (.call true 7 [.peek 7]), .ife (.or (.cmp .ne (.peek 7) (.peek 2)) (.not (.call false 13 [.peek 8, .peek 2, .peek 1, .peek 3]))) [.ret (.cst (.bl false))] [], .asg (.nm 9) (.call true 5 [.peek 7]), .ife (.or (.not (.isi .list (.peek 9))) (.or (.cmp .ne (.peek 9) (.peek 3)) (.cmp .isin (.cst (.bl true)) (.comp (.isi .bool (.peek 4)) (.nm 4) (.peek 9) [] [4])))) [.ret (.cst (.bl false))] [], .asg (.nm 10) (.call false 6 [.peek 7]), .ife (.or (.not (.isi .bool (.peek 10))) (.cmp .ne (.peek 10) (.cmp .eq (.bi .len [.peek 3]) (.bi .len [.peek 2])))) [.ret (.cst (.bl false))] [], .ife (.isN true (.peek 8)) [.setIt 8 (.cst (.int 0)) (.bin .add (.idx (.peek 8) (.cst (.int 0))) (.cst (.int 5))), .app 8 (.cst (.int 3))] [], .app 9 (.cst (.int 7)), .ret (.and (.cmp .eq (.peek 7) (.peek 2)) (.and (.call false 13 [.call true 7 [.peek 7], .peek 2, .peek 1, .peek 3]) (.cmp .eq (.call true 5 [.peek 7]) (.peek 3))))], none⟩
def d_inverse : Dn := ⟨"inverse", "inverse", top 6, ["number", "low", "high", "low_factor", "high_factor", "quotient"], ["number"], 2, b_inverse⟩
def d_dot : Dn := ⟨"dot", "dot", top 7, ["first", "second", "a", "b"], ["first", "second"], 0, b_dot⟩
def d_combine : Dn := ⟨"combine", "combine", top 8, ["coefficients", "rows", "width", "total", "coefficient", "row", "a", "b"], ["coefficients", "rows", "width"], 0, b_combine⟩
def d_reduced : Dn := ⟨"reduced", "reduced", top 9, ["row", "basis", "rest", "pivot", "basis_row", "factor", "a", "b"], ["row", "basis"], 0, b_reduced⟩
def d_pivot_of : Dn := ⟨"pivot_of", "pivot_of", top 10, ["row", "column", "number"], ["row"], 0, b_pivot_of⟩
def d_independent_indexes : Dn := ⟨"independent_indexes", "independent_indexes", top 11, ["rows", "basis", "indexes", "index", "row", "rest", "pivot", "factor", "a"], ["rows"], 3, b_independent_indexes⟩
def d_independent : Dn := ⟨"independent", "independent", top 12, ["rows"], ["rows"], 4, b_independent⟩
def d_relation : Dn := ⟨"relation", "relation", top 13, ["rows", "count", "basis", "index", "row", "wide", "rest", "pivot", "factor", "k", "a"], ["rows"], 3, b_relation⟩
def d__law_cell : Dn := ⟨"_law_cell", "_law_cell", top 15, ["script", "k"], ["script", "k"], 0, b__law_cell⟩
def d__law_draws : Dn := ⟨"_law_draws", "_law_draws", top 16, ["cell", "limits", "rest", "state", "drawn", "limit"], ["cell", "limits"], 0, b__law_draws⟩
def d__law_count_free : Dn := ⟨"_law_count_free", "_law_count_free", top 17, ["rows", "width", "rest", "done", "column", "at", "k", "row", "lead", "own", "j"], ["rows", "width"], 0, b__law_count_free⟩
def d__law_rows : Dn := ⟨"_law_rows", "_law_rows", top 18, ["script", "width", "rows", "k", "drawn", "row", "number", "j"], ["script", "width"], 1, b__law_rows⟩
def d__law_is_residues : Dn := ⟨"_law_is_residues", "_law_is_residues", top 19, ["told", "count", "number"], ["told", "count"], 0, b__law_is_residues⟩
def d__law_right : Dn := ⟨"_law_right", "_law_right", top 20, ["told", "rows", "width", "due", "first", "k", "j", "column", "row"], ["told", "rows", "width", "due"], 1, b__law_right⟩
def d__law_inverted : Dn := ⟨"_law_inverted", "_law_inverted", top 21, ["number", "e", "told"], ["number"], 3, b__law_inverted⟩
def d_law : Dn := ⟨"law", "law", top 22, ["script", "width", "rows", "due", "k", "drawn", "number", "given", "told", "indexes", "free", "row", "j"], ["script"], 5, b_law⟩
def ds : List Dn := [d_inverse, d_dot, d_combine, d_reduced, d_pivot_of, d_independent_indexes, d_independent, d_relation, d__law_cell, d__law_draws, d__law_count_free, d__law_rows, d__law_is_residues, d__law_right, d__law_inverted, d_law]
def blts : List Str := ["bool", "enumerate", "int", "isinstance", "len", "list", "range", "sum", "super", "zip"]
def cst : List (Str × D) := [("PRIME", (.int 97))]
def xcs : List Xd := [⟨"ServeError", 1, none, false⟩, ⟨"NoInverse", 2, some (0, "number"), true⟩, ⟨"BadTable", 3, none, false⟩]
def an : List Str := ["number"]
theorem checked : dnsC ds blts cst xcs an 400 ds.length = true := by decide +kernel
theorem told {K : PySem.W.Frag} {mg : Str → Option Value} {h : Heap} (X : K.In h) (G : h.Ns mainGlobals mg) {f0 f1 f2 f3 f4 f5 f6 f7 f8 f9 f10 f11 f12 f13 f14 f15 : Addr}
    {oc0 oc1 oc2 oc3 oc4 oc5 oc6 oc7 oc8 oc9 oc10 oc11 oc12 oc13 oc14 oc15 : Value}
    {od0 od1 od2 od3 od4 od5 od6 od7 od8 od9 od10 od11 od12 od13 od14 od15 : Option Addr}
    {an0 an1 an2 an3 an4 an5 an6 an7 an8 an9 an10 an11 an12 an13 an14 an15 : Option Addr}
    {sl0 sl1 sl2 sl3 sl4 sl5 sl6 sl7 sl8 sl9 sl10 sl11 sl12 sl13 sl14 sl15 : Array (Option Value)}
    {kV0 kV1 kV2 kV3 kV4 kV5 kV6 kV7 kV8 kV9 kV10 kV11 kV12 kV13 kV14 kV15 : Value}
    {dc0 dc1 dc2 dc3 dc4 dc5 dc6 dc7 dc8 dc9 dc10 dc11 dc12 dc13 dc14 dc15 : Value}
    {pm0 pm1 pm2 pm3 pm4 pm5 pm6 pm7 pm8 pm9 pm10 pm11 pm12 pm13 pm14 pm15 : Value}
    {cd0 cd1 cd2 cd3 cd4 cd5 cd6 cd7 cd8 cd9 cd10 cd11 cd12 cd13 cd14 cd15 : Value}
    {ct0 ct1 ct2 ct3 ct4 ct5 ct6 ct7 ct8 ct9 ct10 ct11 ct12 ct13 ct14 ct15 : Value}
    {t0 : Tok}
    (a0 : PySem.W.nsIn K mainGlobals "inverse" = some (some (.ref f0))) (l0 : K.lookup f0 = some ⟨oc0, od0, .func (PySem.W.fnOf "inverse" "inverse" (defArgs (top 6)) (defBody (top 6)) (defScope (top 6)) .none kV0 dc0 pm0 an0 cd0 ct0), sl0⟩) (c0 : PySem.W.codeIn K cd0 "inverse" = true) (k0 : PySem.W.keepIn K (.ref f0) = true)
    (a1 : PySem.W.nsIn K mainGlobals "dot" = some (some (.ref f1))) (l1 : K.lookup f1 = some ⟨oc1, od1, .func (PySem.W.fnOf "dot" "dot" (defArgs (top 7)) (defBody (top 7)) (defScope (top 7)) .none kV1 dc1 pm1 an1 cd1 ct1), sl1⟩) (c1 : PySem.W.codeIn K cd1 "dot" = true) (k1 : PySem.W.keepIn K (.ref f1) = true)
    (a2 : PySem.W.nsIn K mainGlobals "combine" = some (some (.ref f2))) (l2 : K.lookup f2 = some ⟨oc2, od2, .func (PySem.W.fnOf "combine" "combine" (defArgs (top 8)) (defBody (top 8)) (defScope (top 8)) .none kV2 dc2 pm2 an2 cd2 ct2), sl2⟩) (c2 : PySem.W.codeIn K cd2 "combine" = true) (k2 : PySem.W.keepIn K (.ref f2) = true)
    (a3 : PySem.W.nsIn K mainGlobals "reduced" = some (some (.ref f3))) (l3 : K.lookup f3 = some ⟨oc3, od3, .func (PySem.W.fnOf "reduced" "reduced" (defArgs (top 9)) (defBody (top 9)) (defScope (top 9)) .none kV3 dc3 pm3 an3 cd3 ct3), sl3⟩) (c3 : PySem.W.codeIn K cd3 "reduced" = true) (k3 : PySem.W.keepIn K (.ref f3) = true)
    (a4 : PySem.W.nsIn K mainGlobals "pivot_of" = some (some (.ref f4))) (l4 : K.lookup f4 = some ⟨oc4, od4, .func (PySem.W.fnOf "pivot_of" "pivot_of" (defArgs (top 10)) (defBody (top 10)) (defScope (top 10)) .none kV4 dc4 pm4 an4 cd4 ct4), sl4⟩) (c4 : PySem.W.codeIn K cd4 "pivot_of" = true) (k4 : PySem.W.keepIn K (.ref f4) = true)
    (a5 : PySem.W.nsIn K mainGlobals "independent_indexes" = some (some (.ref f5))) (l5 : K.lookup f5 = some ⟨oc5, od5, .func (PySem.W.fnOf "independent_indexes" "independent_indexes" (defArgs (top 11)) (defBody (top 11)) (defScope (top 11)) .none kV5 dc5 pm5 an5 cd5 ct5), sl5⟩) (c5 : PySem.W.codeIn K cd5 "independent_indexes" = true) (k5 : PySem.W.keepIn K (.ref f5) = true)
    (a6 : PySem.W.nsIn K mainGlobals "independent" = some (some (.ref f6))) (l6 : K.lookup f6 = some ⟨oc6, od6, .func (PySem.W.fnOf "independent" "independent" (defArgs (top 12)) (defBody (top 12)) (defScope (top 12)) .none kV6 dc6 pm6 an6 cd6 ct6), sl6⟩) (c6 : PySem.W.codeIn K cd6 "independent" = true) (k6 : PySem.W.keepIn K (.ref f6) = true)
    (a7 : PySem.W.nsIn K mainGlobals "relation" = some (some (.ref f7))) (l7 : K.lookup f7 = some ⟨oc7, od7, .func (PySem.W.fnOf "relation" "relation" (defArgs (top 13)) (defBody (top 13)) (defScope (top 13)) .none kV7 dc7 pm7 an7 cd7 ct7), sl7⟩) (c7 : PySem.W.codeIn K cd7 "relation" = true) (k7 : PySem.W.keepIn K (.ref f7) = true)
    (a8 : PySem.W.nsIn K mainGlobals "_law_cell" = some (some (.ref f8))) (l8 : K.lookup f8 = some ⟨oc8, od8, .func (PySem.W.fnOf "_law_cell" "_law_cell" (defArgs (top 15)) (defBody (top 15)) (defScope (top 15)) .none kV8 dc8 pm8 an8 cd8 ct8), sl8⟩) (c8 : PySem.W.codeIn K cd8 "_law_cell" = true) (k8 : PySem.W.keepIn K (.ref f8) = true)
    (a9 : PySem.W.nsIn K mainGlobals "_law_draws" = some (some (.ref f9))) (l9 : K.lookup f9 = some ⟨oc9, od9, .func (PySem.W.fnOf "_law_draws" "_law_draws" (defArgs (top 16)) (defBody (top 16)) (defScope (top 16)) .none kV9 dc9 pm9 an9 cd9 ct9), sl9⟩) (c9 : PySem.W.codeIn K cd9 "_law_draws" = true) (k9 : PySem.W.keepIn K (.ref f9) = true)
    (a10 : PySem.W.nsIn K mainGlobals "_law_count_free" = some (some (.ref f10))) (l10 : K.lookup f10 = some ⟨oc10, od10, .func (PySem.W.fnOf "_law_count_free" "_law_count_free" (defArgs (top 17)) (defBody (top 17)) (defScope (top 17)) .none kV10 dc10 pm10 an10 cd10 ct10), sl10⟩) (c10 : PySem.W.codeIn K cd10 "_law_count_free" = true) (k10 : PySem.W.keepIn K (.ref f10) = true)
    (a11 : PySem.W.nsIn K mainGlobals "_law_rows" = some (some (.ref f11))) (l11 : K.lookup f11 = some ⟨oc11, od11, .func (PySem.W.fnOf "_law_rows" "_law_rows" (defArgs (top 18)) (defBody (top 18)) (defScope (top 18)) .none kV11 dc11 pm11 an11 cd11 ct11), sl11⟩) (c11 : PySem.W.codeIn K cd11 "_law_rows" = true) (k11 : PySem.W.keepIn K (.ref f11) = true)
    (a12 : PySem.W.nsIn K mainGlobals "_law_is_residues" = some (some (.ref f12))) (l12 : K.lookup f12 = some ⟨oc12, od12, .func (PySem.W.fnOf "_law_is_residues" "_law_is_residues" (defArgs (top 19)) (defBody (top 19)) (defScope (top 19)) .none kV12 dc12 pm12 an12 cd12 ct12), sl12⟩) (c12 : PySem.W.codeIn K cd12 "_law_is_residues" = true) (k12 : PySem.W.keepIn K (.ref f12) = true)
    (a13 : PySem.W.nsIn K mainGlobals "_law_right" = some (some (.ref f13))) (l13 : K.lookup f13 = some ⟨oc13, od13, .func (PySem.W.fnOf "_law_right" "_law_right" (defArgs (top 20)) (defBody (top 20)) (defScope (top 20)) .none kV13 dc13 pm13 an13 cd13 ct13), sl13⟩) (c13 : PySem.W.codeIn K cd13 "_law_right" = true) (k13 : PySem.W.keepIn K (.ref f13) = true)
    (a14 : PySem.W.nsIn K mainGlobals "_law_inverted" = some (some (.ref f14))) (l14 : K.lookup f14 = some ⟨oc14, od14, .func (PySem.W.fnOf "_law_inverted" "_law_inverted" (defArgs (top 21)) (defBody (top 21)) (defScope (top 21)) .none kV14 dc14 pm14 an14 cd14 ct14), sl14⟩) (c14 : PySem.W.codeIn K cd14 "_law_inverted" = true) (k14 : PySem.W.keepIn K (.ref f14) = true)
    (a15 : PySem.W.nsIn K mainGlobals "law" = some (some (.ref f15))) (l15 : K.lookup f15 = some ⟨oc15, od15, .func (PySem.W.fnOf "law" "law" (defArgs (top 22)) (defBody (top 22)) (defScope (top 22)) .none kV15 dc15 pm15 an15 cd15 ct15), sl15⟩) (c15 : PySem.W.codeIn K cd15 "law" = true) (k15 : PySem.W.keepIn K (.ref f15) = true)
    (z0 : PySem.W.nsIn K mainGlobals "bool" = some none)
    (z1 : PySem.W.nsIn K mainGlobals "enumerate" = some none)
    (z2 : PySem.W.nsIn K mainGlobals "int" = some none)
    (z3 : PySem.W.nsIn K mainGlobals "isinstance" = some none)
    (z4 : PySem.W.nsIn K mainGlobals "len" = some none)
    (z5 : PySem.W.nsIn K mainGlobals "list" = some none)
    (z6 : PySem.W.nsIn K mainGlobals "range" = some none)
    (z7 : PySem.W.nsIn K mainGlobals "sum" = some none)
    (z8 : PySem.W.nsIn K mainGlobals "super" = some none)
    (z9 : PySem.W.nsIn K mainGlobals "zip" = some none)
    (v0 : PySem.W.nsIn K mainGlobals "PRIME" = some (some (.int 97 t0)))
    : Told K mg ds blts cst := by
  refine ⟨fun d hd => ?_, fun x hx => ?_, fun p hp => ?_⟩
  · simp only [ds, List.mem_cons, List.not_mem_nil, or_false] at hd
    rcases hd with rfl | rfl | rfl | rfl | rfl | rfl | rfl | rfl | rfl | rfl | rfl | rfl | rfl | rfl | rfl | rfl
    · exact dn_mk (d := d_inverse) X G a0 l0 c0 k0 fun _ _ _ _ _ _ us hl => match us, hl with | [_], _ => rfl
    · exact dn_mk (d := d_dot) X G a1 l1 c1 k1 fun _ _ _ _ _ _ us hl => match us, hl with | [_, _], _ => rfl
    · exact dn_mk (d := d_combine) X G a2 l2 c2 k2 fun _ _ _ _ _ _ us hl => match us, hl with | [_, _, _], _ => rfl
    · exact dn_mk (d := d_reduced) X G a3 l3 c3 k3 fun _ _ _ _ _ _ us hl => match us, hl with | [_, _], _ => rfl
    · exact dn_mk (d := d_pivot_of) X G a4 l4 c4 k4 fun _ _ _ _ _ _ us hl => match us, hl with | [_], _ => rfl
    · exact dn_mk (d := d_independent_indexes) X G a5 l5 c5 k5 fun _ _ _ _ _ _ us hl => match us, hl with | [_], _ => rfl
    · exact dn_mk (d := d_independent) X G a6 l6 c6 k6 fun _ _ _ _ _ _ us hl => match us, hl with | [_], _ => rfl
    · exact dn_mk (d := d_relation) X G a7 l7 c7 k7 fun _ _ _ _ _ _ us hl => match us, hl with | [_], _ => rfl
    · exact dn_mk (d := d__law_cell) X G a8 l8 c8 k8 fun _ _ _ _ _ _ us hl => match us, hl with | [_, _], _ => rfl
    · exact dn_mk (d := d__law_draws) X G a9 l9 c9 k9 fun _ _ _ _ _ _ us hl => match us, hl with | [_, _], _ => rfl
    · exact dn_mk (d := d__law_count_free) X G a10 l10 c10 k10 fun _ _ _ _ _ _ us hl => match us, hl with | [_, _], _ => rfl
    · exact dn_mk (d := d__law_rows) X G a11 l11 c11 k11 fun _ _ _ _ _ _ us hl => match us, hl with | [_, _], _ => rfl
    · exact dn_mk (d := d__law_is_residues) X G a12 l12 c12 k12 fun _ _ _ _ _ _ us hl => match us, hl with | [_, _], _ => rfl
    · exact dn_mk (d := d__law_right) X G a13 l13 c13 k13 fun _ _ _ _ _ _ us hl => match us, hl with | [_, _, _, _], _ => rfl
    · exact dn_mk (d := d__law_inverted) X G a14 l14 c14 k14 fun _ _ _ _ _ _ us hl => match us, hl with | [_], _ => rfl
    · exact dn_mk (d := d_law) X G a15 l15 c15 k15 fun _ _ _ _ _ _ us hl => match us, hl with | [_], _ => rfl
  · simp only [blts, List.mem_cons, List.not_mem_nil, or_false] at hx
    rcases hx with rfl | rfl | rfl | rfl | rfl | rfl | rfl | rfl | rfl | rfl
    · exact PySem.W.mg_none_of X G z0
    · exact PySem.W.mg_none_of X G z1
    · exact PySem.W.mg_none_of X G z2
    · exact PySem.W.mg_none_of X G z3
    · exact PySem.W.mg_none_of X G z4
    · exact PySem.W.mg_none_of X G z5
    · exact PySem.W.mg_none_of X G z6
    · exact PySem.W.mg_none_of X G z7
    · exact PySem.W.mg_none_of X G z8
    · exact PySem.W.mg_none_of X G z9
  · simp only [cst, List.mem_cons, List.not_mem_nil, or_false] at hp
    rcases hp with rfl
    · exact cst_int X G v0
theorem toldX {K : PySem.W.Frag} {P : Program} {mg : Str → Option Value} {h : Heap} (X : K.In h) (G : h.Ns mainGlobals mg) {C1 C2 C3 : Addr}
    (a1 : PySem.W.nsIn K mainGlobals "ServeError" = some (some (.ref C1))) (k1 : PySem.W.keepIn K (.ref C1) = true) (t1 : XcT K an C1) (v1 : PySem.W.subIn K (.type "ValueError") (.ref C1) = some false)
    (a2 : PySem.W.nsIn K mainGlobals "NoInverse" = some (some (.ref C2))) (k2 : PySem.W.keepIn K (.ref C2) = true) (t2 : XcT K an C2) (v2 : PySem.W.subIn K (.type "ValueError") (.ref C2) = some false)
    (a3 : PySem.W.nsIn K mainGlobals "BadTable" = some (some (.ref C3))) (k3 : PySem.W.keepIn K (.ref C3) = true) (t3 : XcT K an C3) (v3 : PySem.W.subIn K (.type "ValueError") (.ref C3) = some false)
    (s1_1 : PySem.W.subIn K (.ref C1) (.ref C1) = some true)
    (s1_2 : PySem.W.subIn K (.ref C1) (.ref C2) = some false)
    (s1_3 : PySem.W.subIn K (.ref C1) (.ref C3) = some false)
    (s2_1 : PySem.W.subIn K (.ref C2) (.ref C1) = some true)
    (s2_2 : PySem.W.subIn K (.ref C2) (.ref C2) = some true)
    (s2_3 : PySem.W.subIn K (.ref C2) (.ref C3) = some false)
    (s3_1 : PySem.W.subIn K (.ref C3) (.ref C1) = some true)
    (s3_2 : PySem.W.subIn K (.ref C3) (.ref C2) = some false)
    (s3_3 : PySem.W.subIn K (.ref C3) (.ref C3) = some true)
    (i2 : ∃ fI fd sf x, IniK K P C2 "number" fI fd sf x ∧ Binds K fd [sf, x] [])
    (zs : PySem.W.nsIn K mainGlobals "super" = some none)
    : ToldX K P mg (wdX K an (xcT [(1, C1), (2, C2), (3, C3)])) xcs an := by
  have T : XcS K an [(1, C1), (2, C2), (3, C3)] := by
    refine ⟨⟨_, rfl⟩, fun p hp => ?_, fun p hp q hq => ?_, fun q hq => ?_, fun p hp => ?_⟩
    · simp only [List.mem_cons, List.not_mem_nil, or_false] at hp
      rcases hp with rfl | rfl | rfl
      · exact t1
      · exact t2
      · exact t3
    · simp only [List.mem_cons, List.not_mem_nil, or_false] at hp hq
      rcases hp with rfl | rfl | rfl
      · rcases hq with rfl | rfl | rfl
        · exact s1_1
        · exact s1_2
        · exact s1_3
      · rcases hq with rfl | rfl | rfl
        · exact s2_1
        · exact s2_2
        · exact s2_3
      · rcases hq with rfl | rfl | rfl
        · exact s3_1
        · exact s3_2
        · exact s3_3
    · simp only [List.mem_cons, List.not_mem_nil, or_false] at hq
      rcases hq with rfl | rfl | rfl
      · exact v1
      · exact v2
      · exact v3
    · simp only [List.mem_cons, List.not_mem_nil, or_false] at hp
      rcases hp with rfl | rfl | rfl <;> exact Nat.succ_ne_zero _
  refine ⟨fun d hd => ?_, fun _ => T.all, fun _ => rfl, fun _ _ _ z => z⟩
  simp only [xcs, List.mem_cons, List.not_mem_nil, or_false] at hd
  rcases hd with rfl | rfl | rfl
  · exact T.is X G rfl a1 k1 (fun h => by cases h) (fun h => by cases h)
  · exact T.is X G rfl a2 k2 (fun _ h => by cases h) (fun _ k f h => by cases h; exact ⟨rfl, PySem.W.mg_none_of X G zs, i2⟩)
  · exact T.is X G rfl a3 k3 (fun h => by cases h) (fun h => by cases h)
theorem inverse_is : b_inverse = inverseB 2 0 := rfl
theorem reduced_is : b_reduced = reducedB := rfl
theorem pivot_is : b_pivot_of = pivotB := rfl
theorem indep_is : b_independent_indexes = indepB 3 4 0 := rfl
theorem relation_is : b_relation = relationB 3 4 0 := rfl
theorem count_is : b__law_count_free = countB := rfl
/-! ### _law_inverted -/
theorem ess_seq {Γ : Glob} {s : Mi.S} {r : List Mi.S} {env : Mi.Env} {o : Out} (h : evS Γ s env = o) (ho : ∀ e, o ≠ .nx e) : evSs Γ (s :: r) env = o := by
  rw [ess_cons, h]
  cases o with
  | nx e => exact absurd rfl (ho e)
  | _ => rfl
theorem inverted_run {Γ : Glob} (hG : ∃ Γ', ∀ i : Int, Γ.call 0 [.frz (.int i)] = runB Γ' (inverseB 2 0) [.frz (.int i)]) (i : Int) : runB Γ b__law_inverted [.frz (.int i)] = .ok (.bl true) := by
  obtain ⟨Γ', hG⟩ := hG
  by_cases h : i % 97 = 0
  · have cl : evE Γ (.call false 0 [.peek 0]) [.frz (.int i), .un, .un] = .exc ⟨2, some (0, .int i)⟩ := by
      show (R.ok ([.frz (.int i)] : List Mi.Slot)).bind (fun as => Γ.call 0 as) = _
      rw [b_ok, hG, inverse_exc Γ' 2 0 i h]
    have bd : evSs Γ [.asg (.nm 2) (.call false 0 [.peek 0])] [.frz (.int i), .un, .un] = .exc ⟨2, some (0, .int i)⟩ [.frz (.int i), .un, .un] := by
      rw [ess_cons, es_asg, cl]
      rfl
    refine run_ret (env := [.frz (.int i), .un, .un]) (own := false) rfl ?_ rfl
    refine ess_seq ?_ (fun e z => by cases z)
    show triO 2 (some 1) _ (evSs Γ [.asg (.nm 2) (.call false 0 [.peek 0])] [.frz (.int i), .un, .un]) = _
    rw [bd]
    have q : evE Γ (.and (.cmp .eq (.bin .mod (.peek 0) (.cst (.int 97))) (.cst (.int 0))) (.and (.cmp .eq (.xattr 1 0) (.peek 0)) (.and (.xisi 1 1) (.not (.xisi 1 3))))) [.frz (.int i), .exn ⟨2, some (0, .int i)⟩, .un] = .ok (.bl true) := by
      have x1 : evE Γ (.xattr 1 0) [.frz (.int i), .exn ⟨2, some (0, .int i)⟩, .un] = .ok (.int i) := rfl
      have x2 : evE Γ (.xisi 1 1) [.frz (.int i), .exn ⟨2, some (0, .int i)⟩, .un] = .ok (.bl true) := rfl
      have x3 : evE Γ (.xisi 1 3) [.frz (.int i), .exn ⟨2, some (0, .int i)⟩, .un] = .ok (.bl false) := rfl
      simp [x1, x2, x3, binD, mod_int, cmpD, eqR, eqOk, eqD, h]
    show (evSs Γ [.ret _] [.frz (.int i), .exn ⟨2, some (0, .int i)⟩, .un]).nox.onEnv _ = _
    rw [ess_ret q]
    rfl
  · obtain ⟨h1, h2, h3⟩ := inv_ok h
    have cl : evE Γ (.call false 0 [.peek 0]) [.frz (.int i), .un, .un] = .ok (.int (inv97 i)) := by
      show (R.ok ([.frz (.int i)] : List Mi.Slot)).bind (fun as => Γ.call 0 as) = _
      rw [b_ok, hG, inverse_run Γ' 2 0 i h]
    generalize inv97 i = v at h1 h2 h3 cl
    refine run_ret (env := [.frz (.int i), .un, .un]) (own := false) rfl ?_ rfl
    refine ess_nx (e := [.frz (.int i), .un, .frz (.int v)]) ?_ ?_
    · show triO 2 (some 1) _ (evSs Γ [.asg (.nm 2) (.call false 0 [.peek 0])] [.frz (.int i), .un, .un]) = _
      have bd : evSs Γ [.asg (.nm 2) (.call false 0 [.peek 0])] [.frz (.int i), .un, .un] = .nx [.frz (.int i), .un, .frz (.int v)] := ess_asg (d := .int v) cl rfl rfl
      rw [bd]
      rfl
    · have c : evE Γ (.or (.not (.isi .int (.peek 2))) (.or (.isi .bool (.peek 2)) (.or (.cmp .lt (.peek 2) (.cst (.int 1))) (.cmp .gt (.peek 2) (.cst (.int 96)))))) [.frz (.int i), .un, .frz (.int v)] = .ok (.bl false) := by
        have n1 : ¬ v < 1 := by omega
        have n2 : ¬ 96 < v := by omega
        simp [isiD, cmpD, ltD, gtD, n1, n2]
      refine ess_if c rfl (ess_ret ?_)
      have m : mulD (.int v) (.int i) = .ok (.int (v * i)) := by
        unfold mulD fitMul
        dsimp only
        rw [show (decide (-(2 ^ 64) < v ∧ v < 2 ^ 64)) = true from decide_eq_true (by omega), Bool.true_or, Bool.true_or]
        rfl
      simp [binD, m, mod_int, cmpD, eqR, eqOk, eqD, h3]
theorem sum_range (n : Nat) (f : Nat → Int) : ((List.range n).map f).sum = sm n f := by
  induction n with
  | zero => rfl
  | succ n ih =>
    rw [List.range_succ, List.map_append, List.sum_append, ih]
    simp [sm]
theorem zip_range {n : Nat} {a b : List Int} (ha : a.length = n) (hb : b.length = n) (f : Int → Int → Int) : List.zipWith f a b = (List.range n).map fun t => f (vz a t) (vz b t) := by
  apply List.ext_getElem
  · simp [ha, hb]
  · intro i h1 h2
    simp only [List.getElem_zipWith, List.getElem_map, List.getElem_range]
    rw [vz_lt (r := a) (by simp at h2; omega), vz_lt (r := b) (by simp at h2; omega)]
theorem sum_row (r : List Int) : sumD [rowD r] = .ok (.int r.sum) := by
  unfold rowD sumD
  dsimp only
  rw [toInts_map]
  rfl
theorem small_res {x : Int} (h : 0 ≤ x ∧ x < 97) : -18446744073709551616 < x ∧ x < 18446744073709551616 := by omega
theorem dot_run (Γ : Glob) (r s : List Int) (hr : ∀ x ∈ r, 0 ≤ x ∧ x < 97) (hl : r.length ≤ 1000000) {L1 L2 : Slot} (h1 : Sn (rowD r) L1) (h2 : Sn (rowD s) L2) : runB Γ b_dot [L1, L2] = .ok (.int ((List.zipWith (· * ·) r s).sum % 97)) := by
  refine run_ret (env := [L1, L2, .un, .un]) (own := true) rfl (ess_ret ?_) rfl
  have z : evE Γ (.zip (.peek 0) (.peek 1)) [L1, L2, .un, .un] = .ok (.itr (zipL (r.map .int) (s.map .int))) := by
    show (R.bind L1.val fun x => R.bind L2.val fun y => zipD x y) = _
    rw [h1.val, h2.val]
    rfl
  have c : evE Γ (.comp (.bin .mul (.peek 2) (.peek 3)) (.tup [.nm 2, .nm 3]) (.zip (.peek 0) (.peek 1)) [] [2, 3]) [L1, L2, .un, .un] = .ok (rowD (List.zipWith (· * ·) r s)) :=
    comp_z r s z hl fun x hx y _ => mul_l (small_res (hr x hx))
  rw [ev_bin, ev_bi, evs_cons, c, b_ok, evs_nil, m_ok, b_ok]
  show R.bind (sumD [rowD (List.zipWith (· * ·) r s)]) (fun x => modD x (.int 97)) = _
  rw [sum_row, b_ok]
  exact mod_int (by decide)
theorem flat_rep (w : Nat) (d : D) : (List.replicate w [d]).flatten = List.replicate w d := by
  induction w with
  | zero => rfl
  | succ w ih => simp [List.replicate_succ, ih]
/-- the sum of the rows -/
def cmS (tot : List Int) (p : Int × List Int) : List Int := List.zipWith (fun a b => (a + p.1 * b) % 97) tot p.2
theorem combine_run (Γ : Glob) (cs : List Int) (rows : List (List Int)) (w : Nat) (hc : ∀ x ∈ cs, 0 ≤ x ∧ x < 97) (hr : ∀ r ∈ rows, r.length = w) (hw : w ≤ 100000) {L1 L2 : Slot} (h1 : Sn (rowD cs) L1) (h2 : Sn (rowsD rows) L2) : runB Γ b_combine [L1, L2, .frz (.int (w : Int))] = .ok (rowD ((cs.zip rows).foldl cmS (List.replicate w 0))) := by
  have c1 : evE Γ (.bin .mul (.lst [.cst (.int 0)]) (.peek 2)) [L1, L2, .frz (.int (w : Int)), .un, .un, .un, .un, .un] = .ok (rowD (List.replicate w 0)) := by
    show mulD (.lst [.int 0]) (.int (w : Int)) = _
    unfold mulD
    dsimp only
    rw [show (decide (-1000000 ≤ (w : Int) ∧ (w : Int) ≤ 1000000)) = true from decide_eq_true (by omega), show lenLine (([D.int 0] : List D).length * (w : Int).toNat) = true from decide_eq_true (by simp; omega)]
    rw [Bool.and_self, if_pos rfl, Int.toNat_natCast]
    unfold rowD
    rw [List.map_replicate, flat_rep]
  refine run_ret (env := [L1, L2, .frz (.int (w : Int)), .un, .un, .un, .un, .un]) (own := true) rfl ?_ rfl
  refine ess_asg (e1 := [L1, L2, .frz (.int (w : Int)), .own (rowD (List.replicate w 0)), .un, .un, .un, .un]) c1 rfl ?_
  let St : List Int → Mi.Env := fun tot => [L1, L2, .frz (.int (w : Int)), .own (rowD tot), .un, .un, .un, .un]
  have lp := ef_fold (body := evSs Γ [.asgC 3 (.comp (.bin .mod (.bin .add (.peek 6) (.bin .mul (.peek 4) (.peek 7))) (.cst (.int 97))) (.tup [.nm 6, .nm 7]) (.zip (.peek 3) (.peek 5)) [] [6, 7])]) (bd := bindT (.tup [.nm 4, .nm 5])) (e0 := St (List.replicate w 0))
    (fun p : Int × List Int => .tup [.int p.1, rowD p.2]) cmS St (fun _ tot => tot.length = w) (cs.zip rows).length (cs.zip rows) 0 (List.replicate w 0) (by omega) (by simp) fun i tot p hp _ hl => by
      obtain ⟨m1, m2⟩ := List.of_mem_zip hp
      have pl := hr _ m2
      refine ⟨by unfold cmS; rw [List.length_zipWith]; omega, [L1, L2, .frz (.int (w : Int)), .own (rowD tot), .frz (.int p.1), .frz (rowD p.2), .un, .un], [L1, L2, .frz (.int (w : Int)), .own (rowD (cmS tot p)), .frz (.int p.1), .frz (rowD p.2), .un, .un], rfl, ?_, ?_⟩
      · refine ess_asgC (d := rowD (cmS tot p)) ?_ rfl rfl
        refine comp_z tot p.2 rfl (by omega) fun x _ y _ => ?_
        show ((mulD (.int p.1) (.int y)).bind fun z => addD (.int x) z).bind (fun z => modD z (.int 97)) = _
        rw [mul_l (small_res (hc _ m1)), b_ok]
        exact mod_int (j := 97) (by decide)
      · show mask (L1 :: L2 :: _) (L1 :: L2 :: _) = _
        rw [h1.mk, h2.mk]
        rfl
  have it : (evE Γ (.zip (.peek 0) (.peek 1)) (St (List.replicate w 0))).bind items = .ok ((cs.zip rows).map fun p : Int × List Int => .tup [.int p.1, rowD p.2]) := by
    show R.bind (R.bind L1.val fun x => R.bind L2.val fun y => zipD x y) items = _
    rw [h1.val, h2.val]
    show R.ok (zipL (cs.map D.int) (rows.map rowD)) = _
    rw [zipL_rows]
  refine ess_for it (e1 := St (List.replicate w 0)) ?_ lp.1 rfl ?_
  · show [lock L1, lock L2, _, _, _, _, _, _] = _
    rw [h1.lk, h2.lk]
  · rfl
theorem cm_at (w : Nat) : ∀ (ps : List (Int × List Int)) (tot : List Int), tot.length = w → (∀ p ∈ ps, p.2.length = w) → (ps.foldl cmS tot).length = w ∧ ∀ j, j < w → (97 : Int) ∣ vz (ps.foldl cmS tot) j - (vz tot j + (ps.map fun p => p.1 * vz p.2 j).sum)
  | [], tot, h, _ => ⟨h, fun j _ => by simp⟩
  | p :: ps, tot, h, hp => by
    have hl : (cmS tot p).length = w := by unfold cmS; rw [List.length_zipWith]; have := hp p List.mem_cons_self; omega
    obtain ⟨a, b⟩ := cm_at w ps (cmS tot p) hl fun q hq => hp q (List.mem_cons_of_mem _ hq)
    refine ⟨a, fun j hj => ?_⟩
    have e := b j hj
    have q : vz (cmS tot p) j = (vz tot j + p.1 * vz p.2 j) % 97 := by
      unfold cmS
      exact vz_zip (g := fun a b => (a + p.1 * b) % 97) (by omega) (by have := hp p List.mem_cons_self; omega)
    rw [q] at e
    rw [List.foldl_cons, List.map_cons, List.sum_cons]
    have m := mod_dvd (vz tot j + p.1 * vz p.2 j)
    have := Int.dvd_add e m
    generalize (vz tot j + p.1 * vz p.2 j) % 97 = y at this
    have z : vz (ps.foldl cmS (cmS tot p)) j - (y + (ps.map fun p => p.1 * vz p.2 j).sum) + (y - (vz tot j + p.1 * vz p.2 j)) = vz (ps.foldl cmS (cmS tot p)) j - (vz tot j + (p.1 * vz p.2 j + (ps.map fun p => p.1 * vz p.2 j).sum)) := by omega
    rwa [z] at this
theorem cm_res : ∀ (ps : List (Int × List Int)) (tot : List Int), (∀ x ∈ tot, 0 ≤ x ∧ x < 97) → ∀ x ∈ ps.foldl cmS tot, 0 ≤ x ∧ x < 97
  | [], tot, h => h
  | p :: ps, tot, h => cm_res ps (cmS tot p) fun x hx => by
    obtain ⟨i, hi, rfl⟩ := List.getElem_of_mem (show x ∈ List.zipWith _ _ _ from hx)
    simp only [List.getElem_zipWith]
    exact ⟨Int.emod_nonneg _ (by omega), Int.emod_lt_of_pos _ (by omega)⟩
theorem zip_sum {n : Nat} {a : List Int} {b : List (List Int)} (ha : a.length = n) (hb : b.length = n) (j : Nat) : ((a.zip b).map fun p => p.1 * vz p.2 j).sum = sm n fun t => vz a t * mx b t j := by
  rw [← sum_range]
  refine congrArg List.sum ?_
  apply List.ext_getElem
  · simp [ha, hb]
  · intro i h1 h2
    simp only [List.getElem_map, List.getElem_zip, List.getElem_range]
    rw [vz_lt (r := a) (by simp at h2; omega)]
    unfold mx
    rw [List.getD_eq_getElem?_getD, List.getElem?_eq_getElem (by simp at h2; omega)]
    rfl
theorem rep_of {w : Nat} {r : List Int} (hl : r.length = w) (h : ∀ j, j < w → vz r j = 0) : r = List.replicate w 0 := by
  apply List.ext_getElem
  · simp [hl]
  · intro i h1 h2
    rw [List.getElem_replicate, ← vz_lt h1]
    exact h i (by omega)
theorem eqOk_row (n : Nat) (r : List Int) : eqOk (n + 2) (rowD r) = true := by
  show (r.map D.int).all (eqOk (n + 1)) = true
  rw [List.all_eq_true]
  intro d hd
  obtain ⟨i, _, rfl⟩ := List.mem_map.mp hd
  rfl
theorem eqOk_rows (n : Nat) (l : List (List Int)) : eqOk (n + 3) (rowsD l) = true := by
  show (l.map rowD).all (eqOk (n + 2)) = true
  rw [List.all_eq_true]
  intro d hd
  obtain ⟨r, _, rfl⟩ := List.mem_map.mp hd
  exact eqOk_row n r
/-! ### _law_is_residues -/
theorem residues_run (Γ : Glob) (r : List Int) (h : ∀ x ∈ r, 0 ≤ x ∧ x < 97) {L : Slot} (hL : Sn (rowD r) L) : runB Γ b__law_is_residues [L, .frz (.int (r.length : Int))] = .ok (.bl true) := by
  have c1 : evE Γ (.or (.not (.isi .list (.peek 0))) (.cmp .ne (.bi .len [.peek 0]) (.peek 1))) [L, .frz (.int (r.length : Int)), .un] = .ok (.bl false) := by
    have l : evE Γ (.bi .len [.peek 0]) [L, .frz (.int (r.length : Int)), .un] = .ok (.int (r.length : Int)) := by
      show (R.bind (R.bind L.val fun x => (R.ok []).map (x :: ·)) fun ds => biD .len ds) = _
      rw [hL.val]
      show R.ok (D.int ((r.map D.int).length : Int)) = _
      rw [List.length_map]
    have i : evE Γ (.isi .list (.peek 0)) [L, .frz (.int (r.length : Int)), .un] = .ok (.bl true) := by
      show R.bind L.val _ = _
      rw [hL.val]
      rfl
    have ne : evE Γ (.cmp .ne (.bi .len [.peek 0]) (.peek 1)) [L, .frz (.int (r.length : Int)), .un] = .ok (.bl false) := by
      rw [ev_cmp, l, b_ok]
      show neR (.int (r.length : Int)) (.int (r.length : Int)) = _
      rw [ne_int]
      simp
    simp only [ev_or, ev_not, i, ne, b_ok, truth_bl, m_ok, Bool.not_true]
  refine run_ret (env := [L, .frz (.int (r.length : Int)), .un]) (own := false) rfl (ess_if c1 rfl ?_) rfl
  have lp := ef_same (body := evSs Γ [.ife (.or (.not (.isi .int (.peek 2))) (.or (.isi .bool (.peek 2)) (.or (.cmp .lt (.peek 2) (.cst (.int 0))) (.cmp .gt (.peek 2) (.cst (.int 96)))))) [.ret (.cst (.bl false))] []]) (bd := bindT (.nm 2)) (e0 := [L, .frz (.int (r.length : Int)), .un]) (env := [L, .frz (.int (r.length : Int)), .un]) D.int r fun x hx => by
    refine ⟨[L, .frz (.int (r.length : Int)), .frz (.int x)], [L, .frz (.int (r.length : Int)), .frz (.int x)], rfl, ?_, ?_⟩
    · have b := h x hx
      have c : evE Γ (.or (.not (.isi .int (.peek 2))) (.or (.isi .bool (.peek 2)) (.or (.cmp .lt (.peek 2) (.cst (.int 0))) (.cmp .gt (.peek 2) (.cst (.int 96)))))) [L, .frz (.int (r.length : Int)), .frz (.int x)] = .ok (.bl false) := by
        have n1 : ¬ x < 0 := by omega
        have n2 : ¬ 96 < x := by omega
        simp [isiD, cmpD, ltD, gtD, n1, n2]
      exact ess_if c rfl rfl
    · rw [hL.mk]
      rfl
  refine ess_for (xs := r.map D.int) (e1 := [L, .frz (.int (r.length : Int)), .un]) ?_ ?_ lp rfl (ess_ret (d := .bl true) rfl)
  · show R.bind L.val items = _
    rw [hL.val]
    rfl
  · show [lock L, _, _] = _
    rw [hL.lk]
/-! ### _law_right -/
theorem due_more (w : Nat) (rows : List (List Int)) (k : Nat) : ∀ i, ∃ tl, dueL w rows (k + i) = dueL w rows k ++ tl ∧ tl.length ≤ i ∧ ∀ x ∈ tl, k ≤ x
  | 0 => ⟨[], by simp⟩
  | i + 1 => by
    obtain ⟨tl, e, hl, hx⟩ := due_more w rows k i
    rw [← Nat.add_assoc, dueL]
    split
    · refine ⟨tl ++ [k + i], by rw [e, List.append_assoc], by rw [List.length_append]; simp; omega, fun x hx' => ?_⟩
      rcases List.mem_append.mp hx' with h | h
      · exact hx x h
      · rw [List.mem_singleton.mp h]
        omega
    · exact ⟨tl, e, by omega, hx⟩
theorem rel_due {w k : Nat} {rows : List (List Int)} {told : List Int} (h : RelOk w rows k told) : ∃ tl, dueL w rows rows.length = List.range k ++ tl ∧ tl.length ≤ rows.length - (k + 1) ∧ ∀ x ∈ tl, k < x := by
  obtain ⟨tl, e, hl, hx⟩ := due_more w rows (k + 1) (rows.length - (k + 1))
  have hk := h.lt
  rw [show k + 1 + (rows.length - (k + 1)) = rows.length by omega] at e
  refine ⟨tl, ?_, hl, fun x hx' => hx x hx'⟩
  rw [e, dueL, if_neg h.dep, h.due]
theorem vz_hi {r : List Int} {j : Nat} (h : ∀ x ∈ r, 0 ≤ x ∧ x < 97) : 0 ≤ vz r j ∧ vz r j < 97 := by
  by_cases hj : j < r.length
  · exact h _ (vz_mem hj)
  · rw [vz_ge (by omega)]
    omega
/-- a slot that holds an int -/
theorem len_at {Γ : Glob} {env : Mi.Env} {i : Nat} {xs : List D} {L : Mi.Slot} (h : gt env i = L) (hL : Sn (.lst xs) L) : evE Γ (.bi .len [.peek i]) env = .ok (.int (xs.length : Int)) := by
  show (R.bind (R.bind (gt env i).val fun x => (R.ok []).map (x :: ·)) fun ds => biD .len ds) = _
  rw [h, hL.val]
  rfl
theorem idx_at {Γ : Glob} {env : Mi.Env} {i j k : Nat} {r : List Int} {L : Mi.Slot} (h : gt env i = L) (hL : Sn (rowD r) L) (hj : gt env j = .frz (.int (k : Int))) (hk : k < r.length) : evE Γ (.idx (.peek i) (.peek j)) env = .ok (.int (vz r k)) := by
  show (R.bind (gt env i).val fun x => R.bind (gt env j).val fun y => idxD x y) = _
  rw [h, hL.val, hj]
  exact idx_row hk
def natsR (l : List Nat) : List Int := l.map fun (k : Nat) => (k : Int)
theorem nats_row (l : List Nat) : natsD l = rowD (natsR l) := by
  unfold natsD rowD natsR
  rw [List.map_map]
  rfl
theorem nats_at {l : List Nat} {k : Nat} (h : k < l.length) : vz (natsR l) k = (l.getD k 0 : Nat) := by
  unfold natsR
  rw [vz_lt (by simpa using h), List.getElem_map, List.getD_eq_getElem?_getD, List.getElem?_eq_getElem h]
  rfl
structure RightG (Γ : Glob) : Prop where
  res : ∃ Γ', ∀ as, Γ.call 12 as = runB Γ' b__law_is_residues as
  dot : ∃ Γ', ∀ as, Γ.call 1 as = runB Γ' b_dot as
  com : ∃ Γ', ∀ as, Γ.call 2 as = runB Γ' b_combine as
theorem right_none {Γ : Glob} {w : Nat} {rows : List (List Int)} (hd : dueL w rows rows.length = List.range rows.length) {L0 L1 L3 : Mi.Slot} (h0 : Sn .non L0) (h1 : Sn (rowsD rows) L1) (h3 : Sn (natsD (dueL w rows rows.length)) L3) : runB Γ b__law_right [L0, L1, .frz (.int (w : Int)), L3] = .ok (.bl true) := by
  refine run_ret (env := [L0, L1, .frz (.int (w : Int)), L3, .un, .un, .un, .un, .un]) (own := false) rfl ?_ rfl
  have c : evE Γ (.cmp .eq (.bi .len [.peek 3]) (.bi .len [.peek 1])) [L0, L1, .frz (.int (w : Int)), L3, .un, .un, .un, .un, .un] = .ok (.bl true) := by
    rw [ev_cmp, len_at (L := L3) rfl h3, b_ok, len_at (L := L1) rfl h1, b_ok]
    show eqR _ _ = _
    rw [eq_int, List.length_map, List.length_map, hd, List.length_range, decide_eq_true rfl]
  refine ess_if_ret c (ess_ret (d := .bl true) ?_)
  show R.bind L0.val _ = _
  rw [h0.val]
  rfl
theorem right_some {Γ : Glob} (G : RightG Γ) {w k : Nat} {rows : List (List Int)} {told : List Int} (Rl : RelOk w rows k told) (hr : ∀ r ∈ rows, r.length = w) (hw : w ≤ 1000) (hn : rows.length ≤ 1000) {L0 L1 L3 : Mi.Slot} (h0 : Sn (rowD told) L0) (h1 : Sn (rowsD rows) L1) (h3 : Sn (natsD (dueL w rows rows.length)) L3) : runB Γ b__law_right [L0, L1, .frz (.int (w : Int)), L3] = .ok (.bl true) := by
  obtain ⟨tl, ed, tl1, tl2⟩ := rel_due Rl
  have hk := Rl.lt
  obtain ⟨⟨Γ1, G1⟩, ⟨Γ2, G2⟩, ⟨Γ3, G3⟩⟩ := G
  obtain ⟨due, edue⟩ : ∃ due, due = dueL w rows rows.length := ⟨_, rfl⟩
  rw [← edue] at ed h3
  have dl : due.length = k + tl.length := by rw [ed]; simp
  have at1 : ∀ i, i < k → due.getD i 0 = i := fun i hi => by
    rw [ed, getD_app1 (by simpa using hi), List.getD_eq_getElem?_getD, List.getElem?_range hi]
    rfl
  have at2 : k < due.length → due.getD k 0 ≠ k := fun h e => by
    have m : due.getD k 0 ∈ tl := by
      rw [ed, List.getD_eq_getElem?_getD, List.getElem?_append_right (by simp), List.length_range, Nat.sub_self, List.getElem?_eq_getElem (by omega)]
      exact List.getElem_mem _
    have := tl2 _ m
    omega
  have h3r : Sn (rowD (natsR due)) L3 := by rw [← nats_row]; exact h3
  have nl : (natsR due).length = due.length := by simp [natsR]
  refine run_ret (env := [L0, L1, .frz (.int (w : Int)), L3, .un, .un, .un, .un, .un]) (own := false) rfl ?_ rfl
  have c1 : evE Γ (.cmp .eq (.bi .len [.peek 3]) (.bi .len [.peek 1])) [L0, L1, .frz (.int (w : Int)), L3, .un, .un, .un, .un, .un] = .ok (.bl false) := by
    rw [ev_cmp, len_at (L := L3) rfl h3, b_ok, len_at (L := L1) rfl h1, b_ok]
    show eqR _ _ = _
    rw [eq_int, List.length_map, List.length_map, decide_eq_false (by omega)]
  refine ess_if c1 rfl (ess_asg (d := .int 0) (e1 := [L0, L1, .frz (.int (w : Int)), L3, .frz (.int (0 : Nat)), .un, .un, .un, .un]) rfl rfl ?_)
  -- the first row that is a sum
  let W : Nat → Mi.Env := fun i => [L0, L1, .frz (.int (w : Int)), L3, .frz (.int (i : Int)), .un, .un, .un, .un]
  have cw : ∀ i, i ≤ k → (evE Γ (.and (.cmp .lt (.peek 4) (.bi .len [.peek 3])) (.cmp .eq (.idx (.peek 3) (.peek 4)) (.peek 4))) (W i)).bind truth = .ok (decide (i < k)) := fun i hi => by
    have a : evE Γ (.cmp .lt (.peek 4) (.bi .len [.peek 3])) (W i) = .ok (.bl (decide (i < due.length))) := by
      show (R.bind (R.ok (D.int (i : Int))) fun x => (evE Γ (.bi .len [.peek 3]) (W i)).bind fun y => ltD x y) = _
      rw [b_ok, len_at (L := L3) rfl h3, b_ok]
      show R.ok (D.bl (decide ((i : Int) < ((due.map fun (k : Nat) => D.int (k : Int)).length : Int)))) = _
      rw [List.length_map]
      congr 2
      exact decide_eq_decide.mpr (by omega)
    rw [ev_and, a, b_ok]
    by_cases hd : i < due.length
    · rw [decide_eq_true hd]
      have b : evE Γ (.cmp .eq (.idx (.peek 3) (.peek 4)) (.peek 4)) (W i) = .ok (.bl (decide (i < k))) := by
        rw [ev_cmp, idx_at (L := L3) (k := i) rfl h3r rfl (by omega), b_ok]
        show eqR (.int (vz (natsR due) i)) (.int (i : Int)) = _
        rw [eq_int, nats_at hd]
        refine congrArg (fun b => R.ok (D.bl b)) (decide_eq_decide.mpr ?_)
        constructor
        · intro e
          rcases Nat.lt_or_ge i k with z | z
          · exact z
          · have : i = k := by omega
            rw [this] at e hd
            exact absurd (by omega) (at2 hd)
        · intro hlt
          rw [at1 i hlt]
      show R.bind (evE Γ (.cmp .eq (.idx (.peek 3) (.peek 4)) (.peek 4)) (W i)) truth = _
      rw [b]
      rfl
    · rw [decide_eq_false hd, decide_eq_false (by omega)]
      rfl
  have wl : ∀ (m i : Nat), i + m = k → ∀ fu, m < fu → evWhl (fun e => (evE Γ (.and (.cmp .lt (.peek 4) (.bi .len [.peek 3])) (.cmp .eq (.idx (.peek 3) (.peek 4)) (.peek 4))) e).bind truth) (evSs Γ [.asg (.nm 4) (.bin .add (.peek 4) (.cst (.int 1)))]) (W 0) fu (W i) = .nx (W k) := by
    intro m
    induction m with
    | zero =>
      intro i hi fu hf
      have : i = k := by omega
      subst this
      obtain ⟨fu', rfl⟩ : ∃ f, fu = f + 1 := ⟨fu - 1, by omega⟩
      exact whl_stop ((cw i (Nat.le_refl _)).trans (by rw [decide_eq_false (Nat.lt_irrefl _)]))
    | succ m ih =>
      intro i hi fu hf
      obtain ⟨fu', rfl⟩ : ∃ f, fu = f + 1 := ⟨fu - 1, by omega⟩
      refine whl_step ((cw i (by omega)).trans (by rw [decide_eq_true (by omega)])) (e2 := W (i + 1)) rfl ?_ (ih (i + 1) (by omega) fu' (by omega))
      show mask (L0 :: L1 :: .frz (.int (w : Int)) :: L3 :: _) (L0 :: L1 :: .frz (.int (w : Int)) :: L3 :: _) = _
      rw [h0.mk, h1.mk]
      show L0 :: L1 :: .frz (.int (w : Int)) :: mask (L3 :: _) (L3 :: _) = _
      rw [h3.mk]
      rfl
  refine ess_nx (e := W k) ((es_whl _ _).trans (wl k 0 (by omega) fuel (by unfold fuel; omega))) ?_
  have c2 : evE Γ (.or (.not (.call false 12 [.peek 0, .bi .len [.peek 1]])) (.cmp .ne (.idx (.peek 0) (.peek 4)) (.cst (.int 1)))) (W k) = .ok (.bl false) := by
    have a : evE Γ (.call false 12 [.peek 0, .bi .len [.peek 1]]) (W k) = .ok (.bl true) := by
      show (R.bind (R.bind L0.val fun x => (R.bind (evE Γ (.bi .len [.peek 1]) (W k)) fun y => (R.ok []).map (lend (W k) y (.bi .len [.peek 1]) :: ·)).map (lend (W k) x (.peek 0) :: ·)) fun as => Γ.call 12 as) = _
      rw [h0.val, len_at (L := L1) rfl h1]
      show Γ.call 12 [lendS (rowD told) L0, .frz (.int ((rows.map rowD).length : Int))] = _
      rw [h0.le, G1, List.length_map, ← Rl.len]
      exact residues_run Γ1 told Rl.res h0
    have b : evE Γ (.cmp .ne (.idx (.peek 0) (.peek 4)) (.cst (.int 1))) (W k) = .ok (.bl false) := by
      rw [ev_cmp, idx_at (L := L0) (k := k) rfl h0 rfl (by rw [Rl.len]; exact hk), b_ok]
      show neR (.int (vz told k)) (.int 1) = _
      rw [ne_int, Rl.one]
      rfl
    simp only [ev_or, ev_not, a, b, b_ok, truth_bl, m_ok, Bool.not_true]
  refine ess_if c2 rfl ?_
  have mkW : ∀ (s5 s6 s7 s8 : Mi.Slot), mask (W k) [L0, L1, .frz (.int (w : Int)), L3, .frz (.int (k : Int)), s5, s6, s7, s8] = W k := fun s5 s6 s7 s8 => by
    show mask (L0 :: L1 :: .frz (.int (w : Int)) :: L3 :: _) (L0 :: L1 :: .frz (.int (w : Int)) :: L3 :: _) = _
    rw [h0.mk, h1.mk]
    show L0 :: L1 :: .frz (.int (w : Int)) :: mask (L3 :: _) (L3 :: _) = _
    rw [h3.mk]
    rfl
  -- 0 behind it
  have it2 : (evE Γ (.rng (some (.bin .add (.peek 4) (.cst (.int 1)))) (.bi .len [.peek 1]) none) (W k)).bind items = .ok ((List.range (rows.length - (k + 1))).map fun (j : Nat) => D.int ((k + 1 + j : Nat) : Int)) := by
    have := rng2 (Γ := Γ) (a := .bin .add (.peek 4) (.cst (.int 1))) (b := .bi .len [.peek 1]) (env := W k) (x := k + 1) (y := (rows.map rowD).length) rfl (len_at (L := L1) rfl h1) (by omega) (by rw [List.length_map]; omega)
    rw [List.length_map] at this
    exact this
  have lp2 := ef_same (body := evSs Γ [.ife (.cmp .ne (.idx (.peek 0) (.peek 5)) (.cst (.int 0))) [.ret (.cst (.bl false))] []]) (bd := bindT (.nm 5)) (e0 := W k) (env := W k) (fun (j : Nat) => D.int ((k + 1 + j : Nat) : Int)) (List.range (rows.length - (k + 1))) fun j hj => by
    have hj := List.mem_range.mp hj
    refine ⟨[L0, L1, .frz (.int (w : Int)), L3, .frz (.int (k : Int)), .frz (.int ((k + 1 + j : Nat) : Int)), .un, .un, .un], [L0, L1, .frz (.int (w : Int)), L3, .frz (.int (k : Int)), .frz (.int ((k + 1 + j : Nat) : Int)), .un, .un, .un], rfl, ?_, mkW _ _ _ _⟩
    have c : evE Γ (.cmp .ne (.idx (.peek 0) (.peek 5)) (.cst (.int 0))) [L0, L1, .frz (.int (w : Int)), L3, .frz (.int (k : Int)), .frz (.int ((k + 1 + j : Nat) : Int)), .un, .un, .un] = .ok (.bl false) := by
      rw [ev_cmp, idx_at (L := L0) (k := k + 1 + j) rfl h0 rfl (by rw [Rl.len]; omega), b_ok]
      show neR (.int (vz told (k + 1 + j))) (.int 0) = _
      rw [ne_int, Rl.hi _ (by omega) (by omega)]
      rfl
    exact ess_if c rfl rfl
  refine ess_for it2 (e1 := W k) rfl lp2 rfl ?_
  -- the sums
  have lp3 := ef_same (body := evSs Γ [.asg (.nm 7) (.comp (.idx (.peek 8) (.peek 6)) (.nm 8) (.peek 1) [] [8]), .ife (.or (.cmp .ne (.bin .mod (.bi .sum [.comp (.bin .mul (.idx (.peek 0) (.peek 5)) (.idx (.peek 7) (.peek 5))) (.nm 5) (.rng none (.bi .len [.peek 1]) none) [] [5]]) (.cst (.int 97))) (.cst (.int 0))) (.cmp .ne (.call false 1 [.peek 0, .peek 7]) (.cst (.int 0)))) [.ret (.cst (.bl false))] []]) (bd := bindT (.nm 6)) (e0 := W k) (env := W k) (fun (j : Nat) => D.int (j : Int)) (List.range w) fun j hj => by
    have hj := List.mem_range.mp hj
    have s0 : sm rows.length (fun t => vz told t * mx rows t j) % 97 = 0 := Int.emod_eq_zero_of_dvd (Rl.sum j hj)
    let col : List Int := rows.map fun r => vz r j
    have cl : col.length = rows.length := List.length_map _
    have ca : ∀ t, t < rows.length → vz col t = mx rows t j := fun t ht => by
      show vz (rows.map fun r => vz r j) t = _
      rw [vz_lt (by simpa using ht), List.getElem_map]
      unfold mx
      rw [List.getD_eq_getElem?_getD, List.getElem?_eq_getElem ht]
      rfl
    refine ⟨[L0, L1, .frz (.int (w : Int)), L3, .frz (.int (k : Int)), .un, .frz (.int (j : Int)), .un, .un], [L0, L1, .frz (.int (w : Int)), L3, .frz (.int (k : Int)), .un, .frz (.int (j : Int)), .own (rowD col), .un], rfl, ?_, mkW _ _ _ _⟩
    have c1 : evE Γ (.comp (.idx (.peek 8) (.peek 6)) (.nm 8) (.peek 1) [] [8]) [L0, L1, .frz (.int (w : Int)), L3, .frz (.int (k : Int)), .un, .frz (.int (j : Int)), .un, .un] = .ok (rowD col) := by
      refine (comp_m (f := rowD) (g := fun r => .int (vz r j)) rows ?_ (by omega) ?_).trans ?_
      · show R.bind L1.val items = _
        rw [h1.val]
        rfl
      · intro r hrr
        exact idx_row (by rw [hr r hrr]; exact hj)
      · show _ = R.ok (D.lst ((rows.map fun r => vz r j).map D.int))
        rw [List.map_map]
        rfl
    refine ess_asg (e1 := [L0, L1, .frz (.int (w : Int)), L3, .frz (.int (k : Int)), .un, .frz (.int (j : Int)), .own (rowD col), .un]) c1 rfl ?_
    have c2 : evE Γ (.comp (.bin .mul (.idx (.peek 0) (.peek 5)) (.idx (.peek 7) (.peek 5))) (.nm 5) (.rng none (.bi .len [.peek 1]) none) [] [5]) [L0, L1, .frz (.int (w : Int)), L3, .frz (.int (k : Int)), .un, .frz (.int (j : Int)), .own (rowD col), .un] = .ok (rowD ((List.range rows.length).map fun t => vz told t * vz col t)) := by
      refine (comp_m (f := fun (t : Nat) => D.int (t : Int)) (g := fun (t : Nat) => .int (vz told t * vz col t)) (List.range rows.length) ?_ (by rw [List.length_range]; omega) ?_).trans ?_
      · have q : evE Γ (.bi .len [.peek 1]) [L0, L1, .frz (.int (w : Int)), L3, .frz (.int (k : Int)), .un, .frz (.int (j : Int)), .own (rowD col), .un] = .ok (.int (rows.length : Int)) := by
          have := len_at (Γ := Γ) (env := [L0, L1, .frz (.int (w : Int)), L3, .frz (.int (k : Int)), .un, .frz (.int (j : Int)), .own (rowD col), .un]) (i := 1) (L := L1) rfl h1
          rw [List.length_map] at this
          exact this
        exact rng0 (n := rows.length) q (by omega)
      · intro t ht
        have ht := List.mem_range.mp ht
        show (R.bind (R.bind L0.val fun x => idxD x (.int (t : Int))) fun x => (idxD (rowD col) (.int (t : Int))).bind fun y => mulD x y) = _
        rw [h0.val, b_ok, idx_row (by rw [Rl.len]; exact ht), b_ok, idx_row (by rw [cl]; exact ht), b_ok]
        exact mul_l (small_res (vz_hi Rl.res))
      · rw [rowD, List.map_map]
        rfl
    have c3 : evE Γ (.cmp .ne (.bin .mod (.bi .sum [.comp (.bin .mul (.idx (.peek 0) (.peek 5)) (.idx (.peek 7) (.peek 5))) (.nm 5) (.rng none (.bi .len [.peek 1]) none) [] [5]]) (.cst (.int 97))) (.cst (.int 0))) [L0, L1, .frz (.int (w : Int)), L3, .frz (.int (k : Int)), .un, .frz (.int (j : Int)), .own (rowD col), .un] = .ok (.bl false) := by
      rw [ev_cmp, ev_bin, ev_bi, evs_cons, c2, b_ok, evs_nil, m_ok, b_ok]
      show (R.bind (R.bind (sumD [rowD _]) fun x => modD x (.int 97)) fun x => neR x (.int 0)) = _
      rw [sum_row, b_ok, mod_int (by decide), b_ok, ne_int, sum_range, sm_congr (g := fun t => vz told t * mx rows t j) fun t ht => by rw [ca t ht], s0]
      rfl
    have c4 : evE Γ (.cmp .ne (.call false 1 [.peek 0, .peek 7]) (.cst (.int 0))) [L0, L1, .frz (.int (w : Int)), L3, .frz (.int (k : Int)), .un, .frz (.int (j : Int)), .own (rowD col), .un] = .ok (.bl false) := by
      have a : evE Γ (.call false 1 [.peek 0, .peek 7]) [L0, L1, .frz (.int (w : Int)), L3, .frz (.int (k : Int)), .un, .frz (.int (j : Int)), .own (rowD col), .un] = .ok (.int 0) := by
        show (R.bind (R.bind L0.val fun x => (R.ok ([.bor (rowD col)] : List Mi.Slot)).map (lendS x L0 :: ·)) fun as => Γ.call 1 as) = _
        rw [h0.val]
        show Γ.call 1 [lendS (rowD told) L0, .bor (rowD col)] = _
        rw [h0.le, G2, dot_run Γ2 told col Rl.res (by rw [Rl.len]; omega) h0 (.b _), zip_range Rl.len cl, sum_range, sm_congr (g := fun t => vz told t * mx rows t j) fun t ht => by rw [ca t ht], s0]
      rw [ev_cmp, a, b_ok]
      exact ne_int _ _
    refine ess_if (t := false) ?_ rfl rfl
    simp only [ev_or, c3, c4, b_ok]
  have it3 : (evE Γ (.rng none (.peek 2) none) (W k)).bind items = .ok ((List.range w).map fun (j : Nat) => D.int (j : Int)) := by
    have q : evE Γ (.peek 2) (W k) = .ok (.int (w : Int)) := rfl
    exact rng0 (n := w) q (by omega)
  suffices fin : evE Γ (.cmp .eq (.call true 2 [.peek 0, .peek 1, .peek 2]) (.bin .mul (.lst [.cst (.int 0)]) (.peek 2))) (W k) = .ok (.bl true) from ess_for it3 (e1 := W k) rfl lp3 rfl (ess_ret fin)
  have cmb : (told.zip rows).foldl cmS (List.replicate w 0) = List.replicate w 0 := by
    obtain ⟨a, b⟩ := cm_at w (told.zip rows) (List.replicate w 0) (by simp) fun p hp => hr _ (List.of_mem_zip hp).2
    refine rep_of a fun j hj => ?_
    have res := cm_res (told.zip rows) (List.replicate w 0) fun x hx => by
      rw [(List.mem_replicate.mp hx).2]
      omega
    have z := b j hj
    have v0 : vz (List.replicate w 0) j = 0 := by
      rw [vz_lt (by simpa using hj)]
      simp
    rw [v0, zip_sum Rl.len rfl, Int.zero_add] at z
    have := Int.dvd_add z (Rl.sum j hj)
    rw [Int.sub_add_cancel] at this
    have v := res _ (vz_mem (r := (told.zip rows).foldl cmS (List.replicate w 0)) (j := j) (by omega))
    exact dvd_zero_res v.1 v.2 this
  have cc : evE Γ (.call true 2 [.peek 0, .peek 1, .peek 2]) (W k) = .ok (rowD (List.replicate w 0)) := by
    show (R.bind (R.bind L0.val fun x => (R.bind L1.val fun y => (R.ok ([.frz (.int (w : Int))] : List Mi.Slot)).map (lendS y L1 :: ·)).map (lendS x L0 :: ·)) fun as => Γ.call 2 as) = _
    rw [h0.val, h1.val]
    show Γ.call 2 [lendS (rowD told) L0, lendS (rowsD rows) L1, .frz (.int (w : Int))] = _
    rw [h0.le, h1.le, G3, combine_run Γ3 told rows w Rl.res hr (by omega) h0 h1, cmb]
  have cz : evE Γ (.bin .mul (.lst [.cst (.int 0)]) (.peek 2)) (W k) = .ok (rowD (List.replicate w 0)) := by
    show mulD (.lst [.int 0]) (.int (w : Int)) = _
    unfold mulD
    dsimp only
    rw [show (decide (-1000000 ≤ (w : Int) ∧ (w : Int) ≤ 1000000)) = true from decide_eq_true (by omega), show lenLine (([D.int 0] : List D).length * (w : Int).toNat) = true from decide_eq_true (by simp; omega)]
    rw [Bool.and_self, if_pos rfl, Int.toNat_natCast]
    unfold rowD
    rw [List.map_replicate, flat_rep]
  rw [ev_cmp, cc, b_ok, cz, b_ok]
  exact eqR_self (eqOk_row 58 _)
/-! ### _law_rows -/
structure DrawG (Γ : Glob) : Prop where
  cell : ∃ Γ', ∀ as, Γ.call 8 as = runB Γ' cellB as
  draw : ∃ Γ', ∀ as, Γ.call 9 as = runB Γ' drawsB as
theorem dr_call {Γ : Glob} (G : DrawG Γ) {env : Mi.Env} {ns : List Int} {kE : E} {k : Nat} {les : List E} {ls : List Int} (h0 : gt env 0 = .frz (.scr ns)) (hk : evE Γ kE env = .ok (.int (k : Int))) (hl : evEs Γ les env = .ok (ls.map .int)) (hp : ∀ l ∈ ls, 0 < l ∧ l < 18446744073709551616) (hn : ls.length < 1000000) (hnp : ∀ d, lend env d kE = .frz d) :
    evE Γ (.call true 9 [.call false 8 [.peek 0, kE], .lst les]) env = .ok (rowD (drawsN (cellN ns k) ls)) := by
  obtain ⟨⟨Γ1, G1⟩, ⟨Γ2, G2⟩⟩ := G
  have c : evE Γ (.call false 8 [.peek 0, kE]) env = .ok (.int (cellN ns k)) := by
    rw [ev_call, eva_cons, eva_cons, hk, b_ok, eva_nil, m_ok, ev_peek, h0]
    show Γ.call 8 [lend env (.scr ns) (.peek 0), lend env (.int (k : Int)) kE] = _
    rw [hnp, lend_peek, h0, lendS_frz, G1]
    exact cell_eq Γ1 ns k
  rw [ev_call, eva_cons, c, b_ok, eva_cons, ev_lst, hl, m_ok, b_ok, eva_nil, m_ok, m_ok, b_ok]
  show Γ.call 9 [.frz (.int (cellN ns k)), .frz (.lst (ls.map .int))] = _
  rw [G2]
  exact draws_eq Γ2 _ ls (.inl rfl) (fit_small hp) hn
def bd : Nat → Nat
  | 0 => 2 ^ 100
  | i + 1 => 256 * bd i
theorem bd_ge : ∀ i, 2 ^ 100 ≤ bd i
  | 0 => Nat.le_refl _
  | i + 1 => by
    have := bd_ge i
    rw [bd]
    omega
def Gd (w B : Nat) (r : List Int) : Prop := r.length = w ∧ ∀ x ∈ r, x.natAbs < B
theorem Gd.more {w B B' : Nat} {r : List Int} (h : Gd w B r) (hb : B ≤ B') : Gd w B' r := ⟨h.1, fun x hx => Nat.lt_of_lt_of_le (h.2 x hx) hb⟩
theorem if_ex {Γ : Glob} {c : E} {a : List Mi.S} {env : Mi.Env} {b : Bool} {Q : Mi.Env → Prop} (hc : evE Γ c env = .ok (.bl b)) (h1 : b = true → ∃ e', evSs Γ a env = .nx e' ∧ Q e') (h2 : Q env) : ∃ e', evS Γ (.ife c a []) env = .nx e' ∧ Q e' := by
  cases b with
  | true =>
    obtain ⟨e', q1, q2⟩ := h1 rfl
    exact ⟨e', es_if hc q1, q2⟩
  | false => exact ⟨env, es_if hc rfl, h2⟩
theorem mod_nat {d : Int} {k : Nat} (hd : 0 ≤ d) (hk : 0 < k) : d % (k : Int) = ((d.toNat % k : Nat) : Int) := by
  obtain ⟨m, rfl⟩ := Int.eq_ofNat_of_zero_le hd
  rfl
theorem one_nx {Γ : Glob} {s : Mi.S} {env e : Mi.Env} (h : evSs Γ [s] env = .nx e) : evS Γ s env = .nx e := by
  rw [ess_cons] at h
  cases hq : evS Γ s env with
  | nx e' =>
    rw [hq] at h
    exact h
  | _ =>
    rw [hq] at h
    cases h
def rSt (ns : List Int) (w : Nat) (rows : List (List Int)) (k : Nat) (dr r : List Int) : Mi.Env := [.frz (.scr ns), .frz (.int (w : Int)), .own (rowsD rows), .frz (.int (k : Int)), .own (rowD dr), .own (rowD r), .un, .un]
theorem rows_turn {Γ : Glob} (G : DrawG Γ) (ns : List Int) (w k : Nat) (hw : w ≤ 4) (rows : List (List Int)) (hk : rows.length = k) (hk6 : k < 7) (hg : ∀ r ∈ rows, Gd w (bd k) r) :
    ∃ r e2, Gd w (bd (k + 1)) r ∧ evSs Γ (match b__law_rows.code with | [_, .fr _ _ b, _] => b | _ => []) [.frz (.scr ns), .frz (.int (w : Int)), .own (rowsD rows), .frz (.int (k : Int)), .un, .un, .un, .un] = .nx e2 ∧
      mask [.frz (.scr ns), .frz (.int (w : Int)), .own (.lst []), .un, .un, .un, .un, .un] e2 = [.frz (.scr ns), .frz (.int (w : Int)), .own (rowsD (rows ++ [r])), .un, .un, .un, .un, .un] := by
  have c0 : evE Γ (.call true 9 [.call false 8 [.peek 0, .bin .add (.cst (.int 1)) (.peek 3)], .lst [.cst (.int 8), .cst (.int 97), .cst (.int 97), .cst (.int 97), .cst (.int 97), .cst (.int 97), .cst (.int 97), .bin .pow (.cst (.int 10)) (.cst (.int 15))]]) [.frz (.scr ns), .frz (.int (w : Int)), .own (rowsD rows), .frz (.int (k : Int)), .un, .un, .un, .un] = .ok (rowD (drawsN (cellN ns (1 + k)) [8, 97, 97, 97, 97, 97, 97, 1000000000000000])) :=
    dr_call G (k := 1 + k) rfl rfl rfl (by decide) (by decide) fun _ => rfl
  have dd := drawsN_dr (c := cellN ns (1 + k)) (ls := [8, 97, 97, 97, 97, 97, 97, 1000000000000000]) (by decide)
  generalize drawsN (cellN ns (1 + k)) [8, 97, 97, 97, 97, 97, 97, 1000000000000000] = dr at c0 dd
  obtain ⟨d0, _, rfl, a0, b0, dd⟩ := dd.cons
  obtain ⟨d1, _, rfl, a1, b1, dd⟩ := dd.cons
  obtain ⟨d2, _, rfl, a2, b2, dd⟩ := dd.cons
  obtain ⟨d3, _, rfl, a3, b3, dd⟩ := dd.cons
  obtain ⟨d4, _, rfl, a4, b4, dd⟩ := dd.cons
  obtain ⟨d5, _, rfl, a5, b5, dd⟩ := dd.cons
  obtain ⟨d6, _, rfl, a6, b6, dd⟩ := dd.cons
  obtain ⟨d7, _, rfl, a7, b7, dd⟩ := dd.cons
  have e7 := dd.nil
  subst e7
  obtain ⟨dr, hdr⟩ : ∃ dr : List Int, dr = [d0, d1, d2, d3, d4, d5, d6, d7] := ⟨_, rfl⟩
  rw [← hdr] at c0
  have dl : dr.length = 8 := by rw [hdr]; rfl
  have dsm : ∀ x ∈ dr, 0 ≤ x ∧ x < 1000000000000000 := by
    rw [hdr]
    intro x hx
    simp only [List.mem_cons, List.not_mem_nil, or_false] at hx
    omega
  have v0 : vz dr 0 = d0 := by rw [hdr]; rfl
  have v4 : vz dr 4 = d4 := by rw [hdr]; rfl
  have v5 : vz dr 5 = d5 := by rw [hdr]; rfl
  have v6 : vz dr 6 = d6 := by rw [hdr]; rfl
  have v7 : vz dr 7 = d7 := by rw [hdr]; rfl
  have bge := bd_ge k
  have bge1 := bd_ge (k + 1)
  have bnext : bd (k + 1) = 256 * bd k := rfl
  -- the drawn numbers themselves
  obtain ⟨r0, hr0⟩ : ∃ r0 : List Int, r0 = (dr.drop 1).take w := ⟨_, rfl⟩
  have g0 : Gd w (bd (k + 1)) r0 := by
    refine ⟨by rw [hr0, List.length_take, List.length_drop, dl]; omega, fun x hx => ?_⟩
    rw [hr0] at hx
    have := dsm x (List.mem_of_mem_drop (List.mem_of_mem_take hx))
    have : x.natAbs < 1000000000000000 := by omega
    exact Nat.lt_of_lt_of_le (Nat.lt_trans this (by decide +kernel)) bge1
  have c1 : evE Γ (.comp (.var 6) (.nm 6) (.sl (.peek 4) (some (.cst (.int 1))) (some (.bin .add (.cst (.int 1)) (.peek 1)))) [] [6]) [.frz (.scr ns), .frz (.int (w : Int)), .own (rowsD rows), .frz (.int (k : Int)), .own (rowD dr), .un, .un, .un] = .ok (rowD r0) := by
    refine (comp_m (f := D.int) (g := D.int) r0 ?_ (by rw [g0.1]; omega) ?_).trans rfl
    · show R.bind (R.ok (D.lst (cutD (dr.map D.int) (some ((1 : Nat) : Int)) (some ((1 + w : Nat) : Int))))) items = _
      unfold cutD
      rw [HT.sIx_nat, HT.sIx_nat, List.length_map, dl, Nat.min_eq_left (by omega), Nat.min_eq_left (by omega), Nat.add_sub_cancel_left, hr0, List.map_take, List.map_drop]
      rfl
    · intro x _
      rfl
  let Q : Mi.Env → Prop := fun e => ∃ r, e = rSt ns w rows k dr r ∧ Gd w (bd (k + 1)) r
  let Q1 : Mi.Env → Prop := fun e => ∃ r, e = rSt ns w rows k dr r ∧ Gd w (bd (k + 1)) r ∧ (d0 ≠ 1 → r = r0)
  have q0 : Q1 (rSt ns w rows k dr r0) := ⟨r0, rfl, g0, fun _ => rfl⟩
  have ix : ∀ (r : List Int) (j : Nat), j < 8 → evE Γ (.idx (.peek 4) (.cst (.int (j : Int)))) (rSt ns w rows k dr r) = .ok (.int (vz dr j)) := fun r j hj => idx_row (by rw [dl]; exact hj)
  have eq0 : ∀ (r : List Int) (m : Int), evE Γ (.cmp .eq (.idx (.peek 4) (.cst (.int 0))) (.cst (.int m))) (rSt ns w rows k dr r) = .ok (.bl (decide (d0 = m))) := fun r m => by
    rw [ev_cmp, show evE Γ (.idx (.peek 4) (.cst (.int 0))) (rSt ns w rows k dr r) = _ from ix r 0 (by omega), b_ok, v0]
    exact eq_int _ _
  have st1 : ∀ e, Q1 e → ∃ e', evS Γ (.ife (.cmp .eq (.idx (.peek 4) (.cst (.int 0))) (.cst (.int 1))) [.asgC 5 (.comp (.bin .sub (.bin .mod (.peek 6) (.cst (.int 5))) (.cst (.int 2))) (.nm 6) (.peek 5) [] [6])] []) e = .nx e' ∧ Q1 e' := by
    rintro e ⟨r, rfl, hr, hr1⟩
    refine if_ex (eq0 r 1) (fun hb => ?_) ⟨r, rfl, hr, hr1⟩
    refine ⟨rSt ns w rows k dr (r.map fun x => x % 5 - 2), ess_asgC (d := rowD (r.map fun x => x % 5 - 2)) ?_ rfl rfl, _, rfl, ?_, fun h => absurd (of_decide_eq_true hb) h⟩
    · refine (comp_m (f := D.int) (g := fun x => .int (x % 5 - 2)) r rfl (by rw [hr.1]; omega) ?_).trans ?_
      · intro x _
        show ((modD (.int x) (.int 5)).bind fun z => subD z (.int 2)) = _
        rw [mod_int (by decide)]
        rfl
      · rw [rowD, List.map_map]
        rfl
    · refine ⟨by rw [List.length_map]; exact hr.1, fun y hy => ?_⟩
      obtain ⟨x, _, rfl⟩ := List.mem_map.mp hy
      have : (x % 5 - 2).natAbs < 5 := by omega
      exact Nat.lt_of_lt_of_le (Nat.lt_trans this (by decide +kernel)) bge1
  have st2 : ∀ e, Q1 e → ∃ e', evS Γ (.ife (.cmp .eq (.idx (.peek 4) (.cst (.int 0))) (.cst (.int 2))) [.asgC 5 (.comp (.bin .add (.bin .mul (.bin .sub (.peek 6) (.cst (.int 48))) (.bin .add (.bin .pow (.cst (.int 10)) (.cst (.int 12))) (.idx (.peek 4) (.cst (.int 7))))) (.cst (.int 1))) (.nm 6) (.peek 5) [] [6])] []) e = .nx e' ∧ Q e' := by
    rintro e ⟨r, rfl, hr, hr1⟩
    refine if_ex (eq0 r 2) (fun hb => ?_) ⟨r, rfl, hr⟩
    have e2 : r = r0 := hr1 (by have := of_decide_eq_true hb; omega)
    have xs : ∀ x ∈ r, 0 ≤ x ∧ x < 1000000000000000 := fun x hx => by
      rw [e2, hr0] at hx
      exact dsm x (List.mem_of_mem_drop (List.mem_of_mem_take hx))
    refine ⟨rSt ns w rows k dr (r.map fun x => (x - 48) * (1000000000000 + d7) + 1), ess_asgC (d := rowD (r.map fun x => (x - 48) * (1000000000000 + d7) + 1)) ?_ rfl rfl, _, rfl, ?_⟩
    · refine (comp_m (f := D.int) (g := fun x => .int ((x - 48) * (1000000000000 + d7) + 1)) r rfl (by rw [hr.1]; omega) ?_).trans ?_
      · intro x hx
        have := xs x hx
        show ((R.bind (R.bind (idxD (rowD dr) (.int ((7 : Nat) : Int))) fun z => addD (.int 1000000000000) z) fun z => mulD (.int (x - 48)) z).bind fun z => addD z (.int 1)) = _
        rw [idx_row (by omega), v7, b_ok]
        show ((R.bind (R.ok (D.int (1000000000000 + d7))) fun z => mulD (.int (x - 48)) z).bind fun z => addD z (.int 1)) = _
        rw [b_ok, mul_l (by omega)]
        rfl
      · rw [rowD, List.map_map]
        rfl
    · refine ⟨by rw [List.length_map]; exact hr.1, fun y hy => ?_⟩
      obtain ⟨x, hx, rfl⟩ := List.mem_map.mp hy
      have := xs x hx
      have m1 : (x - 48).natAbs ≤ 1000000000000000 := by omega
      have m2 : (1000000000000 + d7).natAbs ≤ 2000000000000000 := by omega
      have m3 := Nat.mul_le_mul m1 m2
      rw [← Int.natAbs_mul] at m3
      have m4 : ((x - 48) * (1000000000000 + d7) + 1).natAbs ≤ 2000000000000000000000000000001 := by
        generalize (x - 48) * (1000000000000 + d7) = z at m3
        omega
      refine Nat.lt_of_le_of_lt m4 ?_
      rw [bnext]
      exact Nat.lt_of_lt_of_le (by decide +kernel) (Nat.mul_le_mul (Nat.le_refl 256) bge)
  have and_k : ∀ (r : List Int) (m : Int) (q : Int), evE Γ (.and (.cmp .eq (.idx (.peek 4) (.cst (.int 0))) (.cst (.int m))) (.cmp .gt (.peek 3) (.cst (.int q)))) (rSt ns w rows k dr r) = .ok (.bl (decide (d0 = m) && decide (q < (k : Int)))) := fun r m q => by
    rw [ev_and, eq0, b_ok]
    cases decide (d0 = m) with
    | true => rfl
    | false => rfl
  have bk : ∀ {m q : Int}, 0 ≤ q → (decide (d0 = m) && decide (q < (k : Int))) = true → 0 < k := fun h hb => by
    have := of_decide_eq_true (Bool.and_eq_true_iff.mp hb).2
    omega
  have md : ∀ (x : Int), 0 ≤ x → 0 < k → ∃ t, x % (k : Int) = ((t : Nat) : Int) ∧ t < rows.length := fun x hx h0 => ⟨x.toNat % k, mod_nat hx h0, by rw [hk]; exact Nat.mod_lt _ h0⟩
  have gt_ : ∀ t, t < rows.length → Gd w (bd k) (rows.getD t []) := fun t ht => hg _ (getD_mem' ht)
  have st3 : ∀ e, Q e → ∃ e', evS Γ (.ife (.and (.cmp .eq (.idx (.peek 4) (.cst (.int 0))) (.cst (.int 3))) (.cmp .gt (.peek 3) (.cst (.int 0)))) [.asg (.nm 5) (.bi .list [.idx (.peek 2) (.bin .mod (.idx (.peek 4) (.cst (.int 5))) (.peek 3))])] []) e = .nx e' ∧ Q e' := by
    rintro e ⟨r, rfl, hr⟩
    refine if_ex (and_k r 3 0) (fun hb => ?_) ⟨r, rfl, hr⟩
    have h0 := bk (by decide) hb
    obtain ⟨t, et, ht⟩ := md d5 a5 h0
    have gt := gt_ t ht
    refine ⟨rSt ns w rows k dr (rows.getD t []), ess_asg (d := rowD (rows.getD t [])) ?_ rfl rfl, _, rfl, gt.more (by omega)⟩
    show (R.bind (R.bind (R.bind (R.bind (idxD (rowD dr) (.int ((5 : Nat) : Int))) fun z => modD z (.int (k : Int))) fun y => idxD (rowsD rows) y) fun x => (R.ok []).map (x :: ·)) fun ds => biD .list ds) = _
    rw [idx_row (by omega), v5, b_ok, mod_int (by omega), b_ok, et, idx_rows ht]
    rfl
  have st4 : ∀ e, Q e → ∃ e', evS Γ (.ife (.and (.cmp .eq (.idx (.peek 4) (.cst (.int 0))) (.cst (.int 4))) (.cmp .gt (.peek 3) (.cst (.int 0)))) [.asgC 5 (.comp (.bin .mul (.idx (.peek 4) (.cst (.int 6))) (.peek 6)) (.nm 6) (.idx (.peek 2) (.bin .mod (.idx (.peek 4) (.cst (.int 5))) (.peek 3))) [] [6])] []) e = .nx e' ∧ Q e' := by
    rintro e ⟨r, rfl, hr⟩
    refine if_ex (and_k r 4 0) (fun hb => ?_) ⟨r, rfl, hr⟩
    have h0 := bk (by decide) hb
    obtain ⟨t, et, ht⟩ := md d5 a5 h0
    have gt := gt_ t ht
    refine ⟨rSt ns w rows k dr ((rows.getD t []).map fun x => d6 * x), ess_asgC (d := rowD ((rows.getD t []).map fun x => d6 * x)) ?_ rfl rfl, _, rfl, ?_⟩
    · refine (comp_m (f := D.int) (g := fun x => .int (d6 * x)) (rows.getD t []) ?_ (by rw [gt.1]; omega) ?_).trans ?_
      · show R.bind (R.bind (R.bind (idxD (rowD dr) (.int ((5 : Nat) : Int))) fun z => modD z (.int (k : Int))) fun y => idxD (rowsD rows) y) items = _
        rw [idx_row (by omega), v5, b_ok, mod_int (by omega), b_ok, et, idx_rows ht]
        rfl
      · intro x hx
        show (R.bind (idxD (rowD dr) (.int ((6 : Nat) : Int))) fun z => mulD z (.int x)) = _
        rw [idx_row (by omega), v6, b_ok]
        exact mul_l (by omega)
      · rw [rowD, List.map_map]
        rfl
    · refine ⟨by rw [List.length_map]; exact gt.1, fun y hy => ?_⟩
      obtain ⟨x, hx, rfl⟩ := List.mem_map.mp hy
      have m := gt.2 x hx
      have m6 : d6.natAbs ≤ 97 := by omega
      rw [Int.natAbs_mul, bnext]
      have := Nat.mul_le_mul m6 (Nat.le_of_lt m)
      omega
  have st5 : ∀ e, Q e → ∃ e', evS Γ (.ife (.and (.cmp .eq (.idx (.peek 4) (.cst (.int 0))) (.cst (.int 5))) (.cmp .gt (.peek 3) (.cst (.int 1)))) [.asgC 5 (.comp (.bin .add (.idx (.idx (.peek 2) (.bin .mod (.idx (.peek 4) (.cst (.int 5))) (.peek 3))) (.peek 7)) (.bin .mul (.idx (.peek 4) (.cst (.int 6))) (.idx (.idx (.peek 2) (.bin .mod (.idx (.peek 4) (.cst (.int 4))) (.peek 3))) (.peek 7)))) (.nm 7) (.rng none (.peek 1) none) [] [7])] []) e = .nx e' ∧ Q e' := by
    rintro e ⟨r, rfl, hr⟩
    refine if_ex (and_k r 5 1) (fun hb => ?_) ⟨r, rfl, hr⟩
    have h0 := bk (by decide) hb
    obtain ⟨t, et, ht⟩ := md d5 a5 h0
    obtain ⟨u, eu, hu⟩ := md d4 a4 h0
    have gt := gt_ t ht
    have gu := gt_ u hu
    refine ⟨rSt ns w rows k dr ((List.range w).map fun j => vz (rows.getD t []) j + d6 * vz (rows.getD u []) j), ess_asgC (d := rowD ((List.range w).map fun j => vz (rows.getD t []) j + d6 * vz (rows.getD u []) j)) ?_ rfl rfl, _, rfl, ?_⟩
    · refine (comp_m (f := fun (j : Nat) => D.int (j : Int)) (g := fun (j : Nat) => .int (vz (rows.getD t []) j + d6 * vz (rows.getD u []) j)) (List.range w) ?_ (by rw [List.length_range]; omega) ?_).trans ?_
      · have q : evE Γ (.peek 1) (rSt ns w rows k dr r) = .ok (.int (w : Int)) := rfl
        exact rng0 (n := w) q (by omega)
      · intro j hj
        have hj := List.mem_range.mp hj
        show (R.bind (R.bind (R.bind (R.bind (idxD (rowD dr) (.int ((5 : Nat) : Int))) fun z => modD z (.int (k : Int))) fun y => idxD (rowsD rows) y) fun x => idxD x (.int (j : Int))) fun x => (R.bind (idxD (rowD dr) (.int ((6 : Nat) : Int))) fun z => (R.bind (R.bind (R.bind (idxD (rowD dr) (.int ((4 : Nat) : Int))) fun z => modD z (.int (k : Int))) fun y => idxD (rowsD rows) y) fun x => idxD x (.int (j : Int))).bind fun y => mulD z y).bind fun y => addD x y) = _
        rw [idx_row (by omega), v5, b_ok, mod_int (by omega), b_ok, et, idx_rows ht, b_ok, idx_row (by rw [gt.1]; exact hj), b_ok, idx_row (by omega), v6, b_ok, idx_row (by omega), v4, b_ok, mod_int (by omega), b_ok, eu, idx_rows hu, b_ok, idx_row (by rw [gu.1]; exact hj), b_ok, mul_l (by omega)]
        rfl
      · rw [rowD, List.map_map]
        rfl
    · refine ⟨by simp, fun y hy => ?_⟩
      obtain ⟨j, hj, rfl⟩ := List.mem_map.mp hy
      have hj := List.mem_range.mp hj
      have m := gt.2 _ (vz_mem (r := rows.getD t []) (j := j) (by rw [gt.1]; exact hj))
      have n := gu.2 _ (vz_mem (r := rows.getD u []) (j := j) (by rw [gu.1]; exact hj))
      have m6 : d6.natAbs ≤ 97 := by omega
      have := Nat.mul_le_mul m6 (Nat.le_of_lt n)
      rw [← Int.natAbs_mul] at this
      rw [bnext]
      generalize d6 * vz (rows.getD u []) j = z at this
      generalize vz (rows.getD t []) j = y at m
      omega
  obtain ⟨e1, s1, q1⟩ := st1 _ q0
  obtain ⟨e2, s2, q2⟩ := st2 _ q1
  obtain ⟨e3, s3, q3⟩ := st3 _ q2
  obtain ⟨e4, s4, q4⟩ := st4 _ q3
  obtain ⟨e5, s5, r, rfl, q5⟩ := st5 _ q4
  refine ⟨r, [.frz (.scr ns), .frz (.int (w : Int)), .own (rowsD (rows ++ [r])), .frz (.int (k : Int)), .own (rowD dr), .frz (rowD r), .un, .un], q5, ?_, rfl⟩
  refine ess_asg (e1 := [.frz (.scr ns), .frz (.int (w : Int)), .own (rowsD rows), .frz (.int (k : Int)), .own (rowD dr), .un, .un, .un]) c0 rfl (ess_asgC (e1 := rSt ns w rows k dr r0) c1 rfl ?_)
  refine ess_nx s1 (ess_nx s2 (ess_nx s3 (ess_nx s4 (ess_nx s5 ?_))))
  have ap : evSs Γ [.app 2 (.var 5)] (onAll freeze [5] (rSt ns w rows k dr r)) = .nx [.frz (.scr ns), .frz (.int (w : Int)), .own (rowsD (rows ++ [r])), .frz (.int (k : Int)), .own (rowD dr), .frz (rowD r), .un, .un] := by
    refine ess_app (xs := rows.map rowD) rfl (d := rowD r) rfl (by rw [List.length_map]; omega) ?_ rfl
    show _ = [_, _, Mi.Slot.own (.lst ((rows ++ [r]).map rowD)), _, _, _, _, _]
    rw [List.map_append]
    rfl
  exact ess_wf ap ⟨_, one_nx ap⟩
theorem bd_mono : ∀ {i j : Nat}, i ≤ j → bd i ≤ bd j := fun {i j} h => by
  induction h with
  | refl => exact Nat.le_refl _
  | step _ ih =>
    rw [bd]
    omega
theorem rows_run {Γ : Glob} (G : DrawG Γ) (ns : List Int) (w : Nat) (hw : w ≤ 4) : ∃ rows : List (List Int), runB Γ b__law_rows [.frz (.scr ns), .frz (.int (w : Int))] = .ok (rowsD rows) ∧ rows.length ≤ 6 ∧ ∀ r ∈ rows, Gd w (bd 6) r := by
  have c0 : evE Γ (.call true 9 [.call false 8 [.peek 0, .cst (.int 0)], .lst [.cst (.int 5), .cst (.int 7), .cst (.int 4)]]) [.frz (.scr ns), .frz (.int (w : Int)), .own (.lst []), .un, .un, .un, .un, .un] = .ok (rowD (drawsN (cellN ns 0) [5, 7, 4])) :=
    dr_call G (k := 0) rfl rfl rfl (by decide) (by decide) fun _ => rfl
  have dd := drawsN_dr (c := cellN ns 0) (ls := [5, 7, 4]) (by decide)
  generalize drawsN (cellN ns 0) [5, 7, 4] = dr at c0 dd
  obtain ⟨d0, _, rfl, a0, b0, dd⟩ := dd.cons
  obtain ⟨d1, _, rfl, a1, b1, dd⟩ := dd.cons
  obtain ⟨n, rfl⟩ := Int.eq_ofNat_of_zero_le a1
  have ix : evE Γ (.idx (.call true 9 [.call false 8 [.peek 0, .cst (.int 0)], .lst [.cst (.int 5), .cst (.int 7), .cst (.int 4)]]) (.cst (.int 1))) [.frz (.scr ns), .frz (.int (w : Int)), .own (.lst []), .un, .un, .un, .un, .un] = .ok (.int (n : Int)) := by
    rw [ev_idx, c0, b_ok]
    show idxD (rowD (d0 :: (n : Int) :: _)) (.int ((1 : Nat) : Int)) = _
    rw [idx_row (by simp)]
    rfl
  have it := rng0 (n := n) ix (by omega)
  obtain ⟨turn, ht⟩ : ∃ turn, turn = (match b__law_rows.code with | [_, .fr _ _ b, _] => b | _ => []) := ⟨_, rfl⟩
  have go : ∀ (l : List Nat) (k : Nat) (rows : List (List Int)), (∀ j, j < l.length → l[j]? = some (k + j)) → k + l.length = n → rows.length = k → (∀ r ∈ rows, Gd w (bd k) r) →
      ∃ rows', rows'.length = n ∧ (∀ r ∈ rows', Gd w (bd n) r) ∧ evFor (evSs Γ turn) (bindT (.nm 3)) [.frz (.scr ns), .frz (.int (w : Int)), .own (.lst []), .un, .un, .un, .un, .un] (l.map fun (k : Nat) => D.int (k : Int)) [.frz (.scr ns), .frz (.int (w : Int)), .own (rowsD rows), .un, .un, .un, .un, .un] = .nx [.frz (.scr ns), .frz (.int (w : Int)), .own (rowsD rows'), .un, .un, .un, .un, .un] := by
    intro l
    induction l with
    | nil =>
      intro k rows _ hl hk hg
      have : k = n := by simpa using hl
      rw [this] at hk hg
      exact ⟨rows, hk, hg, rfl⟩
    | cons x l ih =>
      intro k rows hx hl hk hg
      rw [List.length_cons] at hl
      have ek : x = k := by simpa using hx 0 (by simp)
      subst ek
      obtain ⟨r, e2, g, t1, t2⟩ := rows_turn G ns w x hw rows hk (by omega) hg
      obtain ⟨rows', p1, p2, p3⟩ := ih (x + 1) (rows ++ [r]) (fun j hj => by
        have := hx (j + 1) (by rw [List.length_cons]; omega)
        rw [List.getElem?_cons_succ] at this
        rw [this]
        exact congrArg some (by omega)) (by omega) (by simp [hk]) fun q hq => by
          rcases List.mem_append.mp hq with h | h
          · exact (hg q h).more (bd_mono (Nat.le_succ x))
          · rw [List.mem_singleton.mp h]
            exact g
      refine ⟨rows', p1, p2, ?_⟩
      rw [List.map_cons]
      exact ef_nx (e1 := [.frz (.scr ns), .frz (.int (w : Int)), .own (rowsD rows), .frz (.int (x : Int)), .un, .un, .un, .un]) rfl (by rw [ht]; exact t1) t2 p3
  obtain ⟨rows, p1, p2, p3⟩ := go (List.range n) 0 [] (fun j hj => by
    rw [List.length_range] at hj
    rw [List.getElem?_range hj, Nat.zero_add]) (by rw [List.length_range]; omega) rfl fun r hr => by simp at hr
  rw [ht] at p3
  refine ⟨rows, run_ret (env := [.frz (.scr ns), .frz (.int (w : Int)), .un, .un, .un, .un, .un, .un]) (own := true) rfl ?_ rfl, by omega, fun r hr => (p2 r hr).more (bd_mono (by omega))⟩
  exact ess_asg (d := .lst []) (e1 := [.frz (.scr ns), .frz (.int (w : Int)), .own (.lst []), .un, .un, .un, .un, .un]) rfl rfl (ess_for it rfl p3 rfl rfl)
theorem gd_mat {w : Nat} {rows : List (List Int)} (h : ∀ r ∈ rows, Gd w (bd 6) r) : MatOk rows.length w rows :=
  ⟨rfl, fun r hr => (h r hr).1, fun r hr x hx => Nat.lt_of_lt_of_le ((h r hr).2 x hx) (by decide +kernel)⟩
/-! ### what relation's answer is worth -/
theorem right_any {Γ : Glob} (G : RightG Γ) {w : Nat} {rows : List (List Int)} {t : Option (List Int)} (h : match t with | none => dueL w rows rows.length = List.range rows.length | some told => ∃ k, RelOk w rows k told) (hr : ∀ r ∈ rows, r.length = w) (hw : w ≤ 1000) (hn : rows.length ≤ 1000) {L0 L1 L3 : Mi.Slot} (h0 : Sn (relD t) L0) (h1 : Sn (rowsD rows) L1) (h3 : Sn (natsD (dueL w rows rows.length)) L3) : runB Γ b__law_right [L0, L1, .frz (.int (w : Int)), L3] = .ok (.bl true) := by
  cases t with
  | none => exact right_none h h0 h1 h3
  | some told =>
    obtain ⟨k, R⟩ := h
    exact right_some G R hr hw hn h0 h1 h3
theorem independent_run {Γ : Glob} (h5 : ∃ Γ', ∀ as, Γ.call 5 as = runB Γ' (indepB 3 4 0) as ∧ CallOk Γ' 3 4 0) {w : Nat} {rows : List (List Int)} (hr : ∀ r ∈ rows, r.length = w) (hw : w ≤ 1000) (hn : rows.length ≤ 1000) {L : Mi.Slot} (h : Sn (rowsD rows) L) : runB Γ b_independent [L] = .ok (.bl (decide ((dueL w rows rows.length).length = rows.length))) := by
  obtain ⟨Γ', h5⟩ := h5
  refine run_ret (env := [L]) (own := false) rfl (ess_ret ?_) rfl
  have c : evE Γ (.call true 5 [.peek 0]) [L] = .ok (natsD (dueL w rows rows.length)) := by
    show (R.bind (R.bind L.val fun x => (R.ok []).map (lendS x L :: ·)) fun as => Γ.call 5 as) = _
    rw [h.val]
    show Γ.call 5 [lendS (rowsD rows) L] = _
    rw [h.le, (h5 _).1, indep_run (h5 []).2 rows w (by omega) hr (by omega) h, indL_due w rows hr]
  rw [ev_cmp, ev_bi, evs_cons, c, b_ok, evs_nil, m_ok, b_ok]
  show (R.bind (R.ok (D.int (((dueL w rows rows.length).map fun (k : Nat) => D.int (k : Int)).length : Int))) fun x => (evE Γ (.bi .len [.peek 0]) [L]).bind fun y => eqR x y) = _
  rw [len_at (L := L) rfl h, b_ok, b_ok, eq_int, List.length_map, List.length_map]
  exact congrArg (fun b => R.ok (D.bl b)) (decide_eq_decide.mpr (by omega))
abbrev bs : List Body := ds.map (·.b)
theorem at_ {n i : Nat} {b : Body} (h : i < n) (hb : bs.getD i default = b) : ∀ as, (globN bs n).call i as = runB (globN bs i) b as := fun as => by
  rw [call_at h, hb]
theorem callOk (n : Nat) (h : 5 ≤ n) : CallOk (globN bs n) 3 4 0 := by
  refine ⟨⟨_, at_ (b := reducedB) (by omega) rfl⟩, ⟨_, at_ (b := pivotB) (by omega) rfl⟩, fun i hi => ?_⟩
  rw [at_ (b := inverseB 2 0) (by omega) rfl]
  exact inverse_run _ 2 0 i hi
theorem drawG (n : Nat) (h : 10 ≤ n) : DrawG (globN bs n) := ⟨⟨_, at_ (b := cellB) (by omega) rfl⟩, ⟨_, at_ (b := drawsB) (by omega) rfl⟩⟩
theorem rightG (n : Nat) (h : 13 ≤ n) : RightG (globN bs n) := ⟨⟨_, at_ (b := b__law_is_residues) (by omega) rfl⟩, ⟨_, at_ (b := b_dot) (by omega) rfl⟩, ⟨_, at_ (b := b_combine) (by omega) rfl⟩⟩
theorem eqOk_nats (n : Nat) (l : List Nat) : eqOk (n + 2) (natsD l) = true := by
  rw [nats_row]
  exact eqOk_row n _
section
variable (ns : List Int)
abbrev Γ15 : Glob := globN bs 15
theorem due_turn {w k : Nat} {rows : List (List Int)} (hw : w ≤ 4) (hn : rows.length ≤ 6) (hg : ∀ r ∈ rows, Gd w (bd 6) r) (hk : k < rows.length) :
    ∃ e2, evSs Γ15 [.ife (.cmp .gt (.call false 10 [.bin .add (.comp (.idx (.peek 2) (.peek 12)) (.nm 12) (.peek 3) [] [12]) (.lst [.idx (.peek 2) (.peek 4)]), .peek 1]) (.bi .len [.peek 3])) [.app 3 (.var 4)] []] [.frz (.scr ns), .frz (.int (w : Int)), .own (rowsD rows), .own (natsD (dueL w rows k)), .frz (.int (k : Int)), .un, .un, .un, .un, .un, .un, .un, .un] = .nx e2 ∧
      mask [.frz (.scr ns), .frz (.int (w : Int)), .own (rowsD rows), .own (.lst []), .un, .un, .un, .un, .un, .un, .un, .un, .un] e2 = [.frz (.scr ns), .frz (.int (w : Int)), .own (rowsD rows), .own (natsD (dueL w rows (k + 1))), .un, .un, .un, .un, .un, .un, .un, .un, .un] := by
  obtain ⟨due, hdue⟩ : ∃ due, due = dueL w rows k := ⟨_, rfl⟩
  have dlt : ∀ i ∈ due, i < k := by rw [hdue]; exact dueL_lt w rows k
  have dle : due.length ≤ k := by rw [hdue]; exact dueL_len w rows k
  rw [← hdue]
  have cm : evE Γ15 (.comp (.idx (.peek 2) (.peek 12)) (.nm 12) (.peek 3) [] [12]) [.frz (.scr ns), .frz (.int (w : Int)), .own (rowsD rows), .own (natsD due), .frz (.int (k : Int)), .un, .un, .un, .un, .un, .un, .un, .un] = .ok (rowsD (sel rows due)) := by
    refine (comp_m (f := fun (i : Nat) => D.int (i : Int)) (g := fun (i : Nat) => rowD (rows.getD i [])) due rfl (by omega) ?_).trans ?_
    · intro i hi
      exact idx_rows (by have := dlt i hi; omega)
    · unfold rowsD sel
      rw [List.map_map]
      rfl
  have add : evE Γ15 (.bin .add (.comp (.idx (.peek 2) (.peek 12)) (.nm 12) (.peek 3) [] [12]) (.lst [.idx (.peek 2) (.peek 4)])) [.frz (.scr ns), .frz (.int (w : Int)), .own (rowsD rows), .own (natsD due), .frz (.int (k : Int)), .un, .un, .un, .un, .un, .un, .un, .un] = .ok (rowsD (sel rows (due ++ [k]))) := by
    rw [ev_bin, cm, b_ok]
    show (R.bind (R.map D.lst (R.bind (idxD (rowsD rows) (.int (k : Int))) fun x => (R.ok []).map (x :: ·))) fun y => addD (rowsD (sel rows due)) y) = _
    rw [idx_rows hk, b_ok]
    show addD (.lst ((sel rows due).map rowD)) (.lst [rowD (rows.getD k [])]) = _
    rw [add_lst (by rw [List.length_map, sel_len]; simp; omega), sel_app]
    unfold rowsD
    rw [List.map_append]
    rfl
  have mat : MatOk (due.length + 1) w (sel rows (due ++ [k])) := by
    have mem : ∀ r ∈ sel rows (due ++ [k]), r ∈ rows := fun r hr => by
      obtain ⟨i, hi, rfl⟩ := List.mem_map.mp hr
      refine getD_mem' ?_
      rcases List.mem_append.mp hi with h | h
      · have := dlt i h
        omega
      · rw [List.mem_singleton.mp h]
        exact hk
    have m := gd_mat hg
    exact ⟨by rw [sel_len, List.length_append]; rfl, fun r hr => m.row r (mem r hr), fun r hr => m.bnd r (mem r hr)⟩
  obtain ⟨d, cr, cle, ci⟩ := count_run (globN bs 10) (sel rows (due ++ [k])) mat (by omega) (by omega) (L := .frz (rowsD (sel rows (due ++ [k])))) (.f _)
  have cc : evE Γ15 (.call false 10 [.bin .add (.comp (.idx (.peek 2) (.peek 12)) (.nm 12) (.peek 3) [] [12]) (.lst [.idx (.peek 2) (.peek 4)]), .peek 1]) [.frz (.scr ns), .frz (.int (w : Int)), .own (rowsD rows), .own (natsD due), .frz (.int (k : Int)), .un, .un, .un, .un, .un, .un, .un, .un] = .ok (.int (d : Int)) := by
    rw [ev_call, eva_cons, add, b_ok]
    show Γ15.call 10 [.frz (rowsD (sel rows (due ++ [k]))), .frz (.int (w : Int))] = _
    rw [at_ (b := countB) (by decide) rfl]
    exact cr
  have cg : evE Γ15 (.cmp .gt (.call false 10 [.bin .add (.comp (.idx (.peek 2) (.peek 12)) (.nm 12) (.peek 3) [] [12]) (.lst [.idx (.peek 2) (.peek 4)]), .peek 1]) (.bi .len [.peek 3])) [.frz (.scr ns), .frz (.int (w : Int)), .own (rowsD rows), .own (natsD due), .frz (.int (k : Int)), .un, .un, .un, .un, .un, .un, .un, .un] = .ok (.bl (decide (due.length < d))) := by
    rw [ev_cmp, cc, b_ok]
    show R.ok (D.bl (decide (((due.map fun (k : Nat) => D.int (k : Int)).length : Int) < (d : Int)))) = _
    rw [List.length_map]
    exact congrArg (fun b => R.ok (D.bl b)) (decide_eq_decide.mpr (by omega))
  rw [hdue] at ci
  by_cases hd : due.length < d
  · rw [decide_eq_true hd] at cg
    have step : dueL w rows (k + 1) = due ++ [k] := by
      rw [dueL, if_pos (ci.mpr (by rw [← hdue]; omega)), ← hdue]
    refine ⟨[.frz (.scr ns), .frz (.int (w : Int)), .own (rowsD rows), .own (natsD (dueL w rows (k + 1))), .frz (.int (k : Int)), .un, .un, .un, .un, .un, .un, .un, .un], ess_if cg (ess_app (d := .int (k : Int)) rfl rfl (by rw [List.length_map]; omega) ?_ rfl) rfl, rfl⟩
    rw [step]
    show _ = [_, _, _, Mi.Slot.own (.lst ((due ++ [k]).map fun (k : Nat) => D.int (k : Int))), _, _, _, _, _, _, _, _, _]
    rw [List.map_append]
    rfl
  · rw [decide_eq_false hd] at cg
    have step : dueL w rows (k + 1) = due := by
      rw [dueL, if_neg (fun h => hd (by have := ci.mp h; rw [← hdue] at this; omega)), ← hdue]
    exact ⟨_, ess_if cg rfl rfl, by rw [step]; rfl⟩
def oldS : Option (List Int) → Mi.Slot
  | none => .frz .non
  | some r => .own (rowD r)
theorem plain (hl : ns.length ≤ 63) : runB (globN (ds.map (·.b)) 15) b_law [.frz (.scr ns)] = .ok (.bl true) := by
  have c1 : evE Γ15 (.call true 9 [.call false 8 [.peek 0, .cst (.int 0)], .lst [.cst (.int 5), .cst (.int 7), .cst (.int 4)]]) [.frz (.scr ns), .un, .un, .un, .un, .un, .un, .un, .un, .un, .un, .un, .un] = .ok (rowD (drawsN (cellN ns 0) [5, 7, 4])) :=
    dr_call (drawG 15 (by decide)) (k := 0) rfl rfl rfl (by decide) (by decide) fun _ => rfl
  have dd := drawsN_dr (c := cellN ns 0) (ls := [5, 7, 4]) (by decide)
  generalize drawsN (cellN ns 0) [5, 7, 4] = dr at c1 dd
  obtain ⟨d0, tl, rfl, a0, b0, dd⟩ := dd.cons
  obtain ⟨w, rfl⟩ := Int.eq_ofNat_of_zero_le a0
  have hw : w ≤ 4 := by omega
  have c1 : evE Γ15 (.idx (.call true 9 [.call false 8 [.peek 0, .cst (.int 0)], .lst [.cst (.int 5), .cst (.int 7), .cst (.int 4)]]) (.cst (.int 0))) [.frz (.scr ns), .un, .un, .un, .un, .un, .un, .un, .un, .un, .un, .un, .un] = .ok (.int (w : Int)) := by
    rw [ev_idx, c1, b_ok]
    show idxD (rowD ((w : Int) :: tl)) (.int ((0 : Nat) : Int)) = _
    rw [idx_row (by simp)]
    rfl
  obtain ⟨rows, cr, hn, hg⟩ := rows_run (drawG 11 (by decide)) ns w hw
  have hr : ∀ r ∈ rows, r.length = w := fun r h => (hg r h).1
  have c2 : evE Γ15 (.call true 11 [.peek 0, .peek 1]) [.frz (.scr ns), .frz (.int (w : Int)), .un, .un, .un, .un, .un, .un, .un, .un, .un, .un, .un] = .ok (rowsD rows) := by
    show Γ15.call 11 [.frz (.scr ns), .frz (.int (w : Int))] = _
    rw [at_ (b := b__law_rows) (by decide) rfl]
    exact cr
  refine run_ret (env := [.frz (.scr ns), .un, .un, .un, .un, .un, .un, .un, .un, .un, .un, .un, .un]) (own := false) rfl ?_ rfl
  refine ess_asg (e1 := [.frz (.scr ns), .frz (.int (w : Int)), .un, .un, .un, .un, .un, .un, .un, .un, .un, .un, .un]) c1 rfl (ess_asg (e1 := [.frz (.scr ns), .frz (.int (w : Int)), .own (rowsD rows), .un, .un, .un, .un, .un, .un, .un, .un, .un, .un]) c2 rfl (ess_asg (d := .lst []) (e1 := [.frz (.scr ns), .frz (.int (w : Int)), .own (rowsD rows), .own (.lst []), .un, .un, .un, .un, .un, .un, .un, .un, .un]) rfl rfl ?_))
  have go : ∀ (l : List Nat) (k : Nat), (∀ j, j < l.length → l[j]? = some (k + j)) → k + l.length = rows.length →
      evFor (evSs Γ15 [.ife (.cmp .gt (.call false 10 [.bin .add (.comp (.idx (.peek 2) (.peek 12)) (.nm 12) (.peek 3) [] [12]) (.lst [.idx (.peek 2) (.peek 4)]), .peek 1]) (.bi .len [.peek 3])) [.app 3 (.var 4)] []]) (bindT (.nm 4)) [.frz (.scr ns), .frz (.int (w : Int)), .own (rowsD rows), .own (.lst []), .un, .un, .un, .un, .un, .un, .un, .un, .un] (l.map fun (k : Nat) => D.int (k : Int)) [.frz (.scr ns), .frz (.int (w : Int)), .own (rowsD rows), .own (natsD (dueL w rows k)), .un, .un, .un, .un, .un, .un, .un, .un, .un] =
        .nx [.frz (.scr ns), .frz (.int (w : Int)), .own (rowsD rows), .own (natsD (dueL w rows rows.length)), .un, .un, .un, .un, .un, .un, .un, .un, .un] := by
    intro l
    induction l with
    | nil =>
      intro k _ h
      have : k = rows.length := by simpa using h
      rw [this]
      rfl
    | cons x l ih =>
      intro k hx h
      rw [List.length_cons] at h
      have ek : x = k := by simpa using hx 0 (by simp)
      subst ek
      obtain ⟨e2, t1, t2⟩ := due_turn ns hw hn hg (k := x) (by omega)
      have p3 := ih (x + 1) (fun j hj => by
        have := hx (j + 1) (by rw [List.length_cons]; omega)
        rw [List.getElem?_cons_succ] at this
        rw [this]
        exact congrArg some (by omega)) (by omega)
      rw [List.map_cons]
      exact ef_nx (e1 := [.frz (.scr ns), .frz (.int (w : Int)), .own (rowsD rows), .own (natsD (dueL w rows x)), .frz (.int (x : Int)), .un, .un, .un, .un, .un, .un, .un, .un]) rfl t1 t2 p3
  have lp := go (List.range rows.length) 0 (fun j hj => by
    rw [List.length_range] at hj
    rw [List.getElem?_range hj, Nat.zero_add]) (by rw [List.length_range]; omega)
  have it : (evE Γ15 (.rng none (.bi .len [.peek 2]) none) [.frz (.scr ns), .frz (.int (w : Int)), .own (rowsD rows), .own (.lst []), .un, .un, .un, .un, .un, .un, .un, .un, .un]).bind items = .ok ((List.range rows.length).map fun (k : Nat) => D.int (k : Int)) := by
    have q : evE Γ15 (.bi .len [.peek 2]) [.frz (.scr ns), .frz (.int (w : Int)), .own (rowsD rows), .own (.lst []), .un, .un, .un, .un, .un, .un, .un, .un, .un] = .ok (.int (rows.length : Int)) := len_rows rfl
    exact rng0 (n := rows.length) q (by omega)
  refine ess_for it (e1 := [.frz (.scr ns), .frz (.int (w : Int)), .own (rowsD rows), .own (.lst []), .un, .un, .un, .un, .un, .un, .un, .un, .un]) (e3 := [.frz (.scr ns), .frz (.int (w : Int)), .own (rowsD rows), .own (natsD (dueL w rows rows.length)), .un, .un, .un, .un, .un, .un, .un, .un, .un]) rfl lp rfl ?_
  obtain ⟨due, hdue⟩ : ∃ due, due = dueL w rows rows.length := ⟨_, rfl⟩
  rw [← hdue]
  -- the drawn numbers have inverses or none
  have c5 : evE Γ15 (.call true 9 [.call false 8 [.peek 0, .cst (.int 8)], .lst [.cst (.int 97), .cst (.int 200), .bin .pow (.cst (.int 10)) (.cst (.int 15)), .bin .pow (.cst (.int 10)) (.cst (.int 15))]]) [.frz (.scr ns), .frz (.int (w : Int)), .own (rowsD rows), .own (natsD due), .un, .un, .un, .un, .un, .un, .un, .un, .un] = .ok (rowD (drawsN (cellN ns 8) [97, 200, 1000000000000000, 1000000000000000])) :=
    dr_call (drawG 15 (by decide)) (k := 8) rfl rfl rfl (by decide) (by decide) fun _ => rfl
  have dd := drawsN_dr (c := cellN ns 8) (ls := [97, 200, 1000000000000000, 1000000000000000]) (by decide)
  generalize drawsN (cellN ns 8) [97, 200, 1000000000000000, 1000000000000000] = dr at c5 dd
  obtain ⟨x0, _, rfl, _, _, dd⟩ := dd.cons
  obtain ⟨x1, _, rfl, _, _, dd⟩ := dd.cons
  obtain ⟨x2, _, rfl, _, _, dd⟩ := dd.cons
  obtain ⟨x3, _, rfl, _, _, dd⟩ := dd.cons
  have e0 := dd.nil
  subst e0
  obtain ⟨dr, hdr⟩ : ∃ dr, dr = rowD [x0, x1, x2, x3] := ⟨_, rfl⟩
  have e1 : isMut dr = true := by rw [hdr]; rfl
  refine ess_asg (e1 := [.frz (.scr ns), .frz (.int (w : Int)), .own (rowsD rows), .own (natsD due), .un, .own (rowD [x0, x1, x2, x3]), .un, .un, .un, .un, .un, .un, .un]) c5 rfl ?_
  let E6 : Mi.Env := [.frz (.scr ns), .frz (.int (w : Int)), .own (rowsD rows), .own (natsD due), .un, .own (rowD [x0, x1, x2, x3]), .un, .un, .un, .un, .un, .un, .un]
  have it6 : (evE Γ15 (.lst [.idx (.peek 5) (.cst (.int 0)), .bin .sub (.idx (.peek 5) (.cst (.int 1))) (.cst (.int 100)), .bin .sub (.cst (.int 0)) (.idx (.peek 5) (.cst (.int 2))), .bin .mul (.cst (.int 97)) (.idx (.peek 5) (.cst (.int 3)))]) E6).bind items = .ok ([x0, x1 - 100, 0 - x2, 97 * x3].map D.int) := by
    have i0 : evE Γ15 (.idx (.peek 5) (.cst (.int 0))) E6 = .ok (.int x0) := rfl
    have i1 : evE Γ15 (.idx (.peek 5) (.cst (.int 1))) E6 = .ok (.int x1) := rfl
    have i2 : evE Γ15 (.idx (.peek 5) (.cst (.int 2))) E6 = .ok (.int x2) := rfl
    have i3 : evE Γ15 (.idx (.peek 5) (.cst (.int 3))) E6 = .ok (.int x3) := rfl
    have m3 : evE Γ15 (.bin .mul (.cst (.int 97)) (.idx (.peek 5) (.cst (.int 3)))) E6 = .ok (.int (97 * x3)) := by
      rw [ev_bin, i3, ev_cst, b_ok, b_ok]
      exact mul_l (i := 97) (by decide)
    rw [ev_lst, evs_cons, i0, b_ok, evs_cons, ev_bin, i1, b_ok, evs_cons, ev_bin, i2, evs_cons, m3]
    rfl
  have lp6 := ef_same (body := evSs Γ15 [.ife (.not (.call false 14 [.peek 6])) [.ret (.cst (.bl false))] []]) (bd := bindT (.nm 6)) (e0 := E6) (env := E6) D.int [x0, x1 - 100, 0 - x2, 97 * x3] fun x _ => by
    refine ⟨[.frz (.scr ns), .frz (.int (w : Int)), .own (rowsD rows), .own (natsD due), .un, .own (rowD [x0, x1, x2, x3]), .frz (.int x), .un, .un, .un, .un, .un, .un], [.frz (.scr ns), .frz (.int (w : Int)), .own (rowsD rows), .own (natsD due), .un, .own (rowD [x0, x1, x2, x3]), .frz (.int x), .un, .un, .un, .un, .un, .un], rfl, ?_, rfl⟩
    have c : evE Γ15 (.call false 14 [.peek 6]) [.frz (.scr ns), .frz (.int (w : Int)), .own (rowsD rows), .own (natsD due), .un, .own (rowD [x0, x1, x2, x3]), .frz (.int x), .un, .un, .un, .un, .un, .un] = .ok (.bl true) := by
      show Γ15.call 14 [.frz (.int x)] = _
      rw [at_ (b := b__law_inverted) (by decide) rfl]
      exact inverted_run ⟨_, fun i => at_ (b := inverseB 2 0) (by decide) rfl _⟩ x
    refine ess_if (t := false) ?_ rfl rfl
    rw [ev_not, c]
    rfl
  refine ess_for it6 (e1 := E6) (e3 := E6) rfl lp6 rfl ?_
  have c97 : evE Γ15 (.cmp .ne (.cst (.int 97)) (.cst (.int 97))) E6 = .ok (.bl false) := ne_int 97 97
  refine ess_if c97 (e1 := E6) rfl ?_
  -- the rows that are given
  have c7 : evE Γ15 (.comp (.bi .list [.peek 11]) (.nm 11) (.peek 2) [] [11]) E6 = .ok (rowsD rows) := (comp_m (f := rowD) (g := rowD) rows rfl (by omega) fun r _ => rfl).trans rfl
  refine ess_asgC (e1 := [.frz (.scr ns), .frz (.int (w : Int)), .own (rowsD rows), .own (natsD due), .un, .own (rowD [x0, x1, x2, x3]), .un, .own (rowsD rows), .un, .un, .un, .un, .un]) c7 rfl ?_
  have rel : ∀ L, Sn (rowsD rows) L → ∃ t, Γ15.call 7 [L] = .ok (relD t) ∧ match t with
      | none => dueL w rows rows.length = List.range rows.length
      | some told => ∃ k, RelOk w rows k told := fun L h => by
    obtain ⟨t, q1, q2⟩ := relation_run (callOk 7 (by decide)) rows w hr (by omega) h
    exact ⟨t, by rw [at_ (b := relationB 3 4 0) (by decide) rfl]; exact q1, q2⟩
  have ind : ∀ L, Sn (rowsD rows) L → Γ15.call 5 [L] = .ok (natsD due) := fun L h => by
    rw [at_ (b := indepB 3 4 0) (by decide) rfl, indep_run (callOk 5 (by decide)) rows w (by omega) hr (by omega) h, indL_due w rows hr, hdue]
  have right : ∀ {t : Option (List Int)}, (match t with
      | none => dueL w rows rows.length = List.range rows.length
      | some told => ∃ k, RelOk w rows k told) → ∀ L0, Sn (relD t) L0 → Γ15.call 13 [L0, .bor (rowsD rows), .frz (.int (w : Int)), .bor (natsD due)] = .ok (.bl true) := fun ht L0 h0 => by
    rw [at_ (b := b__law_right) (by decide) rfl]
    exact right_any (rightG 13 (by decide)) ht hr (by omega) (by omega) h0 (.b _) (by rw [hdue]; exact .b _)
  obtain ⟨t, r1, r2⟩ := rel (.bor (rowsD rows)) (.b _)
  have c8 : evE Γ15 (.call true 7 [.peek 7]) [.frz (.scr ns), .frz (.int (w : Int)), .own (rowsD rows), .own (natsD due), .un, .own (rowD [x0, x1, x2, x3]), .un, .own (rowsD rows), .un, .un, .un, .un, .un] = .ok (relD t) := r1
  have s8 : (if (Mi.frs (.call true 7 [.peek 7]) && isMut (relD t)) = true then Mi.Slot.own (relD t) else .frz (relD t)) = oldS t := by
    cases t <;> rfl
  refine ess_asg (e1 := [.frz (.scr ns), .frz (.int (w : Int)), .own (rowsD rows), .own (natsD due), .un, .own (rowD [x0, x1, x2, x3]), .un, .own (rowsD rows), oldS t, .un, .un, .un, .un]) c8 (by rw [s8]; rfl) ?_
  have ov : (oldS t).val = .ok (relD t) := by cases t <;> rfl
  have ol : Sn (relD t) (lendS (relD t) (oldS t)) := by
    cases t with
    | none => exact .f _
    | some r => exact .b _
  have ne7 : ∀ (s9 s10 : Mi.Slot) (s8 : Mi.Slot), evE Γ15 (.cmp .ne (.peek 7) (.peek 2)) [.frz (.scr ns), .frz (.int (w : Int)), .own (rowsD rows), .own (natsD due), .un, .own (rowD [x0, x1, x2, x3]), .un, .own (rowsD rows), s8, s9, s10, .un, .un] = .ok (.bl false) := fun _ _ _ => neR_self (eqOk_rows 57 rows)
  have rt : evE Γ15 (.call false 13 [.peek 8, .peek 2, .peek 1, .peek 3]) [.frz (.scr ns), .frz (.int (w : Int)), .own (rowsD rows), .own (natsD due), .un, .own (rowD [x0, x1, x2, x3]), .un, .own (rowsD rows), oldS t, .un, .un, .un, .un] = .ok (.bl true) := by
    show (R.bind (R.bind (oldS t).val fun x => (R.ok ([.bor (rowsD rows), .frz (.int (w : Int)), .bor (natsD due)] : List Mi.Slot)).map (lendS x (oldS t) :: ·)) fun as => Γ15.call 13 as) = _
    rw [ov]
    exact right r2 _ ol
  refine ess_if (t := false) (e1 := [.frz (.scr ns), .frz (.int (w : Int)), .own (rowsD rows), .own (natsD due), .un, .own (rowD [x0, x1, x2, x3]), .un, .own (rowsD rows), oldS t, .un, .un, .un, .un]) ?_ rfl ?_
  · rw [ev_or, ne7, b_ok]
    show evE Γ15 (.not _) _ = _
    rw [ev_not, rt]
    rfl
  have c9 : evE Γ15 (.call true 5 [.peek 7]) [.frz (.scr ns), .frz (.int (w : Int)), .own (rowsD rows), .own (natsD due), .un, .own (rowD [x0, x1, x2, x3]), .un, .own (rowsD rows), oldS t, .un, .un, .un, .un] = .ok (natsD due) := ind _ (.b _)
  refine ess_asg (e1 := [.frz (.scr ns), .frz (.int (w : Int)), .own (rowsD rows), .own (natsD due), .un, .own (rowD [x0, x1, x2, x3]), .un, .own (rowsD rows), oldS t, .own (natsD due), .un, .un, .un]) c9 rfl ?_
  let E9 : Mi.Env := [.frz (.scr ns), .frz (.int (w : Int)), .own (rowsD rows), .own (natsD due), .un, .own (rowD [x0, x1, x2, x3]), .un, .own (rowsD rows), oldS t, .own (natsD due), .un, .un, .un]
  have isin : evE Γ15 (.cmp .isin (.cst (.bl true)) (.comp (.isi .bool (.peek 4)) (.nm 4) (.peek 9) [] [4])) E9 = .ok (.bl false) := by
    have cm : evE Γ15 (.comp (.isi .bool (.peek 4)) (.nm 4) (.peek 9) [] [4]) E9 = .ok (.lst (due.map fun _ => D.bl false)) := (comp_m (f := fun (k : Nat) => D.int (k : Int)) (g := fun _ => D.bl false) due rfl (by have := dueL_len w rows rows.length; rw [← hdue] at this; omega) fun k _ => rfl).trans rfl
    rw [ev_cmp, ev_cst, b_ok, cm, b_ok]
    show (isinD (.bl true) (due.map fun _ => D.bl false)).map D.bl = _
    unfold isinD
    have a1 : (due.map fun _ => D.bl false).all (eqOk 60) = true := by
      rw [List.all_eq_true]
      intro d hd
      obtain ⟨_, _, rfl⟩ := List.mem_map.mp hd
      rfl
    have a2 : ((due.map fun _ => D.bl false).any fun y => eqD y (.bl true)) = false := by
      rw [List.any_eq_false]
      intro d hd
      obtain ⟨_, _, rfl⟩ := List.mem_map.mp hd
      simp [eqD]
    rw [a1, a2]
    rfl
  refine ess_if (t := false) (e1 := E9) ?_ rfl ?_
  · have i1 : evE Γ15 (.isi .list (.peek 9)) E9 = .ok (.bl true) := rfl
    have i2 : evE Γ15 (.cmp .ne (.peek 9) (.peek 3)) E9 = .ok (.bl false) := neR_self (eqOk_nats 58 due)
    show evE Γ15 (.or (.not (.isi .list (.peek 9))) (.or (.cmp .ne (.peek 9) (.peek 3)) (.cmp .isin (.cst (.bl true)) (.comp (.isi .bool (.peek 4)) (.nm 4) (.peek 9) [] [4])))) E9 = _
    rw [ev_or, ev_not, i1, b_ok, truth_bl, m_ok, b_ok]
    show evE Γ15 (.or (.cmp .ne (.peek 9) (.peek 3)) (.cmp .isin (.cst (.bl true)) (.comp (.isi .bool (.peek 4)) (.nm 4) (.peek 9) [] [4]))) E9 = _
    rw [ev_or, i2, b_ok]
    exact isin
  have c10 : evE Γ15 (.call false 6 [.peek 7]) E9 = .ok (.bl (decide (due.length = rows.length))) := by
    show Γ15.call 6 [.bor (rowsD rows)] = _
    rw [at_ (b := b_independent) (by decide) rfl, independent_run ⟨_, fun as => ⟨at_ (b := indepB 3 4 0) (by decide) rfl as, callOk 5 (by decide)⟩⟩ hr (by omega) (by omega) (.b _), hdue]
  refine ess_asg (e1 := [.frz (.scr ns), .frz (.int (w : Int)), .own (rowsD rows), .own (natsD due), .un, .own (rowD [x0, x1, x2, x3]), .un, .own (rowsD rows), oldS t, .own (natsD due), .frz (.bl (decide (due.length = rows.length))), .un, .un]) c10 rfl ?_
  let EA : Mi.Env := [.frz (.scr ns), .frz (.int (w : Int)), .own (rowsD rows), .own (natsD due), .un, .own (rowD [x0, x1, x2, x3]), .un, .own (rowsD rows), oldS t, .own (natsD due), .frz (.bl (decide (due.length = rows.length))), .un, .un]
  refine ess_if (t := false) (e1 := EA) ?_ rfl ?_
  · have i1 : evE Γ15 (.isi .bool (.peek 10)) EA = .ok (.bl true) := rfl
    have i2 : evE Γ15 (.cmp .eq (.bi .len [.peek 3]) (.bi .len [.peek 2])) EA = .ok (.bl (decide (due.length = rows.length))) := by
      rw [ev_cmp, len_rows (M := rows) (i := 2) rfl]
      show eqR (.int ((due.map fun (k : Nat) => D.int (k : Int)).length : Int)) (.int (rows.length : Int)) = _
      rw [eq_int, List.length_map]
      exact congrArg (fun b => R.ok (D.bl b)) (decide_eq_decide.mpr (by omega))
    have i3 : evE Γ15 (.cmp .ne (.peek 10) (.cmp .eq (.bi .len [.peek 3]) (.bi .len [.peek 2]))) EA = .ok (.bl false) := by
      rw [ev_cmp, i2]
      show neR (.bl (decide (due.length = rows.length))) (.bl (decide (due.length = rows.length))) = _
      exact neR_self rfl
    show evE Γ15 (.or (.not (.isi .bool (.peek 10))) (.cmp .ne (.peek 10) (.cmp .eq (.bi .len [.peek 3]) (.bi .len [.peek 2])))) EA = _
    rw [ev_or, ev_not, i1, b_ok, truth_bl, m_ok, b_ok]
    exact i3
  -- the first answer is spoilt
  have spoil : ∃ s8, evSs Γ15 [.ife (.isN true (.peek 8)) [.setIt 8 (.cst (.int 0)) (.bin .add (.idx (.peek 8) (.cst (.int 0))) (.cst (.int 5))), .app 8 (.cst (.int 3))] []] EA = .nx [.frz (.scr ns), .frz (.int (w : Int)), .own (rowsD rows), .own (natsD due), .un, .own (rowD [x0, x1, x2, x3]), .un, .own (rowsD rows), s8, .own (natsD due), .frz (.bl (decide (due.length = rows.length))), .un, .un] := by
    cases t with
    | none =>
      have c : evE Γ15 (.isN true (.peek 8)) EA = .ok (.bl false) := rfl
      exact ⟨_, ess_if c rfl rfl⟩
    | some told =>
      obtain ⟨k, Rk⟩ := r2
      have tl : told.length = rows.length := Rk.len
      have kl := Rk.lt
      have c : evE Γ15 (.isN true (.peek 8)) EA = .ok (.bl true) := rfl
      cases told with
      | nil => simp at tl; omega
      | cons a r =>
        refine ⟨.own (.lst (((D.int (a + 5)) :: r.map D.int) ++ [.int 3])), ess_if c ?_ rfl⟩
        refine ess_nx (e := [.frz (.scr ns), .frz (.int (w : Int)), .own (rowsD rows), .own (natsD due), .un, .own (rowD [x0, x1, x2, x3]), .un, .own (rowsD rows), .own (.lst (.int (a + 5) :: r.map D.int)), .own (natsD due), .frz (.bl (decide (due.length = rows.length))), .un, .un]) ?_ (ess_app (d := .int 3) rfl rfl (by simp at tl ⊢; omega) rfl rfl)
        have ix : evE Γ15 (.idx (.peek 8) (.cst (.int 0))) EA = .ok (.int a) := by
          show idxD (rowD (a :: r)) (.int ((0 : Nat) : Int)) = _
          rw [idx_row (by simp)]
          rfl
        rw [es_setIt, ev_bin, ix]
        show ((setD (D.int a :: r.map D.int) 0 (.int (a + 5))).only fun ys => Out.nx _) = _
        have sd : setD (D.int a :: r.map D.int) 0 (.int (a + 5)) = .ok (.int (a + 5) :: r.map D.int) := by
          unfold setD L2.ixN
          simp
        rw [sd]
        rfl
  obtain ⟨s8', sp⟩ := spoil
  refine ess_nx (one_nx sp) (ess_app (xs := due.map fun (k : Nat) => D.int (k : Int)) (d := .int 7) rfl rfl (by rw [List.length_map]; have := dueL_len w rows rows.length; rw [← hdue] at this; omega) (e1 := [.frz (.scr ns), .frz (.int (w : Int)), .own (rowsD rows), .own (natsD due), .un, .own (rowD [x0, x1, x2, x3]), .un, .own (rowsD rows), s8', .own (.lst ((due.map fun (k : Nat) => D.int (k : Int)) ++ [.int 7])), .frz (.bl (decide (due.length = rows.length))), .un, .un]) rfl (ess_ret ?_))
  obtain ⟨t2, q1, q2⟩ := rel (.bor (rowsD rows)) (.b _)
  let EB : Mi.Env := [.frz (.scr ns), .frz (.int (w : Int)), .own (rowsD rows), .own (natsD due), .un, .own (rowD [x0, x1, x2, x3]), .un, .own (rowsD rows), s8', .own (.lst ((due.map fun (k : Nat) => D.int (k : Int)) ++ [.int 7])), .frz (.bl (decide (due.length = rows.length))), .un, .un]
  have f1 : evE Γ15 (.cmp .eq (.peek 7) (.peek 2)) EB = .ok (.bl true) := eqR_self (eqOk_rows 57 rows)
  have f2 : evE Γ15 (.call false 13 [.call true 7 [.peek 7], .peek 2, .peek 1, .peek 3]) EB = .ok (.bl true) := by
    show (R.bind (R.bind (Γ15.call 7 [.bor (rowsD rows)]) fun x => (R.ok ([.bor (rowsD rows), .frz (.int (w : Int)), .bor (natsD due)] : List Mi.Slot)).map (Mi.Slot.frz x :: ·)) fun as => Γ15.call 13 as) = _
    rw [q1]
    exact right q2 _ (.f _)
  have f3 : evE Γ15 (.cmp .eq (.call true 5 [.peek 7]) (.peek 3)) EB = .ok (.bl true) := by
    show (R.bind (Γ15.call 5 [.bor (rowsD rows)]) fun x => (R.ok (natsD due)).bind fun y => eqR x y) = _
    rw [ind _ (.b _)]
    exact eqR_self (eqOk_nats 58 due)
  show evE Γ15 (.and (.cmp .eq (.peek 7) (.peek 2)) (.and (.call false 13 [.call true 7 [.peek 7], .peek 2, .peek 1, .peek 3]) (.cmp .eq (.call true 5 [.peek 7]) (.peek 3)))) EB = _
  rw [ev_and, f1, b_ok]
  show evE Γ15 (.and (.call false 13 [.call true 7 [.peek 7], .peek 2, .peek 1, .peek 3]) (.cmp .eq (.call true 5 [.peek 7]) (.peek 3))) EB = _
  rw [ev_and, f2, b_ok]
  exact f3
end
end LawK00

open PySem PySem.W PyProof.Rows in
set_option maxRecDepth 100000 in
set_option maxHeartbeats 0 in
theorem PySem.Challenge.cw_fewserve_k00_first_relation_holds : PySem.Challenge.rw_fewserve_k00_first_relation.Holds := by
  w_on; o_law; k_head; (case hw => w_witness2)
  k_fill
  refine Mi.walk (l := PySem.Challenge.rw_fewserve_k00_first_relation) (n := 63) (k := 6) (x := "script") rfl (by decide) rfl ⟨rfl, by decide, by decide⟩ (fun w h Y => PySem.W.kIn_of Y) ?F
  case F =>
    intro w mg h KX G
    refine' Mi.law_okX (x := "script") (ds := LawK00.ds) (blts := LawK00.blts) (cst := LawK00.cst) (xcs := LawK00.xcs) (an := LawK00.an) (xc := _) (fuel := 400) (i := 15) (d := LawK00.d_law) ?told ?toldx LawK00.checked rfl rfl rfl (fun ns hl => LawK00.plain ns hl)
    case toldx =>
      refine' LawK00.toldX KX G ?a1 ?k1 ?t1 ?v1 ?a2 ?k2 ?t2 ?v2 ?a3 ?k3 ?t3 ?v3 ?s1_1 ?s1_2 ?s1_3 ?s2_1 ?s2_2 ?s2_3 ?s3_1 ?s3_2 ?s3_3 ?i2 ?zs
      (case a1 => k_is)
      (case k1 => k_is)
      (case t1 =>
        refine' Mi.XcT.mk ?ga ?gg ?exC ?hdC ?ha ?hm ?ty ?hn ?ht ?fno
        (case ga => k_is)
        (case gg => k_is)
        (case exC => k_is)
        (case hdC => k_is)
        (case ha => k_is)
        (case hm => k_is)
        (case ty => k_is)
        (case hn => k_is)
        (case ht => k_is)
        (case fno =>
          simp only [LawK00.an, List.mem_cons, List.not_mem_nil, or_false, forall_eq_or_imp, forall_eq]
          refine ⟨?_, ?_⟩ <;> k_is))
      (case v1 => k_is)
      (case a2 => k_is)
      (case k2 => k_is)
      (case t2 =>
        refine' Mi.XcT.mk ?ga ?gg ?exC ?hdC ?ha ?hm ?ty ?hn ?ht ?fno
        (case ga => k_is)
        (case gg => k_is)
        (case exC => k_is)
        (case hdC => k_is)
        (case ha => k_is)
        (case hm => k_is)
        (case ty => k_is)
        (case hn => k_is)
        (case ht => k_is)
        (case fno =>
          simp only [LawK00.an, List.mem_cons, List.not_mem_nil, or_false, forall_eq_or_imp, forall_eq]
          refine ⟨?_, ?_⟩ <;> k_is))
      (case v2 => k_is)
      (case a3 => k_is)
      (case k3 => k_is)
      (case t3 =>
        refine' Mi.XcT.mk ?ga ?gg ?exC ?hdC ?ha ?hm ?ty ?hn ?ht ?fno
        (case ga => k_is)
        (case gg => k_is)
        (case exC => k_is)
        (case hdC => k_is)
        (case ha => k_is)
        (case hm => k_is)
        (case ty => k_is)
        (case hn => k_is)
        (case ht => k_is)
        (case fno =>
          simp only [LawK00.an, List.mem_cons, List.not_mem_nil, or_false, forall_eq_or_imp, forall_eq]
          refine ⟨?_, ?_⟩ <;> k_is))
      (case v3 => k_is)
      (case s1_1 => k_is)
      (case s1_2 => k_is)
      (case s1_3 => k_is)
      (case s2_1 => k_is)
      (case s2_2 => k_is)
      (case s2_3 => k_is)
      (case s3_1 => k_is)
      (case s3_2 => k_is)
      (case s3_3 => k_is)
      (case i2 =>
        refine' Mi.ini_mk (sf := "self") (x := "number") ?l1 ?l2 ?sa ?exC ?ty ?kp ?iC ?tI ?lk ?cd ?hb ?hs ?har ?ear ?lcc ?lc0 ?hvs ?hfile ?top ?fno ?sup ?sV ?sS ?opq ?hbd
        (case l1 => k_is)
        (case l2 => decide +kernel)
        (case sa => k_is)
        (case exC => k_is)
        (case ty => k_is)
        (case kp => k_is)
        (case iC => k_is)
        (case tI => k_is)
        (case lk => k_is)
        (case cd => k_is)
        (case hb => decide +kernel)
        (case hs => decide +kernel)
        (case har => rfl)
        (case ear => rfl)
        (case lcc => k_is)
        (case lc0 => k_is)
        (case hvs => rfl)
        (case hfile => decide +kernel)
        (case top => decide +kernel)
        (case fno => k_is)
        (case sup => ks_is)
        (case sV => k_is)
        (case sS => k_is)
        (case opq => k_is)
        (case hbd => exact fun us hl => match us, hl with | [_, _], _ => rfl)
      )
      (case zs => k_is)
    case told =>
      refine' LawK00.told KX G ?a0 ?l0 ?c0 ?k0 ?a1 ?l1 ?c1 ?k1 ?a2 ?l2 ?c2 ?k2 ?a3 ?l3 ?c3 ?k3 ?a4 ?l4 ?c4 ?k4 ?a5 ?l5 ?c5 ?k5 ?a6 ?l6 ?c6 ?k6 ?a7 ?l7 ?c7 ?k7 ?a8 ?l8 ?c8 ?k8 ?a9 ?l9 ?c9 ?k9 ?a10 ?l10 ?c10 ?k10 ?a11 ?l11 ?c11 ?k11 ?a12 ?l12 ?c12 ?k12 ?a13 ?l13 ?c13 ?k13 ?a14 ?l14 ?c14 ?k14 ?a15 ?l15 ?c15 ?k15 ?z0 ?z1 ?z2 ?z3 ?z4 ?z5 ?z6 ?z7 ?z8 ?z9 ?v0
      (case a0 => k_is)
      (case l0 => k_is)
      (case c0 => k_is)
      (case k0 => k_is)
      (case a1 => k_is)
      (case l1 => k_is)
      (case c1 => k_is)
      (case k1 => k_is)
      (case a2 => k_is)
      (case l2 => k_is)
      (case c2 => k_is)
      (case k2 => k_is)
      (case a3 => k_is)
      (case l3 => k_is)
      (case c3 => k_is)
      (case k3 => k_is)
      (case a4 => k_is)
      (case l4 => k_is)
      (case c4 => k_is)
      (case k4 => k_is)
      (case a5 => k_is)
      (case l5 => k_is)
      (case c5 => k_is)
      (case k5 => k_is)
      (case a6 => k_is)
      (case l6 => k_is)
      (case c6 => k_is)
      (case k6 => k_is)
      (case a7 => k_is)
      (case l7 => k_is)
      (case c7 => k_is)
      (case k7 => k_is)
      (case a8 => k_is)
      (case l8 => k_is)
      (case c8 => k_is)
      (case k8 => k_is)
      (case a9 => k_is)
      (case l9 => k_is)
      (case c9 => k_is)
      (case k9 => k_is)
      (case a10 => k_is)
      (case l10 => k_is)
      (case c10 => k_is)
      (case k10 => k_is)
      (case a11 => k_is)
      (case l11 => k_is)
      (case c11 => k_is)
      (case k11 => k_is)
      (case a12 => k_is)
      (case l12 => k_is)
      (case c12 => k_is)
      (case k12 => k_is)
      (case a13 => k_is)
      (case l13 => k_is)
      (case c13 => k_is)
      (case k13 => k_is)
      (case a14 => k_is)
      (case l14 => k_is)
      (case c14 => k_is)
      (case k14 => k_is)
      (case a15 => k_is)
      (case l15 => k_is)
      (case c15 => k_is)
      (case k15 => k_is)
      (case z0 => k_is)
      (case z1 => k_is)
      (case z2 => k_is)
      (case z3 => k_is)
      (case z4 => k_is)
      (case z5 => k_is)
      (case z6 => k_is)
      (case z7 => k_is)
      (case z8 => k_is)
      (case z9 => k_is)
      (case v0 => k_is)
