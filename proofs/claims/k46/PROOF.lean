import PyProof.Rows.All
import Wide.All
import OpenK.AllK
import Wide.FinOn
import HandS.ForMost
import HandS.Exc
import HandS.TupMul
import HandS.TupAny
import HandS.Wide
import HandS.IsInst
import HandS.Style
import HandS.Deep
import HandS.Text
import HandS.Flow
import HandS.Star
import HandS.Flt
import KE.KMinBuiltin
import HandS.SortKw
import KE.GoesEnum
import HandS.NoneIn
import HandS.ExcOwn
import HandS.ExcIs
import HandS.ExcValue
import HandS.WordsExc
import PyProof.ExcBaseAll.ValueError
import PyProof.ExcBaseAll.LookupError
import PySem.Challenge.RW_mirrordoors_k46_doors_and_rooms_between
set_option Elab.async false
set_option linter.all false
set_option maxRecDepth 100000
/-! En1: an engine of our own: data D, a small language of the program's bodies (slots for names), and its evaluator. Nothing of the machine is in here. -/
namespace En

/-! ### data -/
inductive D where
  | non
  | bl (b : Bool)
  | int (i : Int)
  | str (s : List Nat)
  | tup (l : List D)
  | lst (l : List D)
  | dic (ks vs : List D)
  /-- the script: it is cut, nothing else -/
  | scr (l : List Int)
  deriving Inhabited

/-- what a cell (an object that the running def alone may change) holds -/
inductive Ob where
  | lst (l : List D)
  | dic (ks vs : List D)
  deriving Inhabited
def Ob.val : Ob → D
  | .lst l => .lst l
  | .dic ks vs => .dic ks vs

/-- own: a cell of the def's own; io: handed in, changed for the caller too; lock: walked just now -/
inductive CK where | own | io | lock
  deriving DecidableEq, Inhabited

inductive Sl where
  | no
  | val (d : D)
  | cel (k : CK) (o : Ob)
  /-- a caught exception of the class at c -/
  | exn (c : Nat)
  deriving Inhabited

abbrev Ev := List Sl

inductive R (α : Type) where
  | ok (a : α)
  | exc (c : Nat) (fs : List D)
  | bad
  deriving Inhabited

def R.bind {α β : Type} (x : R α) (f : α → R β) : R β := match x with
  | .ok a => f a
  | .exc c fs => .exc c fs
  | .bad => .bad
instance : Monad R where
  pure := .ok
  bind := R.bind
@[simp] theorem R.ok_bind {α β : Type} (a : α) (f : α → R β) : (R.ok a >>= f) = f a := rfl
@[simp] theorem R.bad_bind {α β : Type} (f : α → R β) : (R.bad >>= f) = R.bad := rfl
@[simp] theorem R.exc_bind {α β : Type} (c : Nat) (l : List D) (f : α → R β) : (R.exc c l >>= f) = R.exc c l := rfl
@[simp] theorem R.pure_ok {α : Type} (a : α) : (pure a : R α) = R.ok a := rfl

def M (α : Type) : Type := Ev → R (α × Ev)
instance : Monad M where
  pure a := fun e => .ok (a, e)
  bind x f := fun e => R.bind (x e) fun p => f p.1 p.2
@[simp] theorem M.bind_ap {α β : Type} (x : M α) (f : α → M β) (e : Ev) : (x >>= f) e = R.bind (x e) fun p => f p.1 p.2 := rfl
@[simp] theorem M.pure_ap {α : Type} (a : α) (e : Ev) : (pure a : M α) e = R.ok (a, e) := rfl
@[simp] theorem R.bind_ok {α β : Type} (a : α) (f : α → R β) : R.bind (.ok a) f = f a := rfl
@[simp] theorem R.bind_bad {α β : Type} (f : α → R β) : R.bind .bad f = .bad := rfl
@[simp] theorem R.bind_exc {α β : Type} (c : Nat) (l : List D) (f : α → R β) : R.bind (.exc c l) f = .exc c l := rfl
def M.of {α : Type} (x : R α) : M α := fun e => R.bind x fun a => .ok (a, e)
@[simp] theorem M.of_ap {α : Type} (x : R α) (e : Ev) : (M.of x) e = R.bind x fun a => .ok (a, e) := rfl

/-! ### equality, truth, depth -/
def b2i (b : Bool) : Int := if b then 1 else 0
mutual
def D.eqv : D → D → Bool
  | .non, .non => true
  | .bl a, .bl b => a == b
  | .bl a, .int j => b2i a == j
  | .int i, .bl b => i == b2i b
  | .int i, .int j => i == j
  | .str x, .str y => x == y
  | .tup xs, .tup ys => D.eqvs xs ys
  | .lst xs, .lst ys => D.eqvs xs ys
  | _, _ => false
def D.eqvs : List D → List D → Bool
  | [], [] => true
  | x :: xs, y :: ys => D.eqv x y && D.eqvs xs ys
  | _, _ => false
end
mutual
/-- how deep lists and tuples stand in one another; a dict is deeper than all that is compared -/
def D.depth : D → Nat
  | .tup l => D.depths l + 1
  | .lst l => D.depths l + 1
  | .dic _ _ => 1000
  | .scr _ => 1000
  | _ => 0
def D.depths : List D → Nat
  | [] => 0
  | d :: l => max (D.depth d) (D.depths l)
end
def D.truth : D → Bool
  | .non => false
  | .bl b => b
  | .int i => i != 0
  | .str s => !s.isEmpty
  | .tup l => !l.isEmpty
  | .lst l => !l.isEmpty
  | .dic ks _ => !ks.isEmpty
  | .scr l => !l.isEmpty
/-- what may be compared by == -/
def D.okc (d : D) : Bool := decide (d.depth ≤ 64)
/-- no object is told by it -/
def D.flat : D → Bool
  | .non => true
  | .bl _ => true
  | .int _ => true
  | .str _ => true
  | _ => false

def bigLine : Nat := 16777216
/-- places: i of a row of n, i of any sign -/
def ixNat (n : Nat) (i : Int) : Option Nat := if 0 ≤ i then (if i < n then some i.toNat else none) else if -(n : Int) ≤ i then some (i + n).toNat else none
def atIx {α : Type} (xs : List α) (i : Int) : Option α := (ixNat xs.length i).bind fun j => xs[j]?
def cutIx (n d : Nat) : Option Int → Nat
  | none => d
  | some v => if v < 0 then (v + (n : Int)).toNat else min v.toNat n
def cutL {α : Type} (xs : List α) (lo hi : Option Int) : List α := (xs.drop (cutIx xs.length 0 lo)).take (cutIx xs.length xs.length hi - cutIx xs.length 0 lo)
/-- not too far from 0 -/
def jOk (j : Int) : Bool := decide (j.natAbs < 4611686018427387904)
def pOk (i j : Int) : Bool := decide (j.natAbs ≤ 1000000) && decide (i.natAbs < 18446744073709551616)
def mulOk (i j : Int) : Bool := decide (i.natAbs < 2 ^ 64) || decide (j.natAbs < 2 ^ 64) || decide (i.natAbs.log2 + j.natAbs.log2 < 1000000)
def divOk (j : Int) : Bool := decide (j ≠ 0 ∧ j.natAbs < 1073741824) || decide (0 < j ∧ j.natAbs.log2 < 9000)
def strLt : List Nat → List Nat → Bool
  | [], [] => false
  | [], _ :: _ => true
  | _ :: _, [] => false
  | a :: x, b :: y => if a < b then true else if b < a then false else strLt x y

/-! ### primitives -/
inductive Ty where | int | str | bool | list | tuple
  deriving DecidableEq
def Ty.has : Ty → D → Bool
  | .int, .int _ => true
  | .int, .bl _ => true
  | .bool, .bl _ => true
  | .str, .str _ => true
  | .list, .lst _ => true
  | .tuple, .tup _ => true
  | _, _ => false

/-- its type is told -/
def D.isiOk : D → Bool
  | .scr _ => false
  | .dic _ _ => false
  | _ => true

inductive P1 where
  | neg | len | int | abs | tuple | all | any | sum | isi (ts : List Ty) | isN | notN | rev | str | lenset | maxlen | maxlenT | min | max
  deriving DecidableEq
inductive P2 where
  | add | sub | mul | fdiv | mod | pow
  | eq | ne | lt | le | gt | ge | isIn | notIn
  | idx | slcHi | slcLo | min2 | max2 | join | index | find | mxl2
  deriving DecidableEq
inductive P3 where
  | slc | min3 | max3
  deriving DecidableEq
/-- those that make a new list -/
inductive Q1 where
  | list | sorted | sortedset | listrng | rev
  deriving DecidableEq
inductive Q2 where
  | cat | mul | slcHi | slcLo | split | listzip
  deriving DecidableEq
inductive Q3 where
  | slc
  deriving DecidableEq

mutual
/-- the order of Python over ints, texts, tuples; none: not comparable here -/
def D.lt? : D → D → Option Bool
  | .int i, .int j => some (decide (i < j))
  | .str x, .str y => some (strLt x y)
  | .tup xs, .tup ys => D.lts? xs ys
  | _, _ => none
def D.lts? : List D → List D → Option Bool
  | [], [] => some false
  | [], _ :: _ => some true
  | _ :: _, [] => some false
  | x :: xs, y :: ys => if D.eqv x y then D.lts? xs ys else D.lt? x y
end
def optR {α : Type} : Option α → R α
  | some a => .ok a
  | none => .bad
def D.int? : D → R Int
  | .int i => .ok i
  | _ => .bad
/-- a sequence's items: a list, a tuple, a text by its signs -/
def D.items? : D → R (List D)
  | .lst l => .ok l
  | .tup l => .ok l
  | .str s => .ok (s.map fun c => .str [c])
  | .dic ks _ => .ok ks
  | _ => .bad
/-- .. of a list, a tuple -/
def D.seq? : D → R (List D)
  | .lst l => .ok l
  | .tup l => .ok l
  | _ => .bad
def insL (x : D) : List D → R (List D)
  | [] => .ok [x]
  | y :: r => do
    let c ← optR (D.lt? x y)
    if c then .ok (x :: y :: r) else do
      let z ← insL x r
      .ok (y :: z)
def sortD : List D → R (List D)
  | [] => .ok []
  | x :: r => do
    let z ← sortD r
    insL x z
def insSet (x : D) : List D → R (List D)
  | [] => .ok [x]
  | y :: r => if D.eqv x y then .ok (y :: r) else do
    let c ← optR (D.lt? x y)
    if c then .ok (x :: y :: r) else do
      let z ← insSet x r
      .ok (y :: z)
def setD : List D → R (List D)
  | [] => .ok []
  | x :: r => do
    let z ← setD r
    insSet x z
def textsD : List D → R (List (List Nat))
  | [] => .ok []
  | .str x :: r => do let z ← textsD r; .ok (x :: z)
  | _ => .bad
def joinL (sep : List Nat) : List (List Nat) → List Nat
  | [] => []
  | [x] => x
  | x :: y :: r => x ++ (sep ++ joinL sep (y :: r))
def sumLen : List (List Nat) → Nat
  | [] => 0
  | x :: r => x.length + sumLen r
def joinD (sep : List Nat) (ys : List (List Nat)) : R D := if sumLen ys + ys.length * sep.length ≤ bigLine then .ok (.str (joinL sep ys)) else .bad
def okLen {α : Type} (l : List α) (d : D) : R D := if l.length ≤ bigLine then .ok d else .bad
def digitsN : Nat → Nat → List Nat → List Nat
  | 0, _, acc => acc
  | f + 1, n, acc => if n < 10 then (48 + n) :: acc else digitsN f (n / 10) ((48 + n % 10) :: acc)
def intText (i : Int) : List Nat := if i < 0 then 45 :: digitsN (i.natAbs.log2 + 1) i.natAbs [] else digitsN (i.natAbs.log2 + 1) i.natAbs []
def sumD : List D → Int → R Int
  | [], a => .ok a
  | .int i :: r, a => sumD r (a + i)
  | _, _ => .bad
def maxLenS : List Nat → List (List Nat) → List Nat
  | b, [] => b
  | b, y :: r => if b.length < y.length then maxLenS y r else maxLenS b r
def longest : List (List Nat) → R D
  | [] => .bad
  | y :: r => .ok (.str (maxLenS y r))
def maxLenG {α : Type} : List α → List (List α) → List α
  | b, [] => b
  | b, y :: r => if b.length < y.length then maxLenG y r else maxLenG b r
def tupsD : List D → R (List (List D))
  | [] => .ok []
  | .tup x :: r => do let z ← tupsD r; .ok (x :: z)
  | _ => .bad
def longestT : List (List D) → R D
  | [] => .bad
  | y :: r => .ok (.tup (maxLenG y r))
def intsD : List D → R (List Int)
  | [] => .ok []
  | .int i :: l => R.bind (intsD l) fun z => .ok (i :: z)
  | _ => .bad
def leastI : List Int → R D
  | [] => .bad
  | x :: r => .ok (.int (r.foldl (fun b y => if y < b then y else b) x))
def mostI : List Int → R D
  | [] => .bad
  | x :: r => .ok (.int (r.foldl (fun b y => if b < y then y else b) x))
def bestD (f : D → D → Option Bool) : D → List D → R D
  | b, [] => .ok b
  | b, y :: r => do
    let c ← optR (f y b)
    bestD f (if c then y else b) r
def indexD (x : D) : List D → Nat → R D
  | [], _ => .bad
  | y :: r, n => if D.eqv y x then .ok (.int n) else indexD x r (n + 1)
def findS (x : List Nat) : List Nat → Nat → Int
  | [], n => if x.isEmpty then n else -1
  | c :: r, n => if x.isPrefixOf (c :: r) then n else findS x r (n + 1)
def splitS (sep : List Nat) : Nat → List Nat → List Nat → List (List Nat)
  | _, acc, [] => [acc.reverse]
  | 0, acc, c :: r => if sep.isPrefixOf (c :: r) then acc.reverse :: splitS sep (sep.length - 1) [] r else splitS sep 0 (c :: acc) r
  | k + 1, acc, _ :: r => splitS sep k acc r

def boolsD : List D → R (List Bool)
  | [] => .ok []
  | .bl b :: r => do let z ← boolsD r; .ok (b :: z)
  | _ => .bad
def slcD (x : D) (lo hi : Option Int) : R D := match x with
  | .str s => .ok (.str (cutL s lo hi))
  | .lst l => .ok (.lst (cutL l lo hi))
  | .tup l => .ok (.tup (cutL l lo hi))
  | .scr l => .ok (.lst ((cutL l lo hi).map .int))
  | _ => .bad
def slcN (x : D) (lo hi : Option Int) : R (List D) := match x with
  | .lst l => .ok (cutL l lo hi)
  | .scr l => .ok ((cutL l lo hi).map .int)
  | _ => .bad
/-- one sign in a text -/
def inStr (x y : List Nat) (f : Bool → Bool) : R D := match x with
  | [c] => .ok (.bl (f (decide (c ∈ y))))
  | _ => .bad
def P1.run : P1 → D → R D
  | .neg, .int i => .ok (.int (-i))
  | .len, .str s => .ok (.int s.length)
  | .len, .lst l => .ok (.int l.length)
  | .len, .tup l => .ok (.int l.length)
  | .len, .dic ks _ => .ok (.int ks.length)
  | .int, .int i => .ok (.int i)
  | .int, .bl b => .ok (.int (b2i b))
  | .abs, .int i => .ok (.int (if i < 0 then -i else i))
  | .tuple, .lst l => .ok (.tup l)
  | .tuple, .tup l => .ok (.tup l)
  | .all, .lst l => do let bs ← boolsD l; .ok (.bl (bs.all id))
  | .any, .lst l => do let bs ← boolsD l; .ok (.bl (bs.any id))
  | .sum, .lst l => do let z ← sumD l 0; .ok (.int z)
  | .isi ts, d => if d.isiOk then .ok (.bl (ts.any fun t => t.has d)) else .bad
  | .isN, d => .ok (.bl (match d with | .non => true | _ => false))
  | .notN, d => .ok (.bl (match d with | .non => false | _ => true))
  | .rev, .str s => .ok (.str s.reverse)
  | .rev, .lst l => .ok (.lst l.reverse)
  | .rev, .tup l => .ok (.tup l.reverse)
  | .str, .int i => .ok (.str (intText i))
  | .lenset, .lst l => do let z ← setD l; .ok (.int z.length)
  | .lenset, .tup l => do let z ← setD l; .ok (.int z.length)
  | .maxlen, .lst l => do let ys ← textsD l; longest ys
  | .maxlenT, .lst l => do let ys ← tupsD l; longestT ys
  | .min, .lst l => do let z ← intsD l; leastI z
  | .max, .lst l => do let z ← intsD l; mostI z
  | _, _ => .bad
def P2.run : P2 → D → D → R D
  | .add, .int i, .int j => .ok (.int (i + j))
  | .add, .str x, .str y => if x.length + y.length ≤ bigLine then .ok (.str (x ++ y)) else .bad
  | .add, .lst x, .lst y => if x.length + y.length ≤ bigLine then .ok (.lst (x ++ y)) else .bad
  | .add, .tup x, .tup y => if x.length + y.length ≤ bigLine then .ok (.tup (x ++ y)) else .bad
  | .sub, .int i, .int j => .ok (.int (i - j))
  | .mul, .int i, .int j => if mulOk i j then .ok (.int (i * j)) else .bad
  | .mul, .str x, .int j => if x.length * j.toNat ≤ bigLine ∧ jOk j = true then .ok (.str (List.replicate j.toNat x).flatten) else .bad
  | .mul, .lst x, .int j => if x.length * j.toNat ≤ bigLine ∧ jOk j = true then .ok (.lst (List.replicate j.toNat x).flatten) else .bad
  | .mul, .tup x, .int j => if (jOk j && decide (j ≤ 1)) = true then .ok (.tup (if (x.isEmpty || j == 1) = true then x else [])) else if (!x.isEmpty && (decide (2 ≤ j) && (decide (j ≤ 1000) && decide (x.length ≤ 1000)))) = true then .ok (.tup (List.replicate j.toNat x).flatten) else .bad
  | .fdiv, .int i, .int j => if divOk j then .ok (.int (i.fdiv j)) else .bad
  | .mod, .int i, .int j => if j ≠ 0 then .ok (.int (i.fmod j)) else .bad
  | .pow, .int i, .int j => if 0 ≤ j ∧ pOk i j = true then .ok (.int (i ^ j.toNat)) else .bad
  | .eq, x, y => if x.okc && y.okc then .ok (.bl (x.eqv y)) else .bad
  | .ne, x, y => if x.okc && y.okc then .ok (.bl (!x.eqv y)) else .bad
  | .lt, .int i, .int j => .ok (.bl (decide (i < j)))
  | .le, .int i, .int j => .ok (.bl (decide (i ≤ j)))
  | .gt, .int i, .int j => .ok (.bl (decide (j < i)))
  | .ge, .int i, .int j => .ok (.bl (decide (j ≤ i)))
  | .lt, .str x, .str y => .ok (.bl (strLt x y))
  | .le, .str x, .str y => .ok (.bl (!strLt y x))
  | .gt, .str x, .str y => .ok (.bl (strLt y x))
  | .ge, .str x, .str y => .ok (.bl (!strLt x y))
  | .isIn, .str x, .str y => inStr x y id
  | .isIn, x, .lst l => if x.okc && (D.lst l).okc then .ok (.bl (l.any fun z => D.eqv z x)) else .bad
  | .isIn, x, .tup l => if x.okc && (D.tup l).okc then .ok (.bl (l.any fun z => D.eqv z x)) else .bad
  | .isIn, x, .dic ks _ => .ok (.bl (ks.any fun z => D.eqv z x))
  | .notIn, .str x, .str y => inStr x y not
  | .notIn, x, .lst l => if x.okc && (D.lst l).okc then .ok (.bl (!l.any fun z => D.eqv z x)) else .bad
  | .notIn, x, .tup l => if x.okc && (D.tup l).okc then .ok (.bl (!l.any fun z => D.eqv z x)) else .bad
  | .notIn, x, .dic ks _ => .ok (.bl (!ks.any fun z => D.eqv z x))
  | .idx, .str s, .int i => do let c ← optR (atIx s i); .ok (.str [c])
  | .idx, .lst l, .int i => optR (atIx l i)
  | .idx, .tup l, .int i => optR (atIx l i)
  | .slcHi, x, .int i => slcD x none (some i)
  | .slcLo, x, .int i => slcD x (some i) none
  | .min2, .int i, .int j => .ok (.int (if j < i then j else i))
  | .max2, .int i, .int j => .ok (.int (if j > i then j else i))
  | .mxl2, .str x, .str y => .ok (.str (if x.length < y.length then y else x))
  | .join, .str x, .lst l => do let ys ← textsD l; joinD x ys
  | .join, .str x, .tup l => do let ys ← textsD l; joinD x ys
  | .index, .str s, .str x => if findS x s 0 < 0 then .bad else .ok (.int (findS x s 0))
  | .index, .lst l, x => indexD x l 0
  | .find, .str s, .str x => .ok (.int (findS x s 0))
  | _, _, _ => .bad
def P3.run : P3 → D → D → D → R D
  | .slc, x, .int i, .int j => slcD x (some i) (some j)
  | .min3, .int i, .int j, .int k => .ok (.int (let m := if j < i then j else i; if k < m then k else m))
  | .max3, .int i, .int j, .int k => .ok (.int (let m := if j > i then j else i; if k > m then k else m))
  | _, _, _, _ => .bad
def zipD : List D → List D → List D
  | x :: xs, y :: ys => .tup [x, y] :: zipD xs ys
  | _, _ => []
def enumD : Nat → List D → List D
  | _, [] => []
  | n, x :: xs => .tup [.int n, x] :: enumD (n + 1) xs
def rngD (lo : Int) : Nat → List D
  | 0 => []
  | n + 1 => .int lo :: rngD (lo + 1) n
def rngDn (hi : Int) : Nat → List D
  | 0 => []
  | n + 1 => .int hi :: rngDn (hi - 1) n
def rOk (i : Int) : Bool := jOk i
def Q1.run : Q1 → D → R (List D)
  | .list, d => D.items? d
  | .sorted, .lst l => sortD l
  | .sorted, .tup l => sortD l
  | .sorted, .dic ks _ => sortD ks
  | .sortedset, .lst l => setD l
  | .sortedset, .tup l => setD l
  | .sortedset, .str s => setD (s.map fun c => .str [c])
  | .listrng, .int i => if rOk i && decide (i.toNat ≤ bigLine) then .ok (rngD 0 i.toNat) else .bad
  | .rev, .lst l => .ok l.reverse
  | _, _ => .bad
def Q2.run : Q2 → D → D → R (List D)
  | .cat, .lst x, .lst y => if x.length + y.length ≤ bigLine then .ok (x ++ y) else .bad
  | .mul, .lst x, .int j => if x.length * j.toNat ≤ bigLine ∧ jOk j = true then .ok (List.replicate j.toNat x).flatten else .bad
  | .slcHi, x, .int i => slcN x none (some i)
  | .slcLo, x, .int i => slcN x (some i) none
  | .split, .str s, .str sep => if sep.isEmpty then .bad else .ok ((splitS sep 0 [] s).map .str)
  | .listzip, x, y => do let a ← D.items? x; let b ← D.items? y; .ok (zipD a b)
  | _, _, _ => .bad
def Q3.run : Q3 → D → D → D → R (List D)
  | .slc, x, .int i, .int j => slcN x (some i) (some j)
  | _, _, _, _ => .bad

/-! ### forms -/
inductive Lit where | non | bl (b : Bool) | int (i : Int) | str (s : List Nat)
  deriving DecidableEq
def Lit.val : Lit → D
  | .non => .non
  | .bl b => .bl b
  | .int i => .int i
  | .str s => .str s
/-- what a loop's items are stored to: a name, several names -/
inductive Tg where
  | nm (i : Nat)
  | two (a b : Tg)
  | three (a b c : Tg)
mutual
inductive Ex where
  | var (i : Nat)
  | lit (l : Lit)
  | glb (g : Nat)
  | p1 (f : P1) (a : Ex)
  | p2 (f : P2) (a b : Ex)
  | p3 (f : P3) (a b c : Ex)
  | chn (o o' : P2) (a b c : Ex)
  | chn3 (o o' o'' : P2) (a b c d : Ex)
  | and_ (a b : Ex)
  | or_ (a b : Ex)
  | not_ (a : Ex)
  | ite (c a b : Ex)
  | tup (es : Es)
  | fr (f : Fx)
  | call (f : Nat) (kw : Option (List Nat)) (es : Es)
  | cio (f : Nat) (i : Nat) (es : Es)
  | ciof (f : Nat) (x : Fx) (es : Es)
  | pop (i : Nat)
  | popAt (i : Nat) (e : Ex)
  /-- a name that may hold an exception: is (not) None; isinstance -/
  | xno (neg : Bool) (i : Nat)
  | xis (i : Nat) (t : List (Nat × Bool))
inductive Es where
  | nil
  | cons (e : Ex) (r : Es)
  | star (e : Ex) (r : Es)
inductive Fx where
  | disp (es : Es)
  | q1 (f : Q1) (a : Ex)
  | q2 (f : Q2) (a b : Ex)
  | q3 (f : Q3) (a b c : Ex)
  | orf (a b : Fx)
  | call (f : Nat) (es : Es)
  | comp (own : List Nat) (tg : Tg) (it : It) (cs : Option Ex) (e : Ex)
  | comp2 (own own2 : List Nat) (tg : Tg) (it : It) (tg2 : Tg) (it2 : It) (cs : Option Ex) (e : Ex)
inductive It where
  | src (a : Ex)
  | rng1 (a : Ex)
  | rng2 (a b : Ex)
  | rngdn (a b : Ex)
  | zip (a b : Ex)
  | enum (a : Ex)
end
mutual
inductive St where
  | asg (i : Nat) (e : Ex)
  | new (i : Nat) (f : Fx)
  | unp (tg : Tg) (e : Ex)
  | par (ps : Ps)
  | setI (i : Nat) (k e : Ex)
  | set2 (i : Nat) (k l d e : Ex)
  | aug (i : Nat) (o : P2) (e : Ex)
  | app (i : Nat) (e : Ex)
  | ext (i : Nat) (e : Ex)
  | expr (e : Ex)
  | ret (e : Ex)
  | retF (f : Fx)
  | retC (i : Nat)
  | retN
  | ite (c : Ex) (a b : Ss)
  | loop (tg : Tg) (it : It) (b : Ss)
  | whl (c : Ex) (b : Ss)
  | brk
  | cnt
  | pass
  /-- raise C(); an if in the body of a def that may raise -/
  | rse (c : Nat)
  | rif (c : Ex) (a b : Ss)
  /-- the body of a def that may raise -/
  | rzb (b : Ss)
  /-- try: i = f(es) (or [f(es), w..]) except C as g: j = g -/
  | tryX (i f : Nat) (es : Es) (w : Option Es) (j g c : Nat)
  /-- try: f(es) except C as g: j = g -/
  | tryE (f : Nat) (es : Es) (j g c : Nat)
inductive Ss where
  | nil
  | cons (s : St) (r : Ss)
/-- a, b, .. = e, f, .. : to values' names, to cells' names -/
inductive Ps where
  | nil
  | val (i : Nat) (e : Ex) (r : Ps)
  | cel (i : Nat) (f : Fx) (r : Ps)
end

/-! ### the evaluator -/
inductive Hd where
  | hv (d : D)
  | hc (i : Nat)
/-- a name's value; a cell is handed out for good (it may not be changed from then on) -/
def rdVar (i : Nat) : M D := fun e => match e[i]? with
  | some (.val d) => .ok (d, e)
  | some (.cel .own o) => .ok (o.val, e.set i (.val o.val))
  | _ => .bad
/-- a name that is looked at, just now -/
def rdHd (i : Nat) : M Hd := fun e => match e[i]? with
  | some (.val d) => .ok (.hv d, e)
  | some (.cel _ _) => .ok (.hc i, e)
  | _ => .bad
def Hd.get : Hd → M D
  | .hv d => fun e => .ok (d, e)
  | .hc i => fun e => match e[i]? with
    | some (.val d) => .ok (d, e)
    | some (.cel _ o) => .ok (o.val, e)
    | _ => .bad
/-- a store to a name; a cell that is handed in or walked may not be exchanged -/
def wr (i : Nat) (s : Sl) : M Unit := fun e => match e[i]? with
  | some .no => .ok ((), e.set i s)
  | some (.val _) => .ok ((), e.set i s)
  | some (.cel .own _) => .ok ((), e.set i s)
  | _ => .bad
/-- a cell's change -/
def chg (i : Nat) (f : Ob → R Ob) : M Unit := fun e => match e[i]? with
  | some (.cel .own o) => R.bind (f o) fun o' => .ok ((), e.set i (.cel .own o'))
  | some (.cel .io o) => R.bind (f o) fun o' => .ok ((), e.set i (.cel .io o'))
  | _ => .bad
def chgV {α : Type} (i : Nat) (f : Ob → R (α × Ob)) : M α := fun e => match e[i]? with
  | some (.cel .own o) => R.bind (f o) fun p => .ok (p.1, e.set i (.cel .own p.2))
  | some (.cel .io o) => R.bind (f o) fun p => .ok (p.1, e.set i (.cel .io p.2))
  | _ => .bad
def Tg.put : Tg → D → M Unit
  | .nm i, d => wr i (.val d)
  | .two a b, .tup [x, y] => do a.put x; b.put y
  | .three a b c, .tup [x, y, z] => do a.put x; b.put y; c.put z
  | .two a b, .lst [x, y] => do a.put x; b.put y
  | .three a b c, .lst [x, y, z] => do a.put x; b.put y; c.put z
  | _, _ => M.of .bad
/-- the own names of a block are free of cells -/
def clean (own : List Nat) : M Unit := fun e => if own.all fun i => match e[i]? with | some (.cel _ _) => false | some _ => true | none => false then .ok ((), e) else .bad
def wipeE (own : List Nat) (e : Ev) : Ev := match own with
  | [] => e
  | i :: r => (wipeE r e).set i .no
def restE (own : List Nat) (e₀ e : Ev) : Ev := match own with
  | [] => e
  | i :: r => match e₀[i]? with
    | some s => (restE r e₀ e).set i s
    | none => restE r e₀ e
/-- what is done with a block's own names around it -/
def inBlk {α : Type} (own : List Nat) (m : M α) : M α := fun e => R.bind (clean own e) fun _ => R.bind (m (wipeE own e)) fun p => .ok (p.1, restE own e p.2)
/-- a cell that is walked stands locked -/
def lockd {α : Type} (h : Hd) (m : M α) : M α := match h with
  | .hv _ => m
  | .hc i => fun e => match e[i]? with
    | some (.cel .own o) => R.bind (m (e.set i (.cel .lock o))) fun p => .ok (p.1, p.2.set i (.cel .own o))
    | some (.cel .io o) => R.bind (m (e.set i (.cel .lock o))) fun p => .ok (p.1, p.2.set i (.cel .io o))
    | some (.cel .lock _) => m e
    | _ => .bad
/-- what is made so far, from behind, and how many these are -/
abbrev Acc := Nat × List D
/-- a loop of a block: items, each stored, tested, reckoned -/
def compL (own : List Nat) (put : D → M Unit) (test : M Bool) (elt : M D) : List D → Acc → M Acc
  | [], acc => pure acc
  | x :: r, acc => do
    (fun e => .ok ((), wipeE own e) : M Unit)
    put x
    let b ← test
    if b then do
      let y ← elt
      if acc.1 < bigLine then compL own put test elt r (acc.1 + 1, y :: acc.2) else M.of .bad
    else compL own put test elt r acc
/-- .. whose inner part makes several -/
def compL2 (own : List Nat) (put : D → M Unit) (inner : Acc → M Acc) : List D → Acc → M Acc
  | [], acc => pure acc
  | x :: r, acc => do
    (fun e => .ok ((), wipeE own e) : M Unit)
    put x
    let acc' ← inner acc
    compL2 own put inner r acc'

inductive Fl where
  | nx | ret (d : D) | brk | cnt
def forL (put : D → M Unit) (body : M Fl) : List D → M Fl
  | [] => pure .nx
  | x :: r => do
    put x
    let f ← body
    match f with
    | .nx => forL put body r
    | .cnt => forL put body r
    | .brk => pure .nx
    | .ret d => pure (.ret d)
def whileL (test : M Bool) (body : M Fl) : Nat → M Fl
  | 0 => M.of .bad
  | n + 1 => do
    let b ← test
    if b then do
      let f ← body
      match f with
      | .nx => whileL test body n
      | .cnt => whileL test body n
      | .brk => pure .nx
      | .ret d => pure (.ret d)
    else pure .nx

/-- the callees: by number; a cell that is handed in; the values; the cell behind -/
abbrev CF := Nat → Option Ob → List D → R (D × Option Ob)
def permD (p : List Nat) (l : List D) : List D := p.map fun i => l.getD i .non
/-- the surroundings: callees, constants, how many turns a while has at most -/
structure Su where
  cf : CF
  gl : List D
  wf : Nat
def callM (S : Su) (f : Nat) (l : List D) : M D := M.of (R.bind (S.cf f none l) fun p => .ok p.1)
/-- f(cell, ..) -/
def callC (S : Su) (f : Nat) (i : Nat) (l : List D) : M D := chgV i fun o => R.bind (S.cf f (some o) l) fun p => match p.2 with
  | some o' => .ok (p.1, o')
  | none => .bad

def isC (i : Nat) : M Unit := fun e => match e[i]? with
  | some (.cel _ _) => .ok ((), e)
  | _ => .bad
/-- a name that may hold an exception -/
def rdX (neg : Bool) (i : Nat) : M D := fun e => match e[i]? with
  | some (.exn _) => .ok (.bl neg, e)
  | some (.val .non) => .ok (.bl (!neg), e)
  | _ => .bad
def rdXi (i : Nat) (tb : List (Nat × Bool)) : M D := fun e => match e[i]? with
  | some (.exn c) => match tb.lookup c with
    | some b => .ok (.bl b, e)
    | none => .bad
  | _ => .bad
/-- an operand: a name is looked at, anything else is reckoned -/
def look (a : Ex) (m : M D) : M Hd := match a with
  | .var i => rdHd i
  | _ => do
    let d ← m
    pure (.hv d)
mutual
def ev (S : Su) : Ex → M D
  | .var i => rdVar i
  | .lit l => pure l.val
  | .glb g => M.of (optR S.gl[g]?)
  | .p1 f a => do
    let h ← look a (ev S a)
    let x ← h.get
    M.of (f.run x)
  | .p2 f a b => do
    let h ← look a (ev S a)
    let k ← look b (ev S b)
    let x ← h.get
    let y ← k.get
    M.of (f.run x y)
  | .p3 f a b c => do
    let h ← look a (ev S a)
    let y ← ev S b
    let z ← ev S c
    let x ← h.get
    M.of (f.run x y z)
  | .chn o o' a b c => do
    let x ← ev S a
    let y ← ev S b
    let r ← M.of (o.run x y)
    match r with
    | .bl true => do
      let z ← ev S c
      M.of (o'.run y z)
    | .bl false => pure (.bl false)
    | _ => M.of .bad
  | .chn3 o o' o'' a b c d => do
    let x ← ev S a
    let y ← ev S b
    let r ← M.of (o.run x y)
    match r with
    | .bl true => do
      let z ← ev S c
      let r' ← M.of (o'.run y z)
      match r' with
      | .bl true => do
        let u ← ev S d
        M.of (o''.run z u)
      | .bl false => pure (.bl false)
      | _ => M.of .bad
    | .bl false => pure (.bl false)
    | _ => M.of .bad
  | .and_ a b => do
    let x ← ev S a
    if x.truth then ev S b else pure x
  | .or_ a b => do
    let x ← ev S a
    if x.truth then pure x else ev S b
  | .not_ a => do
    let h ← look a (ev S a)
    let x ← h.get
    pure (.bl (!x.truth))
  | .ite c a b => do
    let h ← look c (ev S c)
    let x ← h.get
    if x.truth then ev S a else ev S b
  | .tup es => do
    let l ← evs S es
    if l.length ≤ bigLine then pure (.tup l) else M.of .bad
  | .fr f => do
    let l ← evF S f
    pure (.lst l)
  | .call f kw es => do
    let l ← evs S es
    callM S f (match kw with | none => l | some p => permD p l)
  | .cio f i es => do
    isC i
    let l ← evs S es
    callC S f i l
  | .ciof f x es => do
    let c ← evF S x
    let l ← evs S es
    M.of (R.bind (S.cf f (some (.lst c)) l) fun p => .ok p.1)
  | .pop i => chgV i fun o => match o with
    | .lst l => match l.getLast? with
      | some x => .ok (x, .lst l.dropLast)
      | none => .bad
    | _ => .bad
  | .popAt i e => do
    isC i
    let x ← ev S e
    let k ← M.of (D.int? x)
    chgV i fun o => match o with
      | .lst l => match ixNat l.length k with
        | some j => match l[j]? with
          | some y => .ok (y, .lst (l.eraseIdx j))
          | none => .bad
        | none => .bad
      | _ => .bad
  | .xno neg i => rdX neg i
  | .xis i tb => rdXi i tb
def evs (S : Su) : Es → M (List D)
  | .nil => pure []
  | .cons e r => do
    let x ← ev S e
    let l ← evs S r
    pure (x :: l)
  | .star e r => do
    let h ← look e (ev S e)
    let x ← h.get
    let l₀ ← M.of (D.seq? x)
    let l ← evs S r
    pure (l₀ ++ l)
def evF (S : Su) : Fx → M (List D)
  | .disp es => do
    let l ← evs S es
    if l.length ≤ bigLine then pure l else M.of .bad
  | .q1 f a => do
    let h ← look a (ev S a)
    let x ← h.get
    M.of (f.run x)
  | .q2 f a b => do
    let h ← look a (ev S a)
    let k ← look b (ev S b)
    let x ← h.get
    let y ← k.get
    M.of (f.run x y)
  | .q3 f a b c => do
    let h ← look a (ev S a)
    let y ← ev S b
    let z ← ev S c
    let x ← h.get
    M.of (f.run x y z)
  | .orf a b => do
    let l ← evF S a
    if l.isEmpty then evF S b else pure l
  | .call f es => do
    let l ← evs S es
    let d ← callM S f l
    match d with
    | .lst m => pure m
    | _ => M.of .bad
  | .comp own tg it cs e => do
    let p ← evI S it
    let q ← lockd p.1 (inBlk own (compL own tg.put (match cs with | none => pure true | some c => do let h ← look c (ev S c); let x ← h.get; pure x.truth) (ev S e) p.2 (0, [])))
    pure q.2.reverse
  | .comp2 own own2 tg it tg2 it2 cs e => do
    let p ← evI S it
    let q ← lockd p.1 (inBlk own (compL2 own tg.put (fun acc => do
      let p2 ← evI S it2
      lockd p2.1 (do
        clean own2
        compL own2 tg2.put (match cs with | none => pure true | some c => do let h ← look c (ev S c); let x ← h.get; pure x.truth) (ev S e) p2.2 acc)) p.2 (0, [])))
    pure q.2.reverse
def evI (S : Su) : It → M (Hd × List D)
  | .src a => do
    let h ← look a (ev S a)
    let x ← h.get
    let l ← M.of (D.items? x)
    pure (h, l)
  | .rng1 a => do
    let x ← ev S a
    let i ← M.of (D.int? x)
    if rOk i then pure (.hv .non, rngD 0 i.toNat) else M.of .bad
  | .rng2 a b => do
    let x ← ev S a
    let y ← ev S b
    let i ← M.of (D.int? x)
    let j ← M.of (D.int? y)
    if rOk i && rOk j then pure (.hv .non, rngD i (j - i).toNat) else M.of .bad
  | .rngdn a b => do
    let x ← ev S a
    let y ← ev S b
    let i ← M.of (D.int? x)
    let j ← M.of (D.int? y)
    if rOk i && rOk j then pure (.hv .non, rngDn i (i - j).toNat) else M.of .bad
  | .zip a b => do
    let x ← ev S a
    let y ← ev S b
    let l ← M.of (D.items? x)
    let m ← M.of (D.items? y)
    pure (.hv .non, zipD l m)
  | .enum a => do
    let x ← ev S a
    let l ← M.of (D.items? x)
    pure (.hv .non, enumD 0 l)
end
def evH (S : Su) (a : Ex) : M Hd := look a (ev S a)
def evT (S : Su) (c : Ex) : M Bool := do
  let h ← evH S c
  let x ← h.get
  pure x.truth
/-- several stores at once: what is reckoned, then what is stored -/
inductive Pv where | val (i : Nat) (d : D) | cel (i : Nat) (l : List D)
def evP (S : Su) : Ps → M (List Pv)
  | .nil => pure []
  | .val i e r => do
    let d ← ev S e
    let l ← evP S r
    pure (.val i d :: l)
  | .cel i f r => do
    let d ← evF S f
    let l ← evP S r
    pure (.cel i d :: l)
def putP : List Pv → M Unit
  | [] => pure ()
  | .val i d :: r => do wr i (.val d); putP r
  | .cel i l :: r => do wr i (.cel .own (.lst l)); putP r
def setOb (k d : D) : Ob → R Ob
  | .lst l => match k with
    | .int i => match ixNat l.length i with
      | some j => .ok (.lst (l.set j d))
      | none => .bad
    | _ => .bad
  | .dic _ _ => .bad
def appOb (d : D) : Ob → R Ob
  | .lst l => if l.length < bigLine then .ok (.lst (l ++ [d])) else .bad
  | _ => .bad
def extOb (m : List D) : Ob → R Ob
  | .lst l => if l.length + m.length ≤ bigLine then .ok (.lst (l ++ m)) else .bad
  | _ => .bad
/-- an int name's value -/
def rdI (i : Nat) : M Int := fun e => match e[i]? with
  | some (.val (.int n)) => .ok (n, e)
  | _ => .bad
def augI : P2 → Int → Int → R Int
  | .add, i, j => .ok (i + j)
  | .sub, i, j => .ok (i - j)
  | _, _, _ => .bad
/-- what may not raise -/
def R.dry {α : Type} : R α → R α
  | .exc _ _ => .bad
  | r => r
def dry {α : Type} (m : M α) : M α := fun e => R.dry (m e)
def St.isR : St → Bool
  | .rse _ => true
  | .rif _ _ _ => true
  | _ => false
def dryU {α : Type} (b : Bool) (m : M α) : M α := if b then m else dry m
/-- a call that may raise: what is done then -/
def catchM (S : Su) (f : Nat) (l : List D) (yes : D → M Fl) (no : Nat → M Fl) : M Fl := fun e => match S.cf f none l with
  | .ok p => yes p.1 e
  | .exc c [] => no c e
  | _ => .bad
/-- what the body of a try stores -/
def okV (d : D) : Option (M (List D)) → M D
  | none => pure d
  | some r => do
    let m ← r
    if m.length + 1 ≤ bigLine then pure (.lst (d :: m)) else M.of .bad
def tryM (S : Su) (i f : Nat) (n : M (List D)) (w : Option (M (List D))) (j g c : Nat) : M Fl := do
  let l ← n
  catchM S f l (fun d => do
    let v ← okV d w
    wr i (.val v)
    pure .nx) (fun c' => if c' = c then do
      wr j (.exn c)
      wr g .no
      pure .nx else M.of .bad)
def tryEM (S : Su) (f : Nat) (n : M (List D)) (j g c : Nat) : M Fl := do
  let l ← n
  catchM S f l (fun _ => pure .nx) (fun c' => if c' = c then do
      wr j (.exn c)
      wr g .no
      pure .nx else M.of .bad)
mutual
def evS (S : Su) : St → M Fl
  | .asg i e => do
    let d ← ev S e
    wr i (.val d)
    pure .nx
  | .new i f => do
    let l ← evF S f
    wr i (.cel .own (.lst l))
    pure .nx
  | .unp tg e => do
    let d ← ev S e
    tg.put d
    pure .nx
  | .par ps => do
    let l ← evP S ps
    putP l
    pure .nx
  | .setI i k e => do
    let d ← ev S e
    isC i
    let x ← ev S k
    chg i (setOb x d)
    pure .nx
  | .set2 i k l d e => do
    let a ← ev S d
    let b ← ev S e
    (do
      isC i
      let x ← ev S k
      chg i (setOb x a) : M Unit)
    (do
      isC i
      let x ← ev S l
      chg i (setOb x b) : M Unit)
    pure .nx
  | .aug i o e => do
    let a ← rdI i
    let d ← ev S e
    let b ← M.of (D.int? d)
    let z ← M.of (augI o a b)
    wr i (.val (.int z))
    pure .nx
  | .app i e => do
    isC i
    let d ← ev S e
    chg i (appOb d)
    pure .nx
  | .ext i e => do
    isC i
    let h ← evH S e
    let x ← h.get
    match x with
    | .lst l => do
      chg i (extOb l)
      pure .nx
    | _ => M.of .bad
  | .expr e => do
    let _ ← ev S e
    pure .nx
  | .ret e => do
    let d ← ev S e
    pure (.ret d)
  | .retF f => do
    let l ← evF S f
    pure (.ret (.lst l))
  | .retC i => fun e => match e[i]? with
    | some (.cel .own (.lst l)) => .ok (.ret (.lst l), e)
    | _ => .bad
  | .retN => pure (.ret .non)
  | .ite c a b => do
    let t ← evT S c
    if t then evSs S a else evSs S b
  | .loop tg it b => do
    let p ← evI S it
    lockd p.1 (forL tg.put (evSs S b) p.2)
  | .whl c b => whileL (evT S c) (evSs S b) S.wf
  | .brk => pure .brk
  | .cnt => pure .cnt
  | .pass => pure .nx
  | .rse c => fun _ => .exc c []
  | .rif q a b => do
    let t ← dry (evT S q)
    if t then evXs S a else evXs S b
  | .rzb b => evXs S b
  | .tryX i f es w j g c => tryM S i f (evs S es) (w.map fun r => evs S r) j g c
  | .tryE f es j g c => tryEM S f (evs S es) j g c
def evSs (S : Su) : Ss → M Fl
  | .nil => pure .nx
  | .cons s r => do
    let f ← evS S s
    match f with
    | .nx => evSs S r
    | .ret d => pure (.ret d)
    | .brk => pure .brk
    | .cnt => pure .cnt
/-- statements that may raise -/
def evXs (S : Su) : Ss → M Fl
  | .nil => pure .nx
  | .cons s r => do
    let f ← dryU s.isR (evS S s)
    match f with
    | .nx => evXs S r
    | .ret d => pure (.ret d)
    | .brk => pure .brk
    | .cnt => pure .cnt
end

/-! ### programs -/
structure Fn where
  np : Nat
  ns : Nat
  io : Bool
  fr : Bool
  body : Ss
/-- a program: its defs by number, its constants, the whiles' bound -/
structure Pg where
  fn : Nat → Option Fn
  gl : List D
  wf : Nat
def startE (f : Fn) (io : Option Ob) (l : List D) : Ev := (match io with | some o => [Sl.cel .io o] | none => []) ++ l.map Sl.val ++ List.replicate (f.ns - f.np) .no
def retOf : R (Fl × Ev) → R (D × Ev)
  | .ok (.ret d, e) => .ok (d, e)
  | .ok (.nx, e) => .ok (.non, e)
  | .ok _ => .bad
  | .exc c l => .exc c l
  | .bad => .bad
def runFn (S : Su) (f : Fn) (io : Option Ob) (l : List D) : R (D × Option Ob) :=
  if f.io == io.isSome && (l.length + (if f.io then 1 else 0)) == f.np then R.bind (retOf (evSs S f.body (startE f io l))) fun (p : D × Ev) =>
    if f.io then match List.head? p.2 with
      | some (.cel .io o) => .ok (p.1, some o)
      | _ => .bad
    else .ok (p.1, none)
  else .bad
def Pg.call (P : Pg) : Nat → CF
  | 0 => fun _ _ _ => .bad
  | n + 1 => fun f io l => match P.fn f with
    | some F => runFn ⟨P.call n, P.gl, P.wf⟩ F io l
    | none => .bad
def isTrue : R (D × Option Ob) → Bool
  | .ok (.bl true, _) => true
  | _ => false
end En

/-! En2: how the engine's data stand in the machine's abstract heap. G: the part of the heap that stays as it is; H: all of it. -/
namespace En
open PySem PySem.Spec PyProof.Rows L2

abbrev Fg := PySem.W.Frag

mutual
def Rep (K : Fg) (G : Hp) : D → V → Prop
  | .non, v => v = .non
  | .bl b, v => v = .bl b
  | .int i, v => v = .int i
  | .str s, v => v = .str ⟨s.toArray⟩ ∧ s.length ≤ bigLine ∧ ∀ c ∈ s, c < 0x110000
  | .tup l, v => ∃ a xs, v = .ref a ∧ SqT K G a xs ∧ Reps K G l xs
  | .lst l, v => ∃ a xs, v = .ref a ∧ G a = some (.lst xs) ∧ Reps K G l xs
  | .dic _ _, _ => False
  | .scr l, v => ∃ a, v = .ref a ∧ SqL K G a (l.map V.int)
def Reps (K : Fg) (G : Hp) : List D → List V → Prop
  | [], xs => xs = []
  | d :: l, xs => ∃ x r, xs = x :: r ∧ Rep K G d x ∧ Reps K G l r
end

theorem bigLine_eq : bigLine = sizeLine := by rw [sizeLine_eq]; rfl
theorem seqT_mono {K : Fg} {H H' : Hp} {a : Addr} {xs : List V} (e : Same H H') (h : SqT K H a xs) : SqT K H' a xs := by
  rcases h with (h | ⟨o, h⟩) | h
  · exact .inl (.inl (e _ _ h))
  · exact .inl (.inr ⟨o, e _ _ h⟩)
  · exact .inr h

mutual
theorem Rep.mono {K : Fg} {G G' : Hp} (e : Same G G') : ∀ (d : D) {v : V}, Rep K G d v → Rep K G' d v
  | .non, _, h => h
  | .bl _, _, h => h
  | .int _, _, h => h
  | .str _, _, h => h
  | .tup l, v, h => by
    obtain ⟨a, xs, hv, hs, hr⟩ := h
    exact ⟨a, xs, hv, seqT_mono e hs, Reps.mono e l hr⟩
  | .lst l, v, h => by
    obtain ⟨a, xs, hv, hs, hr⟩ := h
    exact ⟨a, xs, hv, e _ _ hs, Reps.mono e l hr⟩
  | .dic _ _, _, h => False.elim h
  | .scr l, v, h => by
    obtain ⟨a, hv, hs⟩ := h
    exact ⟨a, hv, e.seq hs⟩
theorem Reps.mono {K : Fg} {G G' : Hp} (e : Same G G') : ∀ (l : List D) {xs : List V}, Reps K G l xs → Reps K G' l xs
  | [], _, h => h
  | d :: l, xs, h => by
    obtain ⟨x, r, hx, h1, h2⟩ := h
    exact ⟨x, r, hx, Rep.mono e d h1, Reps.mono e l h2⟩
end

section
variable {K : Fg} {G G' H H' : Hp}
theorem Reps.nil : Reps K G [] [] := rfl
theorem Reps.cons {d : D} {l : List D} {x : V} {xs : List V} (h : Rep K G d x) (t : Reps K G l xs) : Reps K G (d :: l) (x :: xs) := ⟨x, xs, rfl, h, t⟩
theorem Reps.length : ∀ {l : List D} {xs : List V}, Reps K G l xs → xs.length = l.length
  | [], _, h => by rw [show _ = [] from h]; rfl
  | d :: l, xs, h => by
    obtain ⟨x, r, rfl, _, h2⟩ := h
    rw [List.length_cons, List.length_cons, Reps.length h2]
theorem Reps.append : ∀ {l m : List D} {xs ys : List V}, Reps K G l xs → Reps K G m ys → Reps K G (l ++ m) (xs ++ ys)
  | [], _, _, _, h, h' => by rw [show _ = [] from h]; exact h'
  | d :: l, m, xs, ys, h, h' => by
    obtain ⟨x, r, rfl, h1, h2⟩ := h
    exact ⟨x, r ++ ys, rfl, h1, Reps.append h2 h'⟩
theorem Reps.take : ∀ (n : Nat) {l : List D} {xs : List V}, Reps K G l xs → Reps K G (l.take n) (xs.take n)
  | 0, _, _, _ => by rw [List.take_zero, List.take_zero]; exact rfl
  | n + 1, [], _, h => by rw [show _ = [] from h, List.take_nil, List.take_nil]; exact rfl
  | n + 1, d :: l, xs, h => by
    obtain ⟨x, r, rfl, h1, h2⟩ := h
    rw [List.take_succ_cons, List.take_succ_cons]
    exact ⟨x, _, rfl, h1, Reps.take n h2⟩
theorem Reps.drop : ∀ (n : Nat) {l : List D} {xs : List V}, Reps K G l xs → Reps K G (l.drop n) (xs.drop n)
  | 0, _, _, h => by rw [List.drop_zero, List.drop_zero]; exact h
  | n + 1, [], _, h => by rw [show _ = [] from h, List.drop_nil, List.drop_nil]; exact rfl
  | n + 1, d :: l, xs, h => by
    obtain ⟨x, r, rfl, h1, h2⟩ := h
    rw [List.drop_succ_cons, List.drop_succ_cons]
    exact Reps.drop n h2
theorem Reps.reverse : ∀ {l : List D} {xs : List V}, Reps K G l xs → Reps K G l.reverse xs.reverse
  | [], _, h => by rw [show _ = [] from h]; exact rfl
  | d :: l, xs, h => by
    obtain ⟨x, r, rfl, h1, h2⟩ := h
    rw [List.reverse_cons, List.reverse_cons]
    exact Reps.append (Reps.reverse h2) (Reps.cons h1 rfl)
theorem Reps.rep {l : List D} {xs : List V} (h : Reps K G l xs) : ∀ n : Nat, Reps K G (List.replicate n l).flatten (List.replicate n xs).flatten
  | 0 => rfl
  | n + 1 => by
    rw [List.replicate_succ, List.replicate_succ, List.flatten_cons, List.flatten_cons]
    exact Reps.append h (Reps.rep h n)
theorem Reps.get : ∀ {l : List D} {xs : List V} {i : Nat} {d : D}, Reps K G l xs → l[i]? = some d → ∃ x, xs[i]? = some x ∧ Rep K G d x
  | [], _, _, _, _, h => by simp at h
  | e :: l, xs, 0, d, h, hd => by
    obtain ⟨x, r, rfl, h1, h2⟩ := h
    simp at hd
    subst hd
    exact ⟨x, rfl, h1⟩
  | e :: l, xs, i + 1, d, h, hd => by
    obtain ⟨x, r, rfl, h1, h2⟩ := h
    exact Reps.get (i := i) h2 (by simpa using hd)
theorem Reps.get' : ∀ {l : List D} {xs : List V} {i : Nat} {x : V}, Reps K G l xs → xs[i]? = some x → ∃ d, l[i]? = some d ∧ Rep K G d x
  | [], _, _, _, h, hx => by rw [show _ = [] from h] at hx; simp at hx
  | e :: l, xs, 0, x, h, hd => by
    obtain ⟨y, r, rfl, h1, h2⟩ := h
    simp at hd
    subst hd
    exact ⟨e, rfl, h1⟩
  | e :: l, xs, i + 1, x, h, hd => by
    obtain ⟨y, r, rfl, h1, h2⟩ := h
    exact Reps.get' (i := i) h2 (by simpa using hd)
theorem Reps.set {d : D} {x : V} (q : Rep K G d x) : ∀ (i : Nat) {l : List D} {xs : List V}, Reps K G l xs → Reps K G (l.set i d) (xs.set i x)
  | _, [], _, h => by rw [show _ = [] from h]; exact rfl
  | 0, e :: l, xs, h => by
    obtain ⟨y, r, rfl, h1, h2⟩ := h
    exact ⟨x, r, rfl, q, h2⟩
  | i + 1, e :: l, xs, h => by
    obtain ⟨y, r, rfl, h1, h2⟩ := h
    exact ⟨y, r.set i x, rfl, h1, Reps.set q i h2⟩
theorem Reps.dropLast : ∀ {l : List D} {xs : List V}, Reps K G l xs → Reps K G l.dropLast xs.dropLast
  | [], _, h => by rw [show _ = [] from h]; exact rfl
  | [d], xs, h => by
    obtain ⟨y, r, rfl, h1, h2⟩ := h
    rw [show r = [] from h2]
    exact rfl
  | d :: e :: l, xs, h => by
    obtain ⟨y, r, rfl, h1, h2⟩ := h
    have h2' := h2
    obtain ⟨z, r', rfl, h3, h4⟩ := h2'
    exact ⟨y, (z :: r').dropLast, rfl, h1, Reps.dropLast h2⟩
theorem Reps.eraseIdx : ∀ (i : Nat) {l : List D} {xs : List V}, Reps K G l xs → Reps K G (l.eraseIdx i) (xs.eraseIdx i)
  | _, [], _, h => by rw [show _ = [] from h]; exact rfl
  | 0, e :: l, xs, h => by
    obtain ⟨y, r, rfl, h1, h2⟩ := h
    exact h2
  | i + 1, e :: l, xs, h => by
    obtain ⟨y, r, rfl, h1, h2⟩ := h
    exact ⟨y, r.eraseIdx i, rfl, h1, Reps.eraseIdx i h2⟩
theorem Reps.signs : ∀ {s : List Nat}, (∀ c ∈ s, c < 0x110000) → Reps K G (s.map fun c => D.str [c]) (s.map fun c => V.str ⟨#[c]⟩)
  | [], _ => rfl
  | c :: s, h => ⟨_, _, rfl, ⟨rfl, show 1 ≤ bigLine by decide, fun x hx => by
    rw [List.mem_singleton] at hx
    subst hx
    exact h _ List.mem_cons_self⟩, Reps.signs fun x hx => h x (List.mem_cons_of_mem _ hx)⟩
end

/-! ### growth -/
/-- the stable part and the heap grow; of what stood in the heap only what may be changed is changed, and nothing of it becomes stable -/
structure Grow (may : Addr → Prop) (G H G' H' : Hp) : Prop where
  g : Same G G'
  h : ∀ a o, H a = some o → ¬ may a → H' a = some o
  there : ∀ a, H a ≠ none → H' a ≠ none
  gh : Same G' H'
  new : ∀ a, G a = none → H a ≠ none → G' a = none
abbrev no1 : Addr → Prop := fun _ => False
abbrev Grow0 (G H G' H' : Hp) : Prop := Grow no1 G H G' H'
section
variable {may : Addr → Prop} {G H G1 H1 G2 H2 : Hp} {p : Addr} {o : HO}
theorem Grow.refl (e : Same G H) : Grow may G H G H := ⟨Same.refl _, fun _ _ q _ => q, fun _ q => q, e, fun _ q _ => q⟩
theorem Grow.same (a : Grow0 G H G1 H1) : Same H H1 := fun b o e => a.h b o e fun z => z
theorem Grow.trans (a : Grow may G H G1 H1) (b : Grow may G1 H1 G2 H2) : Grow may G H G2 H2 :=
  ⟨a.g.trans b.g, fun c o q m => b.h c o (a.h c o q m) m, fun c q => b.there c (a.there c q), b.gh, fun c q z => b.new c (a.new c q z) (a.there c z)⟩
theorem Grow.wide {may' : Addr → Prop} (a : Grow may G H G1 H1) (w : ∀ x, may x → may' x) : Grow may' G H G1 H1 :=
  ⟨a.g, fun c o q m => a.h c o q fun z => m (w c z), a.there, a.gh, a.new⟩
theorem Grow.up (a : Grow0 G H G1 H1) : Grow may G H G1 H1 := a.wide fun _ z => z.elim
theorem same_upd {H : Hp} {p : Addr} {o : HO} (h : H p = none) : Same H (upd H p o) := fun b x e => by
  rw [upd_ne (ne_of_none e h)]
  exact e
theorem none_of_same {G H : Hp} {p : Addr} (e : Same G H) (h : H p = none) : G p = none := by
  cases q : G p with
  | none => rfl
  | some u =>
    have := e p u q
    rw [h] at this
    cases this
theorem same_upd2 {G H : Hp} {p : Addr} {o : HO} (e : Same G H) (h : H p = none) : Same (upd G p o) (upd H p o) := fun b x q => by
  by_cases z : b = p
  · subst z
    rw [upd_same] at q ⊢
    exact q
  · rw [upd_ne z] at q ⊢
    exact e b x q
theorem there_of_same {H H' : Hp} (e : Same H H') (b : Addr) (q : H b ≠ none) : H' b ≠ none := fun z => q (none_of_same e z)
/-- a new stable object -/
theorem Grow.alloc (e : Same G H) (h : H p = none) : Grow may G H (upd G p o) (upd H p o) :=
  ⟨same_upd (none_of_same e h), fun b x q _ => same_upd h b x q, there_of_same (same_upd h), same_upd2 e h, fun b q z => by
    have hb : b ≠ p := fun w => z (by rw [w]; exact h)
    rw [upd_ne hb]
    exact q⟩
/-- a new object that is not stable -/
theorem Grow.allocH (e : Same G H) (h : H p = none) : Grow may G H G (upd H p o) :=
  ⟨Same.refl _, fun b x q _ => same_upd h b x q, there_of_same (same_upd h), e.trans (same_upd h), fun b q _ => q⟩
/-- a change of what is not stable -/
theorem Grow.write {u : HO} (e : Same G H) (hp : H p = some u) (hg : G p = none) (m : may p) : Grow may G H G (upd H p o) :=
  ⟨Same.refl _, fun b x q nm => by
    have hb : b ≠ p := fun w => nm (by rw [w]; exact m)
    rw [upd_ne hb]
    exact q, fun b q => by
    by_cases z : b = p
    · rw [z, upd_same]
      exact fun w => nomatch w
    · rw [upd_ne z]
      exact q, fun b x q => by
    have hb : b ≠ p := fun w => by rw [w, hg] at q; cases q
    rw [upd_ne hb]
    exact e b x q, fun b q _ => q⟩
/-- what was not stable yet becomes it -/
theorem Grow.freeze (h0 : H p = none) (g : Grow may G H G1 H1) (hp : H1 p = some o) (h1 : G1 p = none) : Grow may G H (upd G1 p o) H1 :=
  ⟨g.g.trans (same_upd h1), g.h, g.there, fun b x q => by
    by_cases z : b = p
    · rw [z, upd_same] at q
      cases q
      rw [z]
      exact hp
    · rw [upd_ne z] at q
      exact g.gh b x q, fun b q z => by
    have hb : b ≠ p := fun w => z (by rw [w]; exact h0)
    rw [upd_ne hb]
    exact g.new b q z⟩
end

/-! ### the state of a running def -/
/-- what holds at its entry: the stable part, the heap, what it may change; pin: the names whose cells stay where they are (locked ones as they are); keep: objects under way that no name has -/
structure Bs where
  G0 : Hp
  H0 : Hp
  may : Addr → Prop
  pin : List (Nat × Addr × Option Ob)
  keep : List (Addr × HO)
/-- the classes of exceptions by numbers -/
def clsNm : Nat → Str
  | 0 => Str.ofString "NoMirror"
  | 1 => Str.ofString "Endless"
  | 2 => Str.ofString "Unfit"
  | 3 => Str.ofString "BadText"
  | 4 => Str.ofString "NothingDone"
  | 5 => Str.ofString "NoLetter"
  | 6 => Str.ofString "NoNumber"
  | 7 => Str.ofString "NoWay"
  | 8 => Str.ofString "Known"
  | 9 => Str.ofString "BadLine"
  | _ => Str.ofString "?"
/-- where a class lies -/
def At (K : Fg) (c : Nat) (a : Addr) : Prop := PySem.W.nsIn K mainGlobals (clsNm c) = some (some (.ref a))
theorem At.uniq {K : Fg} {c : Nat} {a b : Addr} (h : At K c a) (h' : At K c b) : a = b := by
  have e := h.symm.trans h'
  cases e
  rfl
/-- a caught exception of the class cls, without fields of its own -/
def ExT (cls : Value) (a : Addr) : HO := .ext fun h => ∃ (oe : Obj) (vs : Array Value), h.get? a = some oe ∧ Zc cls none oe ∧ oe.data = .fields vs
def ObOk (K : Fg) (G : Hp) (H : Hp) (a : Addr) : Ob → Prop
  | .lst l => ∃ xs, H a = some (.lst xs) ∧ Reps K G l xs
  | .dic _ _ => False
def SlOk (K : Fg) (B : Bs) (G H : Hp) : Sl → Option V → Prop
  | .no, _ => True
  | .val d, v => ∃ x, v = some x ∧ Rep K G d x
  | .cel k o, v => ∃ a, v = some (.ref a) ∧ G a = none ∧ ObOk K G H a o ∧ (B.H0 a = none ∨ (B.may a ∧ k ≠ .own))
  | .exn c, v => ∃ a cc, v = some (.ref a) ∧ At K c cc ∧ G a = some (ExT (.ref cc) a)
structure StOk (K : Fg) (B : Bs) (e : Ev) (σ : L2.St) (G H : Hp) : Prop where
  len : e.length = σ.length
  sl : ∀ (i : Nat) (s : Sl) (v : Option V), e[i]? = some s → σ[i]? = some v → SlOk K B G H s v
  dj : ∀ (i j : Nat) (k : CK) (o : Ob) (k' : CK) (o' : Ob) (a : Addr), i ≠ j → e[i]? = some (.cel k o) → e[j]? = some (.cel k' o') → σ[i]? = some (some (.ref a)) → σ[j]? = some (some (.ref a)) → False
  gr : Grow B.may B.G0 B.H0 G H
  pn : ∀ p ∈ B.pin, σ[p.1]? = some (some (.ref p.2.1)) ∧ ∃ (k : CK) (o : Ob), e[p.1]? = some (.cel k o) ∧ k ≠ .own ∧ ∀ o', p.2.2 = some o' → k = .lock ∧ o = o'
  kp : ∀ p ∈ B.keep, H p.1 = some p.2 ∧ G p.1 = none ∧ ∀ (i : Nat) (k : CK) (o : Ob), e[i]? = some (.cel k o) → σ[i]? ≠ some (some (.ref p.1))

section
variable {K : Fg} {B : Bs} {e : Ev} {σ : L2.St} {G H G' H' : Hp}
theorem ObOk.there {a : Addr} : ∀ {o : Ob}, ObOk K G H a o → ∃ u, H a = some u
  | .lst _, ⟨xs, h, _⟩ => ⟨_, h⟩
  | .dic _ _, h => h.elim
theorem ObOk.grow {a : Addr} (g : Grow0 G H G' H') : ∀ {o : Ob}, ObOk K G H a o → ObOk K G' H' a o
  | .lst l, ⟨xs, h, r⟩ => ⟨xs, g.same _ _ h, r.mono g.g⟩
  | .dic _ _, h => h.elim
theorem SlOk.grow (g : Grow0 G H G' H') : ∀ {s : Sl} {v : Option V}, SlOk K B G H s v → SlOk K B G' H' s v
  | .no, _, _ => trivial
  | .val d, v, ⟨x, e, r⟩ => ⟨x, e, r.mono g.g⟩
  | .cel k o, v, ⟨a, e, n, ob, w⟩ => ⟨a, e, g.new a n (by obtain ⟨u, q⟩ := ob.there; rw [q]; exact fun z => nomatch z), ob.grow g, w⟩
  | .exn c, v, ⟨a, cc, e, t, n⟩ => ⟨a, cc, e, t, g.g _ _ n⟩
theorem StOk.gh (S : StOk K B e σ G H) : Same G H := S.gr.gh
theorem StOk.grow (S : StOk K B e σ G H) (g : Grow0 G H G' H') : StOk K B e σ G' H' :=
  ⟨S.len, fun i s v h1 h2 => (S.sl i s v h1 h2).grow g, S.dj, S.gr.trans g.up, S.pn, fun p hp => by
    obtain ⟨h1, h2, h3⟩ := S.kp p hp
    exact ⟨g.same _ _ h1, g.new _ h2 (by rw [h1]; exact fun z => nomatch z), h3⟩⟩
theorem StOk.at (S : StOk K B e σ G H) {i : Nat} {s : Sl} (h : e[i]? = some s) : ∃ v, σ[i]? = some v ∧ SlOk K B G H s v := by
  have hi : i < e.length := (List.getElem?_eq_some_iff.mp h).1
  have hj : i < σ.length := by rw [← S.len]; exact hi
  exact ⟨σ[i], List.getElem?_eq_getElem hj, S.sl i s _ h (List.getElem?_eq_getElem hj)⟩
theorem StOk.val (S : StOk K B e σ G H) {i : Nat} {d : D} (h : e[i]? = some (.val d)) : ∃ v, σ[i]? = some (some v) ∧ Rep K G d v := by
  obtain ⟨v, h1, x, rfl, h2⟩ := S.at h
  exact ⟨x, h1, h2⟩
theorem StOk.cel (S : StOk K B e σ G H) {i : Nat} {k : CK} {o : Ob} (h : e[i]? = some (.cel k o)) : ∃ a, σ[i]? = some (some (.ref a)) ∧ G a = none ∧ ObOk K G H a o ∧ (B.H0 a = none ∨ (B.may a ∧ k ≠ .own)) := by
  obtain ⟨v, h1, a, rfl, h2⟩ := S.at h
  exact ⟨a, h1, h2⟩
end
end En

/-! En3: the readings that the evaluator gives; names, constants, operands, primitives. -/
namespace En
open PySem PySem.Spec PyProof.Rows L2

/-! ### what a value is, looked at on top -/
def RepT (K : Fg) (G H : Hp) : D → V → Prop
  | .lst l, v => ∃ a xs, v = .ref a ∧ H a = some (.lst xs) ∧ Reps K G l xs
  | d, v => Rep K G d v
section
variable {K : Fg} {B : Bs} {e : Ev} {σ : L2.St} {G H G' H' : Hp}
theorem Rep.top (s : Same G H) : ∀ {d : D} {v : V}, Rep K G d v → RepT K G H d v
  | .lst l, v, h => by
    obtain ⟨a, xs, hv, hs, hr⟩ := h
    exact ⟨a, xs, hv, s _ _ hs, hr⟩
  | .non, _, h => h
  | .bl _, _, h => h
  | .int _, _, h => h
  | .str _, _, h => h
  | .tup _, _, h => h
  | .dic _ _, _, h => h
  | .scr _, _, h => h
theorem ObOk.top {a : Addr} : ∀ {o : Ob}, ObOk K G H a o → RepT K G H o.val (.ref a)
  | .lst l, ⟨xs, h, r⟩ => ⟨a, xs, rfl, h, r⟩
  | .dic _ _, h => h.elim
/-- an operand as it stands -/
def HdOk (K : Fg) (G : Hp) (σ : L2.St) : Hd → V → Prop
  | .hv d, v => Rep K G d v
  | .hc i, v => σ[i]? = some (some v)
theorem HdOk.mono (s : Same G G') : ∀ {h : Hd} {v : V}, HdOk K G σ h v → HdOk K G' σ h v
  | .hv d, _, q => Rep.mono s d q
  | .hc _, _, q => q
theorem HdOk.get (S : StOk K B e σ G H) : ∀ {h : Hd} {v : V} {d : D} {e' : Ev}, HdOk K G σ h v → h.get e = .ok (d, e') → e' = e ∧ RepT K G H d v
  | .hv d, v, d', e', q, he => by
    cases he
    exact ⟨rfl, Rep.top S.gh q⟩
  | .hc i, v, d, e', q, he => by
    simp only [Hd.get] at he
    split at he
    · rename_i d0 hd
      cases he
      obtain ⟨v', h1, h2⟩ := S.val hd
      rw [q] at h1
      cases h1
      exact ⟨rfl, Rep.top S.gh h2⟩
    · rename_i k o hd
      cases he
      obtain ⟨a, h1, _, h3, _⟩ := S.cel hd
      rw [q] at h1
      cases h1
      exact ⟨rfl, h3.top⟩
    · cases he
end

/-! ### the readings -/
/-- a new list at p, ours alone -/
structure FrOk (B : Bs) (e : Ev) (σ : L2.St) (G H : Hp) (p : Addr) (xs : List V) : Prop where
  h : H p = some (.lst xs)
  g : G p = none
  b : B.H0 p = none
  c : ∀ (i : Nat) (k : CK) (o : Ob), e[i]? = some (.cel k o) → σ[i]? ≠ some (some (.ref p))
  k : ∀ q ∈ B.keep, q.1 ≠ p
def tV (K : Fg) (m : M D) : TE := fun σ H Q => ∃ B G e, StOk K B e σ G H ∧ ∃ d e', m e = .ok (d, e') ∧ ∀ v G' H', StOk K B e' σ G' H' → Same G G' → Rep K G' d v → Q v H'
def tHd (K : Fg) (m : M Hd) : TE := fun σ H Q => ∃ B G e, StOk K B e σ G H ∧ ∃ h e', m e = .ok (h, e') ∧ ∀ v G' H', StOk K B e' σ G' H' → Same G G' → HdOk K G' σ h v → Q v H'
def tFr (K : Fg) (m : M (List D)) : TE := fun σ H Q => ∃ B G e, StOk K B e σ G H ∧ ∃ l e', m e = .ok (l, e') ∧ ∀ p xs G' H', StOk K B e' σ G' H' → Same G G' → FrOk B e' σ G' H' p xs → Reps K G' l xs → Q (.ref p) H'
def tAr (K : Fg) (m : M (List D)) : TA := fun σ H Q => ∃ B G e, StOk K B e σ G H ∧ ∃ l e', m e = .ok (l, e') ∧ ∀ xs G' H', StOk K B e' σ G' H' → Same G G' → Reps K G' l xs → Q xs H'
def tTs (K : Fg) (m : M Bool) : TT := fun σ H Q => ∃ B G e, StOk K B e σ G H ∧ ∃ b e', m e = .ok (b, e') ∧ ∀ G' H', StOk K B e' σ G' H' → Same G G' → Q b H'

theorem PEimp {X : Cx} {e : Expr} {t t' : TE} (h : PE X e t) (i : ∀ σ H Q, t' σ H Q → t σ H Q) : PE X e t' := ⟨fun pins s σ H Q I q => h.run pins s σ H Q I (i σ H Q q)⟩
theorem PTimp {X : Cx} {e : Expr} {t t' : TT} (h : PT X e t) (i : ∀ σ H Q, t' σ H Q → t σ H Q) : PT X e t' := ⟨fun pins s σ H Q I q => h.run pins s σ H Q I (i σ H Q q)⟩
theorem PWimp {X : Cx} {e : Expr} {t t' : TT} (h : PW X e t) (i : ∀ σ H Q, t' σ H Q → t σ H Q) : PW X e t' := ⟨fun w pins s σ H Q I q => h.run w pins s σ H Q I (i σ H Q q)⟩
theorem PAimp {X : Cx} {e : List Expr} {t t' : TA} (h : PA X e t) (i : ∀ σ H Q, t' σ H Q → t σ H Q) : PA X e t' := ⟨fun ps pins s σ H Q I q => h.run ps pins s σ H Q I (i σ H Q q)⟩
theorem PSimp {X : Cx} {e : Stmt} {t t' : TS} (h : PS X e t) (i : ∀ D σ H, t' D σ H → t D σ H) : PS X e t' := ⟨fun pins s σ H D I q => h.run pins s σ H D I (i D σ H q)⟩
theorem PSsimp {X : Cx} {e : List Stmt} {t t' : TS} (h : PSs X e t) (i : ∀ D σ H, t' D σ H → t D σ H) : PSs X e t' := ⟨fun pins s σ H D I q => h.run pins s σ H D I (i D σ H q)⟩

/-! ### binds taken apart -/
theorem bind_ok {α β : Type} {m : M α} {f : α → M β} {e : Ev} {r : β × Ev} (h : (m >>= f) e = .ok r) : ∃ a e1, m e = .ok (a, e1) ∧ f a e1 = .ok r := by
  have h' : R.bind (m e) (fun p => f p.1 p.2) = .ok r := h
  cases q : m e with
  | ok p => rw [q] at h'; exact ⟨p.1, p.2, rfl, h'⟩
  | exc c l => rw [q] at h'; cases h'
  | bad => rw [q] at h'; cases h'
theorem rbind_ok {α β : Type} {m : R α} {f : α → R β} {r : β} (h : R.bind m f = .ok r) : ∃ a, m = .ok a ∧ f a = .ok r := by
  cases m with
  | ok p => exact ⟨p, rfl, h⟩
  | exc c l => cases h
  | bad => cases h
theorem of_ok {α : Type} {x : R α} {e : Ev} {r : α × Ev} (h : (M.of x) e = .ok r) : x = .ok r.1 ∧ r.2 = e := by
  obtain ⟨a, h1, h2⟩ := rbind_ok h
  cases h2
  exact ⟨h1, rfl⟩
theorem pure_ok {α : Type} {a : α} {e : Ev} {r : α × Ev} (h : (pure a : M α) e = .ok r) : r = (a, e) := by
  cases h
  rfl
theorem hd_same {h : Hd} {e e' : Ev} {d : D} (q : h.get e = .ok (d, e')) : e' = e := by
  cases h with
  | hv d => cases q; rfl
  | hc i =>
    simp only [Hd.get] at q
    split at q <;> first | (cases q; rfl) | cases q

/-! ### names -/
section
variable {K : Fg} {B : Bs} {e : Ev} {σ : L2.St} {G H G' H' : Hp}
theorem StOk.lt (S : StOk K B e σ G H) {i : Nat} {s : Sl} (h : e[i]? = some s) : i < e.length := (List.getElem?_eq_some_iff.mp h).1
/-- a cell handed out for good -/
theorem StOk.freeze (S : StOk K B e σ G H) {i : Nat} {o : Ob} (h : e[i]? = some (.cel .own o)) : ∃ a G', σ[i]? = some (some (.ref a)) ∧ StOk K B (e.set i (.val o.val)) σ G' H ∧ Same G G' ∧ Rep K G' o.val (.ref a) := by
  obtain ⟨a, h1, h2, h3, h4⟩ := S.cel h
  have hb : B.H0 a = none := by
    rcases h4 with z | ⟨_, z⟩
    · exact z
    · exact absurd rfl z
  cases o with
  | dic ks vs => exact h3.elim
  | lst l =>
    obtain ⟨xs, h5, h6⟩ := h3
    have hs : Same G (upd G a (.lst xs)) := same_upd h2
    refine ⟨a, upd G a (.lst xs), h1, ⟨by rw [List.length_set]; exact S.len, fun j s v q1 q2 => ?_, fun j j' k o k' o' b hne q1 q2 q3 q4 => ?_, ?_, fun p hp => ?_, fun p hp => ?_⟩, hs, ⟨a, xs, rfl, upd_same, h6.mono hs⟩⟩
    · by_cases hj : i = j
      · subst hj
        rw [List.getElem?_set_self (S.lt h)] at q1
        cases q1
        rw [h1] at q2
        cases q2
        exact ⟨_, rfl, a, xs, rfl, upd_same, h6.mono hs⟩
      · rw [List.getElem?_set_ne hj] at q1
        have z := S.sl j s v q1 q2
        cases s with
        | no => trivial
        | val d => obtain ⟨x, z1, z2⟩ := z; exact ⟨x, z1, Rep.mono hs d z2⟩
        | exn c => obtain ⟨x, cc, z1, zt, z2⟩ := z; exact ⟨x, cc, z1, zt, hs _ _ z2⟩
        | cel k o =>
          obtain ⟨b, z1, z2, z3, z4⟩ := z
          refine ⟨b, z1, ?_, ?_, z4⟩
          · have : b ≠ a := fun w => by
              subst w
              rw [z1] at q2
              exact S.dj i j _ _ _ _ b hj h q1 h1 q2
            rw [upd_ne this]
            exact z2
          · cases o with
            | dic ks vs => exact z3.elim
            | lst m => obtain ⟨ys, y1, y2⟩ := z3; exact ⟨ys, y1, y2.mono hs⟩
    · have nj : ∀ {j : Nat} {k : CK} {o : Ob}, (e.set i (.val (Ob.lst l).val))[j]? = some (.cel k o) → e[j]? = some (.cel k o) := fun {j k o} q => by
        by_cases hj : i = j
        · subst hj
          rw [List.getElem?_set_self (S.lt h)] at q
          cases q
        · rw [List.getElem?_set_ne hj] at q
          exact q
      exact S.dj j j' k o k' o' b hne (nj q1) (nj q2) q3 q4
    · exact Grow.freeze hb S.gr h5 h2
    rotate_left
    · obtain ⟨z1, z2, z3⟩ := S.kp p hp
      refine ⟨z1, ?_, fun j k o q => ?_⟩
      · have : p.1 ≠ a := fun w => z3 i _ _ h (by rw [w]; exact h1)
        rw [upd_ne this]
        exact z2
      · by_cases hj : i = j
        · subst hj
          rw [List.getElem?_set_self (S.lt h)] at q
          cases q
        · rw [List.getElem?_set_ne hj] at q
          exact z3 j k o q
    · obtain ⟨p1, k, o, p2, p3⟩ := S.pn p hp
      refine ⟨p1, k, o, ?_, p3⟩
      by_cases hj : i = p.1
      · rw [← hj, h] at p2
        cases p2
        exact absurd rfl p3.1
      · rw [List.getElem?_set_ne hj]
        exact p2
theorem StOk.up (S : StOk K B e σ G H) (g : Grow0 G H G' H') : StOk K B e σ G' H' := S.grow g
end

section
variable {X : Cx} {i : Nat} {x : Str} {pos : Pos}
theorem pe_rdVar (h : PE X (.Name x pos) (tVar i)) : PE X (.Name x pos) (tV X.K (rdVar i)) := PEimp h fun σ H Q ⟨B, G, e, S, d, e', he, k⟩ => by
  unfold rdVar at he
  split at he
  · rename_i d0 hd
    cases he
    obtain ⟨v, h1, h2⟩ := S.val hd
    exact ⟨v, h1, k v G H S (Same.refl _) h2⟩
  · rename_i o hd
    cases he
    obtain ⟨a, G', h1, h2, h3, h4⟩ := S.freeze hd
    exact ⟨.ref a, h1, k (.ref a) G' H h2 h3 h4⟩
  · cases he
theorem pe_rdHd (h : PE X (.Name x pos) (tVar i)) : PE X (.Name x pos) (tHd X.K (rdHd i)) := PEimp h fun σ H Q ⟨B, G, e, S, d, e', he, k⟩ => by
  unfold rdHd at he
  split at he
  · rename_i d0 hd
    cases he
    obtain ⟨v, h1, h2⟩ := S.val hd
    exact ⟨v, h1, k v G H S (Same.refl _) h2⟩
  · rename_i o hd
    cases he
    obtain ⟨a, h1, _, _, _⟩ := S.cel hd
    exact ⟨.ref a, h1, k (.ref a) G H S (Same.refl _) h1⟩
  · cases he
/-- a reckoned operand -/
theorem pe_look {m : M D} {e : Expr} (h : PE X e (tV X.K m)) : PE X e (tHd X.K (do let d ← m; pure (.hv d))) := PEimp h fun σ H Q ⟨B, G, e, S, d, e', he, k⟩ => by
  obtain ⟨d0, e1, h1, h2⟩ := bind_ok he
  cases h2
  exact ⟨B, G, e, S, d0, _, h1, fun v G' H' S' s r => k v G' H' S' s r⟩
/-- a constant -/
theorem tC_imp {K : Fg} {d : D} {v : V} (h : ∀ G, Rep K G d v) : ∀ σ H Q, tV K (pure d) σ H Q → tC v σ H Q := fun σ H Q ⟨B, G, e, S, d', e', he, k⟩ => by
  cases he
  exact k v G H S (Same.refl _) (h G)
end

/-! ### primitives by their readings -/
section
variable {K : Fg}
def P1W (K : Fg) (r : V → Hp → VK → Prop) (f : D → R D) : Prop := ∀ x d v G H Q, Same G H → RepT K G H x v → f x = .ok d → (∀ w G2 H2, Grow0 G H G2 H2 → Rep K G2 d w → Q w H2) → r v H Q
def P2W (K : Fg) (r : V → V → Hp → VK → Prop) (f : D → D → R D) : Prop := ∀ x y d v u G H Q, Same G H → RepT K G H x v → RepT K G H y u → f x y = .ok d → (∀ w G2 H2, Grow0 G H G2 H2 → Rep K G2 d w → Q w H2) → r v u H Q
def P3W (K : Fg) (r : V → V → V → Hp → VK → Prop) (f : D → D → D → R D) : Prop := ∀ x y z d v u w G H Q, Same G H → RepT K G H x v → RepT K G H y u → RepT K G H z w → f x y z = .ok d → (∀ w G2 H2, Grow0 G H G2 H2 → Rep K G2 d w → Q w H2) → r v u w H Q
def NewL (K : Fg) (G H : Hp) (l : List D) (Q : VK) : Prop := ∀ p xs G2 H2, Grow0 G H G2 H2 → H p = none → H2 p = some (.lst xs) → G2 p = none → Reps K G2 l xs → Q (.ref p) H2
def Q1W (K : Fg) (r : V → Hp → VK → Prop) (f : D → R (List D)) : Prop := ∀ x l v G H Q, Same G H → RepT K G H x v → f x = .ok l → NewL K G H l Q → r v H Q
def Q2W (K : Fg) (r : V → V → Hp → VK → Prop) (f : D → D → R (List D)) : Prop := ∀ x y l v u G H Q, Same G H → RepT K G H x v → RepT K G H y u → f x y = .ok l → NewL K G H l Q → r v u H Q
def Q3W (K : Fg) (r : V → V → V → Hp → VK → Prop) (f : D → D → D → R (List D)) : Prop := ∀ x y z l v u w G H Q, Same G H → RepT K G H x v → RepT K G H y u → RepT K G H z w → f x y z = .ok l → NewL K G H l Q → r v u w H Q

theorem p1_imp {r : V → Hp → VK → Prop} {f : D → R D} {m : M Hd} (w : P1W K r f) : ∀ σ H Q, tV K (do let h ← m; let x ← h.get; M.of (f x)) σ H Q → tHd K m σ H fun v H1 => r v H1 Q := fun σ H Q ⟨B, G, e, S, d, e', he, k⟩ => by
  obtain ⟨h, e1, h1, h2⟩ := bind_ok he
  obtain ⟨x, e2, h3, h4⟩ := bind_ok h2
  obtain ⟨h5, h6⟩ := of_ok h4
  refine ⟨B, G, e, S, h, e1, h1, fun v G' H' S' s q => ?_⟩
  obtain ⟨rfl, t⟩ := HdOk.get S' q h3
  simp only at h5 h6
  subst h6
  exact w x d v G' H' Q S'.gh t h5 fun u G2 H2 g r2 => k u G2 H2 (S'.grow g) (s.trans g.g) r2
theorem p2_imp {r : V → V → Hp → VK → Prop} {f : D → D → R D} {m n : M Hd} (w : P2W K r f) : ∀ σ H Q, tV K (do let h ← m; let k ← n; let x ← h.get; let y ← k.get; M.of (f x y)) σ H Q → tHd K m σ H fun v H1 => tHd K n σ H1 fun u H2 => r v u H2 Q := fun σ H Q ⟨B, G, e, S, d, e', he, k⟩ => by
  obtain ⟨h, e1, h1, h2⟩ := bind_ok he
  obtain ⟨j, e2, h3, h4⟩ := bind_ok h2
  obtain ⟨x, e3, h5, h6⟩ := bind_ok h4
  obtain ⟨y, e4, h7, h8⟩ := bind_ok h6
  obtain ⟨h9, h10⟩ := of_ok h8
  refine ⟨B, G, e, S, h, e1, h1, fun v G1 H1 S1 s1 q1 => ⟨B, G1, e1, S1, j, e2, h3, fun u G2 H2 S2 s2 q2 => ?_⟩⟩
  have z := hd_same h5
  subst z
  obtain ⟨_, t1⟩ := HdOk.get S2 (q1.mono s2) h5
  obtain ⟨z, t2⟩ := HdOk.get S2 q2 h7
  subst z
  simp only at h9 h10
  subst h10
  exact w x y d v u G2 H2 Q S2.gh t1 t2 h9 fun u' G3 H3 g r3 => k u' G3 H3 (S2.grow g) ((s1.trans s2).trans g.g) r3
theorem p3_imp {r : V → Int → Int → Hp → VK → Prop} {f : D → D → D → R D} {m : M Hd} {n o : M D} (hf : ∀ x y z d, f x y z = .ok d → (∃ i, y = .int i) ∧ ∃ j, z = .int j)
    (w : ∀ x i j d v G H Q, Same G H → RepT K G H x v → f x (.int i) (.int j) = .ok d → (∀ w G2 H2, Grow0 G H G2 H2 → Rep K G2 d w → Q w H2) → r v i j H Q) : ∀ σ H Q, tV K (do let h ← m; let y ← n; let z ← o; let x ← h.get; M.of (f x y z)) σ H Q →
    tHd K m σ H fun v H1 => tV K n σ H1 fun u H2 => ∃ i, u = .int i ∧ tV K o σ H2 fun z H3 => ∃ j, z = .int j ∧ r v i j H3 Q := fun σ H Q ⟨B, G, e, S, d, e', he, k⟩ => by
  obtain ⟨h, e1, h1, he⟩ := bind_ok he
  obtain ⟨y, e2, h2, he⟩ := bind_ok he
  obtain ⟨z, e3, h3, he⟩ := bind_ok he
  obtain ⟨x, e4, h4, he⟩ := bind_ok he
  obtain ⟨h7, h8⟩ := of_ok he
  obtain ⟨⟨i, rfl⟩, j, rfl⟩ := hf _ _ _ _ h7
  refine ⟨B, G, e, S, h, e1, h1, fun v G1 H1 S1 s1 q1 => ⟨B, G1, e1, S1, .int i, e2, h2, fun u G2 H2 S2 s2 q2 => ⟨i, q2, B, G2, e2, S2, .int j, e3, h3, fun a G3 H3 S3 s3 q3 => ⟨j, q3, ?_⟩⟩⟩⟩
  have w1 := hd_same h4
  subst w1
  obtain ⟨_, t1⟩ := HdOk.get S3 (q1.mono (s2.trans s3)) h4
  simp only at h7 h8
  subst h8
  exact w x i j d v G3 H3 Q S3.gh t1 h7 fun u' G4 H4 g r3 => k u' G4 H4 (S3.grow g) (((s1.trans s2).trans s3).trans g.g) r3

/-- a new list in a state of ours -/
theorem FrOk.of {B : Bs} {e : Ev} {σ : L2.St} {G H G2 H2 : Hp} {p : Addr} {xs : List V} (S : StOk K B e σ G H) (g : Grow0 G H G2 H2) (h : H p = none) (hp : H2 p = some (.lst xs)) (gp : G2 p = none) : FrOk B e σ G2 H2 p xs := by
  refine ⟨hp, gp, ?_, fun i k o q z => ?_, fun q hq e => ?_⟩
  · cases q : B.H0 p with
    | none => rfl
    | some u => exact absurd h (S.gr.there p (by rw [q]; exact fun z => nomatch z))
  · obtain ⟨a, h1, _, h3, _⟩ := S.cel q
    rw [h1] at z
    cases z
    obtain ⟨u, h4⟩ := h3.there
    rw [h] at h4
    cases h4
  · obtain ⟨z1, _⟩ := S.kp q hq
    rw [e, h] at z1
    cases z1
theorem q1_imp {r : V → Hp → VK → Prop} {f : D → R (List D)} {m : M Hd} (w : Q1W K r f) : ∀ σ H Q, tFr K (do let h ← m; let x ← h.get; M.of (f x)) σ H Q → tHd K m σ H fun v H1 => r v H1 Q := fun σ H Q ⟨B, G, e, S, d, e', he, k⟩ => by
  obtain ⟨h, e1, h1, h2⟩ := bind_ok he
  obtain ⟨x, e2, h3, h4⟩ := bind_ok h2
  obtain ⟨h5, h6⟩ := of_ok h4
  refine ⟨B, G, e, S, h, e1, h1, fun v G' H' S' s q => ?_⟩
  obtain ⟨rfl, t⟩ := HdOk.get S' q h3
  simp only at h5 h6
  subst h6
  exact w x d v G' H' Q S'.gh t h5 fun p xs G2 H2 g hp h2 g2 r2 => k p xs G2 H2 (S'.grow g) (s.trans g.g) (FrOk.of S' g hp h2 g2) r2
theorem q2_imp {r : V → V → Hp → VK → Prop} {f : D → D → R (List D)} {m n : M Hd} (w : Q2W K r f) : ∀ σ H Q, tFr K (do let h ← m; let k ← n; let x ← h.get; let y ← k.get; M.of (f x y)) σ H Q → tHd K m σ H fun v H1 => tHd K n σ H1 fun u H2 => r v u H2 Q := fun σ H Q ⟨B, G, e, S, d, e', he, k⟩ => by
  obtain ⟨h, e1, h1, h2⟩ := bind_ok he
  obtain ⟨j, e2, h3, h4⟩ := bind_ok h2
  obtain ⟨x, e3, h5, h6⟩ := bind_ok h4
  obtain ⟨y, e4, h7, h8⟩ := bind_ok h6
  obtain ⟨h9, h10⟩ := of_ok h8
  refine ⟨B, G, e, S, h, e1, h1, fun v G1 H1 S1 s1 q1 => ⟨B, G1, e1, S1, j, e2, h3, fun u G2 H2 S2 s2 q2 => ?_⟩⟩
  have z := hd_same h5
  subst z
  obtain ⟨_, t1⟩ := HdOk.get S2 (q1.mono s2) h5
  obtain ⟨z, t2⟩ := HdOk.get S2 q2 h7
  subst z
  simp only at h9 h10
  subst h10
  exact w x y d v u G2 H2 Q S2.gh t1 t2 h9 fun p xs G3 H3 g hp h2 g2 r2 => k p xs G3 H3 (S2.grow g) ((s1.trans s2).trans g.g) (FrOk.of S2 g hp h2 g2) r2
theorem q3_imp {r : V → Int → Int → Hp → VK → Prop} {f : D → D → D → R (List D)} {m : M Hd} {n o : M D} (hf : ∀ x y z d, f x y z = .ok d → (∃ i, y = .int i) ∧ ∃ j, z = .int j)
    (w : ∀ x i j d v G H Q, Same G H → RepT K G H x v → f x (.int i) (.int j) = .ok d → NewL K G H d Q → r v i j H Q) : ∀ σ H Q, tFr K (do let h ← m; let y ← n; let z ← o; let x ← h.get; M.of (f x y z)) σ H Q →
    tHd K m σ H fun v H1 => tV K n σ H1 fun u H2 => ∃ i, u = .int i ∧ tV K o σ H2 fun z H3 => ∃ j, z = .int j ∧ r v i j H3 Q := fun σ H Q ⟨B, G, e, S, d, e', he, k⟩ => by
  obtain ⟨h, e1, h1, he⟩ := bind_ok he
  obtain ⟨y, e2, h2, he⟩ := bind_ok he
  obtain ⟨z, e3, h3, he⟩ := bind_ok he
  obtain ⟨x, e4, h4, he⟩ := bind_ok he
  obtain ⟨h7, h8⟩ := of_ok he
  obtain ⟨⟨i, rfl⟩, j, rfl⟩ := hf _ _ _ _ h7
  refine ⟨B, G, e, S, h, e1, h1, fun v G1 H1 S1 s1 q1 => ⟨B, G1, e1, S1, .int i, e2, h2, fun u G2 H2 S2 s2 q2 => ⟨i, q2, B, G2, e2, S2, .int j, e3, h3, fun a G3 H3 S3 s3 q3 => ⟨j, q3, ?_⟩⟩⟩⟩
  have w1 := hd_same h4
  subst w1
  obtain ⟨_, t1⟩ := HdOk.get S3 (q1.mono (s2.trans s3)) h4
  simp only at h7 h8
  subst h8
  exact w x i j d v G3 H3 Q S3.gh t1 h7 fun p xs G4 H4 g hp h2 g2 r2 => k p xs G4 H4 (S3.grow g) (((s1.trans s2).trans s3).trans g.g) (FrOk.of S3 g hp h2 g2) r2
/-- a new list becomes a value -/
theorem StOk.fix {B : Bs} {e : Ev} {σ : L2.St} {G H : Hp} {p : Addr} {xs : List V} {l : List D} (S : StOk K B e σ G H) (f : FrOk B e σ G H p xs) (r : Reps K G l xs) : ∃ G', StOk K B e σ G' H ∧ Same G G' ∧ Rep K G' (.lst l) (.ref p) := by
  have hs : Same G (upd G p (.lst xs)) := same_upd f.g
  refine ⟨upd G p (.lst xs), ⟨S.len, fun j s v q1 q2 => ?_, S.dj, Grow.freeze f.b S.gr f.h f.g, S.pn, fun q hq => ?_⟩, hs, ⟨p, xs, rfl, upd_same, r.mono hs⟩⟩
  rotate_left
  · obtain ⟨z1, z2, z3⟩ := S.kp q hq
    exact ⟨z1, by rw [upd_ne (f.k q hq)]; exact z2, z3⟩
  have z := S.sl j s v q1 q2
  cases s with
  | no => trivial
  | val d => obtain ⟨x, z1, z2⟩ := z; exact ⟨x, z1, Rep.mono hs d z2⟩
  | exn c => obtain ⟨x, cc, z1, zt, z2⟩ := z; exact ⟨x, cc, z1, zt, hs _ _ z2⟩
  | cel k o =>
    obtain ⟨b, z1, z2, z3, z4⟩ := z
    refine ⟨b, z1, ?_, ?_, z4⟩
    · have : b ≠ p := fun w => by
        subst w
        rw [z1] at q2
        exact f.c j k o q1 q2
      rw [upd_ne this]
      exact z2
    · cases o with
      | dic ks vs => exact z3.elim
      | lst m => obtain ⟨ys, y1, y2⟩ := z3; exact ⟨ys, y1, y2.mono hs⟩
theorem fr_imp {m : M (List D)} : ∀ σ H Q, tV K (do let l ← m; pure (.lst l)) σ H Q → tFr K m σ H Q := fun σ H Q ⟨B, G, e, S, d, e', he, k⟩ => by
  obtain ⟨l, e1, h1, h2⟩ := bind_ok he
  cases h2
  refine ⟨B, G, e, S, l, _, h1, fun p xs G' H' S' s f r => ?_⟩
  obtain ⟨G2, S2, s2, r2⟩ := S'.fix f r
  exact k (.ref p) G2 H' S2 (s.trans s2) r2
end
end En

/-! En3t: t[::-1] on the machine. -/
namespace En
open PySem PySem.Spec PyProof.Rows L2
theorem fm_congr {α β : Type} {f g : α → Option β} : ∀ l : List α, (∀ a ∈ l, f a = g a) → l.filterMap f = l.filterMap g
  | [], _ => rfl
  | a :: l, h => by
    rw [List.filterMap_cons, List.filterMap_cons, h a List.mem_cons_self, fm_congr l fun b hb => h b (List.mem_cons_of_mem _ hb)]
section
variable {prog : Program} {w : World} {A : Around} {E : Value → Shared → Prop} {s : Shared}
theorem places_rev (n : Nat) : Builtin.Slice.slicePlaces ((n : Int) - 1) (-1) (-1) = n := by
  unfold Builtin.Slice.slicePlaces
  have h1 : ¬ ((-1 : Int) > 0) := by omega
  simp only [h1, if_false]
  have e : -(-1 : Int) = 1 := by decide
  rw [e]
  simp only [Int.ediv_one]
  split <;> omega
theorem sliceApplied_rev {sl : Addr} {vl vu vs : Value} {n : Nat} {Q : Int × Int × Nat → Shared → Prop} (hs : s.heap.IsSliceOf sl vl vu vs) (pl : IsPart vl none) (pu : IsPart vu none) (ps : IsPart vs (some (-1)))
    (h : Q ((n : Int) - 1, -1, n) s) : wpAny (model prog w) A (Builtin.Slice.sliceApplied (.ref sl) (pure (n : Int))) Q E s := by
  obtain ⟨os, hos, hcs, hds⟩ := id hs
  unfold Builtin.Slice.sliceApplied Builtin.Slice.sliceFields
  refine wpAny_bind (wpAny_bind (wpAny_field hos hds (x := vl) rfl (wpAny_bind (wpAny_field hos hds (x := vu) rfl (wpAny_bind (wpAny_field hos hds (x := vs) rfl (wpAny_pure ?_)))))))
  refine wpAny_bind (HT.slicePart_ ps ?_)
  show wpAny _ _ (if ((-1 : Int) == 0) = true then _ else _) _ _ s
  rw [if_neg (by decide)]
  refine wpAny_bind (HT.slicePart_ pl (wpAny_bind (HT.slicePart_ pu (wpAny_bind (wpAny_pure ?_)))))
  show wpAny _ _ (pure ((n : Int) - 1, (-1 : Int), Builtin.Slice.slicePlaces ((n : Int) - 1) (-1) (-1))) _ _ s
  rw [places_rev]
  exact wpAny_pure h
theorem pick_rev (xs : Array Value) : ((List.range xs.size).filterMap fun (m : Nat) => xs[(((xs.size : Nat) : Int) - 1 + (m : Int) * -1).toNat]?).toArray = xs.toList.reverse.toArray := by
  congr 1
  have e : ((List.range xs.size).filterMap fun (m : Nat) => xs[(((xs.size : Nat) : Int) - 1 + (m : Int) * -1).toNat]?) = (List.range xs.size).filterMap fun m => xs.toList.reverse[m]? := by
    refine fm_congr _ fun m hm => ?_
    have hm' := List.mem_range.mp hm
    rw [List.getElem?_reverse (by rw [Array.length_toList]; exact hm'), Array.getElem?_toList, Array.length_toList]
    congr 1
    omega
  rw [e]
  have key : ∀ l : List Value, (List.range l.length).filterMap (fun m => l[m]?) = l := by
    intro l
    induction l with
    | nil => rfl
    | cons a l ih =>
      rw [List.length_cons, List.range_succ_eq_map, List.filterMap_cons, List.filterMap_map]
      simp only [List.getElem?_cons_zero]
      congr 1
  have := key xs.toList.reverse
  rw [List.length_reverse, Array.length_toList] at this
  exact this
theorem getItem_tuple_rev {t sl : Addr} {items : Array Value} {vl vu vs : Value} {Q : Value → Shared → Prop} (ht : IsTup s.heap t items) (hs : s.heap.IsSliceOf sl vl vu vs) (pl : IsPart vl none) (pu : IsPart vu none) (ps : IsPart vs (some (-1)))
    (h : Q (.ref s.heap.objs.size) { s with heap := s.heap.push { cls := .type "tuple", data := .seq items.toList.reverse.toArray } }) (hsz : items.size ≤ sizeLine) : wpAny (model prog w) A (getItem (.ref t) (.ref sl)) Q E s := by
  have htake : sizeOk (.seq items.toList.reverse.toArray) := by
    show items.toList.reverse.toArray.size ≤ sizeLine
    rw [List.size_toArray, List.length_reverse, Array.length_toList]
    exact hsz
  obtain ⟨os, hos, hcs, hds⟩ := id hs
  have hTs : s.TypeIs (.ref sl) "slice" := ⟨os, hos, hcs⟩
  unfold getItem
  try with_reducible refine wpAny_holding ?_
  first | refine wpAny_bind (wpAny_pure ?_) | skip
  refine wpAny_bind (wpAny_sequenceKey ht.typeIs (by decide) ?_)
  refine wpAny_bind (wpAny_callSpecial?_slot (name := Str.ofString "__getitem__") ht.typeIs PyProof.Rows.slot_tuple_getitem
    (wpAny_call_entry PyProof.Rows.slot_tuple_getitem ht.typeIs entry_tuple_getitem ?_ (args_tuple_getitem _ _)))
  show wpAny _ _ (Builtin.Tuple.tupleItemsOf (.ref t) >>= _) _ _ s
  refine wpAny_bind (tupleItemsOf_ ht ?_)
  refine wpAny_bind (wpAny_typeOf hTs ?_)
  rw [if_pos (by decide)]
  refine wpAny_bind (sliceApplied_rev hs pl pu ps ?_)
  have hno : ¬ ((((items.size : Nat) : Int) - 1 == 0 && (-1 : Int) == 1 && items.size == items.size) = true) := by simp
  show wpAny _ _ (if (((items.size : Nat) : Int) - 1 == 0 && (-1 : Int) == 1 && items.size == items.size) = true then _ else _) _ _ s
  rw [if_neg hno, pick_rev]
  first
    | exact wpAny_bind (m := Builtin.Tuple.tupleExact _) (wpAny_newObj_type (wpAny_pure ⟨_, rfl, wpAny_pure h⟩) htake)
    | exact wpAny_bind (m := Builtin.Tuple.tupleExact _) (wpAny_newObj_type (wpAny_bind (wpAny_pure (wpAny_pure ⟨_, rfl, wpAny_pure h⟩))) htake)
    | exact wpAny_bind (wpAny_bind (m := Builtin.Tuple.tupleExact _) (wpAny_newObj_type (wpAny_pure (wpAny_pure ⟨_, rfl, wpAny_pure h⟩)) htake))
    | exact wpAny_bind (wpAny_bind (m := Builtin.Tuple.tupleExact _) (wpAny_newObj_type (wpAny_pure ⟨_, rfl, wpAny_pure h⟩) htake))
end
/-! ### t * 1, t * 0 -/
open PySem.AutoSeq1 (wpAny_loadPart')
theorem tuple_mul1 (l : Addr) (items : Array Value) (n : Nat) (dd : Option Addr) (sl : Array (Option Value)) (x : Int) (u : Tok) (c0 : (decide (x < -(2 ^ 63)) || decide (x ≥ 2 ^ 63)) = false) (c1 : (items.isEmpty || x == 1) = true) :
    Meets (Builtin.«tuple.__mul__» ⟨[.ref l, .int x u], []⟩) (fun _ R s => s.heap.get? l = some { cls := .type "tuple", dict := dd, data := .seq items n, slots := sl } ∧
      R (.ok (.ret (Value.ref l))) s) :=
  .of_wp fun prog w A R s h => by
    obtain ⟨hp, g, d, tk, os⟩ := s
    obtain ⟨hl, h⟩ := h
    have f1 := AutoSeq1.idx_int
    wp_walk using wpAny_loadPart' hl
    repeat (first
      | (refine wpAny_ite_false (decide_eq_false (by rw [c0]; exact Bool.false_ne_true)) ?_; wp_walk using wpAny_loadPart' hl)
      | (refine wpAny_ite_true (decide_eq_true (by rw [c1])) ?_; wp_walk using wpAny_loadPart' hl))
    all_goals exact ⟨_, rfl, h⟩
theorem tuple_mul0 (l : Addr) (items : Array Value) (n : Nat) (dd : Option Addr) (sl : Array (Option Value)) (x : Int) (u : Tok) (c0 : (decide (x < -(2 ^ 63)) || decide (x ≥ 2 ^ 63)) = false) (c1 : (items.isEmpty || x == 1) = false) (c2 : (decide (x ≤ 0) || items.isEmpty) = true) :
    Meets (Builtin.«tuple.__mul__» ⟨[.ref l, .int x u], []⟩) (fun _ R s => s.heap.get? l = some { cls := .type "tuple", dict := dd, data := .seq items n, slots := sl } ∧
      R (.ok (.ret (Value.ref s.heap.objs.size))) { s with heap := s.heap.push { cls := Value.type "tuple", data := Data.seq #[] }, toks := s.toks }) :=
  .of_wp fun prog w A R s h => by
    obtain ⟨hp, g, d, tk, os⟩ := s
    obtain ⟨hl, h⟩ := h
    have f1 := AutoSeq1.idx_int
    have hsz : (#[] : Array Value).size ≤ sizeLine := Nat.zero_le _
    wp_walk using wpAny_loadPart' hl
    repeat (first
      | (refine wpAny_ite_false (decide_eq_false (by rw [c0]; exact Bool.false_ne_true)) ?_; wp_walk using wpAny_loadPart' hl)
      | (refine wpAny_ite_false (decide_eq_false (by rw [c1]; exact Bool.false_ne_true)) ?_; wp_walk using wpAny_loadPart' hl)
      | (refine wpAny_ite_true (decide_eq_true (by rw [c2])) ?_; wp_walk using wpAny_loadPart' hl)
      | (refine wpAny_ite_false (decide_eq_false (Nat.not_lt.mpr hsz)) ?_; wp_walk using wpAny_loadPart' hl))
    all_goals exact ⟨_, rfl, h⟩
/-- a tuple, once or not at all -/
theorem op_repT01 {X : Cx} : OpR X (binaryOp .Mult) (fun x y H Q => ∃ l k xs, x = .ref l ∧ y = .int k ∧ SqT X.K H l xs ∧ -(2 ^ 62) ≤ k ∧ k ≤ 1 ∧ ((xs = [] ∨ k = 1) ∧ Q (.ref l) H ∨ (xs ≠ [] ∧ k ≤ 0 ∧ ∀ p, H p = none → Q (.ref p) (upd H p (.tup []))))) := by
  intro pins s σ H x y v u Q I rx ry h
  obtain ⟨l, k, xs, rfl, rfl, hT, h1, h2, q⟩ := h
  cases rx
  obtain ⟨t, rfl⟩ := ry
  obtain ⟨its, r, ⟨⟨cls, dd, data, sl⟩, ho, hc, n, hd⟩, hs⟩ := I.tuple hT
  simp only at hc hd
  subst hc hd
  have hle : its.length = xs.length := r.length.symm
  have e62 : (2 : Int) ^ 62 = 4611686018427387904 := by decide
  have e63 : (2 : Int) ^ 63 = 9223372036854775808 := by decide
  have c0 : (decide (k < -(2 ^ 63)) || decide (k ≥ 2 ^ 63)) = false := by
    rw [decide_eq_false (by omega), decide_eq_false (by omega)] <;> rfl
  have hem : its.toArray.isEmpty = xs.isEmpty := by
    cases its with
    | nil => rw [List.eq_nil_of_length_eq_zero hle.symm]; rfl
    | cons a b =>
      cases xs with
      | nil => cases hle
      | cons _ _ => rfl
  rcases q with ⟨hq, q⟩ | ⟨hne, hk, q⟩
  · have c1 : (its.toArray.isEmpty || k == 1) = true := by
      rw [hem]
      rcases hq with rfl | rfl
      · rfl
      · simp
    refine wpAny_binaryOp_repeat_ref (T := "tuple") (U := "int") (by decide) ⟨_, ho, rfl⟩ (fun s' => typeIs_int s' k t) noFill_tuple_mul F.fills_int_mul F.slot_int_rmul repeat_tuple F.slot_int_index.lookup
      (call_meets F.slot_int_rmul (typeIs_int s k t) F.entry_int_rmul (F.args_int_rmul_2 _ _) (int_rmul_tuple k t l its.toArray n dd sl)
        ⟨ho, rfl, ⟨_, ho, rfl⟩, call_meets F.slot_tuple_mul ⟨_, ho, rfl⟩ F.entry_tuple_mul (F.args_tuple_mul_2 _ _) (tuple_mul1 l its.toArray n dd sl k t c0 c1) ⟨ho, ?_⟩⟩)
    exact ⟨.ref l, H, I, rfl, q⟩
  · have hxe : xs.isEmpty = false := by cases xs with | nil => exact absurd rfl hne | cons _ _ => rfl
    have c1 : (its.toArray.isEmpty || k == 1) = false := by
      rw [hem, hxe, Bool.false_or]
      exact beq_eq_false_iff_ne.mpr (by omega)
    have c2 : (decide (k ≤ 0) || its.toArray.isEmpty) = true := by
      rw [decide_eq_true hk]
      rfl
    refine wpAny_binaryOp_repeat_ref (T := "tuple") (U := "int") (by decide) ⟨_, ho, rfl⟩ (fun s' => typeIs_int s' k t) noFill_tuple_mul F.fills_int_mul F.slot_int_rmul repeat_tuple F.slot_int_index.lookup
      (call_meets F.slot_int_rmul (typeIs_int s k t) F.entry_int_rmul (F.args_int_rmul_2 _ _) (int_rmul_tuple k t l its.toArray n dd sl)
        ⟨ho, rfl, ⟨_, ho, rfl⟩, call_meets F.slot_tuple_mul ⟨_, ho, rfl⟩ F.entry_tuple_mul (F.args_tuple_mul_2 _ _) (tuple_mul0 l its.toArray n dd sl k t c0 c1 c2) ⟨ho, ?_⟩⟩)
    refine ⟨.ref s.heap.objs.size, _, I.laid (t' := s.toks) (o := .tup []) (fun b ob q => Heap.get?_push_of_some _ q) (Nat.le_refl _) ?_, rfl, q _ (I.hok.fresh (Nat.le_refl _))⟩
    exact ⟨Nat.zero_le _, _, .nil, IsTup.new _ _⟩
end En

/-! En4: the primitives: what each operation of the machine does on our data. -/
namespace En
open PySem PySem.Spec PyProof.Rows L2

def rD1 (K : Fg) (g : D → R D) : V → Hp → VK → Prop := fun x H Q => ∃ G a d, Same G H ∧ RepT K G H a x ∧ g a = .ok d ∧ ∀ w G2 H2, Grow0 G H G2 H2 → Rep K G2 d w → Q w H2
def rD2 (K : Fg) (g : D → D → R D) : V → V → Hp → VK → Prop := fun x y H Q => ∃ G a b d, Same G H ∧ RepT K G H a x ∧ RepT K G H b y ∧ g a b = .ok d ∧ ∀ w G2 H2, Grow0 G H G2 H2 → Rep K G2 d w → Q w H2
def rD3 (K : Fg) (g : D → D → D → R D) : V → V → V → Hp → VK → Prop := fun x y z H Q => ∃ G a b c d, Same G H ∧ RepT K G H a x ∧ RepT K G H b y ∧ RepT K G H c z ∧ g a b c = .ok d ∧ ∀ w G2 H2, Grow0 G H G2 H2 → Rep K G2 d w → Q w H2
def rN1 (K : Fg) (g : D → R (List D)) : V → Hp → VK → Prop := fun x H Q => ∃ G a l, Same G H ∧ RepT K G H a x ∧ g a = .ok l ∧ NewL K G H l Q
def rN2 (K : Fg) (g : D → D → R (List D)) : V → V → Hp → VK → Prop := fun x y H Q => ∃ G a b l, Same G H ∧ RepT K G H a x ∧ RepT K G H b y ∧ g a b = .ok l ∧ NewL K G H l Q
def rN3 (K : Fg) (g : D → D → D → R (List D)) : V → V → V → Hp → VK → Prop := fun x y z H Q => ∃ G a b c l, Same G H ∧ RepT K G H a x ∧ RepT K G H b y ∧ RepT K G H c z ∧ g a b c = .ok l ∧ NewL K G H l Q
theorem w1 {K : Fg} {g : D → R D} : P1W K (rD1 K g) g := fun x d v G H Q s t e k => ⟨G, x, d, s, t, e, k⟩
theorem w2 {K : Fg} {g : D → D → R D} : P2W K (rD2 K g) g := fun x y d v u G H Q s t t' e k => ⟨G, x, y, d, s, t, t', e, k⟩
theorem w3 {K : Fg} {g : D → D → D → R D} : P3W K (rD3 K g) g := fun x y z d v u w G H Q s t t' t2 e k => ⟨G, x, y, z, d, s, t, t', t2, e, k⟩
theorem wn1 {K : Fg} {g : D → R (List D)} : Q1W K (rN1 K g) g := fun x d v G H Q s t e k => ⟨G, x, d, s, t, e, k⟩
theorem wn2 {K : Fg} {g : D → D → R (List D)} : Q2W K (rN2 K g) g := fun x y d v u G H Q s t t' e k => ⟨G, x, y, d, s, t, t', e, k⟩
theorem wn3 {K : Fg} {g : D → D → D → R (List D)} : Q3W K (rN3 K g) g := fun x y z d v u w G H Q s t t' t2 e k => ⟨G, x, y, z, d, s, t, t', t2, e, k⟩

section
variable {K : Fg} {G H : Hp} {l : List D} {xs : List V} {Q : VK} {p : Addr}
/-- a new tuple -/
theorem newT (s : Same G H) (r : Reps K G l xs) (q : ∀ w G2 H2, Grow0 G H G2 H2 → Rep K G2 (.tup l) w → Q w H2) (h : H p = none) : Q (.ref p) (upd H p (.tup xs)) := by
  have g : Grow0 G H (upd G p (.tup xs)) (upd H p (.tup xs)) := Grow.alloc s h
  exact q _ _ _ g ⟨p, xs, rfl, SqT.of upd_same, r.mono g.g⟩
theorem newV (s : Same G H) (r : Reps K G l xs) (q : ∀ w G2 H2, Grow0 G H G2 H2 → Rep K G2 (.lst l) w → Q w H2) (h : H p = none) : Q (.ref p) (upd H p (.lst xs)) := by
  have g : Grow0 G H (upd G p (.lst xs)) (upd H p (.lst xs)) := Grow.alloc s h
  exact q _ _ _ g ⟨p, xs, rfl, upd_same, r.mono g.g⟩
theorem newF (s : Same G H) (r : Reps K G l xs) (q : NewL K G H l Q) (h : H p = none) : Q (.ref p) (upd H p (.lst xs)) :=
  q p xs G (upd H p (.lst xs)) (Grow.allocH s h) h upd_same (none_of_same s h) r
/-- nothing new -/
theorem same1 {d : D} {v : V} (s : Same G H) (r : Rep K G d v) (q : ∀ w G2 H2, Grow0 G H G2 H2 → Rep K G2 d w → Q w H2) : Q v H := q v G H (Grow.refl s) r
end
theorem strlen (s : List Nat) : Str.length ⟨s.toArray⟩ = s.length := by show s.toArray.size = _; rw [List.size_toArray]
theorem strapp (s t : List Nat) : (⟨s.toArray⟩ : Str) ++ ⟨t.toArray⟩ = ⟨(s ++ t).toArray⟩ := by
  show Str.mk (s.toArray ++ t.toArray) = _
  congr 1
  simp
theorem rep_str {K : Fg} {G : Hp} {s : List Nat} (h : s.length ≤ bigLine) (h2 : ∀ c ∈ s, c < 0x110000) : Rep K G (.str s) (.str ⟨s.toArray⟩) := ⟨rfl, h, h2⟩

section
variable {X : Cx}
theorem opD_add : OpR X (binaryOp .Add) (rD2 X.K (P2.run .add)) := by
  intro pins s σ H x y v u Q I rx ry ⟨G, a, b, d, hs, ha, hb, hg, q⟩
  cases a <;> cases b <;> (try (have z : R.bad = R.ok d := hg; cases z))
  · rename_i i j
    cases (show R.ok (D.int (i + j)) = R.ok d from hg)
    exact op_add pins s σ H x y v u Q I rx ry ⟨i, j, ha, hb, same1 hs (show Rep X.K G (.int (i + j)) _ from rfl) q⟩
  · rename_i i j
    obtain ⟨rfl, h1, h2⟩ := ha
    obtain ⟨rfl, h3, h4⟩ := hb
    have hg' : (if i.length + j.length ≤ bigLine then R.ok (.str (i ++ j)) else R.bad) = R.ok d := hg
    split at hg'
    · rename_i hl
      cases hg'
      refine op_add_str pins s σ H _ _ v u Q I rx ry ⟨_, _, rfl, rfl, by rw [strlen, strlen, ← bigLine_eq]; exact hl, ?_⟩
      rw [strapp]
      exact same1 hs (rep_str (by rw [List.length_append]; exact hl) fun c hc => (List.mem_append.mp hc).elim (h2 c) (h4 c)) q
    · cases hg'
  · rename_i l m
    obtain ⟨p, xs, rfl, t1, r1⟩ := ha
    obtain ⟨p2, ys, rfl, t2, r2⟩ := hb
    have hg' : (if l.length + m.length ≤ bigLine then R.ok (.tup (l ++ m)) else R.bad) = R.ok d := hg
    split at hg'
    · rename_i hl
      cases hg'
      have e1 := r1.length
      have e2 := r2.length
      have ht1 := seqT_mono hs t1
      have ht2 := seqT_mono hs t2
      refine op_catA pins s σ H _ _ v u Q I rx ry ⟨p, p2, xs, ys, rfl, rfl, ht1, ht2, by rw [← bigLine_eq]; omega, fun z => ?_, fun _ z => ?_, fun _ _ p' hp => newT hs (r1.append r2) q hp⟩
      · have : l = [] := by rw [z] at e1; exact List.eq_nil_of_length_eq_zero e1.symm
        subst this
        exact same1 (d := .tup m) hs ⟨p2, ys, rfl, t2, r2⟩ q
      · have : m = [] := by rw [z] at e2; exact List.eq_nil_of_length_eq_zero e2.symm
        subst this
        rw [List.append_nil] at q
        exact same1 (d := .tup l) hs ⟨p, xs, rfl, t1, r1⟩ q
    · cases hg'
  · rename_i l m
    obtain ⟨p, xs, rfl, t1, r1⟩ := ha
    obtain ⟨p2, ys, rfl, t2, r2⟩ := hb
    have hg' : (if l.length + m.length ≤ bigLine then R.ok (.lst (l ++ m)) else R.bad) = R.ok d := hg
    split at hg'
    · rename_i hl
      cases hg'
      have e1 := r1.length
      have e2 := r2.length
      exact op_cat pins s σ H _ _ v u Q I rx ry ⟨p, p2, xs, ys, rfl, rfl, t1, t2, by rw [← bigLine_eq]; omega, fun p' hp => newV hs (r1.append r2) q hp⟩
    · cases hg'
theorem opN_cat : OpR X (binaryOp .Add) (rN2 X.K (Q2.run .cat)) := by
  intro pins s σ H x y v u Q I rx ry ⟨G, a, b, d, hs, ha, hb, hg, q⟩
  cases a <;> cases b <;> (try (have z : R.bad = R.ok d := hg; cases z))
  rename_i l m
  obtain ⟨p, xs, rfl, t1, r1⟩ := ha
  obtain ⟨p2, ys, rfl, t2, r2⟩ := hb
  have hg' : (if l.length + m.length ≤ bigLine then R.ok (l ++ m) else R.bad) = R.ok d := hg
  split at hg'
  · rename_i hl
    cases hg'
    have e1 := r1.length
    have e2 := r2.length
    exact op_cat pins s σ H _ _ v u Q I rx ry ⟨p, p2, xs, ys, rfl, rfl, t1, t2, by rw [← bigLine_eq]; omega, fun p' hp => newF hs (r1.append r2) q hp⟩
  · cases hg'
theorem opD_sub : OpR X (binaryOp .Sub) (rD2 X.K (P2.run .sub)) := by
  intro pins s σ H x y v u Q I rx ry ⟨G, a, b, d, hs, ha, hb, hg, q⟩
  cases a <;> cases b <;> (try (have z : R.bad = R.ok d := hg; cases z))
  rename_i i j
  cases (show R.ok (D.int (i - j)) = R.ok d from hg)
  exact op_sub pins s σ H x y v u Q I rx ry ⟨i, j, ha, hb, same1 hs (show Rep X.K G (.int (i - j)) _ from rfl) q⟩
theorem opD_mod : OpR X (binaryOp .Mod) (rD2 X.K (P2.run .mod)) := by
  intro pins s σ H x y v u Q I rx ry ⟨G, a, b, d, hs, ha, hb, hg, q⟩
  cases a <;> cases b <;> (try (have z : R.bad = R.ok d := hg; cases z))
  rename_i i j
  have hg' : (if j ≠ 0 then R.ok (D.int (i.fmod j)) else R.bad) = R.ok d := hg
  split at hg'
  · rename_i hj
    cases hg'
    exact op_modN pins s σ H x y v u Q I rx ry ⟨i, j, ha, hb, hj, same1 hs (show Rep X.K G (.int (i.fmod j)) _ from rfl) q⟩
  · cases hg'
theorem opD_fdiv : OpR X (binaryOp .FloorDiv) (rD2 X.K (P2.run .fdiv)) := by
  intro pins s σ H x y v u Q I rx ry ⟨G, a, b, d, hs, ha, hb, hg, q⟩
  cases a <;> cases b <;> (try (have z : R.bad = R.ok d := hg; cases z))
  rename_i i j
  have hg' : (if divOk j = true then R.ok (D.int (i.fdiv j)) else R.bad) = R.ok d := hg
  split at hg'
  · rename_i hj
    cases hg'
    unfold divOk at hj
    rw [Bool.or_eq_true] at hj
    rcases hj with hj | hj
    · exact op_fdivN pins s σ H x y v u Q I rx ry ⟨i, j, ha, hb, (show j ≠ 0 ∧ j.natAbs < 1073741824 from of_decide_eq_true hj), same1 hs (show Rep X.K G (.int (i.fdiv j)) _ from rfl) q⟩
    · have hj' := of_decide_eq_true hj
      refine op_fdivW pins s σ H x y v u Q I rx ry ⟨i, j, ha, hb, hj', ?_⟩
      have e : i / j = i.fdiv j := (Int.fdiv_eq_ediv_of_nonneg i (by have := hj'.1; omega)).symm
      show Q (V.int (i / j)) H
      rw [e]
      exact same1 hs (show Rep X.K G (.int (i.fdiv j)) _ from rfl) q
  · cases hg'
theorem opD_pow : OpR X (binaryOp .Pow) (rD2 X.K (P2.run .pow)) := by
  intro pins s σ H x y v u Q I rx ry ⟨G, a, b, d, hs, ha, hb, hg, q⟩
  cases a <;> cases b <;> (try (have z : R.bad = R.ok d := hg; cases z))
  rename_i i j
  have hg' : (if 0 ≤ j ∧ pOk i j = true then R.ok (D.int (i ^ j.toNat)) else R.bad) = R.ok d := hg
  split at hg'
  · rename_i hj
    cases hg'
    have hj2 := hj.2
    unfold pOk at hj2
    rw [Bool.and_eq_true] at hj2
    have hj3 := of_decide_eq_true hj2.1
    have hj4 := of_decide_eq_true hj2.2
    exact op_pow pins s σ H x y v u Q I rx ry ⟨i, j, ha, hb, ⟨hj.1, by omega, hj4⟩, same1 hs (show Rep X.K G (.int (i ^ j.toNat)) _ from rfl) q⟩
  · cases hg'
/-! ### * -/
theorem jOk_ok {j : Int} (h : jOk j = true) : j < 2 ^ 62 ∧ -(2 ^ 62) < j := by
  have := of_decide_eq_true h
  have e62 : (2 : Int) ^ 62 = 4611686018427387904 := by decide
  omega
theorem mulOk_ok {i j : Int} (h : mulOk i j = true) : IntMulOk i j := by
  unfold mulOk at h
  rw [Bool.or_eq_true, Bool.or_eq_true] at h
  rcases h with (h | h) | h
  · have := of_decide_eq_true h
    exact CMul.ok (.inl ⟨by omega, by omega⟩)
  · have := of_decide_eq_true h
    exact CMul.ok (.inr ⟨by omega, by omega⟩)
  · exact CMulW.ok (show i.natAbs.log2 + j.natAbs.log2 < 1000000 from of_decide_eq_true h)
theorem op_mulA : OpR X (binaryOp .Mult) (rI (fun i j => mulOk i j = true) fun i j => .int (i * j)) := opI fun _ _ _ _ _ _ _ hc q => mul_int q (mulOk_ok hc)
theorem fold_rep (x : Array Nat) : ∀ (k : Nat) (acc : List Nat), (List.replicate k x).foldl (· ++ ·) acc.toArray = (acc ++ (List.replicate k x.toList).flatten).toArray
  | 0, acc => by simp
  | k + 1, acc => by
    have e : acc.toArray ++ x = (acc ++ x.toList).toArray := by simp
    rw [List.replicate_succ, List.foldl_cons, e, fold_rep x k, List.replicate_succ, List.flatten_cons, List.append_assoc]
theorem flat_len {α : Type} (x : List α) : ∀ k : Nat, (List.replicate k x).flatten.length = x.length * k
  | 0 => by simp
  | k + 1 => by rw [List.replicate_succ, List.flatten_cons, List.length_append, flat_len x k, Nat.mul_succ, Nat.add_comm]
theorem flat_mem {α : Type} {x : List α} {c : α} : ∀ {k : Nat}, c ∈ (List.replicate k x).flatten → c ∈ x
  | 0, h => by simp at h
  | k + 1, h => by
    rw [List.replicate_succ, List.flatten_cons, List.mem_append] at h
    exact h.elim (fun z => z) flat_mem
theorem op_repS : OpR X (binaryOp .Mult) (fun x y H Q => ∃ (a : List Nat) (j : Int), x = .str ⟨a.toArray⟩ ∧ y = .int j ∧ a.length ≤ bigLine ∧ a.length * j.toNat ≤ bigLine ∧ j < 2 ^ 62 ∧ -(2 ^ 62) < j ∧ Q (.str ⟨(List.replicate j.toNat a).flatten.toArray⟩) H) := by
  intro pins s σ H x y v u Q I rx ry h
  obtain ⟨a, j, rfl, rfl, ha, hz, h1, h2, q⟩ := h
  obtain ⟨t, rfl⟩ := rx
  obtain ⟨t', rfl⟩ := ry
  have hsl := sizeLine_eq
  have hbl : bigLine = 16777216 := rfl
  have e63 : (2 : Int) ^ 63 = 9223372036854775808 := by decide
  have e62 : (2 : Int) ^ 62 = 4611686018427387904 := by decide
  refine PySem.P.mul_str ?_ (fun c1 c2 => ?_) (fun c1 c2 => ?_) ?_
  · rw [decide_eq_false (by omega), decide_eq_false (by omega)]
    rfl
  · rw [strlen]
    rw [Bool.or_eq_false_iff] at c2
    have hj : 1 ≤ j := by omega
    have : ((a.length : Nat) : Int) * j ≤ 16777216 := by
      have z : ((a.length * j.toNat : Nat) : Int) ≤ 16777216 := by omega
      rw [Int.natCast_mul, Int.toNat_of_nonneg (by omega)] at z
      exact z
    have w : ((a.length : Nat) : Int) ≤ (2 ^ 63 - 1) / j := (Int.le_ediv_iff_mul_le (by omega)).mpr (by omega)
    omega
  · rw [strlen]
    unfold Builtin.Str.tooLong
    exact decide_eq_false (by omega)
  · by_cases c1 : j < 1
    · rw [if_pos c1]
      have e0 : j.toNat = 0 := by omega
      rw [e0] at q
      exact ⟨by decide, .str Str.empty, H, I.tok _, ⟨_, rfl⟩, q⟩
    · rw [if_neg c1]
      by_cases c2 : (j == 1 || Str.length ⟨a.toArray⟩ == 0) = true
      · rw [if_pos c2]
        have e : (List.replicate j.toNat a).flatten = a := by
          rw [Bool.or_eq_true, strlen] at c2
          rcases c2 with c2 | c2
          · have e1 : j = 1 := by simpa using c2
            rw [e1]
            simp
          · have e1 : a = [] := by simpa using c2
            rw [e1]
            simp
        rw [e] at q
        exact ⟨.str _, H, I, ⟨_, rfl⟩, q⟩
      · rw [if_neg c2]
        have e : (List.replicate j.toNat a.toArray).foldl (· ++ ·) #[] = (List.replicate j.toNat a).flatten.toArray := by
          have := fold_rep a.toArray j.toNat []
          rw [List.nil_append] at this
          exact this
        rw [e]
        refine ⟨by rw [strlen, flat_len, ← bigLine_eq]; exact hz, .str _, H, I.tok _, ⟨_, rfl⟩, q⟩
theorem opD_mul : OpR X (binaryOp .Mult) (rD2 X.K (P2.run .mul)) := by
  intro pins s σ H x y v u Q I rx ry ⟨G, a, b, d, hs, ha, hb, hg, q⟩
  cases a <;> cases b <;> (try (have z : R.bad = R.ok d := hg; cases z))
  · rename_i i j
    have hg' : (if mulOk i j = true then R.ok (D.int (i * j)) else R.bad) = R.ok d := hg
    split at hg'
    · rename_i hj
      cases hg'
      exact op_mulA pins s σ H x y v u Q I rx ry ⟨i, j, ha, hb, hj, same1 hs (show Rep X.K G (.int (i * j)) _ from rfl) q⟩
    · cases hg'
  · rename_i i j
    obtain ⟨rfl, h1, h2⟩ := ha
    have hg' : (if i.length * j.toNat ≤ bigLine ∧ jOk j = true then R.ok (D.str (List.replicate j.toNat i).flatten) else R.bad) = R.ok d := hg
    split at hg'
    · rename_i hl
      cases hg'
      exact op_repS pins s σ H _ y v u Q I rx ry ⟨i, j, rfl, hb, h1, hl.1, (jOk_ok hl.2).1, (jOk_ok hl.2).2, same1 hs (rep_str (by rw [flat_len]; exact hl.1) fun c hc => h2 c (flat_mem hc)) q⟩
    · cases hg'
  · rename_i i j
    obtain ⟨p, xs, rfl, t1, r1⟩ := ha
    have hg' : (if (jOk j && decide (j ≤ 1)) = true then R.ok (D.tup (if (i.isEmpty || j == 1) = true then i else [])) else if (!i.isEmpty && (decide (2 ≤ j) && (decide (j ≤ 1000) && decide (i.length ≤ 1000)))) = true then R.ok (D.tup (List.replicate j.toNat i).flatten) else R.bad) = R.ok d := hg
    split at hg'
    · rename_i hl
      cases hg'
      rw [Bool.and_eq_true] at hl
      obtain ⟨g1, g2⟩ := hl
      have g3 := jOk_ok g1
      have e62 : (2 : Int) ^ 62 = 4611686018427387904 := by decide
      have hxi : xs = [] ↔ i = [] := by
        have := r1.length
        constructor
        · intro e; rw [e] at this; exact List.eq_nil_of_length_eq_zero this.symm
        · intro e; rw [e] at this; exact List.eq_nil_of_length_eq_zero this
      refine op_repT01 pins s σ H _ y v u Q I rx ry ⟨p, j, xs, rfl, hb, seqT_mono hs t1, by omega, of_decide_eq_true g2, ?_⟩
      by_cases hc : (i.isEmpty || j == 1) = true
      · left
        rw [if_pos hc] at q
        refine ⟨?_, same1 (d := .tup i) hs ⟨p, xs, rfl, t1, r1⟩ q⟩
        rw [Bool.or_eq_true, List.isEmpty_iff, beq_iff_eq] at hc
        exact hc.imp hxi.mpr id
      · right
        rw [if_neg hc] at q
        rw [Bool.or_eq_true, List.isEmpty_iff, beq_iff_eq] at hc
        exact ⟨fun e => hc (.inl (hxi.mp e)), by have := of_decide_eq_true g2; have : ¬ j = 1 := fun e => hc (.inr e); omega, fun p' hp => newT (l := []) (xs := []) hs rfl q hp⟩
    split at hg'
    · rename_i hl
      cases hg'
      rw [Bool.and_eq_true, Bool.and_eq_true, Bool.and_eq_true] at hl
      obtain ⟨g1, g2, g3, g4⟩ := hl
      refine op_repT pins s σ H _ y v u Q I rx ry ⟨p, j, xs, rfl, hb, seqT_mono hs t1, fun e => ?_, of_decide_eq_true g2, of_decide_eq_true g3, by rw [r1.length]; exact of_decide_eq_true g4, fun p' hp => newT hs (r1.rep j.toNat) q hp⟩
      have := r1.length
      rw [e] at this
      have e2 : i = [] := List.eq_nil_of_length_eq_zero this.symm
      rw [e2] at g1
      cases g1
    · cases hg'
  · rename_i i j
    obtain ⟨p, xs, rfl, t1, r1⟩ := ha
    have hg' : (if i.length * j.toNat ≤ bigLine ∧ jOk j = true then R.ok (D.lst (List.replicate j.toNat i).flatten) else R.bad) = R.ok d := hg
    split at hg'
    · rename_i hl
      cases hg'
      have hl2 := jOk_ok hl.2
      have e62 : (2 : Int) ^ 62 = 4611686018427387904 := by decide
      have e63 : (2 : Int) ^ 63 = 9223372036854775808 := by decide
      exact op_rep pins s σ H _ y v u Q I rx ry ⟨p, j, xs, rfl, hb, t1, by omega, by omega, by rw [← bigLine_eq, r1.length]; exact hl.1, fun p' hp => newV hs (r1.rep j.toNat) q hp⟩
    · cases hg'
theorem opN_mul : OpR X (binaryOp .Mult) (rN2 X.K (Q2.run .mul)) := by
  intro pins s σ H x y v u Q I rx ry ⟨G, a, b, d, hs, ha, hb, hg, q⟩
  cases a <;> cases b <;> (try (have z : R.bad = R.ok d := hg; cases z))
  rename_i i j
  obtain ⟨p, xs, rfl, t1, r1⟩ := ha
  have hg' : (if i.length * j.toNat ≤ bigLine ∧ jOk j = true then R.ok (List.replicate j.toNat i).flatten else R.bad) = R.ok d := hg
  split at hg'
  · rename_i hl
    cases hg'
    have hl2 := jOk_ok hl.2
    have e62 : (2 : Int) ^ 62 = 4611686018427387904 := by decide
    have e63 : (2 : Int) ^ 63 = 9223372036854775808 := by decide
    exact op_rep pins s σ H _ y v u Q I rx ry ⟨p, j, xs, rfl, hb, t1, by omega, by omega, by rw [← bigLine_eq, r1.length]; exact hl.1, fun p' hp => newF hs (r1.rep j.toNat) q hp⟩
  · cases hg'
end
end En

/-! En5: comparisons. -/
namespace En
open PySem PySem.Spec PyProof.Rows L2

mutual
def D.py : D → PyData
  | .non => .none
  | .bl b => .bool b
  | .int i => .int i
  | .str s => .str ⟨s.toArray⟩
  | .tup l => .tuple (D.pys l)
  | .lst l => .list (D.pys l)
  | .dic _ _ => .none
  | .scr _ => .none
def D.pys : List D → List PyData
  | [] => []
  | d :: l => D.py d :: D.pys l
end
theorem pys_map : ∀ l : List D, D.pys l = l.map D.py
  | [] => rfl
  | d :: l => by rw [D.pys, pys_map l, List.map_cons]
mutual
theorem py_depth : ∀ d : D, d.depth < 1000 → d.py.depth = d.depth
  | .non, _ => rfl
  | .bl _, _ => rfl
  | .int _, _ => rfl
  | .str _, _ => rfl
  | .tup l, h => by
    simp only [D.depth] at h
    simp only [D.py, D.depth, PyData.depth]
    rw [pys_depth l (by omega)]
  | .lst l, h => by
    simp only [D.depth] at h
    simp only [D.py, D.depth, PyData.depth]
    rw [pys_depth l (by omega)]
  | .dic _ _, h => by simp [D.depth] at h
  | .scr _, h => by simp [D.depth] at h
theorem pys_depth : ∀ l : List D, D.depths l < 1000 → PyData.depthAll (D.pys l) = D.depths l
  | [], _ => rfl
  | d :: l, h => by
    simp only [D.depths] at h
    simp only [D.pys, D.depths, PyData.depthAll]
    rw [py_depth d (by omega), pys_depth l (by omega)]
end
mutual
theorem rep_lay {K : Fg} {G : Hp} : ∀ (d : D) {v : V}, Rep K G d v → d.depth < 1000 → d.py.canLay0 = true
  | .non, _, _, _ => by simp only [D.py, PyData.canLay0]
  | .bl _, _, _, _ => by simp only [D.py, PyData.canLay0]
  | .int _, _, _, _ => by simp only [D.py, PyData.canLay0]
  | .str s, _, h, _ => by
    obtain ⟨_, _, h2⟩ := h
    simp only [D.py, PyData.canLay0, PyData.strOk]
    rw [List.all_toArray]
    exact List.all_eq_true.mpr fun c hc => decide_eq_true (h2 c hc)
  | .tup l, _, h, hd => by
    obtain ⟨a, xs, _, _, r⟩ := h
    simp only [D.depth] at hd
    simp only [D.py, PyData.canLay0]
    exact reps_lay l r (by omega)
  | .lst l, _, h, hd => by
    obtain ⟨a, xs, _, _, r⟩ := h
    simp only [D.depth] at hd
    simp only [D.py, PyData.canLay0]
    exact reps_lay l r (by omega)
  | .dic _ _, _, h, hd => by simp [D.depth] at hd
  | .scr _, _, h, hd => by simp [D.depth] at hd
theorem reps_lay {K : Fg} {G : Hp} : ∀ (l : List D) {xs : List V}, Reps K G l xs → D.depths l < 1000 → PyData.canLayAll0 (D.pys l) = true
  | [], _, _, _ => by simp only [D.pys, PyData.canLayAll0]
  | d :: l, _, h, hd => by
    obtain ⟨x, r, _, h1, h2⟩ := h
    simp only [D.depths] at hd
    simp only [D.pys, PyData.canLayAll0]
    rw [rep_lay d h1 (by omega), reps_lay l h2 (by omega)]
    rfl
end
mutual
theorem rep_dp {K : Fg} {G : Hp} : ∀ (d : D) {v : V}, Rep K G d v → d.depth < 1000 → Dp K G v d.py
  | .non, _, h, _ => by rw [show _ = V.non from h]; exact .non
  | .bl _, _, h, _ => by rw [show _ = V.bl _ from h]; exact .bl _
  | .int _, _, h, _ => by rw [show _ = V.int _ from h]; exact .int _
  | .str s, _, h, _ => by
    obtain ⟨rfl, _, h2⟩ := h
    exact .str _
  | .tup l, _, h, hd => by
    obtain ⟨a, xs, rfl, t, r⟩ := h
    simp only [D.depth] at hd
    simp only [D.py]
    exact .tup t (reps_dp l r (by omega))
  | .lst l, _, h, hd => by
    obtain ⟨a, xs, rfl, t, r⟩ := h
    simp only [D.depth] at hd
    simp only [D.py]
    exact .lst (SqL.of t) (reps_dp l r (by omega))
  | .dic _ _, _, h, hd => by simp [D.depth] at hd
  | .scr _, _, h, hd => by simp [D.depth] at hd
theorem reps_dp {K : Fg} {G : Hp} : ∀ (l : List D) {xs : List V}, Reps K G l xs → D.depths l < 1000 → DpAll K G xs (D.pys l)
  | [], _, h, _ => by rw [show _ = [] from h]; exact .nil
  | d :: l, _, h, hd => by
    obtain ⟨x, r, rfl, h1, h2⟩ := h
    simp only [D.depths] at hd
    simp only [D.pys]
    exact .cons (rep_dp d h1 (by omega)) (reps_dp l h2 (by omega))
end
theorem RepT.at {K : Fg} {G H : Hp} (s : Same G H) : ∀ {d : D} {v : V}, RepT K G H d v → Rep K H d v
  | .lst l, v, h => by
    obtain ⟨a, xs, hv, hs, hr⟩ := h
    exact ⟨a, xs, hv, hs, hr.mono s⟩
  | .non, _, h => h
  | .bl _, _, h => h
  | .int _, _, h => h
  | .str _, _, h => h
  | .tup l, _, h => Rep.mono s (.tup l) h
  | .dic _ _, _, h => h
  | .scr l, _, h => Rep.mono s (.scr l) h
theorem okc_lt {d : D} (h : d.okc = true) : d.depth ≤ 64 := of_decide_eq_true h
theorem RepT.dp {K : Fg} {G H : Hp} (s : Same G H) {d : D} {v : V} (h : RepT K G H d v) (o : d.okc = true) : Dp K H v d.py ∧ SeqAt.shaped d.py = true := by
  have hd := okc_lt o
  have hr := RepT.at s h
  refine ⟨rep_dp d hr (by omega), ?_⟩
  show (d.py.canLay0 && decide (d.py.depth ≤ 64)) = true
  rw [rep_lay d hr (by omega), py_depth d (by omega)]
  exact decide_eq_true hd
theorem str_beq (x y : List Nat) : ((⟨x.toArray⟩ : Str) == ⟨y.toArray⟩) = (x == y) := by
  by_cases h : x = y
  · subst h
    rw [beq_self_eq_true, beq_self_eq_true]
  · have h2 : (⟨x.toArray⟩ : Str) ≠ ⟨y.toArray⟩ := fun e => h (by
      have := congrArg (fun s : Str => s.cps.toList) e
      simpa using this)
    rw [beq_eq_false_iff_ne.mpr h, beq_eq_false_iff_ne.mpr h2]
mutual
theorem eqv_py : ∀ (a b : D), a.depth < 1000 → b.depth < 1000 → PyData.eqv a.py b.py = a.eqv b
  | .non, b, _, hb => by
    cases b <;> first | (simp [D.depth] at hb; done) | simp [D.py, D.eqv, PyData.eqv]
  | .bl x, b, _, hb => by
    cases b <;> first | (simp [D.depth] at hb; done) | simp [D.py, D.eqv, PyData.eqv, b2i]
  | .int x, b, _, hb => by
    cases b <;> first | (simp [D.depth] at hb; done) | simp [D.py, D.eqv, PyData.eqv, b2i]
  | .str x, b, _, hb => by
    cases b with
    | str y => simp only [D.py, D.eqv, PyData.eqv]; exact str_beq x y
    | _ => first | (simp [D.depth] at hb; done) | simp [D.py, D.eqv, PyData.eqv]
  | .tup x, b, ha, hb => by
    cases b with
    | tup y =>
      simp only [D.depth] at ha hb
      simp only [D.py, D.eqv, PyData.eqv]
      exact eqvs_py x y (by omega) (by omega)
    | _ => first | (simp [D.depth] at hb; done) | simp [D.py, D.eqv, PyData.eqv]
  | .lst x, b, ha, hb => by
    cases b with
    | lst y =>
      simp only [D.depth] at ha hb
      simp only [D.py, D.eqv, PyData.eqv]
      exact eqvs_py x y (by omega) (by omega)
    | _ => first | (simp [D.depth] at hb; done) | simp [D.py, D.eqv, PyData.eqv]
  | .dic _ _, _, ha, _ => by simp [D.depth] at ha
  | .scr _, _, ha, _ => by simp [D.depth] at ha
theorem eqvs_py : ∀ (a b : List D), D.depths a < 1000 → D.depths b < 1000 → PyData.eqvAll (D.pys a) (D.pys b) = D.eqvs a b
  | [], [], _, _ => by simp only [D.pys, D.eqvs, PyData.eqvAll]
  | [], _ :: _, _, _ => by simp only [D.pys, D.eqvs, PyData.eqvAll]
  | _ :: _, [], _, _ => by simp only [D.pys, D.eqvs, PyData.eqvAll]
  | x :: xs, y :: ys, ha, hb => by
    simp only [D.depths] at ha hb
    simp only [D.pys, D.eqvs, PyData.eqvAll]
    rw [eqv_py x y (by omega) (by omega), eqvs_py xs ys (by omega) (by omega)]
end
theorem any_py (x : D) (hx : x.depth < 1000) : ∀ (l : List D), D.depths l < 1000 → ((D.pys l).any fun z => PyData.eqv z x.py) = l.any fun z => D.eqv z x
  | [], _ => rfl
  | d :: l, h => by
    simp only [D.depths] at h
    rw [D.pys, List.any_cons, List.any_cons, eqv_py d x (by omega) hx, any_py x hx l (by omega)]
theorem strLt_iff : ∀ x y : List Nat, strLt x y = decide (x < y)
  | [], [] => by simp [strLt]
  | [], _ :: _ => by simp [strLt]
  | _ :: _, [] => by simp [strLt]
  | a :: x, b :: y => by
    rw [strLt, strLt_iff x y]
    by_cases h : a < b
    · rw [if_pos h]
      exact (decide_eq_true (List.cons_lt_cons_iff.mpr (.inl h))).symm
    · rw [if_neg h]
      by_cases h2 : b < a
      · rw [if_pos h2]
        refine (decide_eq_false fun z => ?_).symm
        rcases List.cons_lt_cons_iff.mp z with z | ⟨z, _⟩ <;> omega
      · rw [if_neg h2]
        have e : a = b := by omega
        subst e
        by_cases h3 : x < y
        · rw [decide_eq_true h3, decide_eq_true (List.cons_lt_cons_iff.mpr (.inr ⟨rfl, h3⟩))]
        · rw [decide_eq_false h3]
          refine (decide_eq_false fun z => ?_).symm
          rcases List.cons_lt_cons_iff.mp z with z | ⟨_, z⟩
          · omega
          · exact h3 z

section
variable {X : Cx}
theorem opD_eq (hu : X.A.units + 64 < cLine) : OpR X (compareOp .Eq) (rD2 X.K (P2.run .eq)) := by
  intro pins s σ H x y v u Q I rx ry ⟨G, a, b, d, hs, ha, hb, hg, q⟩
  have hg' : (if (a.okc && b.okc) = true then R.ok (D.bl (a.eqv b)) else R.bad) = R.ok d := by cases a <;> cases b <;> exact hg
  split at hg'
  · rename_i ho
    rw [Bool.and_eq_true] at ho
    cases hg'
    obtain ⟨d1, s1⟩ := ha.dp hs ho.1
    obtain ⟨d2, s2⟩ := hb.dp hs ho.2
    refine op_eqD hu pins s σ H x y v u Q I rx ry ⟨_, _, d1, d2, s1, s2, ?_⟩
    rw [eqv_py a b (by have := okc_lt ho.1; omega) (by have := okc_lt ho.2; omega)]
    exact same1 hs (show Rep X.K G (.bl (a.eqv b)) _ from rfl) q
  · cases hg'
theorem opD_ne (hu : X.A.units + 64 < cLine) : OpR X (compareOp .NotEq) (rD2 X.K (P2.run .ne)) := by
  intro pins s σ H x y v u Q I rx ry ⟨G, a, b, d, hs, ha, hb, hg, q⟩
  have hg' : (if (a.okc && b.okc) = true then R.ok (D.bl (!a.eqv b)) else R.bad) = R.ok d := by cases a <;> cases b <;> exact hg
  split at hg'
  · rename_i ho
    rw [Bool.and_eq_true] at ho
    cases hg'
    obtain ⟨d1, s1⟩ := ha.dp hs ho.1
    obtain ⟨d2, s2⟩ := hb.dp hs ho.2
    refine op_neD hu pins s σ H x y v u Q I rx ry ⟨_, _, d1, d2, s1, s2, ?_⟩
    rw [eqv_py a b (by have := okc_lt ho.1; omega) (by have := okc_lt ho.2; omega)]
    exact same1 hs (show Rep X.K G (.bl (!a.eqv b)) _ from rfl) q
  · cases hg'
theorem opD_lt : OpR X (compareOp .Lt) (rD2 X.K (P2.run .lt)) := by
  intro pins s σ H x y v u Q I rx ry ⟨G, a, b, d, hs, ha, hb, hg, q⟩
  cases a <;> cases b <;> (try (have z : R.bad = R.ok d := hg; cases z))
  · rename_i i j
    cases (show R.ok (D.bl (decide (i < j))) = R.ok d from hg)
    exact op_lt pins s σ H x y v u Q I rx ry ⟨i, j, ha, hb, same1 hs (show Rep X.K G (.bl (decide (i < j))) _ from rfl) q⟩
  · rename_i i j
    obtain ⟨rfl, _, _⟩ := ha
    obtain ⟨rfl, _, _⟩ := hb
    cases (show R.ok (D.bl (strLt i j)) = R.ok d from hg)
    exact op_lt_str pins s σ H _ _ v u Q I rx ry ⟨_, _, rfl, rfl, same1 hs (show Rep X.K G (.bl (strLt i j)) _ from by rw [strLt_iff]; rfl) q⟩
theorem opD_le : OpR X (compareOp .LtE) (rD2 X.K (P2.run .le)) := by
  intro pins s σ H x y v u Q I rx ry ⟨G, a, b, d, hs, ha, hb, hg, q⟩
  cases a <;> cases b <;> (try (have z : R.bad = R.ok d := hg; cases z))
  · rename_i i j
    cases (show R.ok (D.bl (decide (i ≤ j))) = R.ok d from hg)
    exact op_le pins s σ H x y v u Q I rx ry ⟨i, j, ha, hb, same1 hs (show Rep X.K G (.bl (decide (i ≤ j))) _ from rfl) q⟩
  · rename_i i j
    obtain ⟨rfl, _, _⟩ := ha
    obtain ⟨rfl, _, _⟩ := hb
    cases (show R.ok (D.bl (!strLt j i)) = R.ok d from hg)
    exact op_le_str pins s σ H _ _ v u Q I rx ry ⟨_, _, rfl, rfl, same1 hs (show Rep X.K G (.bl (!strLt j i)) _ from by rw [strLt_iff]; rfl) q⟩
theorem opD_gt : OpR X (compareOp .Gt) (rD2 X.K (P2.run .gt)) := by
  intro pins s σ H x y v u Q I rx ry ⟨G, a, b, d, hs, ha, hb, hg, q⟩
  cases a <;> cases b <;> (try (have z : R.bad = R.ok d := hg; cases z))
  · rename_i i j
    cases (show R.ok (D.bl (decide (j < i))) = R.ok d from hg)
    exact op_gt pins s σ H x y v u Q I rx ry ⟨i, j, ha, hb, same1 hs (show Rep X.K G (.bl (decide (j < i))) _ from rfl) q⟩
  · rename_i i j
    obtain ⟨rfl, _, _⟩ := ha
    obtain ⟨rfl, _, _⟩ := hb
    cases (show R.ok (D.bl (strLt j i)) = R.ok d from hg)
    exact op_gt_str pins s σ H _ _ v u Q I rx ry ⟨_, _, rfl, rfl, same1 hs (show Rep X.K G (.bl (strLt j i)) _ from by rw [strLt_iff]; rfl) q⟩
theorem opD_ge : OpR X (compareOp .GtE) (rD2 X.K (P2.run .ge)) := by
  intro pins s σ H x y v u Q I rx ry ⟨G, a, b, d, hs, ha, hb, hg, q⟩
  cases a <;> cases b <;> (try (have z : R.bad = R.ok d := hg; cases z))
  · rename_i i j
    cases (show R.ok (D.bl (decide (j ≤ i))) = R.ok d from hg)
    exact op_ge pins s σ H x y v u Q I rx ry ⟨i, j, ha, hb, same1 hs (show Rep X.K G (.bl (decide (j ≤ i))) _ from rfl) q⟩
  · rename_i i j
    obtain ⟨rfl, _, _⟩ := ha
    obtain ⟨rfl, _, _⟩ := hb
    cases (show R.ok (D.bl (!strLt i j)) = R.ok d from hg)
    exact op_ge_str pins s σ H _ _ v u Q I rx ry ⟨_, _, rfl, rfl, same1 hs (show Rep X.K G (.bl (!strLt i j)) _ from by rw [strLt_iff]; rfl) q⟩
/-! ### in, not in -/
theorem op_inTD (hu : X.A.units + 65 < cLine) : OpR X (compareOp .In) (fun x y H Q => ∃ d ds, Dp X.K H x d ∧ Dp X.K H y (.tuple ds) ∧ SeqAt.shaped d = true ∧ SeqAt.shaped (.tuple ds) = true ∧ Q (.bl (ds.any fun z => PyData.eqv z d)) H) := by
  intro pins s σ H x y v u Q I rx ry h
  obtain ⟨d, ds, hd, he, sd, se, q⟩ := h
  obtain ⟨as, r1⟩ := Dp.reads I d x v hd rx
  obtain ⟨bs, r2⟩ := Dp.reads I (.tuple ds) y u he ry
  exact SeqAt.in_tuple_reads r2 r1 (SeqAt.canLay_of_shaped se) (SeqAt.canLay_of_shaped sd) (room_in_shaped sd hu) ⟨.bl _, H, I, rfl, q⟩
theorem op_notInTD (hu : X.A.units + 65 < cLine) : OpR X (compareOp .NotIn) (fun x y H Q => ∃ d ds, Dp X.K H x d ∧ Dp X.K H y (.tuple ds) ∧ SeqAt.shaped d = true ∧ SeqAt.shaped (.tuple ds) = true ∧ Q (.bl (!ds.any fun z => PyData.eqv z d)) H) := by
  intro pins s σ H x y v u Q I rx ry h
  obtain ⟨d, ds, hd, he, sd, se, q⟩ := h
  obtain ⟨as, r1⟩ := Dp.reads I d x v hd rx
  obtain ⟨bs, r2⟩ := Dp.reads I (.tuple ds) y u he ry
  exact SeqAt.notIn_tuple_reads r2 r1 (SeqAt.canLay_of_shaped se) (SeqAt.canLay_of_shaped sd) (room_in_shaped sd hu) ⟨.bl _, H, I, rfl, q⟩
theorem dep_tup {l : List D} (h : (D.tup l).okc = true) : D.depths l < 1000 := by
  have := okc_lt h
  simp only [D.depth] at this
  omega
theorem dep_lst {l : List D} (h : (D.lst l).okc = true) : D.depths l < 1000 := by
  have := okc_lt h
  simp only [D.depth] at this
  omega
theorem opD_in (hu : X.A.units + 65 < cLine) : OpR X (compareOp .In) (rD2 X.K (P2.run .isIn)) := by
  intro pins s σ H x y v u Q I rx ry ⟨G, a, b, d, hs, ha, hb, hg, q⟩
  cases b with
  | str z =>
    obtain ⟨rfl, _, _⟩ := hb
    cases a with
    | str w =>
      obtain ⟨rfl, _, _⟩ := ha
      match w, hg with
      | [], hg => cases (show R.bad = R.ok d from hg)
      | [c], hg =>
        cases (show R.ok (D.bl (decide (c ∈ z))) = R.ok d from hg)
        exact op_in_sign pins s σ H _ _ v u Q I rx ry ⟨c, _, rfl, rfl, same1 hs (show Rep X.K G (.bl (decide (c ∈ z))) _ from rfl) q⟩
      | _ :: _ :: _, hg => cases (show R.bad = R.ok d from hg)
    | _ => cases (show R.bad = R.ok d from hg)
  | lst l =>
    have hg' : (if (a.okc && (D.lst l).okc) = true then R.ok (D.bl (l.any fun z => D.eqv z a)) else R.bad) = R.ok d := by cases a <;> exact hg
    split at hg'
    · rename_i ho
      rw [Bool.and_eq_true] at ho
      cases hg'
      obtain ⟨d1, s1⟩ := ha.dp hs ho.1
      obtain ⟨d2, s2⟩ := hb.dp hs ho.2
      refine op_inD hu pins s σ H x y v u Q I rx ry ⟨_, _, d1, d2, s1, s2, ?_⟩
      rw [any_py a (by have := okc_lt ho.1; omega) l (dep_lst ho.2)]
      exact same1 hs (show Rep X.K G (.bl (l.any fun z => D.eqv z a)) _ from rfl) q
    · cases hg'
  | tup l =>
    have hg' : (if (a.okc && (D.tup l).okc) = true then R.ok (D.bl (l.any fun z => D.eqv z a)) else R.bad) = R.ok d := by cases a <;> exact hg
    split at hg'
    · rename_i ho
      rw [Bool.and_eq_true] at ho
      cases hg'
      obtain ⟨d1, s1⟩ := ha.dp hs ho.1
      obtain ⟨d2, s2⟩ := hb.dp hs ho.2
      refine op_inTD hu pins s σ H x y v u Q I rx ry ⟨_, _, d1, d2, s1, s2, ?_⟩
      rw [any_py a (by have := okc_lt ho.1; omega) l (dep_tup ho.2)]
      exact same1 hs (show Rep X.K G (.bl (l.any fun z => D.eqv z a)) _ from rfl) q
    · cases hg'
  | dic ks vs => exact hb.elim
  | _ => cases a <;> cases (show R.bad = R.ok d from hg)
theorem opD_notIn (hu : X.A.units + 65 < cLine) : OpR X (compareOp .NotIn) (rD2 X.K (P2.run .notIn)) := by
  intro pins s σ H x y v u Q I rx ry ⟨G, a, b, d, hs, ha, hb, hg, q⟩
  cases b with
  | str z =>
    obtain ⟨rfl, _, _⟩ := hb
    cases a with
    | str w =>
      obtain ⟨rfl, _, _⟩ := ha
      match w, hg with
      | [], hg => cases (show R.bad = R.ok d from hg)
      | [c], hg =>
        cases (show R.ok (D.bl (!decide (c ∈ z))) = R.ok d from hg)
        exact op_notIn_sign pins s σ H _ _ v u Q I rx ry ⟨c, _, rfl, rfl, same1 hs (show Rep X.K G (.bl (!decide (c ∈ z))) _ from rfl) q⟩
      | _ :: _ :: _, hg => cases (show R.bad = R.ok d from hg)
    | _ => cases (show R.bad = R.ok d from hg)
  | lst l =>
    have hg' : (if (a.okc && (D.lst l).okc) = true then R.ok (D.bl (!l.any fun z => D.eqv z a)) else R.bad) = R.ok d := by cases a <;> exact hg
    split at hg'
    · rename_i ho
      rw [Bool.and_eq_true] at ho
      cases hg'
      obtain ⟨d1, s1⟩ := ha.dp hs ho.1
      obtain ⟨d2, s2⟩ := hb.dp hs ho.2
      refine op_notInD hu pins s σ H x y v u Q I rx ry ⟨_, _, d1, d2, s1, s2, ?_⟩
      rw [any_py a (by have := okc_lt ho.1; omega) l (dep_lst ho.2)]
      exact same1 hs (show Rep X.K G (.bl (!l.any fun z => D.eqv z a)) _ from rfl) q
    · cases hg'
  | tup l =>
    have hg' : (if (a.okc && (D.tup l).okc) = true then R.ok (D.bl (!l.any fun z => D.eqv z a)) else R.bad) = R.ok d := by cases a <;> exact hg
    split at hg'
    · rename_i ho
      rw [Bool.and_eq_true] at ho
      cases hg'
      obtain ⟨d1, s1⟩ := ha.dp hs ho.1
      obtain ⟨d2, s2⟩ := hb.dp hs ho.2
      refine op_notInTD hu pins s σ H x y v u Q I rx ry ⟨_, _, d1, d2, s1, s2, ?_⟩
      rw [any_py a (by have := okc_lt ho.1; omega) l (dep_tup ho.2)]
      exact same1 hs (show Rep X.K G (.bl (!l.any fun z => D.eqv z a)) _ from rfl) q
    · cases hg'
  | dic ks vs => exact hb.elim
  | _ => cases a <;> cases (show R.bad = R.ok d from hg)
end
end En

/-! En6: items, slices, lengths, types, built-in functions. -/
namespace En
open PySem PySem.Spec PyProof.Rows L2

section
variable {K : Fg} {G H : Hp}
theorem atIx_eq {α : Type} (xs : List α) (i : Int) : atIx xs i = L2.atI xs i := rfl
theorem reps_at {l : List D} {xs : List V} {i : Int} {d : D} (r : Reps K G l xs) (h : atIx l i = some d) : ∃ x, L2.atI xs i = some x ∧ Rep K G d x := by
  unfold atIx at h
  cases e : ixNat l.length i with
  | none => rw [e] at h; cases h
  | some j =>
    rw [e] at h
    obtain ⟨x, h1, h2⟩ := r.get (i := j) h
    refine ⟨x, ?_, h2⟩
    have e' : L2.ixN xs.length i = some j := by rw [r.length]; exact e
    show (L2.ixN xs.length i).bind _ = _
    rw [e']
    exact h1
theorem cutIx_eq (n d : Nat) : ∀ o : Option Int, cutIx n d o = HT.sIx n d o
  | none => rfl
  | some _ => rfl
theorem reps_cut {l : List D} {xs : List V} (r : Reps K G l xs) (lo hi : Option Int) : Reps K G (cutL l lo hi) (cutV xs lo hi) := by
  unfold cutL cutV
  rw [r.length, cutIx_eq, cutIx_eq]
  exact (r.drop _).take _
theorem cutL_sub {α : Type} {l : List α} {lo hi : Option Int} {c : α} (h : c ∈ cutL l lo hi) : c ∈ l := List.mem_of_mem_drop (List.mem_of_mem_take h)
theorem cutL_len {α : Type} (l : List α) (lo hi : Option Int) : (cutL l lo hi).length ≤ l.length := by
  unfold cutL
  rw [List.length_take, List.length_drop]
  omega
theorem cutL_whole {α : Type} (l : List α) (lo hi : Option Int) (h : HT.sIx l.length 0 lo = 0 ∧ HT.sIx l.length l.length hi = l.length) : cutL l lo hi = l := by
  unfold cutL
  rw [cutIx_eq, cutIx_eq, h.1, h.2, List.drop_zero, Nat.sub_zero, List.take_length]
theorem cutV_ints (l : List Int) (lo hi : Option Int) : cutV (l.map V.int) lo hi = (cutL l lo hi).map V.int := by
  unfold cutL cutV
  rw [cutIx_eq, cutIx_eq, List.length_map, List.map_take, List.map_drop]
theorem reps_ints : ∀ l : List Int, Reps K G (l.map D.int) (l.map V.int)
  | [] => rfl
  | i :: l => ⟨.int i, _, rfl, rfl, reps_ints l⟩
end

section
variable {X : Cx}
theorem ixD : IxR X (rD2 X.K (P2.run .idx)) := by
  intro value slice pins s σ H x y v u Q I rx ry ⟨G, a, b, d, hs, ha, hb, hg, q⟩ hsub
  cases b with
  | int i =>
    cases a with
    | str z =>
      obtain ⟨rfl, hz1, hz2⟩ := ha
      have hg' : R.bind (optR (atIx z i)) (fun c => R.ok (D.str [c])) = R.ok d := hg
      obtain ⟨c, h1, h2⟩ := rbind_ok hg'
      cases h2
      cases e : atIx z i with
      | none => rw [e] at h1; cases h1
      | some c' =>
        rw [e] at h1
        cases h1
        refine ix_str value slice pins s σ H _ y v u Q I rx ry ⟨_, i, c, rfl, hb, by rw [strlen, ← bigLine_eq]; exact hz1, by rw [← atIx_eq]; exact e, ?_⟩ hsub
        refine same1 (d := .str [c]) hs ⟨rfl, show 1 ≤ bigLine by decide, fun w hw => ?_⟩ q
        rw [List.mem_singleton] at hw
        subst hw
        unfold atIx at e
        cases e2 : ixNat z.length i with
        | none => rw [e2] at e; cases e
        | some j => rw [e2] at e; exact hz2 _ (List.mem_of_getElem? e)
    | lst l =>
      obtain ⟨p, xs, rfl, t, r⟩ := ha
      have hg' : optR (atIx l i) = R.ok d := hg
      cases e : atIx l i with
      | none => rw [e] at hg'; cases hg'
      | some c =>
        rw [e] at hg'
        cases hg'
        obtain ⟨w, h1, h2⟩ := reps_at r e
        exact ix_list value slice pins s σ H _ y v u Q I rx ry ⟨p, xs, i, w, rfl, hb, SqL.of t, h1, same1 hs h2 q⟩ hsub
    | tup l =>
      obtain ⟨p, xs, rfl, t, r⟩ := ha
      have hg' : optR (atIx l i) = R.ok d := hg
      cases e : atIx l i with
      | none => rw [e] at hg'; cases hg'
      | some c =>
        rw [e] at hg'
        cases hg'
        obtain ⟨w, h1, h2⟩ := reps_at r e
        exact ix_tup value slice pins s σ H _ y v u Q I rx ry ⟨p, xs, i, w, rfl, hb, seqT_mono hs t, h1, same1 hs h2 q⟩ hsub
    | _ => cases (show R.bad = R.ok d from hg)
  | _ => cases a <;> cases (show R.bad = R.ok d from hg)

/-! ### slices -/
def rSlD (K : Fg) : V → Option Int → Option Int → Hp → VK → Prop := fun x lo hi H Q => ∃ G a d, Same G H ∧ RepT K G H a x ∧ slcD a lo hi = .ok d ∧ ∀ w G2 H2, Grow0 G H G2 H2 → Rep K G2 d w → Q w H2
def rSlN (K : Fg) : V → Option Int → Option Int → Hp → VK → Prop := fun x lo hi H Q => ∃ G a l, Same G H ∧ RepT K G H a x ∧ slcN a lo hi = .ok l ∧ NewL K G H l Q
theorem slD : SlR X (rSlD X.K) := by
  intro pins s σ H x v vl vu lo hi sl Q I rx hsl pl pu ⟨G, a, d, hs, ha, hg, q⟩
  cases a with
  | str z =>
    obtain ⟨rfl, hz1, hz2⟩ := ha
    cases (show R.ok (D.str (cutL z lo hi)) = R.ok d from hg)
    refine sl_str pins s σ H _ v vl vu lo hi sl Q I rx hsl pl pu ⟨_, rfl, by rw [strlen, ← bigLine_eq]; exact hz1, ?_⟩
    have e : cutS ⟨z.toArray⟩ lo hi = ⟨(cutL z lo hi).toArray⟩ := by
      unfold cutS cutL
      rw [strlen, cutIx_eq, cutIx_eq]
    rw [e]
    exact same1 hs (rep_str (Nat.le_trans (cutL_len z lo hi) hz1) fun c hc => hz2 c (cutL_sub hc)) q
  | lst l =>
    obtain ⟨p, xs, rfl, t, r⟩ := ha
    cases (show R.ok (D.lst (cutL l lo hi)) = R.ok d from hg)
    exact sl_list pins s σ H _ v vl vu lo hi sl Q I rx hsl pl pu ⟨p, xs, rfl, SqL.of t, fun p' hp => newV hs (reps_cut r lo hi) q hp⟩
  | tup l =>
    obtain ⟨p, xs, rfl, t, r⟩ := ha
    cases (show R.ok (D.tup (cutL l lo hi)) = R.ok d from hg)
    refine sl_tupA pins s σ H _ v vl vu lo hi sl Q I rx hsl pl pu ⟨p, xs, rfl, seqT_mono hs t, fun w => ?_, fun _ p' hp => newT hs (reps_cut r lo hi) q hp⟩
    rw [r.length] at w
    rw [cutL_whole l lo hi w] at q
    exact same1 (d := .tup l) hs ⟨p, xs, rfl, t, r⟩ q
  | scr l =>
    obtain ⟨p, rfl, t⟩ := ha
    cases (show R.ok (D.lst ((cutL l lo hi).map .int)) = R.ok d from hg)
    refine sl_list pins s σ H _ v vl vu lo hi sl Q I rx hsl pl pu ⟨p, _, rfl, hs.seq t, fun p' hp => ?_⟩
    rw [cutV_ints]
    exact newV hs (reps_ints _) q hp
  | _ => cases (show R.bad = R.ok d from hg)
theorem slN : SlR X (rSlN X.K) := by
  intro pins s σ H x v vl vu lo hi sl Q I rx hsl pl pu ⟨G, a, d, hs, ha, hg, q⟩
  cases a with
  | lst l =>
    obtain ⟨p, xs, rfl, t, r⟩ := ha
    cases (show R.ok (cutL l lo hi) = R.ok d from hg)
    exact sl_list pins s σ H _ v vl vu lo hi sl Q I rx hsl pl pu ⟨p, xs, rfl, SqL.of t, fun p' hp => newF hs (reps_cut r lo hi) q hp⟩
  | scr l =>
    obtain ⟨p, rfl, t⟩ := ha
    cases (show R.ok ((cutL l lo hi).map .int) = R.ok d from hg)
    refine sl_list pins s σ H _ v vl vu lo hi sl Q I rx hsl pl pu ⟨p, _, rfl, hs.seq t, fun p' hp => ?_⟩
    rw [cutV_ints]
    exact newF hs (reps_ints _) q hp
  | _ => cases (show R.bad = R.ok d from hg)
def rHi (r : V → Option Int → Option Int → Hp → VK → Prop) : V → V → Hp → VK → Prop := fun x y H Q => ∃ i, y = .int i ∧ r x none (some i) H Q
def rLo (r : V → Option Int → Option Int → Hp → VK → Prop) : V → V → Hp → VK → Prop := fun x y H Q => ∃ i, y = .int i ∧ r x (some i) none H Q
theorem w_hi {K : Fg} : P2W K (rHi (rSlD K)) (P2.run .slcHi) := fun x y d v u G H Q s t t' e k => by
  cases y with
  | int i => exact ⟨i, t', G, x, d, s, t, by cases x <;> exact e, k⟩
  | _ => cases x <;> cases (show R.bad = R.ok d from e)
theorem w_lo {K : Fg} : P2W K (rLo (rSlD K)) (P2.run .slcLo) := fun x y d v u G H Q s t t' e k => by
  cases y with
  | int i => exact ⟨i, t', G, x, d, s, t, by cases x <;> exact e, k⟩
  | _ => cases x <;> cases (show R.bad = R.ok d from e)
theorem bo_int : ∀ x y z d, P3.run .slc x y z = .ok d → (∃ i, y = .int i) ∧ ∃ j, z = .int j := fun x y z d e => by
  cases y with
  | int i =>
    cases z with
    | int j => exact ⟨⟨i, rfl⟩, j, rfl⟩
    | _ => cases x <;> cases (show R.bad = R.ok d from e)
  | _ => cases z <;> cases x <;> cases (show R.bad = R.ok d from e)
theorem w_bo {K : Fg} : ∀ x i j d v G H Q, Same G H → RepT K G H x v → P3.run .slc x (.int i) (.int j) = .ok d → (∀ w G2 H2, Grow0 G H G2 H2 → Rep K G2 d w → Q w H2) → rSlD K v (some i) (some j) H Q :=
  fun x i j d v G H Q s t e k => ⟨G, x, d, s, t, by cases x <;> exact e, k⟩
theorem wn_hi {K : Fg} : Q2W K (rHi (rSlN K)) (Q2.run .slcHi) := fun x y d v u G H Q s t t' e k => by
  cases y with
  | int i => exact ⟨i, t', G, x, d, s, t, by cases x <;> exact e, k⟩
  | _ => cases x <;> cases (show R.bad = R.ok d from e)
theorem wn_lo {K : Fg} : Q2W K (rLo (rSlN K)) (Q2.run .slcLo) := fun x y d v u G H Q s t t' e k => by
  cases y with
  | int i => exact ⟨i, t', G, x, d, s, t, by cases x <;> exact e, k⟩
  | _ => cases x <;> cases (show R.bad = R.ok d from e)
theorem bon_int : ∀ x y z d, Q3.run .slc x y z = .ok d → (∃ i, y = .int i) ∧ ∃ j, z = .int j := fun x y z d e => by
  cases y with
  | int i =>
    cases z with
    | int j => exact ⟨⟨i, rfl⟩, j, rfl⟩
    | _ => cases x <;> cases (show R.bad = R.ok d from e)
  | _ => cases z <;> cases x <;> cases (show R.bad = R.ok d from e)
theorem wn_bo {K : Fg} : ∀ x i j d v G H Q, Same G H → RepT K G H x v → Q3.run .slc x (.int i) (.int j) = .ok d → NewL K G H d Q → rSlN K v (some i) (some j) H Q :=
  fun x i j d v G H Q s t e k => ⟨G, x, d, s, t, by cases x <;> exact e, k⟩

/-! ### [::-1] -/
def tRevD (K : Fg) (te : TE) : TE := fun σ H Q => te σ H fun x H1 => rD1 K (P1.run .rev) x H1 Q
theorem pe_revD {e : Expr} {te : TE} {k : Nat} {p1 p2 p3 pos : Pos} (he : PE X e te) : PE X (.Subscript e (.Slice none none (some (.UnaryOp .USub (.Constant (.int 1) k p1) p2)) p3) pos) (tRevD X.K te) := by
  refine ⟨fun pins s σ H Q I h => ?_⟩
  refine Subscript_ (thn (he.run pins s σ H _ I h) fun v s1 ⟨x, H1, I1, r1, q1⟩ => ?_)
  have hst : PO X (some (.UnaryOp .USub (.Constant (.int 1) k p1) p2)) (tPart (tUn (rU fun i => .int (-i)) (tC (.int 1)))) := po_some (pe_un un_neg pe_int)
  refine wpAny_Slice (thn (po_none.run pins s1 σ H1 (fun o H2 => o = none ∧ H2 = H1) I1 ⟨rfl, rfl⟩) fun vl s2 ⟨l, H2, I2, pl, el, e2⟩ => ?_)
  subst el e2
  refine thn (po_none.run pins s2 σ H2 (fun o H3 => o = none ∧ H3 = H2) I2 ⟨rfl, rfl⟩) fun vu s3 ⟨u, H3, I3, pu, eu, e3⟩ => ?_
  subst eu e3
  refine thn (hst.run pins s3 σ H3 (fun o H4 => o = some (-1) ∧ H4 = H3) I3 ⟨1, rfl, -1, rfl, rfl, rfl⟩) fun vs s4 ⟨o, H4, I4, ps, eo, e4⟩ => ?_
  subst eo e4
  have I5 : Inv X pins σ H4 { s4 with heap := s4.heap.push { cls := .type "slice", data := .fields #[vl, vu, vs] } } := I4.kept (t' := s4.toks) fun b ob q => Heap.get?_push_of_some _ q
  obtain ⟨G, a, d, hs, ha, hg, q⟩ := q1
  cases a with
  | str z =>
    obtain ⟨rfl, hz1, hz2⟩ := ha
    cases (show R.ok (D.str z.reverse) = R.ok d from hg)
    obtain ⟨t, rfl⟩ := r1
    obtain ⟨l', el, el2⟩ := IsPart.raw pl
    obtain ⟨u', eu, eu2⟩ := IsPart.raw pu
    obtain ⟨s', es, es2⟩ := IsPart.raw ps
    have hl0 : l' = none := by cases l' with | none => rfl | some _ => cases el2
    have hu0 : u' = none := by cases u' with | none => rfl | some _ => cases eu2
    obtain ⟨tk, hs0⟩ : ∃ tk, s' = some (-1, tk) := by
      cases s' with
      | none => cases es2
      | some p =>
        obtain ⟨i, tk⟩ := p
        have : i = -1 := by cases es2; rfl
        exact ⟨tk, by rw [this]⟩
    subst hl0 hu0 hs0
    show wpAny (model X.prog X.w) X.A (subscriptTail e (.Slice none none (some (.UnaryOp .USub (.Constant (.int 1) k p1) p2)) p3) (.str ⟨z.toArray⟩ t) (.ref s4.heap.objs.size)) (EP X pins σ Q) X.xe { s4 with heap := s4.heap.push { cls := .type "slice", data := .fields #[vl, vu, vs] } }
    refine tail_any (ops := [.ref s4.heap.objs.size, .str ⟨z.toArray⟩ t]) (typeIs_str _ _ _) F.slot_str_getitem.lookup ?_ (by with_unfolding_all rfl)
    refine wpAny_getItem_str_slice (l := none) (u := none) (st := some (-1, tk)) ⟨_, Heap.get?_push_size _ rfl, rfl, by rw [el, eu, es]⟩ rfl ?_
    show Made.post (if ((-1 : Int) == 1 && (Builtin.Str.strSliceIndices none none (-1) (Str.length ⟨z.toArray⟩)).length == Str.length ⟨z.toArray⟩) = true then Made.val (.str ⟨z.toArray⟩ t)
      else Made.str ⟨((Builtin.Str.strSliceIndices none none (-1) (Str.length ⟨z.toArray⟩)).filterMap (z.toArray[·]?)).toArray⟩) (EP X pins σ Q) _
    rw [if_neg (by simp)]
    have e : (Builtin.Str.strSliceIndices none none (-1) (Str.length ⟨z.toArray⟩)).filterMap (z.toArray[·]?) = z.reverse := by
      rw [strlen, PyProof.Rows.picked_rev, PySem.W.krv_range, List.filterMap_reverse]
      have := PySem.W.krv_all z.toArray
      rw [List.size_toArray] at this
      rw [this]
    rw [e]
    refine ⟨by rw [strlen, List.length_reverse, ← bigLine_eq]; exact hz1, .str ⟨z.reverse.toArray⟩, H4, I5.tok _, ⟨_, rfl⟩, ?_⟩
    exact same1 hs (rep_str (by rw [List.length_reverse]; exact hz1) fun c hc => hz2 c (List.mem_reverse.mp hc)) q
  | lst l =>
    obtain ⟨p, xs, ev, hx, r⟩ := ha
    subst ev
    cases (show R.ok (D.lst l.reverse) = R.ok d from hg)
    cases r1
    obtain ⟨its, rv, ht, hz⟩ := I5.list (SqL.of hx)
    have hlen := rv.length
    show wpAny (model X.prog X.w) X.A (subscriptTail e (.Slice none none (some (.UnaryOp .USub (.Constant (.int 1) k p1) p2)) p3) (.ref p) (.ref s4.heap.objs.size)) (EP X pins σ Q) X.xe { s4 with heap := s4.heap.push { cls := .type "slice", data := .fields #[vl, vu, vs] } }
    refine tail_any (ops := [.ref p, .ref s4.heap.objs.size]) ht.isList.typeIs (PySem.slot_list_getitem.lookup) ?_ (by with_unfolding_all rfl)
    refine wpAny_getItem_list_slice ht.isList (Heap.IsSliceOf.new _ vl vu vs) pl pu ps (by decide) ?_ (by rw [List.size_toArray]; omega)
    rw [PySem.W.krv_pick]
    refine ⟨.ref _, _, I5.laid (t' := s4.toks) (o := .lst xs.reverse) (fun b ob q => Heap.get?_push_of_some _ q) (Nat.le_refl _) ?_, rfl, newV hs r.reverse q (I5.hok.fresh (Nat.le_refl _))⟩
    exact ⟨by rw [List.length_reverse]; exact hz, _, 0, rv.reverse, Heap.get?_push_size _ rfl⟩
  | tup l =>
    obtain ⟨p, xs, ev, hx, r⟩ := ha
    subst ev
    cases (show R.ok (D.tup l.reverse) = R.ok d from hg)
    cases r1
    obtain ⟨its, rv, ht, hz⟩ := I5.tuple (seqT_mono hs hx)
    have hlen := rv.length
    show wpAny (model X.prog X.w) X.A (subscriptTail e (.Slice none none (some (.UnaryOp .USub (.Constant (.int 1) k p1) p2)) p3) (.ref p) (.ref s4.heap.objs.size)) (EP X pins σ Q) X.xe { s4 with heap := s4.heap.push { cls := .type "slice", data := .fields #[vl, vu, vs] } }
    refine tail_any (ops := [.ref p, .ref s4.heap.objs.size]) ht.typeIs (PyProof.Rows.slot_tuple_getitem.lookup) ?_ (by with_unfolding_all rfl)
    refine getItem_tuple_rev ht (Heap.IsSliceOf.new _ vl vu vs) pl pu ps ?_ (by rw [List.size_toArray]; omega)
    refine ⟨.ref _, _, I5.laid (t' := s4.toks) (o := .tup xs.reverse) (fun b ob q => Heap.get?_push_of_some _ q) (Nat.le_refl _) ?_, rfl, newT hs r.reverse q (I5.hok.fresh (Nat.le_refl _))⟩
    exact ⟨by rw [List.length_reverse]; exact hz, _, rv.reverse, IsTup.new _ _⟩
  | _ => cases (show R.bad = R.ok d from hg)
theorem tHd_mono {K : Fg} {m : M Hd} {σ : L2.St} {H : Hp} {Q Q' : VK} (h : tHd K m σ H Q) (i : ∀ v H, Q v H → Q' v H) : tHd K m σ H Q' := by
  obtain ⟨B, G, e, S, d, e', he, k⟩ := h
  exact ⟨B, G, e, S, d, e', he, fun v G' H' S' s q => i _ _ (k v G' H' S' s q)⟩
theorem pe_revN {e : Expr} {m : M Hd} {k : Nat} {p1 p2 p3 pos : Pos} (he : PE X e (tHd X.K m)) : PE X (.Subscript e (.Slice none none (some (.UnaryOp .USub (.Constant (.int 1) k p1) p2)) p3) pos) (fun σ H Q => tHd X.K m σ H fun x H1 => rN1 X.K (Q1.run .rev) x H1 Q) :=
  PEimp (pe_revL he) fun σ H Q h => tHd_mono h fun v H1 ⟨G, a, l, hs, ha, hg, q⟩ => by
    cases a with
    | lst l0 =>
      obtain ⟨p, ys, rfl, t, rr⟩ := ha
      cases (show R.ok l0.reverse = R.ok l from hg)
      exact ⟨p, ys, rfl, SqL.of t, fun p' hp => newF hs rr.reverse q hp⟩
    | _ => cases (show R.bad = R.ok l from hg)

/-! ### functions of one value -/
def c1 (r : V → Hp → VK → Prop) : List V → Hp → VK → Prop := fun xs H Q => ∃ x, xs = [x] ∧ r x H Q
def c2 (r : V → V → Hp → VK → Prop) : List V → Hp → VK → Prop := fun xs H Q => ∃ x y, xs = [x, y] ∧ r x y H Q
def c3 (r : V → V → V → Hp → VK → Prop) : List V → Hp → VK → Prop := fun xs H Q => ∃ x y z, xs = [x, y, z] ∧ r x y z H Q
theorem crD_len : CallR X (.builtin "len") (c1 (rD1 X.K (P1.run .len))) := by
  intro pins s σ H xs us Q I r ⟨x, ex, G, a, d, hs, ha, hg, q⟩
  subst ex
  have fin : ∀ n : Nat, R.ok (D.int n) = R.ok d → LenV X.K x H n → wpAny (model X.prog X.w) X.A (PySem.call (.builtin "len") us) (EP X pins σ Q) X.xe s := fun n e hl => by
    cases e
    exact call_len pins s σ H [x] us Q I r ⟨x, n, rfl, hl, same1 hs (show Rep X.K G (.int n) _ from rfl) q⟩
  cases a with
  | str z =>
    obtain ⟨rfl, hz1, hz2⟩ := ha
    exact fin z.length hg ⟨by rw [strlen, ← bigLine_eq]; exact hz1, (strlen z).symm⟩
  | lst l =>
    obtain ⟨p, ys, rfl, t, rr⟩ := ha
    exact fin l.length hg (.inl ⟨ys, SqL.of t, rr.length.symm⟩)
  | tup l =>
    obtain ⟨p, ys, rfl, t, rr⟩ := ha
    exact fin l.length hg (.inr ⟨ys, seqT_mono hs t, rr.length.symm⟩)
  | dic ks vs => exact ha.elim
  | _ => cases (show R.bad = R.ok d from hg)
theorem crD_int : CallR X (.type "int") (c1 (rD1 X.K (P1.run .int))) := by
  intro pins s σ H xs us Q I r ⟨x, ex, G, a, d, hs, ha, hg, q⟩
  subst ex
  cases a with
  | int i =>
    cases (show R.ok (D.int i) = R.ok d from hg)
    exact call_int1 pins s σ H [x] us Q I r (.inl ⟨i, by rw [show x = V.int i from ha], same1 hs (show Rep X.K G (.int i) _ from rfl) q⟩)
  | bl b =>
    cases (show R.ok (D.int (b2i b)) = R.ok d from hg)
    exact call_int1 pins s σ H [x] us Q I r (.inr ⟨b, by rw [show x = V.bl b from ha], same1 hs (show Rep X.K G (.int (b2i b)) _ from rfl) q⟩)
  | _ => cases (show R.bad = R.ok d from hg)
theorem crD_abs : CallR X (.builtin "abs") (c1 (rD1 X.K (P1.run .abs))) := by
  intro pins s σ H xs us Q I r ⟨x, ex, G, a, d, hs, ha, hg, q⟩
  subst ex
  cases a with
  | int i =>
    cases (show R.ok (D.int (if i < 0 then -i else i)) = R.ok d from hg)
    exact call_abs pins s σ H [x] us Q I r ⟨i, by rw [show x = V.int i from ha], same1 hs (show Rep X.K G (.int (if i < 0 then -i else i)) _ from rfl) q⟩
  | _ => cases (show R.bad = R.ok d from hg)
theorem bools_of {K : Fg} {G : Hp} : ∀ {l : List D} {bs : List Bool} {xs : List V}, boolsD l = .ok bs → Reps K G l xs → xs = bs.map V.bl
  | [], bs, xs, h, r => by
    cases (show R.ok [] = R.ok bs from h)
    exact r
  | .bl b :: l, bs, xs, h, r => by
    obtain ⟨z, h1, h2⟩ := rbind_ok (show R.bind (boolsD l) (fun z => R.ok (b :: z)) = R.ok bs from h)
    cases h2
    obtain ⟨x, xs', rfl, rb, rr⟩ := r
    rw [List.map_cons, ← bools_of h1 rr, show x = V.bl b from rb]
  | .non :: _, bs, _, h, _ => by cases (show R.bad = R.ok bs from h)
  | .int _ :: _, bs, _, h, _ => by cases (show R.bad = R.ok bs from h)
  | .str _ :: _, bs, _, h, _ => by cases (show R.bad = R.ok bs from h)
  | .tup _ :: _, bs, _, h, _ => by cases (show R.bad = R.ok bs from h)
  | .lst _ :: _, bs, _, h, _ => by cases (show R.bad = R.ok bs from h)
  | .dic _ _ :: _, bs, _, h, _ => by cases (show R.bad = R.ok bs from h)
  | .scr _ :: _, bs, _, h, _ => by cases (show R.bad = R.ok bs from h)
theorem crD_all (hc : X.calm = true) : CallR X (.builtin "all") (c1 (rD1 X.K (P1.run .all))) := by
  intro pins s σ H xs us Q I r ⟨x, ex, G, a, d, hs, ha, hg, q⟩
  subst ex
  cases a with
  | lst l =>
    obtain ⟨p, ys, rfl, t, rr⟩ := ha
    obtain ⟨bs, h1, h2⟩ := rbind_ok (show R.bind (boolsD l) (fun bs => R.ok (D.bl (bs.all id))) = R.ok d from hg)
    cases h2
    exact cr_all hc pins s σ H _ us Q I r ⟨p, bs, rfl, by rw [← bools_of h1 rr]; exact SqL.of t, same1 hs (show Rep X.K G (.bl (bs.all id)) _ from rfl) q⟩
  | _ => cases (show R.bad = R.ok d from hg)
theorem crD_any (hc : X.calm = true) : CallR X (.builtin "any") (c1 (rD1 X.K (P1.run .any))) := by
  intro pins s σ H xs us Q I r ⟨x, ex, G, a, d, hs, ha, hg, q⟩
  subst ex
  cases a with
  | lst l =>
    obtain ⟨p, ys, rfl, t, rr⟩ := ha
    obtain ⟨bs, h1, h2⟩ := rbind_ok (show R.bind (boolsD l) (fun bs => R.ok (D.bl (bs.any id))) = R.ok d from hg)
    cases h2
    exact cr_any hc pins s σ H _ us Q I r ⟨p, bs, rfl, by rw [← bools_of h1 rr]; exact SqL.of t, same1 hs (show Rep X.K G (.bl (bs.any id)) _ from rfl) q⟩
  | _ => cases (show R.bad = R.ok d from hg)
theorem sum_of {K : Fg} {G : Hp} : ∀ {l : List D} {a z : Int} {xs : List V}, sumD l a = .ok z → Reps K G l xs → ∃ ns : List Int, xs = ns.map V.int ∧ z = a + ns.sum
  | [], a, z, xs, h, r => by
    cases (show R.ok a = R.ok z from h)
    exact ⟨[], r, by simp⟩
  | .int i :: l, a, z, xs, h, r => by
    obtain ⟨x, xs', rfl, rb, rr⟩ := r
    obtain ⟨ns, e1, e2⟩ := sum_of (a := a + i) (show sumD l (a + i) = R.ok z from h) rr
    exact ⟨i :: ns, by rw [List.map_cons, ← e1, show x = V.int i from rb], by rw [e2, List.sum_cons, Int.add_assoc]⟩
  | .non :: _, _, z, _, h, _ => by cases (show R.bad = R.ok z from h)
  | .bl _ :: _, _, z, _, h, _ => by cases (show R.bad = R.ok z from h)
  | .str _ :: _, _, z, _, h, _ => by cases (show R.bad = R.ok z from h)
  | .tup _ :: _, _, z, _, h, _ => by cases (show R.bad = R.ok z from h)
  | .lst _ :: _, _, z, _, h, _ => by cases (show R.bad = R.ok z from h)
  | .dic _ _ :: _, _, z, _, h, _ => by cases (show R.bad = R.ok z from h)
  | .scr _ :: _, _, z, _, h, _ => by cases (show R.bad = R.ok z from h)
theorem crD_sum (hc : X.calm = true) : CallR X (.builtin "sum") (c1 (rD1 X.K (P1.run .sum))) := by
  intro pins s σ H xs us Q I r ⟨x, ex, G, a, d, hs, ha, hg, q⟩
  subst ex
  cases a with
  | lst l =>
    obtain ⟨p, ys, rfl, t, rr⟩ := ha
    obtain ⟨z, h1, h2⟩ := rbind_ok (show R.bind (sumD l 0) (fun z => R.ok (D.int z)) = R.ok d from hg)
    cases h2
    obtain ⟨ns, e1, e2⟩ := sum_of h1 rr
    exact cr_sum hc pins s σ H _ us Q I r ⟨p, ns, rfl, by rw [← e1]; exact SqL.of t, same1 hs (show Rep X.K G (.int z) _ from by rw [e2, Int.zero_add]; rfl) q⟩
  | _ => cases (show R.bad = R.ok d from hg)
theorem ints_of {K : Fg} {G : Hp} : ∀ {l : List D} {z : List Int} {xs : List V}, intsD l = .ok z → Reps K G l xs → xs = z.map V.int
  | [], z, xs, h, r => by
    cases (show R.ok [] = R.ok z from h)
    exact r
  | .int i :: l, z, xs, h, r => by
    obtain ⟨y, h1, h2⟩ := rbind_ok (show R.bind (intsD l) (fun z => R.ok (i :: z)) = R.ok z from h)
    cases h2
    obtain ⟨x, xs', rfl, rb, rr⟩ := r
    rw [List.map_cons, ← ints_of h1 rr, show x = V.int i from rb]
  | .non :: _, z, _, h, _ => by cases (show R.bad = R.ok z from h)
  | .bl _ :: _, z, _, h, _ => by cases (show R.bad = R.ok z from h)
  | .str _ :: _, z, _, h, _ => by cases (show R.bad = R.ok z from h)
  | .tup _ :: _, z, _, h, _ => by cases (show R.bad = R.ok z from h)
  | .lst _ :: _, z, _, h, _ => by cases (show R.bad = R.ok z from h)
  | .dic _ _ :: _, z, _, h, _ => by cases (show R.bad = R.ok z from h)
  | .scr _ :: _, z, _, h, _ => by cases (show R.bad = R.ok z from h)
theorem leastI_spec : ∀ (r : List Int) (x : Int), r.foldl (fun b y => if y < b then y else b) x ∈ x :: r ∧ ∀ y ∈ x :: r, r.foldl (fun b y => if y < b then y else b) x ≤ y
  | [], x => ⟨List.mem_cons_self, fun y hy => by rw [List.mem_singleton.mp hy]; exact Int.le_refl _⟩
  | z :: r, x => by
    rw [List.foldl_cons]
    obtain ⟨h1, h2⟩ := leastI_spec r (if z < x then z else x)
    refine ⟨?_, fun y hy => ?_⟩
    · rcases List.mem_cons.mp h1 with e | e
      · rw [e]
        split
        · exact List.mem_cons_of_mem _ List.mem_cons_self
        · exact List.mem_cons_self
      · exact List.mem_cons_of_mem _ (List.mem_cons_of_mem _ e)
    · have h3 := h2 _ List.mem_cons_self
      rcases List.mem_cons.mp hy with e | e
      · rw [e]
        refine Int.le_trans h3 ?_
        split <;> omega
      · rcases List.mem_cons.mp e with e | e
        · rw [e]
          refine Int.le_trans h3 ?_
          split <;> omega
        · exact h2 y (List.mem_cons_of_mem _ e)
theorem mostI_spec : ∀ (r : List Int) (x : Int), r.foldl (fun b y => if b < y then y else b) x ∈ x :: r ∧ ∀ y ∈ x :: r, y ≤ r.foldl (fun b y => if b < y then y else b) x
  | [], x => ⟨List.mem_cons_self, fun y hy => by rw [List.mem_singleton.mp hy]; exact Int.le_refl _⟩
  | z :: r, x => by
    rw [List.foldl_cons]
    obtain ⟨h1, h2⟩ := mostI_spec r (if x < z then z else x)
    refine ⟨?_, fun y hy => ?_⟩
    · rcases List.mem_cons.mp h1 with e | e
      · rw [e]
        split
        · exact List.mem_cons_of_mem _ List.mem_cons_self
        · exact List.mem_cons_self
      · exact List.mem_cons_of_mem _ (List.mem_cons_of_mem _ e)
    · have h3 := h2 _ List.mem_cons_self
      rcases List.mem_cons.mp hy with e | e
      · rw [e]
        refine Int.le_trans ?_ h3
        split <;> omega
      · rcases List.mem_cons.mp e with e | e
        · rw [e]
          refine Int.le_trans ?_ h3
          split <;> omega
        · exact h2 y (List.mem_cons_of_mem _ e)
theorem crD_min (hc : X.calm = true) : CallR X (.builtin "min") (c1 (rD1 X.K (P1.run .min))) := by
  intro pins s σ H xs us Q I r ⟨x, ex, G, a, d, hs, ha, hg, q⟩
  subst ex
  cases a with
  | lst l =>
    obtain ⟨p, ys, rfl, t, rr⟩ := ha
    obtain ⟨z, h1, h2⟩ := rbind_ok (show R.bind (intsD l) leastI = R.ok d from hg)
    have e1 := ints_of h1 rr
    cases z with
    | nil => cases (show R.bad = R.ok d from h2)
    | cons x0 r0 =>
      cases (show R.ok (D.int (r0.foldl (fun b y => if y < b then y else b) x0)) = R.ok d from h2)
      obtain ⟨m1, m2⟩ := leastI_spec r0 x0
      refine cr_min hc pins s σ H _ us Q I r ⟨p, x0 :: r0, rfl, by rw [← e1]; exact SqL.of t, Nat.zero_lt_succ _, fun m hm hle => ?_⟩
      have e2 : m = r0.foldl (fun b y => if y < b then y else b) x0 := Int.le_antisymm (hle _ m1) (m2 _ hm)
      rw [e2]
      exact same1 hs (show Rep X.K G (.int _) _ from rfl) q
  | _ => cases (show R.bad = R.ok d from hg)
theorem crD_max (hc : X.calm = true) : CallR X (.builtin "max") (c1 (rD1 X.K (P1.run .max))) := by
  intro pins s σ H xs us Q I r ⟨x, ex, G, a, d, hs, ha, hg, q⟩
  subst ex
  cases a with
  | lst l =>
    obtain ⟨p, ys, rfl, t, rr⟩ := ha
    obtain ⟨z, h1, h2⟩ := rbind_ok (show R.bind (intsD l) mostI = R.ok d from hg)
    have e1 := ints_of h1 rr
    cases z with
    | nil => cases (show R.bad = R.ok d from h2)
    | cons x0 r0 =>
      cases (show R.ok (D.int (r0.foldl (fun b y => if b < y then y else b) x0)) = R.ok d from h2)
      obtain ⟨m1, m2⟩ := mostI_spec r0 x0
      refine cr_max hc pins s σ H _ us Q I r ⟨p, x0 :: r0, rfl, by rw [← e1]; exact SqL.of t, Nat.zero_lt_succ _, fun m hm hle => ?_⟩
      have e2 : m = r0.foldl (fun b y => if b < y then y else b) x0 := Int.le_antisymm (m2 _ hm) (hle _ m1)
      rw [e2]
      exact same1 hs (show Rep X.K G (.int _) _ from rfl) q
  | _ => cases (show R.bad = R.ok d from hg)
theorem crD_min2 (hc : X.calm = true) : CallR X (.builtin "min") (c2 (rD2 X.K (P2.run .min2))) := by
  intro pins s σ H xs us Q I r ⟨x, y, ex, G, a, b, d, hs, ha, hb, hg, q⟩
  subst ex
  cases a <;> cases b <;> (try (have z : R.bad = R.ok d := hg; cases z))
  rename_i i j
  cases (show R.ok (D.int (if j < i then j else i)) = R.ok d from hg)
  exact call_min2 hc pins s σ H _ us Q I r ⟨i, j, by rw [show x = V.int i from ha, show y = V.int j from hb], same1 hs (show Rep X.K G (.int (if j < i then j else i)) _ from rfl) q⟩
theorem crD_max2 (hc : X.calm = true) : CallR X (.builtin "max") (c2 (rD2 X.K (P2.run .max2))) := by
  intro pins s σ H xs us Q I r ⟨x, y, ex, G, a, b, d, hs, ha, hb, hg, q⟩
  subst ex
  cases a <;> cases b <;> (try (have z : R.bad = R.ok d := hg; cases z))
  rename_i i j
  cases (show R.ok (D.int (if j > i then j else i)) = R.ok d from hg)
  exact call_max2 hc pins s σ H _ us Q I r ⟨i, j, by rw [show x = V.int i from ha, show y = V.int j from hb], same1 hs (show Rep X.K G (.int (if j > i then j else i)) _ from rfl) q⟩
theorem crD_tuple (hc : X.calm = true) : CallR X (.type "tuple") (c1 (rD1 X.K (P1.run .tuple))) := by
  intro pins s σ H xs us Q I r ⟨x, ex, G, a, d, hs, ha, hg, q⟩
  subst ex
  cases a with
  | lst l =>
    obtain ⟨p, ys, rfl, t, rr⟩ := ha
    cases (show R.ok (D.tup l) = R.ok d from hg)
    exact call_tuple_of pins s σ H _ us Q I r ⟨p, ys, rfl, .inl ⟨SqL.of t, fun p' hp => newT hs rr q hp⟩⟩
  | tup l =>
    obtain ⟨p, ys, rfl, t, rr⟩ := ha
    cases (show R.ok (D.tup l) = R.ok d from hg)
    exact call_tuple_of pins s σ H _ us Q I r ⟨p, ys, rfl, .inr ⟨seqT_mono hs t, same1 (d := .tup l) hs ⟨p, ys, rfl, t, rr⟩ q⟩⟩
  | _ => cases (show R.bad = R.ok d from hg)
end
end En

/-! En7: types, None, signs of numbers, lists of texts, texts put together. -/
namespace En
open PySem PySem.Spec PyProof.Rows L2

/-! ### isinstance -/
def Ty.nm : Ty → String
  | .int => "int"
  | .str => "str"
  | .bool => "bool"
  | .list => "list"
  | .tuple => "tuple"
def D.tyn : D → String
  | .non => "NoneType"
  | .bl _ => "bool"
  | .int _ => "int"
  | .str _ => "str"
  | .tup _ => "tuple"
  | .lst _ => "list"
  | .dic _ _ => "dict"
  | .scr _ => "list"
theorem kit_has (t : Ty) : ∀ d : D, (∀ l, d ≠ .scr l) → (∀ k v, d ≠ .dic k v) → kitB d.tyn t.nm = some (t.has d)
  | .non, _, _ => by cases t <;> decide
  | .bl _, _, _ => by cases t <;> simp only [D.tyn, Ty.nm, Ty.has] <;> decide
  | .int _, _, _ => by cases t <;> simp only [D.tyn, Ty.nm, Ty.has] <;> decide
  | .str _, _, _ => by cases t <;> simp only [D.tyn, Ty.nm, Ty.has] <;> decide
  | .tup _, _, _ => by cases t <;> simp only [D.tyn, Ty.nm, Ty.has] <;> decide
  | .lst _, _, _ => by cases t <;> simp only [D.tyn, Ty.nm, Ty.has] <;> decide
  | .dic k v, _, h => (h k v rfl).elim
  | .scr l, h, _ => (h l rfl).elim
theorem tyx_of {K : Fg} {G H : Hp} (hs : Same G H) : ∀ {d : D} {v : V}, (∀ l, d ≠ .scr l) → RepT K G H d v → TyX K H v (.type d.tyn)
  | .non, v, _, h => by rw [show v = .non from h]; exact .base .non
  | .bl b, v, _, h => by rw [show v = .bl b from h]; exact .base (.bl b)
  | .int i, v, _, h => by rw [show v = .int i from h]; exact .base (.int i)
  | .str s, v, _, h => by rw [h.1]; exact .base (.str _)
  | .tup l, v, _, h => by
    obtain ⟨a, xs, rfl, t, _⟩ := h
    rcases seqT_mono hs t with (t | ⟨o, t⟩) | ⟨o, its, n, t1, t2, _⟩
    · exact .base (.tup t)
    · exact .fTuple t
    · exact .kTuple t1 t2
  | .lst l, v, _, h => by
    obtain ⟨a, xs, rfl, t, _⟩ := h
    exact .base (.lst t)
  | .dic _ _, v, _, h => h.elim
  | .scr l, v, n, _ => (n l rfl).elim
def tysV (ts : List Ty) : List V := ts.map fun t => .ty t.nm
theorem tys_cls : ∀ ts : List Ty, Paired ClsV (tysV ts) (ts.map fun t => Value.type t.nm)
  | [] => .nil
  | t :: ts => .cons (.ty _) (tys_cls ts)
theorem kit_any {K : Fg} {d : D} (n1 : ∀ l, d ≠ .scr l) (n2 : ∀ k v, d ≠ .dic k v) : ∀ ts : List Ty, PySem.W.kitAny K (.type d.tyn) (ts.map fun t => Value.type t.nm) = some (ts.any fun t => t.has d)
  | [] => kitAny_nil
  | t :: ts => by
    rw [List.map_cons, List.any_cons]
    exact kitAny_cons (kit_ty (kit_has t d n1 n2)) (fun e => by rw [e, Bool.false_or]; exact kit_any n1 n2 ts) fun e => by rw [e, Bool.true_or]
theorem isiOk_scr {d : D} (h : d.isiOk = true) : ∀ l, d ≠ .scr l := fun l e => by subst e; cases h
theorem isiOk_dic {d : D} (h : d.isiOk = true) : ∀ k v, d ≠ .dic k v := fun k v e => by subst e; cases h

section
variable {X : Cx}
theorem isi_run {ts : List Ty} {a d : D} (h : (P1.isi ts).run a = .ok d) : a.isiOk = true ∧ d = .bl (ts.any fun t => t.has a) := by
  have h' : (if a.isiOk then R.ok (D.bl (ts.any fun t => t.has a)) else R.bad) = R.ok d := h
  split at h'
  · rename_i w
    cases h'
    exact ⟨w, rfl⟩
  · cases h'
theorem crD_isi1 (t : Ty) : CallR X (.builtin "isinstance") (fun xs H Q => ∃ x, xs = [x, .ty t.nm] ∧ rD1 X.K (P1.run (.isi [t])) x H Q) := by
  intro pins s σ H xs us Q I r ⟨x, ex, G, a, d, hs, ha, hg, q⟩
  subst ex
  obtain ⟨h1, rfl⟩ := isi_run hg
  refine call_isi pins s σ H _ us Q I r ⟨x, _, _, _, _, rfl, .ty _, tyx_of hs (isiOk_scr h1) ha, kit_ty (kit_has t a (isiOk_scr h1) (isiOk_dic h1)), ?_⟩
  have e : ([t].any fun t => t.has a) = t.has a := by simp
  rw [e] at q
  exact same1 (d := .bl (t.has a)) hs rfl q
theorem crD_isiT (ts : List Ty) : CallR X (.builtin "isinstance") (fun xs H Q => ∃ x p, xs = [x, .ref p] ∧ H p = some (.tup (tysV ts)) ∧ rD1 X.K (P1.run (.isi ts)) x H Q) := by
  intro pins s σ H xs us Q I r ⟨x, p, ex, hp, G, a, d, hs, ha, hg, q⟩
  subst ex
  obtain ⟨h1, rfl⟩ := isi_run hg
  exact call_isiT pins s σ H _ us Q I r ⟨x, p, _, _, _, _, rfl, hp, tys_cls ts, tyx_of hs (isiOk_scr h1) ha, kit_any (isiOk_scr h1) (isiOk_dic h1) ts, same1 (d := .bl _) hs rfl q⟩

/-! ### None, minus -/
theorem repT_non {K : Fg} {G H : Hp} : ∀ {d : D} {v : V}, RepT K G H d v → decide (v = .non) = (match d with | .non => true | _ => false)
  | .non, v, h => by rw [show v = .non from h]; rfl
  | .bl b, v, h => by rw [show v = .bl b from h]; rfl
  | .int i, v, h => by rw [show v = .int i from h]; rfl
  | .str s, v, h => by rw [h.1]; rfl
  | .tup l, v, h => by obtain ⟨a, xs, rfl, _⟩ := h; rfl
  | .lst l, v, h => by obtain ⟨a, xs, rfl, _⟩ := h; rfl
  | .dic _ _, _, h => h.elim
  | .scr l, v, h => by obtain ⟨a, rfl, _⟩ := h; rfl
theorem opD_isN : OpR X (compareOp .Is) (fun x y H Q => y = .non ∧ rD1 X.K (P1.run .isN) x H Q) := by
  intro pins s σ H x y v u Q I rx ry ⟨ey, G, a, d, hs, ha, hg, q⟩
  cases (show R.ok (D.bl _) = R.ok d from hg)
  refine op_isN pins s σ H x y v u Q I rx ry ⟨ey, ?_⟩
  rw [repT_non ha]
  exact same1 (d := .bl _) hs rfl q
theorem opD_notN : OpR X (compareOp .IsNot) (fun x y H Q => y = .non ∧ rD1 X.K (P1.run .notN) x H Q) := by
  intro pins s σ H x y v u Q I rx ry ⟨ey, G, a, d, hs, ha, hg, q⟩
  cases (show R.ok (D.bl _) = R.ok d from hg)
  refine op_notN pins s σ H x y v u Q I rx ry ⟨ey, ?_⟩
  rw [repT_non ha]
  refine same1 (d := .bl _) hs ?_ q
  cases a <;> rfl
theorem unD_neg : UnR X (unaryOp .USub) (rD1 X.K (P1.run .neg)) := by
  intro pins s σ H x u Q I rx ⟨G, a, d, hs, ha, hg, q⟩
  cases a with
  | int i =>
    cases (show R.ok (D.int (-i)) = R.ok d from hg)
    exact un_neg pins s σ H x u Q I rx ⟨i, ha, same1 (d := .int (-i)) hs rfl q⟩
  | _ => cases (show R.bad = R.ok d from hg)

/-! ### list -/
theorem signs_of {P : Heap} (l : List Nat) : ∀ (k : Nat) (acc : List Value), (∀ (j : Nat) (v : Value), acc[j]? = some v → SignAt ⟨(l).toArray⟩ (k + j) v) → acc.length + k = l.length → Vals ((l.drop k).map fun c => V.str ⟨#[c]⟩) acc := by
  intro k acc
  induction acc generalizing k with
  | nil =>
    intro _ h
    rw [List.length_nil, Nat.zero_add] at h
    rw [h, List.drop_length]
    exact .nil
  | cons v acc ih =>
    intro h e
    rw [List.length_cons] at e
    obtain ⟨c, u, h1, h2⟩ := h 0 v rfl
    have hk : k < l.length := by omega
    have hc : l[k] = c := by
      have h1' : l[k]? = some c := by simpa using h1
      rw [List.getElem?_eq_getElem hk] at h1'
      exact Option.some.inj h1'
    rw [List.drop_eq_getElem_cons hk, List.map_cons, hc]
    refine .cons ⟨u, h2⟩ (ih (k + 1) (fun j w q => ?_) (by omega))
    have := h (j + 1) w (by simpa using q)
    rw [show k + 1 + j = k + (j + 1) by omega]
    exact this
theorem crD_list (hh : X.A.handled = none) : CallR X (.type "list") (c1 (rN1 X.K (Q1.run .list))) := by
  intro pins s σ H xs us Q I r ⟨x, ex, G, a, l, hs, ha, hg, q⟩
  subst ex
  cases a with
  | lst m =>
    obtain ⟨p, ys, rfl, t, rr⟩ := ha
    cases (show R.ok m = R.ok l from hg)
    exact call_list_of pins s σ H _ us Q I r ⟨p, ys, rfl, .inl (SqL.of t), fun p' hp => newF hs rr q hp⟩
  | tup m =>
    obtain ⟨p, ys, rfl, t, rr⟩ := ha
    cases (show R.ok m = R.ok l from hg)
    exact call_list_of pins s σ H _ us Q I r ⟨p, ys, rfl, .inr (seqT_mono hs t), fun p' hp => newF hs rr q hp⟩
  | str z =>
    obtain ⟨rfl, hz1, hz2⟩ := ha
    cases (show R.ok (z.map fun c => D.str [c]) = R.ok l from hg)
    obtain ⟨u, rfl, ⟨t, rfl⟩⟩ := Vals.one r
    refine call_list_str hh _ _ (fun h' tk acc c hk hn hi => ?_) (by show z.toArray.size ≤ _; rw [List.size_toArray, ← bigLine_eq]; exact hz1)
    have hv : Vals (z.map fun c => V.str ⟨#[c]⟩) acc.toList := by
      have := signs_of (P := h') z 0 acc.toList (fun j v q => by
        rw [Nat.zero_add]
        exact hi.2 j v (by simpa using q)) (by
        rw [Nat.add_zero]
        have := hi.1
        simpa using this)
      simpa using this
    refine ⟨.ref _, _, I.laid (t' := tk) (o := .lst (z.map fun c => V.str ⟨#[c]⟩)) hk (Nat.le_refl _) ?_, rfl, newF hs (Reps.signs hz2) q (I.hok.fresh (Nat.le_refl _))⟩
    exact ⟨by rw [List.length_map, ← bigLine_eq]; exact hz1, acc.toList, c, hv, by rw [Array.toArray_toList]; exact hn⟩
  | dic _ _ => exact ha.elim
  | _ => cases (show R.bad = R.ok l from hg)

/-! ### join -/
theorem texts_of {K : Fg} {G : Hp} : ∀ {l : List D} {ys : List (List Nat)} {xs : List V}, textsD l = .ok ys → Reps K G l xs → xs = (ys.map fun y => (⟨y.toArray⟩ : Str)).map V.str ∧ ∀ y ∈ ys, ∀ c ∈ y, c < 0x110000
  | [], ys, xs, h, r => by
    cases (show R.ok [] = R.ok ys from h)
    exact ⟨r, fun y hy => by cases hy⟩
  | .str b :: l, ys, xs, h, r => by
    obtain ⟨z, h1, h2⟩ := rbind_ok (show R.bind (textsD l) (fun z => R.ok (b :: z)) = R.ok ys from h)
    cases h2
    obtain ⟨x, xs', rfl, rb, rr⟩ := r
    obtain ⟨h3, h4⟩ := texts_of h1 rr
    refine ⟨by rw [List.map_cons, List.map_cons, ← h3, rb.1], fun y hy => ?_⟩
    rcases List.mem_cons.mp hy with e | e
    · subst e; exact rb.2.2
    · exact h4 y e
  | .non :: _, ys, _, h, _ => by cases (show R.bad = R.ok ys from h)
  | .bl _ :: _, ys, _, h, _ => by cases (show R.bad = R.ok ys from h)
  | .int _ :: _, ys, _, h, _ => by cases (show R.bad = R.ok ys from h)
  | .tup _ :: _, ys, _, h, _ => by cases (show R.bad = R.ok ys from h)
  | .lst _ :: _, ys, _, h, _ => by cases (show R.bad = R.ok ys from h)
  | .dic _ _ :: _, ys, _, h, _ => by cases (show R.bad = R.ok ys from h)
  | .scr _ :: _, ys, _, h, _ => by cases (show R.bad = R.ok ys from h)
theorem sumLen_eq : ∀ ys : List (List Nat), (((ys.map fun y => (⟨y.toArray⟩ : Str))).map (·.length)).sum = sumLen ys
  | [] => rfl
  | y :: ys => by
    rw [List.map_cons, List.map_cons, List.sum_cons, sumLen_eq ys, strlen]
    rfl
theorem glued_eq (sep : List Nat) : ∀ (r : List (List Nat)) (a x : List Nat), List.foldl (fun acc (p : Str) => acc ++ (⟨sep.toArray⟩ : Str).cps ++ p.cps) (a ++ x).toArray (r.map fun y => (⟨y.toArray⟩ : Str)) = (a ++ joinL sep (x :: r)).toArray
  | [], a, x => rfl
  | y :: r, a, x => by
    rw [List.map_cons, List.foldl_cons]
    have e : (a ++ x).toArray ++ (⟨sep.toArray⟩ : Str).cps ++ (⟨y.toArray⟩ : Str).cps = ((a ++ x ++ sep) ++ y).toArray := by simp
    rw [e, glued_eq sep r (a ++ x ++ sep) y]
    show _ = (a ++ (x ++ (sep ++ joinL sep (y :: r)))).toArray
    simp only [List.append_assoc]
theorem join_eq (sep : List Nat) : ∀ ys : List (List Nat), Txt.join ⟨sep.toArray⟩ (ys.map fun y => (⟨y.toArray⟩ : Str)) = ⟨(joinL sep ys).toArray⟩
  | [] => rfl
  | x :: r => by
    have := glued_eq sep r [] x
    rw [List.nil_append, List.nil_append] at this
    show Str.mk (List.foldl (fun acc (p : Str) => acc ++ (⟨sep.toArray⟩ : Str).cps ++ p.cps) x.toArray (r.map fun y => (⟨y.toArray⟩ : Str))) = _
    rw [this]
theorem join_sub (sep : List Nat) : ∀ (ys : List (List Nat)), (∀ c ∈ sep, c < 0x110000) → (∀ y ∈ ys, ∀ c ∈ y, c < 0x110000) → ∀ c ∈ joinL sep ys, c < 0x110000
  | [], _, _, c, h => by cases h
  | [x], _, h, c, hc => h x List.mem_cons_self c hc
  | x :: y :: r, hs, h, c, hc => by
    rcases List.mem_append.mp (show c ∈ x ++ (sep ++ joinL sep (y :: r)) from hc) with e | e
    · exact h x List.mem_cons_self c e
    · rcases List.mem_append.mp e with e | e
      · exact hs c e
      · exact join_sub sep (y :: r) hs (fun z hz => h z (List.mem_cons_of_mem _ hz)) c e
theorem join_len (sep : List Nat) : ∀ ys : List (List Nat), (joinL sep ys).length ≤ sumLen ys + ys.length * sep.length
  | [] => Nat.zero_le _
  | [x] => by show x.length ≤ x.length + 0 + _; omega
  | x :: y :: r => by
    have := join_len sep (y :: r)
    show (x ++ (sep ++ joinL sep (y :: r))).length ≤ (x.length + sumLen (y :: r)) + ((y :: r).length + 1) * sep.length
    rw [List.length_append, List.length_append, Nat.add_mul, Nat.one_mul]
    omega
theorem mt_joinD : MtR X "str.join" (fun x xs H Q => ∃ y, xs = [y] ∧ rD2 X.K (P2.run .join) x y H Q) := by
  intro pins s σ H x xs v us Q I rx rxs ⟨y, ex, G, a, b, d, hs, ha, hb, hg, q⟩
  subst ex
  cases a with
  | str sep =>
    obtain ⟨rfl, hz1, hz2⟩ := ha
    have fin : ∀ (l : List D) (p : Addr) (ws : List V), y = .ref p → (SqL X.K H p ws ∨ SqT X.K H p ws) → Reps X.K G l ws → (R.bind (textsD l) fun ys => joinD sep ys) = R.ok d → wpAny (model X.prog X.w) X.A (PySem.call (.builtin "str.join") (v :: us)) (EP X pins σ Q) X.xe s := fun l p ws e t rr hg => by
      obtain ⟨ys, h1, h2⟩ := rbind_ok hg
      obtain ⟨h3, h4⟩ := texts_of h1 rr
      unfold joinD at h2
      split at h2
      · rename_i hl
        cases h2
        refine mt_join pins s σ H _ _ v us Q I rx rxs ⟨_, p, ys.map fun y => (⟨y.toArray⟩ : Str), rfl, by rw [e], by rw [← h3]; exact t, ?_, ?_⟩
        · rw [sumLen_eq, List.length_map, strlen]
          exact hl
        · rw [join_eq]
          exact same1 hs (rep_str (Nat.le_trans (join_len sep ys) hl) (join_sub sep ys hz2 h4)) q
      · cases h2
    cases b with
    | lst l =>
      obtain ⟨p, ws, e, t, rr⟩ := hb
      exact fin l p ws e (.inl (SqL.of t)) rr hg
    | tup l =>
      obtain ⟨p, ws, e, t, rr⟩ := hb
      exact fin l p ws e (.inr (seqT_mono hs t)) rr hg
    | _ => cases (show R.bad = R.ok d from hg)
  | _ => cases b <;> cases (show R.bad = R.ok d from hg)
end
end En

/-! En8: stores, changes, wiped names: the state's steps. -/
namespace En
open PySem PySem.Spec PyProof.Rows L2

section
variable {K : Fg} {B : Bs} {e : Ev} {σ : L2.St} {G H G' H' : Hp}
theorem StOk.store (S : StOk K B e σ G H) {i : Nat} {s : Sl} {v : Option V} (hi : i < e.length) (hp : ∀ p ∈ B.pin, p.1 ≠ i) (hs : SlOk K B G H s v)
    (hd : ∀ k o a, s = .cel k o → v = some (.ref a) → (∀ j k' o', i ≠ j → e[j]? = some (.cel k' o') → σ[j]? ≠ some (some (.ref a))) ∧ ∀ q ∈ B.keep, q.1 ≠ a) : StOk K B (e.set i s) (σ.set i v) G H := by
  have hi' : i < σ.length := by rw [← S.len]; exact hi
  refine ⟨by rw [List.length_set, List.length_set]; exact S.len, fun j t w q1 q2 => ?_, fun j j' k o k' o' b hne q1 q2 q3 q4 => ?_, S.gr, fun p h => ?_, fun p h => ?_⟩
  · by_cases hj : i = j
    · subst hj
      rw [List.getElem?_set_self hi] at q1
      rw [List.getElem?_set_self hi'] at q2
      cases q1
      cases q2
      exact hs
    · rw [List.getElem?_set_ne hj] at q1 q2
      exact S.sl j t w q1 q2
  · by_cases hj : i = j
    · subst hj
      rw [List.getElem?_set_self hi] at q1
      rw [List.getElem?_set_self hi'] at q3
      rw [List.getElem?_set_ne hne] at q2 q4
      cases q1
      cases q3
      exact (hd _ _ _ rfl rfl).1 _ _ _ hne q2 q4
    · by_cases hj' : i = j'
      · subst hj'
        rw [List.getElem?_set_self hi] at q2
        rw [List.getElem?_set_self hi'] at q4
        rw [List.getElem?_set_ne hj] at q1 q3
        cases q2
        cases q4
        exact (hd _ _ _ rfl rfl).1 _ _ _ hj q1 q3
      · rw [List.getElem?_set_ne hj] at q1 q3
        rw [List.getElem?_set_ne hj'] at q2 q4
        exact S.dj j j' k o k' o' b hne q1 q2 q3 q4
  · have hj : i ≠ p.1 := fun w => hp p h w.symm
    rw [List.getElem?_set_ne hj, List.getElem?_set_ne hj]
    exact S.pn p h
  · obtain ⟨z1, z2, z3⟩ := S.kp p h
    refine ⟨z1, z2, fun j k o q => ?_⟩
    by_cases hj : i = j
    · subst hj
      rw [List.getElem?_set_self hi] at q
      rw [List.getElem?_set_self hi']
      cases q
      intro w
      cases w
      exact (hd _ _ _ rfl rfl).2 p h rfl
    · rw [List.getElem?_set_ne hj] at q ⊢
      exact z3 j k o q
theorem StOk.np (S : StOk K B e σ G H) {i : Nat} {t : Sl} (ht : e[i]? = some t) (hw : ∀ k o, t = .cel k o → k = .own) : ∀ p ∈ B.pin, p.1 ≠ i := fun p h w => by
  obtain ⟨_, k, o, h1, h2, _⟩ := S.pn p h
  rw [w, ht] at h1
  cases h1
  exact h2 (hw _ _ rfl)
theorem wr_ok {i : Nat} {s : Sl} {r : Unit × Ev} (h : wr i s e = .ok r) : ∃ t, e[i]? = some t ∧ (∀ k o, t = .cel k o → k = .own) ∧ r.2 = e.set i s := by
  unfold wr at h
  split at h
  · rename_i q
    cases h
    exact ⟨_, q, (fun k o w => nomatch w), rfl⟩
  · rename_i d q
    cases h
    exact ⟨_, q, (fun k o w => nomatch w), rfl⟩
  · rename_i o q
    cases h
    exact ⟨_, q, (fun k o w => by cases w; rfl), rfl⟩
  · cases h
/-- a value is stored -/
theorem StOk.put (S : StOk K B e σ G H) {i : Nat} {d : D} {v : V} {r : Unit × Ev} (h : wr i (.val d) e = .ok r) (q : Rep K G d v) : StOk K B r.2 (σ.set i (some v)) G H := by
  obtain ⟨t, h1, h2, h3⟩ := wr_ok h
  rw [h3]
  exact S.store (S.lt h1) (S.np h1 h2) ⟨v, rfl, q⟩ fun k o a w => nomatch w
/-- a new list is stored -/
theorem StOk.putC (S : StOk K B e σ G H) {i : Nat} {l : List D} {p : Addr} {xs : List V} {r : Unit × Ev} (h : wr i (.cel .own (.lst l)) e = .ok r) (f : FrOk B e σ G H p xs) (q : Reps K G l xs) : StOk K B r.2 (σ.set i (some (.ref p))) G H := by
  obtain ⟨t, h1, h2, h3⟩ := wr_ok h
  rw [h3]
  refine S.store (S.lt h1) (S.np h1 h2) ⟨p, rfl, f.g, ⟨xs, f.h, q⟩, .inl f.b⟩ fun k o a w z => ?_
  cases w
  cases z
  exact ⟨fun j k' o' _ z1 z2 => f.c j k' o' z1 z2, f.k⟩
/-- a cell is changed -/
theorem StOk.change (S : StOk K B e σ G H) {i : Nat} {k : CK} {o o' : Ob} {a : Addr} (h : e[i]? = some (.cel k o)) (hk : k ≠ .lock) (ha : σ[i]? = some (some (.ref a))) (g : Grow (fun b => b = a) G H G' H') (ho : ObOk K G' H' a o') : StOk K B (e.set i (.cel k o')) σ G' H' := by
  obtain ⟨a0, h1, h2, h3, h4⟩ := S.cel h
  rw [ha] at h1
  cases h1
  have hH : H a ≠ none := by
    obtain ⟨u, q⟩ := h3.there
    rw [q]
    exact fun z => nomatch z
  have nj : ∀ {j : Nat} {k1 : CK} {o1 : Ob}, (e.set i (.cel k o'))[j]? = some (.cel k1 o1) → ∃ o2, e[j]? = some (.cel k1 o2) := fun {j k1 o1} q => by
    by_cases hj : i = j
    · subst hj
      rw [List.getElem?_set_self (S.lt h)] at q
      cases q
      exact ⟨_, h⟩
    · rw [List.getElem?_set_ne hj] at q
      exact ⟨_, q⟩
  refine ⟨by rw [List.length_set]; exact S.len, fun j s v q1 q2 => ?_, fun j j' k1 o1 k' o1' b hne q1 q2 q3 q4 => ?_, ?_, fun p hp => ?_, fun p hp => ?_⟩
  · by_cases hj : i = j
    · subst hj
      rw [List.getElem?_set_self (S.lt h)] at q1
      cases q1
      rw [ha] at q2
      cases q2
      exact ⟨a, rfl, g.new a h2 hH, ho, h4⟩
    · rw [List.getElem?_set_ne hj] at q1
      have z := S.sl j s v q1 q2
      cases s with
      | no => trivial
      | val d => obtain ⟨x, z1, z2⟩ := z; exact ⟨x, z1, Rep.mono g.g d z2⟩
      | exn c => obtain ⟨x, cc, z1, zt, z2⟩ := z; exact ⟨x, cc, z1, zt, g.g _ _ z2⟩
      | cel k1 o1 =>
        obtain ⟨b, z1, z2, z3, z4⟩ := z
        have hb : b ≠ a := fun w => by
          subst w
          rw [z1] at q2
          exact S.dj i j _ _ _ _ b hj h q1 ha q2
        obtain ⟨u, q⟩ := z3.there
        refine ⟨b, z1, g.new b z2 (by rw [q]; exact fun z => nomatch z), ?_, z4⟩
        cases o1 with
        | dic ks vs => exact z3.elim
        | lst m => obtain ⟨ys, y1, y2⟩ := z3; exact ⟨ys, g.h b _ y1 hb, y2.mono g.g⟩
  · obtain ⟨o2, w1⟩ := nj q1
    obtain ⟨o3, w2⟩ := nj q2
    exact S.dj j j' _ _ _ _ b hne w1 w2 q3 q4
  · refine ⟨S.gr.g.trans g.g, fun c u q m => g.h c u (S.gr.h c u q m) fun w => ?_, fun c q => g.there c (S.gr.there c q), g.gh, fun c q z => g.new c (S.gr.new c q z) (S.gr.there c z)⟩
    subst w
    rcases h4 with w | ⟨w, _⟩
    · rw [w] at q
      cases q
    · exact m w
  · obtain ⟨p1, k1, o1, p2, p3, p4⟩ := S.pn p hp
    by_cases hj : i = p.1
    · have p2' := p2
      rw [← hj, h] at p2'
      cases p2'
      refine ⟨p1, k, o', by rw [← hj, List.getElem?_set_self (S.lt h)], p3, fun o2 w => absurd (p4 o2 w).1 hk⟩
    · exact ⟨p1, k1, o1, by rw [List.getElem?_set_ne hj]; exact p2, p3, p4⟩
  · obtain ⟨z1, z2, z3⟩ := S.kp p hp
    refine ⟨g.h _ _ z1 fun w => z3 i k o h (by rw [w]; exact ha), g.new _ z2 (by rw [z1]; exact fun z => nomatch z), fun j k1 o1 q => ?_⟩
    obtain ⟨o2, w1⟩ := nj q
    exact z3 j k1 o2 w1
/-- an object under way is kept -/
theorem StOk.hold (S : StOk K B e σ G H) {p : Addr} {xs : List V} (f : FrOk B e σ G H p xs) : StOk K { B with keep := (p, .lst xs) :: B.keep } e σ G H :=
  ⟨S.len, fun j s v q1 q2 => by
    have z := S.sl j s v q1 q2
    cases s <;> exact z, S.dj, S.gr, S.pn, fun q h => by
    rcases List.mem_cons.mp h with w | w
    · subst w; exact ⟨f.h, f.g, f.c⟩
    · exact S.kp q w⟩
theorem StOk.free {p : Addr × HO} (S : StOk K { B with keep := p :: B.keep } e σ G H) : StOk K B e σ G H :=
  ⟨S.len, fun j s v q1 q2 => by
    have z := S.sl j s v q1 q2
    cases s <;> exact z, S.dj, S.gr, S.pn, fun q h => S.kp q (List.mem_cons_of_mem _ h)⟩
theorem FrOk.back {B : Bs} {e : Ev} {σ : L2.St} {G H : Hp} {p : Addr} {xs : List V} (S : StOk K { B with keep := (p, .lst xs) :: B.keep } e σ G H) (hb : B.H0 p = none) (hk : ∀ q ∈ B.keep, q.1 ≠ p) : FrOk B e σ G H p xs := by
  obtain ⟨z1, z2, z3⟩ := S.kp (p, .lst xs) List.mem_cons_self
  exact ⟨z1, z2, hb, z3, hk⟩

/-! ### wiped names -/
theorem wipe_nil (σ : L2.St) : wipe σ [] = σ := rfl
theorem wipeE_get : ∀ (own : List Nat) (e : Ev) (j : Nat), (wipeE own e)[j]? = if j ∈ own ∧ j < e.length then some .no else e[j]?
  | [], e, j => by simp [wipeE]
  | i :: r, e, j => by
    have hl : (wipeE r e).length = e.length := by
      clear j
      induction r with
      | nil => rfl
      | cons x r ih => rw [wipeE, List.length_set]; exact ih
    rw [wipeE]
    by_cases hj : i = j
    · subst hj
      by_cases hi : i < e.length
      · rw [List.getElem?_set_self (by omega), if_pos ⟨List.mem_cons_self, hi⟩]
      · rw [if_neg (fun z => hi z.2), List.getElem?_eq_none (by rw [List.length_set]; omega), List.getElem?_eq_none (by omega)]
    · rw [List.getElem?_set_ne hj, wipeE_get r e j]
      by_cases hm : j ∈ r
      · simp [hm, List.mem_cons]
      · have : ¬ j ∈ i :: r := fun z => by
          rcases List.mem_cons.mp z with w | w
          · exact hj w.symm
          · exact hm w
        rw [if_neg (fun z => hm z.1), if_neg (fun z => this z.1)]
theorem wipeE_len : ∀ (own : List Nat) (e : Ev), (wipeE own e).length = e.length
  | [], e => rfl
  | i :: r, e => by rw [wipeE, List.length_set]; exact wipeE_len r e
def CleanP (own : List Nat) (e : Ev) : Prop := ∀ i ∈ own, ∃ t, e[i]? = some t ∧ ∀ k o, t ≠ .cel k o
theorem clean_ok {own : List Nat} {e : Ev} {r : Unit × Ev} (h : clean own e = .ok r) : CleanP own e ∧ r.2 = e := by
  unfold clean at h
  split at h
  · rename_i q
    cases h
    refine ⟨fun i hi => ?_, rfl⟩
    have := List.all_eq_true.mp q i hi
    split at this
    · cases this
    · rename_i t _ w
      exact ⟨_, w, fun k o z => by subst z; rename_i z2; exact z2 k o rfl⟩
    · cases this
  · cases h
theorem StOk.npC (S : StOk K B e σ G H) {own : List Nat} (c : CleanP own e) {i : Nat} (hi : i ∈ own) : ∀ p ∈ B.pin, p.1 ≠ i := fun p h w => by
  obtain ⟨_, k, o, h1, h2, _⟩ := S.pn p h
  obtain ⟨t, h3, h4⟩ := c i hi
  rw [w, h3] at h1
  cases h1
  exact h4 _ _ rfl
theorem StOk.wiped0 : ∀ (own : List Nat) {e : Ev} {σ : L2.St}, StOk K B e σ G H → (∀ i ∈ own, i < e.length ∧ ∀ p ∈ B.pin, p.1 ≠ i) → StOk K B (wipeE own e) (wipe σ own) G H
  | [], _, _, S, _ => S
  | i :: r, e, σ, S, h => by
    have S' := StOk.wiped0 r S fun j hj => h j (List.mem_cons_of_mem _ hj)
    exact S'.store (by rw [wipeE_len]; exact (h i List.mem_cons_self).1) (h i List.mem_cons_self).2 (s := .no) trivial fun k o a w => nomatch w
theorem StOk.wiped (S : StOk K B e σ G H) {own : List Nat} (c : CleanP own e) : StOk K B (wipeE own e) (wipe σ own) G H :=
  StOk.wiped0 own S fun i hi => ⟨by
    obtain ⟨t, h, _⟩ := c i hi
    exact S.lt h, S.npC c hi⟩
theorem wipe_len : ∀ (own : List Nat) (σ : L2.St), (wipe σ own).length = σ.length
  | [], _ => rfl
  | i :: r, σ => by
    show ((wipe σ r).set i none).length = _
    rw [List.length_set, wipe_len r σ]
theorem wipe_get : ∀ (own : List Nat) (σ : L2.St) (j : Nat), j ∉ own → (wipe σ own)[j]? = σ[j]?
  | [], σ, j, _ => rfl
  | i :: r, σ, j, h => by
    show ((wipe σ r).set i none)[j]? = _
    rw [List.getElem?_set_ne (fun w => h (by rw [w]; exact List.mem_cons_self)), wipe_get r σ j fun w => h (List.mem_cons_of_mem _ w)]
theorem wipe_out {own : List Nat} {σ τ : L2.St} (h : wipe τ own = wipe σ own) {j : Nat} (hj : j ∉ own) : τ[j]? = σ[j]? := by
  rw [← wipe_get own τ j hj, ← wipe_get own σ j hj, h]
theorem wipe_len2 {own : List Nat} {σ τ : L2.St} (h : wipe τ own = wipe σ own) : τ.length = σ.length := by
  rw [← wipe_len own τ, ← wipe_len own σ, h]
theorem restE_len : ∀ (own : List Nat) (e0 e : Ev), (restE own e0 e).length = e.length
  | [], e0, e => rfl
  | i :: r, e0, e => by
    rw [restE]
    split
    · rw [List.length_set]; exact restE_len r e0 e
    · exact restE_len r e0 e
theorem restE_get : ∀ (own : List Nat) (e0 e : Ev) (j : Nat), e0.length = e.length → (restE own e0 e)[j]? = if j ∈ own then e0[j]? else e[j]?
  | [], e0, e, j, _ => by simp [restE]
  | i :: r, e0, e, j, hl => by
    rw [restE]
    split
    · rename_i s hs
      have hi : i < e.length := by rw [← hl]; exact (List.getElem?_eq_some_iff.mp hs).1
      by_cases hj : i = j
      · subst hj
        rw [List.getElem?_set_self (by rw [restE_len]; exact hi), if_pos List.mem_cons_self, hs]
      · rw [List.getElem?_set_ne hj, restE_get r e0 e j hl]
        by_cases hm : j ∈ r
        · rw [if_pos hm, if_pos (List.mem_cons_of_mem _ hm)]
        · rw [if_neg hm, if_neg (fun z => by
            rcases List.mem_cons.mp z with w | w
            · exact hj w.symm
            · exact hm w)]
    · rename_i hs
      rw [restE_get r e0 e j hl]
      by_cases hj : i = j
      · subst hj
        have : e[i]? = none := by
          rw [List.getElem?_eq_none_iff] at hs ⊢
          omega
        rw [if_pos (List.mem_cons_self : i ∈ i :: r), hs, this]
        simp
      · by_cases hm : j ∈ r
        · rw [if_pos hm, if_pos (List.mem_cons_of_mem _ hm)]
        · rw [if_neg hm, if_neg (fun z => by
            rcases List.mem_cons.mp z with w | w
            · exact hj w.symm
            · exact hm w)]
/-- the names of a block are as they were -/
theorem StOk.rest {B0 : Bs} (S : StOk K B0 e σ G H) (hpin : B0.pin = B.pin) {own : List Nat} (c : CleanP own e) {e2 : Ev} {σ2 : L2.St} (S2 : StOk K B e2 σ2 G' H') (s : Same G G') (w : wipe σ2 own = wipe σ own) : StOk K B (restE own e e2) σ G' H' := by
  have hl : e.length = e2.length := by rw [S.len, S2.len, wipe_len2 w]
  have hc : ∀ {j : Nat} {k : CK} {o : Ob}, (restE own e e2)[j]? = some (.cel k o) → j ∉ own ∧ e2[j]? = some (.cel k o) := fun {j k o} q => by
    rw [restE_get own e e2 j hl] at q
    split at q
    · rename_i hj
      obtain ⟨t, h1, h2⟩ := c j hj
      rw [h1] at q
      cases q
      exact absurd rfl (h2 k o)
    · rename_i hj
      exact ⟨hj, q⟩
  refine ⟨by rw [restE_len, S2.len, wipe_len2 w], fun j t v q1 q2 => ?_, fun j j' k o k' o' b hne q1 q2 q3 q4 => ?_, S2.gr, fun p hp => ?_, fun p hp => ?_⟩
  · rw [restE_get own e e2 j hl] at q1
    split at q1
    · rename_i hj
      obtain ⟨t', h1, h2⟩ := c j hj
      have z := S.sl j t v q1 q2
      cases t with
      | no => trivial
      | val d => obtain ⟨x, z1, z2⟩ := z; exact ⟨x, z1, Rep.mono s d z2⟩
      | exn c => obtain ⟨x, cc, z1, zt, z2⟩ := z; exact ⟨x, cc, z1, zt, s _ _ z2⟩
      | cel k o =>
        rw [h1] at q1
        cases q1
        exact absurd rfl (h2 k o)
    · rename_i hj
      rw [← wipe_out w hj] at q2
      exact S2.sl j t v q1 q2
  · obtain ⟨n1, w1⟩ := hc q1
    obtain ⟨n2, w2⟩ := hc q2
    rw [← wipe_out w n1] at q3
    rw [← wipe_out w n2] at q4
    exact S2.dj j j' k o k' o' b hne w1 w2 q3 q4
  · obtain ⟨p1, k, o, p2, p3⟩ := S2.pn p hp
    have hj : p.1 ∉ own := fun z => S.npC c z p (by rw [hpin]; exact hp) rfl
    exact ⟨by rw [← wipe_out w hj]; exact p1, k, o, by rw [restE_get own e e2 _ hl, if_neg hj]; exact p2, p3⟩
  · obtain ⟨z1, z2, z3⟩ := S2.kp p hp
    refine ⟨z1, z2, fun j k o q => ?_⟩
    obtain ⟨n1, w1⟩ := hc q
    rw [← wipe_out w n1]
    exact z3 j k o w1

/-! ### stores by shape -/
def tPut (K : Fg) (js : List Nat) (f : D → M Unit) : TG := fun v σ H Q => ∃ B G e, StOk K B e σ G H ∧ ∃ d r, Rep K G d v ∧ f d e = .ok r ∧ ∀ σ', StOk K B r.2 σ' G H → (∀ j, j ∉ js → σ'[j]? = σ[j]?) → σ'.length = σ.length → Q σ' H
theorem PGimp {X : Cx} {e : Expr} {t t' : TG} (h : PG X e t) (i : ∀ v σ H Q, t' v σ H Q → t v σ H Q) : PG X e t' := ⟨fun pins s σ H v u Q I r q => h.run pins s σ H v u Q I r (i v σ H Q q)⟩
end
end En

/-! En9: rules for expressions, by the readings of the evaluator. -/
namespace En
open PySem PySem.Spec PyProof.Rows L2

/-! ### no stars -/
def nst : Expr → Bool
  | .Starred _ _ => false
  | _ => true
theorem star1 {e : Expr} {es : List Expr} {env : Env} (h : nst e = true) : starEach (e :: es) env = (false, eval e env) :: starEach es env := by
  cases e <;> first | rfl | cases h
theorem asg1 {e : Expr} {es : List Expr} {env : Env} (h : nst e = true) : assignEach (e :: es) env = (false, assign e env) :: assignEach es env := by
  cases e <;> first | rfl | cases h
theorem star_any {env : Env} {pos : Pos} : ∀ {es : List Expr}, es.all nst = true → ((backTo pos (starEach es env)).any fun x => x.1) = false
  | [], _ => rfl
  | e :: es, h => by
    rw [List.all_cons, Bool.and_eq_true] at h
    rw [star1 h.1]
    show (false || ((backTo pos (starEach es env)).any fun x => x.1)) = false
    rw [star_any h.2]
    rfl

section
variable {X : Cx} {K : Fg}
/-! ### truth -/
theorem truV_of {G H : Hp} (hs : Same G H) : ∀ {d : D} {v : V}, RepT K G H d v → TruV K v H d.truth
  | .non, v, h => by rw [show v = .non from h]; exact rfl
  | .bl b, v, h => by rw [show v = .bl b from h]; exact rfl
  | .int i, v, h => by rw [show v = .int i from h]; exact rfl
  | .str s, v, h => by
    obtain ⟨rfl, h1, h2⟩ := h
    refine ⟨by rw [strlen, ← bigLine_eq]; exact h1, ?_⟩
    rw [strlen]
    cases s <;> simp [D.truth]
    omega
  | .tup l, v, h => by
    obtain ⟨a, xs, rfl, t, r⟩ := h
    refine .inr (.inl ⟨xs, seqT_mono hs t, ?_⟩)
    have := r.length
    cases l <;> cases xs <;> first | rfl | simp at this
  | .lst l, v, h => by
    obtain ⟨a, xs, rfl, t, r⟩ := h
    refine .inl ⟨xs, SqL.of t, ?_⟩
    have := r.length
    cases l <;> cases xs <;> first | rfl | simp at this
  | .dic _ _, v, h => h.elim
  | .scr l, v, h => by
    obtain ⟨a, rfl, t⟩ := h
    refine .inl ⟨_, hs.seq t, ?_⟩
    cases l <;> rfl
def evB (m : M D) : M Bool := do
  let v ← m
  pure v.truth
def hdB (m : M Hd) : M Bool := do
  let h ← m
  let x ← h.get
  pure x.truth
theorem tV_mono {m : M D} {σ : L2.St} {H : Hp} {Q Q' : VK} (h : tV K m σ H Q) (i : ∀ v H, Q v H → Q' v H) : tV K m σ H Q' := by
  obtain ⟨B, G, e, S, d, e', he, k⟩ := h
  exact ⟨B, G, e, S, d, e', he, fun v G' H' S' s q => i _ _ (k v G' H' S' s q)⟩
theorem tAr_mono {m : M (List D)} {σ : L2.St} {H : Hp} {Q Q' : List V → Hp → Prop} (h : tAr K m σ H Q) (i : ∀ v H, Q v H → Q' v H) : tAr K m σ H Q' := by
  obtain ⟨B, G, e, S, d, e', he, k⟩ := h
  exact ⟨B, G, e, S, d, e', he, fun v G' H' S' s q => i _ _ (k v G' H' S' s q)⟩
/-- a test by its value -/
theorem pt_val' {e : Expr} {m : M D} (he : PE X e (tV X.K m)) (hi : ∀ (whole : Sem Value), PySem.isTrue e X.env whole = do
    let v ← whole
    standAt e.pos
    holding [v] (truthy v)) : PT X e (tTs X.K (evB m)) := PTimp (pt_truth he hi) fun σ H Q ⟨B, G, e, S, d, e', h, k⟩ => by
  obtain ⟨x, e1, h1, h2⟩ := bind_ok h
  cases h2
  exact ⟨B, G, e, S, x, _, h1, fun v G' H' S' s r => ⟨x.truth, truV_of S'.gh (Rep.top S'.gh r), k G' H' S' s⟩⟩
theorem pt_hd {e : Expr} {m : M Hd} (he : PE X e (tHd X.K m)) (hi : ∀ (whole : Sem Value), PySem.isTrue e X.env whole = do
    let v ← whole
    standAt e.pos
    holding [v] (truthy v)) : PT X e (tTs X.K (hdB m)) := PTimp (pt_truth he hi) fun σ H Q ⟨B, G, e, S, d, e', h, k⟩ => by
  obtain ⟨x, e1, h1, h2⟩ := bind_ok h
  obtain ⟨y, e2, h3, h4⟩ := bind_ok h2
  cases h4
  refine ⟨B, G, e, S, x, e1, h1, fun v G' H' S' s r => ?_⟩
  obtain ⟨rfl, t⟩ := HdOk.get S' r h3
  exact ⟨y.truth, truV_of S'.gh t, k G' H' S' s⟩
theorem hd_of {m : M D} : hdB (do let d ← m; pure (.hv d)) = evB m := by
  funext e
  show R.bind (R.bind (m e) _) _ = R.bind (m e) _
  cases m e <;> rfl

/-! ### and, or, not, if else -/
theorem w_and {a b : Expr} {rest : List Expr} {pos : Pos} {m n : M D} (ha : PE X a (tV X.K m)) (hb : PE X (.BoolOp .And (b :: rest) pos) (tV X.K n)) :
    PE X (.BoolOp .And (a :: b :: rest) pos) (tV X.K (do let x ← m; if x.truth then n else pure x)) := PEimp (pe_andT ha hb) fun σ H Q ⟨B, G, e, S, d, e', h, k⟩ => by
  obtain ⟨x, e1, h1, h2⟩ := bind_ok h
  refine ⟨B, G, e, S, x, e1, h1, fun v G' H' S' s r => ⟨x.truth, truV_of S'.gh (Rep.top S'.gh r), ?_⟩⟩
  cases q : x.truth with
  | true =>
    rw [q] at h2
    exact ⟨B, G', e1, S', d, e', h2, fun v2 G2 H2 S2 s2 r2 => k v2 G2 H2 S2 (s.trans s2) r2⟩
  | false =>
    rw [q] at h2
    cases h2
    exact k v G' H' S' s r
theorem w_or {a b : Expr} {rest : List Expr} {pos : Pos} {m n : M D} (ha : PE X a (tV X.K m)) (hb : PE X (.BoolOp .Or (b :: rest) pos) (tV X.K n)) :
    PE X (.BoolOp .Or (a :: b :: rest) pos) (tV X.K (do let x ← m; if x.truth then pure x else n)) := PEimp (pe_orT ha hb) fun σ H Q ⟨B, G, e, S, d, e', h, k⟩ => by
  obtain ⟨x, e1, h1, h2⟩ := bind_ok h
  refine ⟨B, G, e, S, x, e1, h1, fun v G' H' S' s r => ⟨x.truth, truV_of S'.gh (Rep.top S'.gh r), ?_⟩⟩
  cases q : x.truth with
  | false =>
    rw [q] at h2
    exact ⟨B, G', e1, S', d, e', h2, fun v2 G2 H2 S2 s2 r2 => k v2 G2 H2 S2 (s.trans s2) r2⟩
  | true =>
    rw [q] at h2
    cases h2
    exact k v G' H' S' s r
theorem w_not {a : Expr} {pos : Pos} {m : M Hd} (ha : PE X a (tHd X.K m)) :
    PE X (.UnaryOp .Not a pos) (tV X.K (do let h ← m; let x ← h.get; pure (.bl (!x.truth)))) := PEimp (pe_notT ha) fun σ H Q ⟨B, G, e, S, d, e', h, k⟩ => by
  obtain ⟨x, e1, h1, h2⟩ := bind_ok h
  obtain ⟨y, e2, h3, h4⟩ := bind_ok h2
  cases h4
  refine ⟨B, G, e, S, x, e1, h1, fun v G' H' S' s r => ?_⟩
  obtain ⟨rfl, t⟩ := HdOk.get S' r h3
  exact ⟨y.truth, truV_of S'.gh t, k _ G' H' S' s rfl⟩
theorem w_ite {c a b : Expr} {pos : Pos} {mc : M Bool} {m n : M D} (hc : PT X c (tTs X.K mc)) (ha : PE X a (tV X.K m)) (hb : PE X b (tV X.K n)) :
    PE X (.IfExp c a b pos) (tV X.K (do let t ← mc; if t then m else n)) := PEimp (pe_ifExp hc ha hb) fun σ H Q ⟨B, G, e, S, d, e', h, k⟩ => by
  obtain ⟨x, e1, h1, h2⟩ := bind_ok h
  refine ⟨B, G, e, S, x, e1, h1, fun G' H' S' s => ?_⟩
  cases x with
  | true => exact ⟨B, G', e1, S', d, e', h2, fun v2 G2 H2 S2 s2 r2 => k v2 G2 H2 S2 (s.trans s2) r2⟩
  | false => exact ⟨B, G', e1, S', d, e', h2, fun v2 G2 H2 S2 s2 r2 => k v2 G2 H2 S2 (s.trans s2) r2⟩
theorem t_and {a b : Expr} {rest : List Expr} {pos : Pos} {m n : M D} (ha : PT X a (tTs X.K (evB m))) (hb : PW X (.BoolOp .And (b :: rest) pos) (tTs X.K (evB n))) :
    PW X (.BoolOp .And (a :: b :: rest) pos) (tTs X.K (evB (do let x ← m; if x.truth then n else pure x))) := PWimp (pw_and ha hb) fun σ H Q ⟨B, G, e, S, d, e', h, k⟩ => by
  obtain ⟨y, e2, h1, h2⟩ := bind_ok h
  cases h2
  obtain ⟨x, e1, h1, h2⟩ := bind_ok h1
  refine ⟨B, G, e, S, x.truth, e1, by show R.bind (m e) _ = _; rw [h1]; rfl, fun G' H' S' s => ?_⟩
  cases q : x.truth with
  | true =>
    rw [q] at h2
    exact ⟨B, G', e1, S', y.truth, _, by show R.bind (n e1) _ = _; rw [show n e1 = _ from h2]; rfl, fun G2 H2 S2 s2 => k G2 H2 S2 (s.trans s2)⟩
  | false =>
    rw [q] at h2
    cases h2
    rw [q] at k
    exact k G' H' S' s
theorem t_or {a b : Expr} {rest : List Expr} {pos : Pos} {m n : M D} (ha : PT X a (tTs X.K (evB m))) (hb : PW X (.BoolOp .Or (b :: rest) pos) (tTs X.K (evB n))) :
    PW X (.BoolOp .Or (a :: b :: rest) pos) (tTs X.K (evB (do let x ← m; if x.truth then pure x else n))) := PWimp (pw_or ha hb) fun σ H Q ⟨B, G, e, S, d, e', h, k⟩ => by
  obtain ⟨y, e2, h1, h2⟩ := bind_ok h
  cases h2
  obtain ⟨x, e1, h1, h2⟩ := bind_ok h1
  refine ⟨B, G, e, S, x.truth, e1, by show R.bind (m e) _ = _; rw [h1]; rfl, fun G' H' S' s => ?_⟩
  cases q : x.truth with
  | false =>
    rw [q] at h2
    exact ⟨B, G', e1, S', y.truth, _, by show R.bind (n e1) _ = _; rw [show n e1 = _ from h2]; rfl, fun G2 H2 S2 s2 => k G2 H2 S2 (s.trans s2)⟩
  | true =>
    rw [q] at h2
    cases h2
    rw [q] at k
    exact k G' H' S' s
theorem t_not {a : Expr} {pos : Pos} {m : M Hd} (ha : PT X a (tTs X.K (hdB m))) :
    PT X (.UnaryOp .Not a pos) (tTs X.K (evB (do let h ← m; let x ← h.get; pure (.bl (!x.truth))))) := PTimp (pt_not ha) fun σ H Q ⟨B, G, e, S, d, e', h, k⟩ => by
  obtain ⟨y, e2, h1, h2⟩ := bind_ok h
  cases h2
  obtain ⟨x, e1, h1, h2⟩ := bind_ok h1
  obtain ⟨z, e2', h3, h4⟩ := bind_ok h2
  cases h4
  have := hd_same h3
  subst this
  exact ⟨B, G, e, S, z.truth, _, by show R.bind (m e) _ = _; rw [h1]; show R.bind (x.get _) _ = _; rw [h3]; rfl, fun G' H' S' s => k G' H' S' s⟩

/-! ### operators -/
theorem w_op2 {a b : Expr} {pos : Pos} {op : Operator} {o : P2} {m n : M Hd} (ho : OpR X (binaryOp op) (rD2 X.K o.run)) (ha : PE X a (tHd X.K m)) (hb : PE X b (tHd X.K n)) :
    PE X (.BinOp a op b pos) (tV X.K (do let h ← m; let k ← n; let x ← h.get; let y ← k.get; M.of (o.run x y))) := PEimp (pe_op ho ha hb) fun σ H Q h => p2_imp w2 σ H Q h
theorem w_opN {a b : Expr} {pos : Pos} {op : Operator} {o : Q2} {m n : M Hd} (ho : OpR X (binaryOp op) (rN2 X.K o.run)) (ha : PE X a (tHd X.K m)) (hb : PE X b (tHd X.K n)) :
    PE X (.BinOp a op b pos) (tFr X.K (do let h ← m; let k ← n; let x ← h.get; let y ← k.get; M.of (o.run x y))) := PEimp (pe_op ho ha hb) fun σ H Q h => q2_imp wn2 σ H Q h
theorem w_cmp {a b : Expr} {pos : Pos} {op : CmpOp} {o : P2} {m n : M Hd} (ho : OpR X (compareOp op) (rD2 X.K o.run)) (hb : behindInMarks op b = false) (ha : PE X a (tHd X.K m)) (hb' : PE X b (tHd X.K n)) :
    PE X (.Compare a [op] [b] pos) (tV X.K (do let h ← m; let k ← n; let x ← h.get; let y ← k.get; M.of (o.run x y))) := PEimp (pe_cmpR ho ha hb' hb) fun σ H Q h => p2_imp w2 σ H Q h
def isBl : D → Bool
  | .bl _ => true
  | _ => false
theorem tV_test {m : M D} (hb : ∀ e d e', m e = .ok (d, e') → isBl d = true) : ∀ σ H Q, tTs K (evB m) σ H Q → tV K m σ H fun x H' => ∃ k, x = .bl k ∧ Q k H' := fun σ H Q ⟨B, G, e, S, d, e', h, k⟩ => by
  obtain ⟨x, e1, h1, h2⟩ := bind_ok h
  cases h2
  have := hb _ _ _ h1
  cases x with
  | bl b => exact ⟨B, G, e, S, _, _, h1, fun v G' H' S' s r => ⟨b, r, k G' H' S' s⟩⟩
  | _ => cases this
theorem t_cmp {a b : Expr} {pos : Pos} {op : CmpOp} {o : P2} {m n : M Hd} (ho : OpR X (compareOp op) (rD2 X.K o.run)) (hb : behindInMarks op b = false) (hbl : ∀ x y d, o.run x y = .ok d → isBl d = true) (ha : PE X a (tHd X.K m)) (hb' : PE X b (tHd X.K n)) :
    PT X (.Compare a [op] [b] pos) (tTs X.K (evB (do let h ← m; let k ← n; let x ← h.get; let y ← k.get; M.of (o.run x y)))) := PTimp (pt_cmpR ho ha hb' hb) fun σ H Q h => by
  refine p2_imp w2 σ H _ (tV_test (fun e d e' h => ?_) σ H Q h)
  obtain ⟨_, _, _, h⟩ := bind_ok h
  obtain ⟨_, _, _, h⟩ := bind_ok h
  obtain ⟨_, _, _, h⟩ := bind_ok h
  obtain ⟨_, _, _, h⟩ := bind_ok h
  exact hbl _ _ _ (of_ok h).1
theorem w_un {a : Expr} {pos : Pos} {op : UnaryOp} {o : P1} {m : M Hd} (ho : UnR X (unaryOp op) (rD1 X.K o.run)) (ha : PE X a (tHd X.K m)) :
    PE X (.UnaryOp op a pos) (tV X.K (do let h ← m; let x ← h.get; M.of (o.run x))) := PEimp (pe_un ho ha) fun σ H Q h => p1_imp w1 σ H Q h
theorem w_isN {a : Expr} {pos pos' : Pos} {j : Nat} {op : CmpOp} {o : P1} {m : M Hd} (ho : OpR X (compareOp op) (fun x y H Q => y = .non ∧ rD1 X.K o.run x H Q)) (hb : ∀ p, behindInMarks op (.Constant .none j p) = false) (ha : PE X a (tHd X.K m)) :
    PE X (.Compare a [op] [.Constant .none j pos'] pos) (tV X.K (do let h ← m; let x ← h.get; M.of (o.run x))) := PEimp (pe_cmpR ho ha pe_non (hb _)) fun σ H Q h => tHd_mono (p1_imp w1 σ H Q h) fun v H q => ⟨rfl, q⟩
theorem t_isN {a : Expr} {pos pos' : Pos} {j : Nat} {op : CmpOp} {o : P1} {m : M Hd} (ho : OpR X (compareOp op) (fun x y H Q => y = .non ∧ rD1 X.K o.run x H Q)) (hb : ∀ p, behindInMarks op (.Constant .none j p) = false) (hbl : ∀ x d, o.run x = .ok d → isBl d = true) (ha : PE X a (tHd X.K m)) :
    PT X (.Compare a [op] [.Constant .none j pos'] pos) (tTs X.K (evB (do let h ← m; let x ← h.get; M.of (o.run x)))) := PTimp (pt_cmpR ho ha pe_non (hb _)) fun σ H Q h => by
  refine tHd_mono (p1_imp w1 σ H _ (tV_test (fun e d e' h => ?_) σ H Q h)) fun v H q => ⟨rfl, q⟩
  obtain ⟨_, _, _, h⟩ := bind_ok h
  obtain ⟨_, _, _, h⟩ := bind_ok h
  exact hbl _ _ (of_ok h).1

/-! ### items, slices -/
theorem w_ix {a b : Expr} {pos : Pos} {m n : M Hd} (hp : PlainIx b) (ha : PE X a (tHd X.K m)) (hb : PE X b (tHd X.K n)) :
    PE X (.Subscript a b pos) (tV X.K (do let h ← m; let k ← n; let x ← h.get; let y ← k.get; M.of (P2.run .idx x y))) := PEimp (pe_ix ixD ha hb hp) fun σ H Q h => p2_imp w2 σ H Q h
theorem part_of {n : M Hd} {σ : L2.St} {H : Hp} {Q : VK} {Q' : Option Int → Hp → Prop} (h : tHd K n σ H Q) (i : ∀ v H, Q v H → ∃ j, v = .int j ∧ Q' (some j) H) : tPart (tHd K n) σ H Q' := tHd_mono h i
theorem w_slHi {a b : Expr} {pos p2 : Pos} {m n : M Hd} (ha : PE X a (tHd X.K m)) (hb : PE X b (tHd X.K n)) :
    PE X (.Subscript a (.Slice none (some b) none p2) pos) (tV X.K (do let h ← m; let k ← n; let x ← h.get; let y ← k.get; M.of (P2.run .slcHi x y))) :=
  PEimp (pe_slice slD ha po_none (po_some hb)) fun σ H Q h => tHd_mono (p2_imp w_hi σ H Q h) fun v H q => tHd_mono q fun u H q => q
theorem w_slLo {a b : Expr} {pos p2 : Pos} {m n : M Hd} (ha : PE X a (tHd X.K m)) (hb : PE X b (tHd X.K n)) :
    PE X (.Subscript a (.Slice (some b) none none p2) pos) (tV X.K (do let h ← m; let k ← n; let x ← h.get; let y ← k.get; M.of (P2.run .slcLo x y))) :=
  PEimp (pe_slice slD ha (po_some hb) po_none) fun σ H Q h => tHd_mono (p2_imp w_lo σ H Q h) fun v H q => tHd_mono q fun u H q => q
theorem w_slBo {a b c : Expr} {pos p2 : Pos} {m : M Hd} {n o : M D} (ha : PE X a (tHd X.K m)) (hb : PE X b (tV X.K n)) (hc : PE X c (tV X.K o)) :
    PE X (.Subscript a (.Slice (some b) (some c) none p2) pos) (tV X.K (do let h ← m; let y ← n; let z ← o; let x ← h.get; M.of (P3.run .slc x y z))) :=
  PEimp (pe_slice slD ha (po_some hb) (po_some hc)) fun σ H Q h => tHd_mono (p3_imp bo_int w_bo σ H Q h) fun v H q => tV_mono q fun u H ⟨i, e, q⟩ => ⟨i, e, tV_mono q fun z H q => q⟩
theorem n_slBo {a b c : Expr} {pos p2 : Pos} {m : M Hd} {n o : M D} (ha : PE X a (tHd X.K m)) (hb : PE X b (tV X.K n)) (hc : PE X c (tV X.K o)) :
    PE X (.Subscript a (.Slice (some b) (some c) none p2) pos) (tFr X.K (do let h ← m; let y ← n; let z ← o; let x ← h.get; M.of (Q3.run .slc x y z))) :=
  PEimp (pe_slice slN ha (po_some hb) (po_some hc)) fun σ H Q h => tHd_mono (q3_imp bon_int wn_bo σ H Q h) fun v H q => tV_mono q fun u H ⟨i, e, q⟩ => ⟨i, e, tV_mono q fun z H q => q⟩
theorem n_slHi {a b : Expr} {pos p2 : Pos} {m n : M Hd} (ha : PE X a (tHd X.K m)) (hb : PE X b (tHd X.K n)) :
    PE X (.Subscript a (.Slice none (some b) none p2) pos) (tFr X.K (do let h ← m; let k ← n; let x ← h.get; let y ← k.get; M.of (Q2.run .slcHi x y))) :=
  PEimp (pe_slice slN ha po_none (po_some hb)) fun σ H Q h => tHd_mono (q2_imp wn_hi σ H Q h) fun v H q => tHd_mono q fun u H q => q
theorem n_slLo {a b : Expr} {pos p2 : Pos} {m n : M Hd} (ha : PE X a (tHd X.K m)) (hb : PE X b (tHd X.K n)) :
    PE X (.Subscript a (.Slice (some b) none none p2) pos) (tFr X.K (do let h ← m; let k ← n; let x ← h.get; let y ← k.get; M.of (Q2.run .slcLo x y))) :=
  PEimp (pe_slice slN ha (po_some hb) po_none) fun σ H Q h => tHd_mono (q2_imp wn_lo σ H Q h) fun v H q => tHd_mono q fun u H q => q
end
end En

/-! En10: arguments, displays, calls. -/
namespace En
open PySem PySem.Spec PyProof.Rows L2

section
variable {X : Cx} {K : Fg}
/-! ### arguments -/
theorem a_nil : PA X [] (tAr X.K (pure [])) := PAimp pa_nil fun σ H Q ⟨B, G, e, S, l, e', he, k⟩ => by
  cases he
  exact k [] G H S (Same.refl _) rfl
theorem a_cons {e : Expr} {es : List Expr} {m : M D} {n : M (List D)} (hn : nst e = true) (he : PE X e (tV X.K m)) (hs : PA X es (tAr X.K n)) :
    PA X (e :: es) (tAr X.K (do let x ← m; let l ← n; pure (x :: l))) := PAimp (pa_cons he hs (star1 hn)) fun σ H Q ⟨B, G, e, S, d, e', h, k⟩ => by
  obtain ⟨x, e1, h1, h2⟩ := bind_ok h
  obtain ⟨l, e2, h3, h4⟩ := bind_ok h2
  cases h4
  exact ⟨B, G, e, S, x, e1, h1, fun v G1 H1 S1 s1 r1 => ⟨B, G1, e1, S1, l, _, h3, fun vs G2 H2 S2 s2 r2 => k (v :: vs) G2 H2 S2 (s1.trans s2) (Reps.cons (Rep.mono s2 x r1) r2)⟩⟩
theorem a_star {e : Expr} {es : List Expr} {pos : Pos} {m : M Hd} {n : M (List D)} (he : PE X e (tHd X.K m)) (hs : PA X es (tAr X.K n)) :
    PA X (.Starred e pos :: es) (tAr X.K (do let h ← m; let x ← h.get; let l₀ ← M.of (D.seq? x); let l ← n; pure (l₀ ++ l))) := PAimp (StX.pa_star he hs) fun σ H Q ⟨B, G, e, S, d, e', h, k⟩ => by
  obtain ⟨hd, e1, z1, z2⟩ := bind_ok h
  obtain ⟨x, e2, z3, z4⟩ := bind_ok z2
  obtain ⟨l0, e3, z5, z6⟩ := bind_ok z4
  obtain ⟨z7, z8⟩ := of_ok z5
  obtain ⟨l, e4, z9, z10⟩ := bind_ok z6
  cases z10
  refine ⟨B, G, e, S, hd, e1, z1, fun v G1 H1 S1 s1 r1 => ?_⟩
  obtain ⟨rfl, t1⟩ := HdOk.get S1 r1 z3
  simp only at z7 z8
  subst z8
  have fin : ∀ p xs, v = .ref p → (SqT X.K H1 p xs ∨ SqL X.K H1 p xs) → Reps X.K G1 l0 xs → ∃ p xs, v = V.ref p ∧ (SqT X.K H1 p xs ∨ SqL X.K H1 p xs) ∧ tAr X.K n σ H1 fun ys H2 => Q (xs ++ ys) H2 := fun p xs ev t rr =>
    ⟨p, xs, ev, t, B, G1, _, S1, l, _, z9, fun ys G2 H2 S2 s2 r2 => k (xs ++ ys) G2 H2 S2 (s1.trans s2) (Reps.append (Reps.mono s2 _ rr) r2)⟩
  cases x with
  | lst m =>
    obtain ⟨p, xs, ev, t, rr⟩ := t1
    cases (show R.ok m = R.ok l0 from z7)
    exact fin p xs ev (.inr (SqL.of t)) rr
  | tup m =>
    obtain ⟨p, xs, ev, t, rr⟩ := t1
    cases (show R.ok m = R.ok l0 from z7)
    exact fin p xs ev (.inl (seqT_mono S1.gh t)) rr
  | _ => cases (show R.bad = R.ok l0 from z7)

/-! ### displays -/
theorem w_tup {es : List Expr} {kk : Nat} {pos : Pos} {n : M (List D)} (hs : PA X es (tAr X.K n)) :
    PE X (.Tuple es kk pos) (tV X.K (do let l ← n; if l.length ≤ bigLine then pure (.tup l) else M.of .bad)) := PEimp (pe_tup hs) fun σ H Q ⟨B, G, e, S, d, e', h, k⟩ => by
  obtain ⟨l, e1, h1, h2⟩ := bind_ok h
  split at h2
  · rename_i hl
    cases h2
    refine ⟨B, G, e, S, l, _, h1, fun vs G1 H1 S1 s1 r1 => ⟨by rw [r1.length, ← bigLine_eq]; exact hl, fun p hp => ?_⟩⟩
    exact newT S1.gh r1 (fun w G2 H2 g r2 => k w G2 H2 (S1.grow g) (s1.trans g.g) r2) hp
  · cases h2
theorem n_disp {es : List Expr} {pos : Pos} {n : M (List D)} (hs : PA X es (tAr X.K n)) :
    PE X (.List es pos) (tFr X.K (do let l ← n; if l.length ≤ bigLine then pure l else M.of .bad)) := PEimp (pe_lst hs) fun σ H Q ⟨B, G, e, S, d, e', h, k⟩ => by
  obtain ⟨l, e1, h1, h2⟩ := bind_ok h
  split at h2
  · rename_i hl
    cases h2
    refine ⟨B, G, e, S, _, _, h1, fun vs G1 H1 S1 s1 r1 => ⟨by rw [r1.length, ← bigLine_eq]; exact hl, fun p hp => ?_⟩⟩
    exact newF S1.gh r1 (fun p xs G2 H2 g hp h2 g2 r2 => k p xs G2 H2 (S1.grow g) (s1.trans g.g) (FrOk.of S1 g hp h2 g2) r2) hp
  · cases h2
theorem w_fr {e : Expr} {m : M (List D)} (he : PE X e (tFr X.K m)) : PE X e (tV X.K (do let l ← m; pure (.lst l))) := PEimp he fr_imp
theorem n_or {a b : Expr} {pos : Pos} {m n : M (List D)} (ha : PE X a (tFr X.K m)) (hb : PE X b (tFr X.K n)) :
    PE X (.BoolOp .Or [a, b] pos) (tFr X.K (do let l ← m; if l.isEmpty then n else pure l)) := PEimp (pe_orT ha (pe_one hb)) fun σ H Q ⟨B, G, e, S, d, e', h, k⟩ => by
  obtain ⟨l, e1, h1, h2⟩ := bind_ok h
  refine ⟨B, G, e, S, l, e1, h1, fun p xs G1 H1 S1 s1 f r => ⟨!l.isEmpty, .inl ⟨xs, SqL.of f.h, ?_⟩, ?_⟩⟩
  · have := r.length
    cases l <;> cases xs <;> first | rfl | simp at this
  · cases q : l.isEmpty with
    | true =>
      rw [q] at h2
      exact ⟨B, G1, e1, S1, d, e', h2, fun p2 xs2 G2 H2 S2 s2 f2 r2 => k p2 xs2 G2 H2 S2 (s1.trans s2) f2 r2⟩
    | false =>
      rw [q] at h2
      cases h2
      exact k p xs G1 H1 S1 s1 f r

/-! ### built-in functions -/
def IsFn (v : Value) : Prop := (∃ id, v = .builtin id) ∨ ∃ T, v = .type T
theorem w_bi {x : Str} {v : Value} {p pos : Pos} {e : Expr} {es : List Expr} {t : TA} {r : List V → Hp → VK → Prop} (hv : IsFn v) (hc : CallR X v r) (hg : Gl X x) (hm : X.mg x = none) (hb : bootBuiltins x = some v) (hn : x ≠ Str.ofString "__name__" ∧ (x == Str.ofString "__debug__") = false) (ns : (e :: es).all nst = true) (ha : PA X (e :: es) t) : PE X (.Call (.Name x p) (e :: es) [] pos) (tCB r t) := by
  have ns' := ns
  rw [List.all_cons, Bool.and_eq_true] at ns'
  rcases hv with ⟨id, rfl⟩ | ⟨T, rfl⟩
  · exact pe_callB hc hg hm hb ha hn.1 hn.2 (star1 ns'.1) (star_any ns'.2)
  · exact pe_callTy hc hg hm hb ha hn.1 hn.2 (star1 ns'.1) (star_any ns'.2)
structure Bi (X : Cx) (x : Str) (v : Value) : Prop where
  f : IsFn v
  g : Gl X x
  m : X.mg x = none
  b : bootBuiltins x = some v
  n : x ≠ Str.ofString "__name__" ∧ (x == Str.ofString "__debug__") = false
theorem w_f1 {x : Str} {v : Value} {p pos : Pos} {e : Expr} {o : P1} {m : M Hd} (b : Bi X x v) (hc : CallR X v (c1 (rD1 X.K o.run))) (ns : nst e = true) (he : PE X e (tHd X.K m)) :
    PE X (.Call (.Name x p) [e] [] pos) (tV X.K (do let h ← m; let x ← h.get; M.of (o.run x))) :=
  PEimp (w_bi b.f hc b.g b.m b.b b.n (by simp [ns]) (pa_cons he pa_nil (star1 ns))) fun σ H Q h => tHd_mono (p1_imp w1 σ H Q h) fun v H q => ⟨v, rfl, q⟩
theorem n_f1 {x : Str} {v : Value} {p pos : Pos} {e : Expr} {o : Q1} {m : M Hd} (b : Bi X x v) (hc : CallR X v (c1 (rN1 X.K o.run))) (ns : nst e = true) (he : PE X e (tHd X.K m)) :
    PE X (.Call (.Name x p) [e] [] pos) (tFr X.K (do let h ← m; let x ← h.get; M.of (o.run x))) :=
  PEimp (w_bi b.f hc b.g b.m b.b b.n (by simp [ns]) (pa_cons he pa_nil (star1 ns))) fun σ H Q h => tHd_mono (q1_imp wn1 σ H Q h) fun v H q => ⟨v, rfl, q⟩
theorem w_f2 {x : Str} {v : Value} {p pos : Pos} {e e2 : Expr} {o : P2} {m n : M Hd} (b : Bi X x v) (hc : CallR X v (c2 (rD2 X.K o.run))) (ns : nst e = true) (ns2 : nst e2 = true) (he : PE X e (tHd X.K m)) (he2 : PE X e2 (tHd X.K n)) :
    PE X (.Call (.Name x p) [e, e2] [] pos) (tV X.K (do let h ← m; let k ← n; let x ← h.get; let y ← k.get; M.of (o.run x y))) :=
  PEimp (w_bi b.f hc b.g b.m b.b b.n (by simp [ns, ns2]) (pa_cons he (pa_cons he2 pa_nil (star1 ns2)) (star1 ns))) fun σ H Q h => tHd_mono (p2_imp w2 σ H Q h) fun v H q => tHd_mono q fun u H q => ⟨v, u, rfl, q⟩
/-- isinstance(x, T) -/
theorem w_isi1 {p p1 pos : Pos} {e : Expr} {x y : Str} {t : Ty} {m : M Hd} (b : Bi X x (.builtin "isinstance")) (bt : Bi X y (.type t.nm)) (ns : nst e = true) (he : PE X e (tHd X.K m)) :
    PE X (.Call (.Name x p) [e, .Name y p1] [] pos) (tV X.K (do let h ← m; let x ← h.get; M.of ((P1.isi [t]).run x))) :=
  PEimp (w_bi b.f (crD_isi1 t) b.g b.m b.b b.n (by rw [List.all_cons, ns]; rfl) (pa_cons he (pa_cons (pe_bltn (v := .ty t.nm) bt.g bt.m bt.b rfl bt.n.1 bt.n.2) pa_nil rfl) (star1 ns))) fun σ H Q h => tHd_mono (p1_imp w1 σ H Q h) fun v H q => ⟨v, rfl, q⟩
theorem a_tys : ∀ {ts : List Ty} {es : List Expr}, Paired (fun t e => ∃ y p, e = Expr.Name y p ∧ Bi X y (.type t.nm)) ts es → ∃ t, PA X es t ∧ ∀ σ H Q, Q (tysV ts) H → t σ H Q
  | _, _, .nil => ⟨_, pa_nil, fun σ H Q h => h⟩
  | _, _, .cons ⟨y, p, rfl, bt⟩ r => by
    obtain ⟨t, h1, h2⟩ := a_tys r
    exact ⟨_, pa_cons (pe_bltn (v := .ty _) bt.g bt.m bt.b rfl bt.n.1 bt.n.2) h1 rfl, fun σ H Q h => h2 σ H _ h⟩
theorem tysV_len : ∀ ts : List Ty, (tysV ts).length = ts.length := fun ts => List.length_map ..
theorem w_isiT {p p1 pos : Pos} {kk : Nat} {e : Expr} {es : List Expr} {x : Str} {ts : List Ty} {m : M Hd} (b : Bi X x (.builtin "isinstance")) (hp : Paired (fun t e => ∃ y p, e = Expr.Name y p ∧ Bi X y (.type (Ty.nm t))) ts es) (hl : ts.length ≤ 9) (ns : nst e = true) (he : PE X e (tHd X.K m)) :
    PE X (.Call (.Name x p) [e, .Tuple es kk p1] [] pos) (tV X.K (do let h ← m; let x ← h.get; M.of ((P1.isi ts).run x))) := by
  obtain ⟨t, h1, h2⟩ := a_tys hp
  refine PEimp (w_bi b.f (crD_isiT ts) b.g b.m b.b b.n (by rw [List.all_cons, ns]; rfl) (pa_cons he (pa_cons (pe_tup h1) pa_nil rfl) (star1 ns))) fun σ H Q ⟨B, G, e, S, d, e', h, k⟩ => ?_
  obtain ⟨hd, e1, z1, z2⟩ := bind_ok h
  obtain ⟨y, e2, z3, z4⟩ := bind_ok z2
  obtain ⟨z5, z6⟩ := of_ok z4
  refine ⟨B, G, e, S, hd, e1, z1, fun v G1 H1 S1 s1 r1 => h2 σ H1 _ ⟨by rw [tysV_len]; exact Nat.le_trans hl (by decide), fun q hq => ⟨v, q, rfl, upd_same, ?_⟩⟩⟩
  obtain ⟨rfl, t1⟩ := HdOk.get S1 r1 z3
  simp only at z5 z6
  subst z6
  obtain ⟨ok1, rfl⟩ := isi_run z5
  have g : Grow0 G1 H1 G1 (upd H1 q (.tup (tysV ts))) := Grow.allocH S1.gh hq
  have S2 := S1.grow g
  obtain ⟨_, t2⟩ := HdOk.get S2 r1 z3
  exact ⟨G1, y, _, S2.gh, t2, z5, fun w G2 H2 g2 r2 => k w G2 H2 (S2.grow g2) (s1.trans g2.g) r2⟩
/-- sep.join(x) -/
theorem nab {o : Expr} {a : Str} {env : Env} {w : Sem Value} (h : (match o with | .Call _ _ _ _ => false | _ => true) = true) : attributeBase o a env w = w := by
  cases o <;> first | rfl | cases h
theorem w_join {a b : Expr} {apos pos : Pos} {z : List Nat} {n : M Hd} (hl : (apos.endLine == pos.line) = true) (hc : (match a with | .Call _ _ _ _ => false | _ => true) = true) (ns : nst b = true) (h1 : z.length ≤ bigLine) (h2 : ∀ c ∈ z, c < 0x110000) (ha : PE X a (tC (.str ⟨z.toArray⟩))) (hb : PE X b (tHd X.K n)) :
    PE X (.Call (.Attribute a (Str.ofString "join") apos) [b] [] pos) (tV X.K (do let h ← (do let d ← (pure (D.str z) : M D); pure (Hd.hv d) : M Hd); let k ← n; let x ← h.get; let y ← k.get; M.of (P2.run .join x y))) := by
  refine PEimp (pe_m1 F.slot_str_join F.type_str_join mt_joinD ha hb (by rw [star1 ns]; rfl) (nab hc) hl) fun σ H Q h => ⟨⟨_, rfl⟩, ?_⟩
  obtain ⟨B, G, e, S, d, e', h, k⟩ := h
  obtain ⟨j, e2, z2, z3⟩ := bind_ok (show (do let k ← n; let x ← (pure (D.str z) : M D); let y ← k.get; M.of (P2.run .join x y)) e = .ok (d, e') from h)
  obtain ⟨x, e3, z4, z5⟩ := bind_ok z3
  cases z4
  obtain ⟨y, e4, z6, z7⟩ := bind_ok z5
  obtain ⟨z8, z9⟩ := of_ok z7
  refine ⟨B, G, e, S, j, _, z2, fun v G1 H1 S1 s1 r1 => ⟨v, rfl, ?_⟩⟩
  obtain ⟨rfl, t1⟩ := HdOk.get S1 r1 z6
  simp only at z8 z9
  subst z9
  exact ⟨G1, .str z, y, d, S1.gh, (show RepT X.K G1 H1 (.str z) _ from ⟨rfl, h1, h2⟩), t1, z8, fun w G2 H2 g2 r2 => k w G2 H2 (S1.grow g2) (s1.trans g2.g) r2⟩
end
end En

/-! En10b: a op b op' c. -/
namespace En
open PySem PySem.Spec PyProof.Rows L2
def chnM (o o' : P2) (m n p : M D) : M D := do
  let x ← m
  let y ← n
  let r ← M.of (o.run x y)
  match r with
  | .bl true => do
    let z ← p
    M.of (o'.run y z)
  | .bl false => pure (.bl false)
  | _ => M.of .bad
section
variable {X : Cx}
theorem chn_imp {K : Fg} {o o' : P2} {m n p : M D} : ∀ σ H Q, tV K (chnM o o' m n p) σ H Q → tChain (rD2 K o.run) (rD2 K o'.run) (tV K m) (tV K n) (tV K p) σ H Q := fun σ H Q ⟨B, G, e, S, d, e', h, k⟩ => by
  obtain ⟨x, e1, h1, h⟩ := bind_ok h
  obtain ⟨y, e2, h2, h⟩ := bind_ok h
  obtain ⟨r, e3, h3, h⟩ := bind_ok h
  obtain ⟨h4, h5⟩ := of_ok h3
  simp only at h5
  subst h5
  refine ⟨B, G, e, S, x, e1, h1, fun v G1 H1 S1 s1 r1 => ⟨B, G1, e1, S1, y, _, h2, fun u G2 H2 S2 s2 r2 => ⟨G2, x, y, r, S2.gh, Rep.top S2.gh (Rep.mono s2 x r1), Rep.top S2.gh r2, h4, fun w G3 H3 g r3 => ?_⟩⟩⟩
  cases r with
  | bl b =>
    cases b with
    | true =>
      obtain ⟨z, e4, h6, h7⟩ := bind_ok h
      obtain ⟨h8, h9⟩ := of_ok h7
      simp only at h9
      subst h9
      refine ⟨true, r3, ?_⟩
      rw [if_pos rfl]
      exact ⟨B, G3, _, S2.grow g, z, _, h6, fun w' G4 H4 S4 s4 r4 => ⟨G4, y, z, d, S4.gh, Rep.top S4.gh (Rep.mono (g.g.trans s4) y r2), Rep.top S4.gh r4, h8, fun w2 G5 H5 g5 r5 => k w2 G5 H5 (S4.grow g5) (((s1.trans s2).trans (g.g.trans s4)).trans g5.g) r5⟩⟩
    | false =>
      cases h
      refine ⟨false, r3, ?_⟩
      rw [if_neg Bool.false_ne_true]
      exact k _ G3 H3 (S2.grow g) ((s1.trans s2).trans g.g) rfl
  | _ => cases h
theorem w_chn {a b c : Expr} {pos : Pos} {op op' : CmpOp} {o o' : P2} {m n p : M D} (ho : OpR X (compareOp op) (rD2 X.K o.run)) (ho' : OpR X (compareOp op') (rD2 X.K o'.run)) (hm : behindInMarks op' c = false) (ha : PE X a (tV X.K m)) (hb : PE X b (tV X.K n)) (hc : PE X c (tV X.K p)) :
    PE X (.Compare a [op, op'] [b, c] pos) (tV X.K (chnM o o' m n p)) := PEimp (pe_chain ho ho' ha hb hc hm) fun σ H Q h => chn_imp σ H Q h
theorem t_chn {a b c : Expr} {pos : Pos} {op op' : CmpOp} {o o' : P2} {m n p : M D} (ho : OpR X (compareOp op) (rD2 X.K o.run)) (ho' : OpR X (compareOp op') (rD2 X.K o'.run)) (hbl : ∀ x y d, o'.run x y = .ok d → isBl d = true) (hm : behindInMarks op' c = false) (ha : PE X a (tV X.K m)) (hb : PE X b (tV X.K n)) (hc : PE X c (tV X.K p)) :
    PT X (.Compare a [op, op'] [b, c] pos) (tTs X.K (evB (chnM o o' m n p))) := PTimp (pt_chain ho ho' ha hb hc hm) fun σ H Q h => by
  refine chn_imp σ H _ (tV_test (fun e d e' h => ?_) σ H Q h)
  obtain ⟨x, e1, h1, h⟩ := bind_ok h
  obtain ⟨y, e2, h2, h⟩ := bind_ok h
  obtain ⟨r, e3, h3, h⟩ := bind_ok h
  cases r with
  | bl b =>
    cases b with
    | true =>
      obtain ⟨z, e4, h6, h7⟩ := bind_ok h
      exact hbl _ _ _ (of_ok h7).1
    | false => cases h; rfl
  | _ => cases h
end
end En

/-! En11: calls of the program's functions. -/
namespace En
open PySem PySem.Spec PyProof.Rows L2

/-! ### what a function promises -/
def RetOk (K : Fg) (fr : Bool) (G H : Hp) (d : D) (Q : VK) : Prop := match fr, d with
  | true, .lst l => NewL K G H l Q
  | _, d => ∀ v G' H', Grow0 G H G' H' → Rep K G' d v → Q v H'
def Fn.frr (F : Fn) : Bool := F.fr && !F.io
def spF (K : Fg) (cf : CF) (id : Nat) (F : Fn) : Sp := fun vs H Q _ => vs.length = F.np ∧
  if F.io then ∃ G a vs' o l oo d, vs = .ref a :: vs' ∧ Same G H ∧ G a = none ∧ ObOk K G H a o ∧ Reps K G l vs' ∧ cf id (some o) l = .ok (d, oo) ∧
    ∀ v G' H', Grow (fun b => b = a) G H G' H' → (∀ o', oo = some o' → ObOk K G' H' a o') → Rep K G' d v → Q v H'
  else ∃ G l d o', Same G H ∧ Reps K G l vs ∧ cf id none l = .ok (d, o') ∧ RetOk K F.fr G H d Q
structure Cal (X : Cx) (cf : CF) (x : Str) (id : Nat) (F : Fn) : Prop where
  ex : ∃ f fd ps k, X.mg x = some (.ref f) ∧ PySem.W.keepIn X.K (.ref f) = true ∧ Binds X.K fd ps [] ∧ FnOk X.prog X.w X.K X.mg X.base CX0 k f fd ps (spF X.K cf id F) ∧ Room k X.A
  g : Gl X x
  n : (x == Str.ofString "__debug__") = false
def callR (cf : CF) (id : Nat) (l : List D) : M D := M.of (R.bind (cf id none l) fun p => .ok p.1)

section
variable {X : Cx} {K : Fg} {B : Bs} {e : Ev} {σ : L2.St} {G H G' H' : Hp}
theorem ret_val (S : StOk K B e σ G H) {fr : Bool} {d : D} {Q : VK} (k : ∀ v G' H', StOk K B e σ G' H' → Same G G' → Rep K G' d v → Q v H') : RetOk K fr G H d Q := by
  have gen : ∀ v G' H', Grow0 G H G' H' → Rep K G' d v → Q v H' := fun v G' H' g r => k v G' H' (S.grow g) g.g r
  cases fr with
  | false => cases d <;> exact gen
  | true =>
    cases d with
    | lst l =>
      intro p xs G2 H2 g hp h2 g2 r2
      obtain ⟨G3, S3, s3, r3⟩ := (S.grow g).fix (FrOk.of S g hp h2 g2) r2
      exact k (.ref p) G3 H2 S3 (g.g.trans s3) r3
    | _ => exact gen
theorem w_callTA {x : Str} {id : Nat} {F : Fn} {cf : CF} {p pos : Pos} {ex : Expr} {es : List Expr} {t : TA} (c : Cal X cf x id F) (ns : (ex :: es).all nst = true) (ha : PA X (ex :: es) t) :
    PE X (.Call (.Name x p) (ex :: es) [] pos) (fun σ H Q => t σ H fun vs H1 => spF X.K cf id F vs H1 Q E0) := by
  obtain ⟨f, fd, ps, k, h1, h2, h3, h4, h5⟩ := c.ex
  have ns' := ns
  rw [List.all_cons, Bool.and_eq_true] at ns'
  refine PEimp (pe_call h4 h5 c.g h1 h2 h3 .nil pass0 ha c.n (star1 ns'.1) (star_any ns'.2)) fun σ H Q q => ?_
  have e : (fun (vs : List V) (H1 : Hp) => spF X.K cf id F (vs ++ []) H1 Q E0) = fun vs H1 => spF X.K cf id F vs H1 Q E0 := by
    funext vs H1
    rw [List.append_nil]
  show t σ H fun vs H1 => spF X.K cf id F (vs ++ []) H1 Q E0
  rw [e]
  exact q
theorem w_callTA0 {x : Str} {id : Nat} {F : Fn} {cf : CF} {p pos : Pos} (c : Cal X cf x id F) :
    PE X (.Call (.Name x p) [] [] pos) (fun σ H Q => spF X.K cf id F [] H Q E0) := by
  obtain ⟨f, fd, ps, k, h1, h2, h3, h4, h5⟩ := c.ex
  exact PEimp (pe_call0 h4 h5 c.g h1 h2 h3 .nil pass0 c.n) fun σ H Q q => q
theorem callR_ok {cf : CF} {id : Nat} {l : List D} {d : D} {e' : Ev} (h : callR cf id l e = .ok (d, e')) : e' = e ∧ ∃ o', cf id none l = .ok (d, o') := by
  obtain ⟨h1, h2⟩ := of_ok h
  obtain ⟨p, h3, h4⟩ := rbind_ok h1
  cases h4
  exact ⟨h2, p.2, h3⟩
theorem spF_of {cf : CF} {id : Nat} {F : Fn} {l : List D} {d : D} {o' : Option Ob} {vs : List V} {Q : VK} {E : XK} (io : F.io = false) (hl : l.length = F.np) (hs : Same G H) (r : Reps K G l vs) (h : cf id none l = .ok (d, o')) (q : RetOk K F.fr G H d Q) : spF K cf id F vs H Q E := by
  refine ⟨by rw [r.length]; exact hl, ?_⟩
  rw [io]
  exact ⟨G, l, d, o', hs, r, h, q⟩
def lenIs (m : M (List D)) (n : Nat) : Prop := ∀ e l e', m e = .ok (l, e') → l.length = n
theorem w_call {x : Str} {id : Nat} {F : Fn} {cf : CF} {p pos : Pos} {ex : Expr} {es : List Expr} {n : M (List D)} (c : Cal X cf x id F) (io : F.io = false) (hl : lenIs n F.np) (ns : (ex :: es).all nst = true) (ha : PA X (ex :: es) (tAr X.K n)) :
    PE X (.Call (.Name x p) (ex :: es) [] pos) (tV X.K (do let l ← n; callR cf id l)) := PEimp (w_callTA c ns ha) fun σ H Q ⟨B, G, e, S, d, e', h, k⟩ => by
  obtain ⟨l, e1, h1, h2⟩ := bind_ok h
  obtain ⟨rfl, o', h3⟩ := callR_ok h2
  exact ⟨B, G, e, S, l, _, h1, fun vs G1 H1 S1 s1 r1 => spF_of io (hl _ _ _ h1) S1.gh r1 h3 (ret_val S1 fun v G2 H2 S2 s2 r2 => k v G2 H2 S2 (s1.trans s2) r2)⟩
theorem w_call0 {x : Str} {id : Nat} {F : Fn} {cf : CF} {p pos : Pos} (c : Cal X cf x id F) (io : F.io = false) (hl : F.np = 0) :
    PE X (.Call (.Name x p) [] [] pos) (tV X.K (do let l ← pure []; callR cf id l)) := PEimp (w_callTA0 c) fun σ H Q ⟨B, G, e, S, d, e', h, k⟩ => by
  obtain ⟨rfl, o', h3⟩ := callR_ok (show callR cf id [] e = .ok (d, e') from h)
  exact spF_of io (show ([] : List D).length = F.np from hl.symm) S.gh (show Reps X.K G [] [] from rfl) h3 (ret_val S fun v G2 H2 S2 s2 r2 => k v G2 H2 S2 s2 r2)
def lstOf (d : D) : M (List D) := match d with
  | .lst m => pure m
  | _ => M.of .bad
theorem ret_fr (S : StOk K B e σ G H) {d : D} {l : List D} {e1 e' : Ev} {Q : VK} (h : lstOf d e1 = .ok (l, e')) (k : ∀ p xs G' H', StOk K B e σ G' H' → Same G G' → FrOk B e σ G' H' p xs → Reps K G' l xs → Q (.ref p) H') : RetOk K true G H d Q ∧ e' = e1 := by
  cases d with
  | lst m =>
    cases h
    exact ⟨fun p xs G2 H2 g hp h2 g2 r2 => k p xs G2 H2 (S.grow g) g.g (FrOk.of S g hp h2 g2) r2, rfl⟩
  | _ => cases h
theorem n_call {x : Str} {id : Nat} {F : Fn} {cf : CF} {p pos : Pos} {ex : Expr} {es : List Expr} {n : M (List D)} (c : Cal X cf x id F) (io : F.io = false) (fr : F.fr = true) (hl : lenIs n F.np) (ns : (ex :: es).all nst = true) (ha : PA X (ex :: es) (tAr X.K n)) :
    PE X (.Call (.Name x p) (ex :: es) [] pos) (tFr X.K (do let l ← n; let d ← callR cf id l; lstOf d)) := PEimp (w_callTA c ns ha) fun σ H Q ⟨B, G, e, S, d, e', h, k⟩ => by
  obtain ⟨l, e1, h1, h2⟩ := bind_ok h
  obtain ⟨d1, e2, h3, h4⟩ := bind_ok h2
  obtain ⟨rfl, o', h5⟩ := callR_ok h3
  refine ⟨B, G, e, S, l, _, h1, fun vs G1 H1 S1 s1 r1 => ?_⟩
  have ee : e' = e2 := by
    cases d1 with
    | lst m => cases h4; rfl
    | _ => cases h4
  subst ee
  exact spF_of io (hl _ _ _ h1) S1.gh r1 h5 (by rw [fr]; exact (ret_fr S1 h4 fun p xs G2 H2 S2 s2 f2 r2 => k p xs G2 H2 S2 (s1.trans s2) f2 r2).1)
theorem n_call0 {x : Str} {id : Nat} {F : Fn} {cf : CF} {p pos : Pos} (c : Cal X cf x id F) (io : F.io = false) (fr : F.fr = true) (hl : F.np = 0) :
    PE X (.Call (.Name x p) [] [] pos) (tFr X.K (do let l ← pure []; let d ← callR cf id l; lstOf d)) := PEimp (w_callTA0 c) fun σ H Q ⟨B, G, e, S, d, e', h, k⟩ => by
  obtain ⟨d1, e2, h3, h4⟩ := bind_ok (show (do let d ← callR cf id []; lstOf d : M (List D)) e = .ok (d, e') from h)
  obtain ⟨rfl, o', h5⟩ := callR_ok h3
  have ee : e' = e2 := by
    cases d1 with
    | lst m => cases h4; rfl
    | _ => cases h4
  subst ee
  exact spF_of io (show ([] : List D).length = F.np from hl.symm) S.gh (show Reps X.K G [] [] from rfl) h5 (by rw [fr]; exact (ret_fr S h4 fun p xs G2 H2 S2 s2 f2 r2 => k p xs G2 H2 S2 s2 f2 r2).1)
/-- f(cell, ..) -/
theorem isC_ok {i : Nat} {r : Unit × Ev} (h : isC i e = .ok r) : r.2 = e ∧ ∃ k o, e[i]? = some (.cel k o) := by
  unfold isC at h
  split at h
  · rename_i k o q
    cases h
    exact ⟨rfl, k, o, q⟩
  · cases h
theorem chgV_ok {α : Type} {i : Nat} {f : Ob → R (α × Ob)} {a : α} {e' : Ev} (h : chgV i f e = .ok (a, e')) : ∃ k o o', e[i]? = some (.cel k o) ∧ k ≠ .lock ∧ f o = .ok (a, o') ∧ e' = e.set i (.cel k o') := by
  unfold chgV at h
  split at h
  · rename_i o q
    obtain ⟨p, h1, h2⟩ := rbind_ok h
    cases h2
    exact ⟨_, _, _, q, (fun z => nomatch z), h1, rfl⟩
  · rename_i o q
    obtain ⟨p, h1, h2⟩ := rbind_ok h
    cases h2
    exact ⟨_, _, _, q, (fun z => nomatch z), h1, rfl⟩
  · cases h
theorem w_cio {x y : Str} {id i : Nat} {F : Fn} {S0 : Su} {p p1 pos : Pos} {es : List Expr} {n : M (List D)} (c : Cal X S0.cf x id F) (io : F.io = true) (hl : lenIs n (F.np - 1)) (hn : 0 < F.np) (ns : es.all nst = true) (hy : PE X (.Name y p1) (tVar i)) (ha : PA X es (tAr X.K n)) :
    PE X (.Call (.Name x p) (.Name y p1 :: es) [] pos) (tV X.K (do isC i; let l ← n; callC S0 id i l)) := PEimp (w_callTA c (by rw [List.all_cons, ns]; rfl) (pa_cons hy ha rfl)) fun σ H Q ⟨B, G, e, S, d, e', h, k⟩ => by
  obtain ⟨_, e1, h1, h2⟩ := bind_ok h
  obtain ⟨ee, k1, o1, hc⟩ := isC_ok h1
  simp only at ee
  subst ee
  obtain ⟨l, e2, h3, h4⟩ := bind_ok h2
  obtain ⟨k2, o2, o', h5, h6, h7, h8⟩ := chgV_ok h4
  obtain ⟨q, h9, h10⟩ := rbind_ok h7
  have h11 : ∃ o'', q.2 = some o'' ∧ d = q.1 ∧ o' = o'' := by
    cases z : q.2 with
    | none => rw [z] at h10; cases h10
    | some o'' => rw [z] at h10; cases h10; exact ⟨_, rfl, rfl, rfl⟩
  obtain ⟨o'', w1, w2, w3⟩ := h11
  subst w3
  subst w2
  obtain ⟨a, ha1, _⟩ := S.cel hc
  refine ⟨.ref a, ha1, B, G, e1, S, l, e2, h3, fun vs G1 H1 S1 s1 r1 => ?_⟩
  obtain ⟨a', g1, g2, g3, g4⟩ := S1.cel h5
  rw [ha1] at g1
  cases g1
  refine ⟨by rw [List.length_cons, r1.length, hl _ _ _ h3]; omega, ?_⟩
  rw [io]
  refine ⟨G1, a, vs, o2, l, q.2, q.1, rfl, S1.gh, g2, g3, r1, h9, fun v G2 H2 g go r2 => ?_⟩
  rw [h8] at k
  exact k v G2 H2 (S1.change h5 h6 ha1 g (go _ w1)) (s1.trans g.g) r2
/-- f([..], ..) -/
theorem StOk.growF {p : Addr} {xs : List V} (S : StOk K B e σ G H) (f : FrOk B e σ G H p xs) (g : Grow (fun b => b = p) G H G' H') : StOk K B e σ G' H' := by
  refine ⟨S.len, fun j s v q1 q2 => ?_, S.dj, ?_, S.pn, fun q hq => ?_⟩
  · have z := S.sl j s v q1 q2
    cases s with
    | no => trivial
    | val d => obtain ⟨x, z1, z2⟩ := z; exact ⟨x, z1, Rep.mono g.g d z2⟩
    | exn c => obtain ⟨x, cc, z1, zt, z2⟩ := z; exact ⟨x, cc, z1, zt, g.g _ _ z2⟩
    | cel k1 o1 =>
      obtain ⟨b, z1, z2, z3, z4⟩ := z
      have hb : b ≠ p := fun w => by
        subst w
        rw [z1] at q2
        exact f.c j _ _ q1 q2
      obtain ⟨u, q⟩ := z3.there
      refine ⟨b, z1, g.new b z2 (by rw [q]; exact fun z => nomatch z), ?_, z4⟩
      cases o1 with
      | dic ks vs => exact z3.elim
      | lst m => obtain ⟨ys, y1, y2⟩ := z3; exact ⟨ys, g.h b _ y1 hb, y2.mono g.g⟩
  · refine ⟨S.gr.g.trans g.g, fun c u q m => g.h c u (S.gr.h c u q m) fun w => ?_, fun c q => g.there c (S.gr.there c q), g.gh, fun c q z => g.new c (S.gr.new c q z) (S.gr.there c z)⟩
    rw [w, f.b] at q
    cases q
  · obtain ⟨z1, z2, z3⟩ := S.kp q hq
    exact ⟨g.h _ _ z1 (f.k q hq), g.new _ z2 (by rw [z1]; exact fun z => nomatch z), z3⟩
theorem w_ciof {x : Str} {id : Nat} {F : Fn} {cf : CF} {p pos : Pos} {ex : Expr} {es : List Expr} {m n : M (List D)} (c : Cal X cf x id F) (io : F.io = true) (hl : lenIs n (F.np - 1)) (hn : 0 < F.np) (ns : (ex :: es).all nst = true) (hx : PE X ex (tFr X.K m)) (ha : PA X es (tAr X.K n)) :
    PE X (.Call (.Name x p) (ex :: es) [] pos) (tV X.K (do let c ← m; let l ← n; M.of (R.bind (cf id (some (.lst c)) l) fun p => .ok p.1))) := by
  have ns' := ns
  rw [List.all_cons, Bool.and_eq_true] at ns'
  refine PEimp (w_callTA c ns (pa_cons hx ha (star1 ns'.1))) fun σ H Q ⟨B, G, e, S, d, e', h, k⟩ => ?_
  obtain ⟨cl, e1, h1, h2⟩ := bind_ok h
  obtain ⟨l, e2, h3, h4⟩ := bind_ok h2
  obtain ⟨h5, h6⟩ := of_ok h4
  obtain ⟨q, h7, h8⟩ := rbind_ok h5
  simp only at h6
  subst h6
  refine ⟨B, G, e, S, cl, e1, h1, fun p xs G1 H1 S1 s1 f1 r1 => ⟨_, G1, e1, S1.hold f1, l, _, h3, fun vs G2 H2 S2 s2 r2 => ?_⟩⟩
  have f2 := FrOk.back S2 f1.b f1.k
  refine ⟨by rw [List.length_cons, r2.length, hl _ _ _ h3]; omega, ?_⟩
  rw [io]
  refine ⟨G2, p, vs, .lst cl, l, q.2, q.1, rfl, S2.gh, f2.g, ⟨xs, f2.h, r1.mono s2⟩, r2, h7, fun v G3 H3 g go r3 => ?_⟩
  cases h8
  exact k v G3 H3 (S2.free.growF f2 g) ((s1.trans s2).trans g.g) r3
end
end En

/-! En11b: calls by names alone. -/
namespace En
open PySem PySem.Spec PyProof.Rows L2

section
variable {X : Cx} {K : Fg}
theorem pe_callK0 {CX : CXT} {k : Nat} {f : Addr} {fd : FuncData} {ps ks : List Str} {sp : Sp} {E : XK} {x : Str} {p pos : Pos} {kws : List Keyword} {tk : TA} {g : List Value → List Value → List Value} {gV : List V → List V → List V}
    (F : FnOk X.prog X.w X.K X.mg X.base CX k f fd ps sp) (hr : Room k X.A) (hg : Gl X x) (hm : X.mg x = some (.ref f)) (hk : PySem.W.keepIn X.K (.ref f) = true) (hb : KBinds X.K fd ps ks g gV) (hx : Passes CX X E) (ht : PK X kws tk)
    (h1 : ((backToKw pos (keywordEach kws X.env)).all fun x => x.1.isSome) = true) (h2 : (backToKw pos (keywordEach kws X.env)).filterMap (fun x => x.1) = ks) (h3 : (x == Str.ofString "__debug__") = false)
    (h4 : ((backToKw pos (keywordEach kws X.env)).any fun x => x.1.isNone) = false) :
    PE X (.Call (.Name x p) [] kws pos) (fun σ H Q => tk σ H fun zs H1 => sp (gV [] zs) H1 Q E) := by
  refine ⟨fun pins s σ H Q I h => wpAny_Call_Name_kw ?_⟩
  have hn : PE X (.Name x p) (tC (.ref f)) := pe_glob hg hm rfl h3
  refine thn (hn.run pins s σ H (fun v H1 => v = .ref f ∧ H1 = H) I ⟨rfl, rfl⟩) fun v s1 ⟨w, H1, I1, r1, e1, e2⟩ => ?_
  subst e1
  subst e2
  have e3 : v = .ref f := r1
  subst e3
  refine PySem.W.callWith_KW0 I1.kIn hk h1 ?_ (by rw [h4]; rfl)
  refine thn (ht.run pos pins s1 σ H1 _ I1 h) fun ws s2 ⟨zs, H2, I2, rv, q⟩ => ⟨I2.kIn, ?_⟩
  rw [h2]
  exact run_fnk F hr hb hx I2 .nil rv q
def gP (p : List Nat) : List Value → List Value → List Value := fun us ws => if ws.length = p.length then us ++ p.map fun i => ws.getD i .none else []
def gVP (p : List Nat) : List V → List V → List V := fun us ws => if ws.length = p.length then us ++ p.map fun i => ws.getD i .non else []
theorem gP_map {zs : List V} {ws : List Value} (h2 : Vals zs ws) : ∀ p : List Nat, Vals (p.map fun i => zs.getD i .non) (p.map fun i => ws.getD i .none)
  | [] => .nil
  | i :: p => by
    refine .cons ?_ (gP_map h2 p)
    show L2.RelV (zs.getD i .non) (ws.getD i .none)
    rw [List.getD_eq_getElem?_getD, List.getD_eq_getElem?_getD]
    have hl := Paired.length h2
    have : ∀ {zs : List V} {ws : List Value} (i : Nat), Vals zs ws → L2.RelV (zs[i]?.getD .non) (ws[i]?.getD .none) := by
      intro zs ws i h
      induction h generalizing i with
      | nil => exact rfl
      | cons r t ih =>
        cases i with
        | zero => exact r
        | succ i => exact ih i
    exact this i h2
theorem gP_rel {p : List Nat} {vs : List V} {us : List Value} {zs : List V} {ws : List Value} (h : Vals vs us) (h2 : Vals zs ws) : Vals (gVP p vs zs) (gP p us ws) := by
  unfold gP gVP
  rw [Paired.length h2]
  by_cases e : ws.length = p.length
  · rw [if_pos e, if_pos e]
    exact Vals.append h (gP_map h2 p)
  · rw [if_neg e, if_neg e]
    exact .nil
theorem kb_mk {fd : FuncData} {ps ks : List Str} {p : List Nat} (h0 : 0 < ps.length) (hp : p.length = ps.length) (hb : ∀ ws : List Value, ws.length = p.length → bindArgs fd ⟨[], ks.zip ws⟩ = pure (ps.zip (p.map fun i => ws.getD i .none))) : KBinds K fd ps ks (gP p) (gVP p) := by
  refine ⟨fun s us ws _ hl => ?_, fun h h2 => gP_rel h h2⟩
  unfold gP at hl ⊢
  by_cases e : ws.length = p.length
  · rw [if_pos e] at hl ⊢
    rw [List.length_append, List.length_map] at hl
    have hu : us = [] := List.eq_nil_of_length_eq_zero (by omega)
    subst hu
    exact .of_eq (hb ws e)
  · rw [if_neg e] at hl
    rw [← hl] at h0
    exact absurd h0 (by decide)
theorem reps_perm0 {G : Hp} {l : List D} {xs : List V} (r : Reps K G l xs) : ∀ p : List Nat, Reps K G (permD p l) (p.map fun i => xs.getD i .non)
  | [] => rfl
  | i :: p => by
    refine Reps.cons ?_ (reps_perm0 r p)
    show Rep K G (l.getD i .non) (xs.getD i .non)
    rw [List.getD_eq_getElem?_getD, List.getD_eq_getElem?_getD]
    cases h : l[i]? with
    | none =>
      rw [List.getElem?_eq_none (by rw [r.length]; exact List.getElem?_eq_none_iff.mp h)]
      exact rfl
    | some d =>
      obtain ⟨x, h1, h2⟩ := r.get h
      rw [h1]
      exact h2
theorem reps_perm {G : Hp} {l : List D} {xs : List V} (r : Reps K G l xs) (p : List Nat) (hl : l.length = p.length) : Reps K G (permD p l) (gVP p [] xs) := by
  unfold gVP
  rw [if_pos (by rw [r.length]; exact hl), List.nil_append]
  exact reps_perm0 r p
/-- keywords: their names, their values -/
def kwN : List Keyword → List Str
  | [] => []
  | ⟨some n, _, _⟩ :: r => n :: kwN r
  | ⟨none, _, _⟩ :: r => kwN r
def kwE : List Keyword → List Expr
  | [] => []
  | ⟨_, e, _⟩ :: r => e :: kwE r
def kwA : List Keyword → Bool
  | [] => true
  | ⟨some _, _, _⟩ :: r => kwA r
  | ⟨none, _, _⟩ :: _ => false
theorem kw_facts {env : Env} {pos : Pos} : ∀ {kws : List Keyword}, kwA kws = true → ((backToKw pos (keywordEach kws env)).all fun x => x.1.isSome) = true ∧ (backToKw pos (keywordEach kws env)).filterMap (fun x => x.1) = kwN kws ∧ ((backToKw pos (keywordEach kws env)).any fun x => x.1.isNone) = false
  | [], _ => ⟨rfl, rfl, rfl⟩
  | ⟨some n, e, q⟩ :: r, h => by
    obtain ⟨h1, h2, h3⟩ := kw_facts (env := env) (pos := pos) (kws := r) h
    refine ⟨?_, ?_, ?_⟩
    · show (true && ((backToKw pos (keywordEach r env)).all fun x => x.1.isSome)) = true
      rw [h1]
      rfl
    · show n :: (backToKw pos (keywordEach r env)).filterMap (fun x => x.1) = n :: kwN r
      rw [h2]
    · show (false || ((backToKw pos (keywordEach r env)).any fun x => x.1.isNone)) = false
      rw [h3]
      rfl
  | ⟨none, _, _⟩ :: _, h => by cases h
theorem PKimp {e : List Keyword} {t t' : TA} (h : PK X e t) (i : ∀ σ H Q, t' σ H Q → t σ H Q) : PK X e t' := ⟨fun pos pins s σ H Q I q => h.run pos pins s σ H Q I (i σ H Q q)⟩
theorem k_nil : PK X [] (tAr X.K (pure [])) := PKimp pk_nil fun σ H Q ⟨B, G, e, S, l, e', he, k⟩ => by
  cases he
  exact k [] G H S (Same.refl _) rfl
theorem k_cons {nm : Option Str} {e : Expr} {kp : Pos} {kws : List Keyword} {m : M D} {n : M (List D)} (he : PE X e (tV X.K m)) (hs : PK X kws (tAr X.K n)) :
    PK X (⟨nm, e, kp⟩ :: kws) (tAr X.K (do let x ← m; let l ← n; pure (x :: l))) := PKimp (pk_cons he hs) fun σ H Q ⟨B, G, e, S, d, e', h, k⟩ => by
  obtain ⟨x, e1, h1, h2⟩ := bind_ok h
  obtain ⟨l, e2, h3, h4⟩ := bind_ok h2
  cases h4
  exact ⟨B, G, e, S, x, e1, h1, fun v G1 H1 S1 s1 r1 => ⟨B, G1, e1, S1, l, _, h3, fun vs G2 H2 S2 s2 r2 => k (v :: vs) G2 H2 S2 (s1.trans s2) (Reps.cons (Rep.mono s2 x r1) r2)⟩⟩
structure CalK (X : Cx) (cf : CF) (x : Str) (id : Nat) (F : Fn) (ks : List Str) (p : List Nat) : Prop where
  ex : ∃ f fd ps k, X.mg x = some (.ref f) ∧ PySem.W.keepIn X.K (.ref f) = true ∧ KBinds X.K fd ps ks (gP p) (gVP p) ∧ FnOk X.prog X.w X.K X.mg X.base CX0 k f fd ps (spF X.K cf id F) ∧ Room k X.A
  g : Gl X x
  n : (x == Str.ofString "__debug__") = false
theorem w_callK {x : Str} {id : Nat} {F : Fn} {cf : CF} {p pos : Pos} {kws : List Keyword} {n : M (List D)} {pm : List Nat} (c : CalK X cf x id F (kwN kws) pm) (io : F.io = false) (hl : pm.length = F.np) (ln : lenIs n pm.length) (ka : kwA kws = true) (hk : PK X kws (tAr X.K n)) :
    PE X (.Call (.Name x p) [] kws pos) (tV X.K (do let l ← n; callR cf id (permD pm l))) := by
  obtain ⟨f, fd, ps, k, h1, h2, h3, h4, h5⟩ := c.ex
  obtain ⟨z1, z2, z3⟩ := kw_facts (env := X.env) (pos := pos) ka
  refine PEimp (pe_callK0 (E := E0) h4 h5 c.g h1 h2 h3 pass0 hk z1 z2 c.n z3) fun σ H Q ⟨B, G, e, S, d, e', h, k⟩ => ?_
  obtain ⟨l, e1, h1, h2⟩ := bind_ok h
  obtain ⟨rfl, o', h3⟩ := callR_ok h2
  exact ⟨B, G, e, S, l, _, h1, fun vs G1 H1 S1 s1 r1 => spF_of io (by unfold permD; rw [List.length_map]; exact hl) S1.gh (reps_perm r1 pm (ln _ _ _ h1)) h3 (ret_val S1 fun v G2 H2 S2 s2 r2 => k v G2 H2 S2 (s1.trans s2) r2)⟩
end
end En

/-! En11c: max, min of three ints. -/
namespace En
open PySem PySem.Spec PyProof.Rows L2
theorem nuMax3_int (a i j : Int) : nuMax3 (.int a) (.int i) (.int j) = some (.int (let m := if i > a then i else a; if j > m then j else m)) := by
  have h : ∀ x y : Int, nuMax2 (.int x) (.int y) = some (.int (if y > x then y else x)) := fun x y => by
    show some (if decide (x < y) = true then V.int y else V.int x) = _
    by_cases hxy : x < y
    · simp [hxy]
    · simp [hxy]
  show (nuMax2 (.int a) (.int i)).bind (fun m => nuMax2 m (.int j)) = _
  rw [h]
  exact h _ j
theorem nuMin3_int (a i j : Int) : nuMin3 (.int a) (.int i) (.int j) = some (.int (let m := if i < a then i else a; if j < m then j else m)) := by
  have h : ∀ x y : Int, nuMin2 (.int x) (.int y) = some (.int (if y < x then y else x)) := fun x y => by
    show some (if decide (y < x) = true then V.int y else V.int x) = _
    by_cases hxy : y < x
    · simp [hxy]
    · simp [hxy]
  show (nuMin2 (.int a) (.int i)).bind (fun m => nuMin2 m (.int j)) = _
  rw [h]
  exact h _ j
section
variable {X : Cx}
theorem w_f3 {x : Str} {v : Value} {p pos : Pos} {e e2 e3 : Expr} {o : P3} {m : M Hd} {n q : M D} {f : Int → Int → Int → Int} (b : Bi X x v)
    (hf : ∀ x y z d, o.run x y z = .ok d → ∃ a i j, x = .int a ∧ y = .int i ∧ z = .int j ∧ d = .int (f a i j)) (hc : CallR X v (fun xs H Q => ∃ a i j, xs = [.int a, .int i, .int j] ∧ Q (.int (f a i j)) H))
    (ns : nst e = true) (ns2 : nst e2 = true) (ns3 : nst e3 = true) (he : PE X e (tHd X.K m)) (he2 : PE X e2 (tV X.K n)) (he3 : PE X e3 (tV X.K q)) :
    PE X (.Call (.Name x p) [e, e2, e3] [] pos) (tV X.K (do let h ← m; let y ← n; let z ← q; let x ← h.get; M.of (o.run x y z))) :=
  PEimp (w_bi b.f hc b.g b.m b.b b.n (by simp [ns, ns2, ns3]) (pa_cons he (pa_cons he2 (pa_cons he3 pa_nil (star1 ns3)) (star1 ns2)) (star1 ns))) fun σ H Q h =>
    tHd_mono (p3_imp (r := fun v i j H Q => ∃ a, v = .int a ∧ Q (.int (f a i j)) H) (fun x y z d hd => by
        obtain ⟨a, i, j, _, h2, h3, _⟩ := hf x y z d hd
        exact ⟨⟨i, h2⟩, j, h3⟩) (fun x i j d v G H Q hs ht hd k => by
        obtain ⟨a, i', j', rfl, h2, h3, rfl⟩ := hf _ _ _ _ hd
        cases h2
        cases h3
        exact ⟨a, ht, same1 hs (show Rep X.K G (.int (f a i j)) _ from rfl) k⟩) σ H Q h) fun v H q => tV_mono q fun u H2 ⟨i, hu, q⟩ => tV_mono q fun z H3 ⟨j, hz, a, hv, q⟩ => ⟨a, i, j, by rw [hv, hu, hz], q⟩
theorem cr_max3 (hc : X.calm = true) : CallR X (.builtin "max") (fun xs H Q => ∃ a i j, xs = [.int a, .int i, .int j] ∧ Q (.int (let m := if i > a then i else a; if j > m then j else m)) H) := fun pins s σ H xs us Q I r ⟨a, i, j, e, q⟩ =>
  call_max3Nu hc pins s σ H xs us Q I r ⟨_, _, _, _, e, nuMax3_int a i j, q⟩
theorem cr_min3 (hc : X.calm = true) : CallR X (.builtin "min") (fun xs H Q => ∃ a i j, xs = [.int a, .int i, .int j] ∧ Q (.int (let m := if i < a then i else a; if j < m then j else m)) H) := fun pins s σ H xs us Q I r ⟨a, i, j, e, q⟩ =>
  call_min3Nu hc pins s σ H xs us Q I r ⟨_, _, _, _, e, nuMin3_int a i j, q⟩
theorem max3_ok {x y z d : D} (h : P3.run .max3 x y z = .ok d) : ∃ a i j, x = .int a ∧ y = .int i ∧ z = .int j ∧ d = .int (let m := if i > a then i else a; if j > m then j else m) := by
  cases x <;> cases y <;> cases z <;> first | (cases h; exact ⟨_, _, _, rfl, rfl, rfl, rfl⟩) | cases (show R.bad = R.ok d from h)
theorem min3_ok {x y z d : D} (h : P3.run .min3 x y z = .ok d) : ∃ a i j, x = .int a ∧ y = .int i ∧ z = .int j ∧ d = .int (let m := if i < a then i else a; if j < m then j else m) := by
  cases x <;> cases y <;> cases z <;> first | (cases h; exact ⟨_, _, _, rfl, rfl, rfl, rfl⟩) | cases (show R.bad = R.ok d from h)
end
end En

/-! En11d: max(texts, key=len) on the machine. -/
namespace En
open PySem PySem.Spec PyProof.Rows L2
/-- the first of the longest -/
def mlS : Str → List Str → Str
  | b, [] => b
  | b, y :: r => if b.length < y.length then mlS y r else mlS b r
section
variable {prog : Program} {w : World} {A : Around} {s : Shared} {a I S : Addr} {its : List Value} {ss : List Str} {R : Result → Shared → Prop}
abbrev KeepO (h0 h : Heap) : Prop := ∀ b o, h0.get? b = some o → h.get? b = some o
theorem isList_keep {h0 h : Heap} (l : h0.IsList a its.toArray) (k : KeepO h0 h) : h.IsList a its.toArray := by
  obtain ⟨o, ho, r⟩ := l
  exact ⟨o, k _ _ ho, r⟩
theorem vstr_get (hv : Vals (ss.map V.str) its) {i : Nat} {v : Value} (h : its[i]? = some v) : ∃ x t, ss[i]? = some x ∧ v = .str x t := by
  have hl := hv.length
  rw [List.length_map] at hl
  have hi := (List.getElem?_eq_some_iff.mp h).1
  have hx : ss[i]? = some ss[i] := List.getElem?_eq_getElem (by omega)
  obtain ⟨u, h1, h2⟩ := hv.get (i := i) (x := .str ss[i]) (by rw [List.getElem?_map, hx]; rfl)
  rw [h] at h1
  cases h1
  obtain ⟨t, rfl⟩ := h2
  exact ⟨_, t, hx, rfl⟩
theorem ml_loop (hh : A.handled = none) (hl : s.heap.IsList a its.toArray) (hI : s.heap.get? I = none) (hS : s.heap.get? S = none) (hSI : S ≠ I) (hv : Vals (ss.map V.str) its) (hz : ∀ x ∈ ss, x.length ≤ sizeLine) :
    ∀ (r j : Nat) (h : Heap) (tk : Nat) (xb : Str) (tb tb2 : Tok) (c : Nat), ss.length - j = r → j ≤ ss.length → KeepO s.heap h → h.get? S = some (seqObj "list" #[.str xb tb2, .int xb.length tb] c) → h.IsListIter I a j →
      (∀ h' tk' t, KeepO s.heap h' → R (.ok (.ret (.str (mlS xb (ss.drop j)) t))) { s with heap := h', toks := tk' }) →
      codeAny (model prog w) A (.builtin "max.loop" ⟨[.ref I, .builtin "len", .ref S], []⟩) R { s with heap := h, toks := tk } := by
  have hname : (toString "max" ++ toString ".loop" : String) = "max.loop" := by decide
  have hlen : its.length = ss.length := by have := hv.length; rw [List.length_map] at this; exact this.symm
  have haI : a ≠ I := fun e => by
    obtain ⟨o, ho, _⟩ := hl
    rw [e, hI] at ho
    cases ho
  have W := Walks.list (prog := prog) (w := w) (A := A.in1) hh I a haI its.toArray
  have hsz : its.toArray.size = its.length := List.size_toArray ..
  have notS : ∀ {b : Addr} {o : Obj}, s.heap.get? b = some o → b ≠ S := fun e q => by rw [q, hS] at e; cases e
  have notI : ∀ {b : Addr} {o : Obj}, s.heap.get? b = some o → b ≠ I := fun e q => by rw [q, hI] at e; cases e
  intro r
  induction r with
  | zero =>
    intro j h tk xb tb tb2 c hr hj k nS it hR
    have hin : j = ss.length := by omega
    refine codeAny_builtin PySem.F.entry_max_loop ?_
    rw [Around.under_plainId PySem.F.plain_max_loop _]
    show wpAny _ A.in1 (seqItems? (.ref S) >>= _) _ _ _
    refine wpAny_bind (wpAny_seqItems nS rfl ?_)
    show wpAny _ A.in1 (tryCatch (pyNext (.ref I)) _ >>= _) _ _ _
    refine wpAny_bind (wpAny_tryCatch (W.done _ _ _ ⟨by rw [hsz, hlen, ← hin]; exact it, isList_keep hl k⟩ fun h' tk' hk' => ?_))
    have hS' := hk' S _ (by simpa using hSI) nS
    have s1 := Heap.SameBut.update h' S (Obj.mapSeq fun _ => (#[] : Array Value))
    show wpAny _ A.in1 (updateSeq S (fun _ => #[]) >>= _) _ _ _
    refine wpAny_bind ?_
    refine wpAny_updateSeq hS' rfl (wpAny_bind (wpAny_letGo (wpAny_pure ?_)))
    have := hR (h'.update S (Obj.mapSeq fun _ => #[])) tk' tb2 fun b o e => (s1.2 b (notS e)).trans (hk' b o (by simpa using notI e) (k b o e))
    rw [List.drop_eq_nil_of_le (by omega)] at this
    exact this
  | succ r ih =>
    intro j h tk xb tb tb2 c hr hj k nS it hR
    have hlt : j < ss.length := by omega
    refine codeAny_builtin PySem.F.entry_max_loop ?_
    rw [Around.under_plainId PySem.F.plain_max_loop _]
    show wpAny _ A.in1 (seqItems? (.ref S) >>= _) _ _ _
    refine wpAny_bind (wpAny_seqItems nS rfl ?_)
    show wpAny _ A.in1 (tryCatch (pyNext (.ref I)) _ >>= _) _ _ _
    refine wpAny_bind (wpAny_tryCatch (W.item j _ _ _ (by rw [hsz, hlen]; exact hlt) ⟨it, isList_keep hl k⟩ fun v h' tk' hP hst' hk' => ?_))
    have hv1 : its[j]? = some v := by simpa using hP
    obtain ⟨y, ty, hy, rfl⟩ := vstr_get hv hv1
    have hS' := hk' S _ (by simpa using hSI) nS
    have k' : KeepO s.heap h' := fun b o e => hk' b o (by simpa using notI e) (k b o e)
    have hyz : y.length ≤ sizeLine := hz y (List.mem_of_getElem? hy)
    have hdrop : ss.drop j = y :: ss.drop (j + 1) := by
      rw [List.drop_eq_getElem_cons hlt]
      rw [List.getElem?_eq_getElem hlt] at hy
      rw [Option.some.inj hy]
    rw [hdrop] at hR
    obtain ⟨kf, k0, k1⟩ : ∃ kf : Nat → Int, kf 0 = y.length ∧ kf 1 = xb.length := ⟨fun i => if i = 0 then y.length else xb.length, rfl, rfl⟩
    have hline := line63
    have hsl : sizeLine = 16777216 := sizeLine_eq
    show wpAny _ A.in1 (tryCatch (holding [.str y ty] (call (.builtin "len") [.str y ty])) _ >>= _) _ _ _
    refine wpAny_bind (wpAny_tryCatch (wpAny_holding (P.len_str (by omega) ?_)))
    show wpAny _ A.in1 (tryCatch (holding [.str y ty, .int y.length _] (richCompare .Gt (.int y.length _) (.int xb.length tb) >>= _)) _ >>= _) _ _ _
    refine wpAny_bind (wpAny_tryCatch (wpAny_holding (wpAny_bind (CmpOf.ints_gt (prog := prog) (w := w) (A := A.in1) (P := fun i v => ∃ t, v = .int (kf i) t) kf (fun i v h => h) 0 1 _ _ _ _ _ ⟨_, by rw [k0]⟩ ⟨tb, by rw [k1]⟩ ?_))))
    refine wpAny_bind (wpAny_holding (wpAny_truthy_bool ?_))
    refine wpAny_bind (wpAny_letGo (wpAny_pure ?_))
    show wpAny _ A.in1 (if decide (kf 0 > kf 1) = true then _ else _) _ _ _
    by_cases hd : kf 0 > kf 1
    · rw [if_pos (decide_eq_true hd)]
      have hb : xb.length < y.length := by omega
      rw [show mlS xb (y :: ss.drop (j + 1)) = mlS y (ss.drop (j + 1)) from if_pos hb] at hR
      have s1 := Heap.SameBut.update h' S (Obj.mapSeq fun _ => #[.str y ty, .int y.length (tk' + 1)])
      obtain ⟨c2, hc2⟩ : ∃ c2, (h'.update S (Obj.mapSeq fun _ => #[.str y ty, .int y.length (tk' + 1)])).get? S = some (seqObj "list" #[.str y ty, .int y.length (tk' + 1)] c2) := ⟨_, get?_update_seq hS' fun _ => #[.str y ty, .int y.length (tk' + 1)]⟩
      refine wpAny_bind ?_
      refine wpAny_updateSeq hS' rfl (wpAny_bind (wpAny_letGo ?_))
      rw [hname]
      refine wpAny_pure ⟨plainId_quiet PySem.F.plain_max_loop _, ih (j + 1) _ _ y _ _ c2 (by omega) (by omega) (fun b o e => (s1.2 b (notS e)).trans (k' b o e)) hc2 ?_ hR⟩
      obtain ⟨oI, ho, q⟩ := hst'.1
      exact ⟨oI, (s1.2 I hSI.symm).trans ho, q⟩
    · rw [if_neg (by rw [decide_eq_false hd]; exact Bool.false_ne_true)]
      have hb : ¬ xb.length < y.length := by omega
      rw [show mlS xb (y :: ss.drop (j + 1)) = mlS xb (ss.drop (j + 1)) from if_neg hb] at hR
      refine wpAny_bind (wpAny_letGo ?_)
      rw [hname]
      exact wpAny_pure ⟨plainId_quiet PySem.F.plain_max_loop _, ih (j + 1) _ _ xb _ _ c (by omega) (by omega) k' hS' hst'.1 hR⟩
theorem max_key {x0 : Str} {E : Value → Shared → Prop} {Q : Value → Shared → Prop} (hh : A.handled = none) (hl : s.heap.IsList a its.toArray) (hv : Vals ((x0 :: ss).map V.str) its) (hz : ∀ x ∈ x0 :: ss, x.length ≤ sizeLine)
    (hQ : ∀ h' tk' t, KeepO s.heap h' → Q (.str (mlS x0 ss) t) { s with heap := h', toks := tk' }) : wpAny (model prog w) A (call (.builtin "max") [.ref a] [(Str.ofString "key", .builtin "len")]) Q E s := by
  have hname : (toString "max" ++ toString ".loop" : String) = "max.loop" := by decide
  obtain ⟨ol, hol, _⟩ := id hl
  have hll : a < s.heap.objs.size := Heap.lt_size hol
  have hlen : its.length = ss.length + 1 := by have := hv.length; rw [List.length_map] at this; exact this.symm
  have hsz : its.toArray.size = its.length := List.size_toArray ..
  refine kmb_tree PySem.F.kind_max PySem.F.plain_max PySem.F.entry_max (kmb_max_key _ _) ?_
  show wpAny _ A.in1 (Builtin.Builtins.bindParams "max" ["key", "default"] 0 ⟨[], [(Str.ofString "key", .builtin "len")]⟩ >>= _) _ _ s
  refine wpAny_bind (wpAny_of_eq (show Builtin.Builtins.bindParams "max" ["key", "default"] 0 ⟨[], [(Str.ofString "key", .builtin "len")]⟩ = pure [some (.builtin "len"), none] from rfl) ?_)
  refine wpAny_bind (wpAny_pure ?_)
  refine wpAny_bind (wpAny_pyIter_list hl ?_)
  refine wpAny_bind (wpAny_newList ?_ (Nat.zero_le _))
  rw [hname]
  have hS : (s.heap.push { cls := .type "list_iterator", data := .fields #[.ref a, .int 0 0] }).objs.size = s.heap.objs.size + 1 := size_push' ..
  have hSI : (s.heap.push { cls := .type "list_iterator", data := .fields #[.ref a, .int 0 0] }).objs.size ≠ s.heap.objs.size := by rw [hS]; exact Nat.ne_of_gt (Nat.lt_succ_self _)
  have haI : a ≠ s.heap.objs.size := Nat.ne_of_lt hll
  have zI : s.heap.get? s.heap.objs.size = none := Heap.get?_none_of_le (Nat.le_refl _)
  have zS : s.heap.get? (s.heap.push { cls := .type "list_iterator", data := .fields #[.ref a, .int 0 0] }).objs.size = none := Heap.get?_none_of_le (by rw [hS]; exact Nat.le_succ _)
  have notS : ∀ {b : Addr} {o : Obj}, s.heap.get? b = some o → b ≠ (s.heap.push { cls := .type "list_iterator", data := .fields #[.ref a, .int 0 0] }).objs.size := fun e q => by rw [q, zS] at e; cases e
  have notI : ∀ {b : Addr} {o : Obj}, s.heap.get? b = some o → b ≠ s.heap.objs.size := fun e q => by rw [q, zI] at e; cases e
  refine wpAny_pure ⟨plainId_quiet PySem.F.plain_max_loop _, ?_⟩
  have KH : KeepO s.heap ((s.heap.push { cls := .type "list_iterator", data := .fields #[.ref a, .int 0 0] }).push (seqObj "list" #[] 0)) := fun b x e => Heap.get?_push_of_some _ (Heap.get?_push_of_some _ e)
  have gI : ((s.heap.push { cls := .type "list_iterator", data := .fields #[.ref a, .int 0 0] }).push (seqObj "list" #[] 0)).get? s.heap.objs.size = some { cls := .type "list_iterator", data := .fields #[.ref a, .int 0 0] } :=
    Heap.get?_push_of_some _ (Heap.get?_push_size _ rfl)
  have gS : ((s.heap.push { cls := .type "list_iterator", data := .fields #[.ref a, .int 0 0] }).push (seqObj "list" #[] 0)).get? (s.heap.push { cls := .type "list_iterator", data := .fields #[.ref a, .int 0 0] }).objs.size = some (seqObj "list" #[] 0) := Heap.get?_push_size _ rfl
  have W := Walks.list (prog := prog) (w := w) (A := A.in1) hh s.heap.objs.size a haI its.toArray
  refine codeAny_builtin PySem.F.entry_max_loop ?_
  rw [Around.under_plainId PySem.F.plain_max_loop _]
  show wpAny _ A.in1 (seqItems? (.ref _) >>= _) _ _ _
  refine wpAny_bind (wpAny_seqItems gS rfl ?_)
  show wpAny _ A.in1 (tryCatch (pyNext (.ref s.heap.objs.size)) _ >>= _) _ _ _
  refine wpAny_bind (wpAny_tryCatch (W.item 0 _ _ _ (by rw [hsz, hlen]; exact Nat.zero_lt_succ _) ⟨⟨_, gI, rfl, rfl⟩, isList_keep hl KH⟩ fun v h' tk' hP hst' hk' => ?_))
  have hv1 : its[0]? = some v := by simpa using hP
  obtain ⟨y, ty, hy, rfl⟩ := vstr_get hv hv1
  have hyx : y = x0 := by simpa using hy.symm
  subst hyx
  have k' : KeepO s.heap h' := fun b o e => hk' b o (by simpa using notI e) (KH b o e)
  have hS' := hk' _ _ (by simpa using hSI) gS
  have hyz : y.length ≤ sizeLine := hz y List.mem_cons_self
  have hline := line63
  have hsl : sizeLine = 16777216 := sizeLine_eq
  show wpAny _ A.in1 (tryCatch (holding [.str y ty] (call (.builtin "len") [.str y ty])) _ >>= _) _ _ _
  refine wpAny_bind (wpAny_tryCatch (wpAny_holding (P.len_str (by omega) ?_)))
  have s1 := Heap.SameBut.update h' (s.heap.push { cls := .type "list_iterator", data := .fields #[.ref a, .int 0 0] }).objs.size (Obj.mapSeq fun _ => #[.str y ty, .int y.length (tk' + 1)])
  obtain ⟨c2, hc2⟩ : ∃ c2, (h'.update (s.heap.push { cls := .type "list_iterator", data := .fields #[.ref a, .int 0 0] }).objs.size (Obj.mapSeq fun _ => #[.str y ty, .int y.length (tk' + 1)])).get? (s.heap.push { cls := .type "list_iterator", data := .fields #[.ref a, .int 0 0] }).objs.size = some (seqObj "list" #[.str y ty, .int y.length (tk' + 1)] c2) := ⟨_, get?_update_seq hS' fun _ => #[.str y ty, .int y.length (tk' + 1)]⟩
  show wpAny _ A.in1 (updateSeq (s.heap.push { cls := .type "list_iterator", data := .fields #[.ref a, .int 0 0] }).objs.size (fun _ => #[.str y ty, .int y.length (tk' + 1)]) >>= _) _ _ _
  refine wpAny_bind ?_
  refine wpAny_updateSeq hS' rfl ?_
  rw [hname]
  refine wpAny_pure ⟨plainId_quiet PySem.F.plain_max_loop _, ml_loop (ss := y :: ss) hh hl zI zS hSI hv hz _ 1 _ _ y _ _ c2 rfl (by simp) (fun b o e => (s1.2 b (notS e)).trans (k' b o e)) hc2 ?_ fun h2 tk2 t k2 => hQ h2 tk2 t k2⟩
  obtain ⟨oI, ho, q⟩ := hst'.1
  exact ⟨oI, (s1.2 _ hSI.symm).trans ho, q⟩
theorem mlS_mk : ∀ (r : List (List Nat)) (y : List Nat), mlS ⟨y.toArray⟩ (r.map fun y => (⟨y.toArray⟩ : Str)) = ⟨(maxLenS y r).toArray⟩
  | [], y => rfl
  | z :: r, y => by
    have h : mlS ⟨y.toArray⟩ ((z :: r).map fun y => (⟨y.toArray⟩ : Str)) = if y.length < z.length then mlS ⟨z.toArray⟩ (r.map fun y => (⟨y.toArray⟩ : Str)) else mlS ⟨y.toArray⟩ (r.map fun y => (⟨y.toArray⟩ : Str)) := by
      show (if Str.length ⟨y.toArray⟩ < Str.length ⟨z.toArray⟩ then _ else _) = _
      rw [strlen, strlen]
    rw [h, maxLenS]
    split
    · exact mlS_mk r z
    · exact mlS_mk r y
theorem maxLenS_mem : ∀ (r : List (List Nat)) (y : List Nat), maxLenS y r ∈ y :: r
  | [], y => List.mem_singleton.mpr rfl
  | z :: r, y => by
    rw [maxLenS]
    split
    · exact List.mem_cons_of_mem _ (maxLenS_mem r z)
    · rcases List.mem_cons.mp (maxLenS_mem r y) with h | h
      · rw [h]; exact List.mem_cons_self
      · exact List.mem_cons_of_mem _ (List.mem_cons_of_mem _ h)
theorem texts_len {K : Fg} {G : Hp} : ∀ {l : List D} {ys : List (List Nat)} {xs : List V}, textsD l = .ok ys → Reps K G l xs → ∀ y ∈ ys, y.length ≤ bigLine
  | [], ys, xs, h, r => by
    cases (show R.ok [] = R.ok ys from h)
    exact fun y hy => by cases hy
  | .str b :: l, ys, xs, h, r => by
    obtain ⟨z, h1, h2⟩ := rbind_ok (show R.bind (textsD l) (fun z => R.ok (b :: z)) = R.ok ys from h)
    cases h2
    obtain ⟨x, xs', rfl, rb, rr⟩ := r
    intro y hy
    rcases List.mem_cons.mp hy with e | e
    · subst e; exact rb.2.1
    · exact texts_len h1 rr y e
  | .non :: _, ys, _, h, _ => by cases (show R.bad = R.ok ys from h)
  | .bl _ :: _, ys, _, h, _ => by cases (show R.bad = R.ok ys from h)
  | .int _ :: _, ys, _, h, _ => by cases (show R.bad = R.ok ys from h)
  | .tup _ :: _, ys, _, h, _ => by cases (show R.bad = R.ok ys from h)
  | .lst _ :: _, ys, _, h, _ => by cases (show R.bad = R.ok ys from h)
  | .dic _ _ :: _, ys, _, h, _ => by cases (show R.bad = R.ok ys from h)
  | .scr _ :: _, ys, _, h, _ => by cases (show R.bad = R.ok ys from h)
variable {X : Cx}
/-- max(e, key=len) -/
theorem w_maxlen {x y : Str} {p p2 kp pos : Pos} {e : Expr} {m : M Hd} (b : Bi X x (.builtin "max")) (b2 : Bi X y (.builtin "len")) (hc : X.calm = true) (ns : nst e = true) (he : PE X e (tHd X.K m)) :
    PE X (.Call (.Name x p) [e] [⟨some (Str.ofString "key"), .Name y p2, kp⟩] pos) (tV X.K (do let h ← m; let x ← h.get; M.of (P1.run .maxlen x))) := by
  refine ⟨fun pins s σ H Q I h => ?_⟩
  have h0 := tHd_mono (p1_imp w1 σ H Q h) (Q' := fun v H1 => rD1 X.K (P1.run .maxlen) v H1 Q) fun v H q => q
  refine wpAny_Call_Name_kw (ld_blt I b.g b.m b.b ?_ b.n.1 b.n.2)
  refine PyProof.Rows.callWith_kw (thn ((pa_cons he pa_nil (star1 ns)).run pos pins s σ H (fun vs H1 => ∃ v, vs = [v] ∧ rD1 X.K (P1.run .maxlen) v H1 Q) I (tHd_mono h0 fun v H q => ⟨v, rfl, q⟩)) fun us s1 ⟨vs, H1, I1, r1, v, ev, q1⟩ => ?_) (by rw [star1 ns]; rfl) (by rw [star1 ns]; rfl) rfl rfl
  subst ev
  obtain ⟨u, rfl, ru⟩ := vals1 r1
  show wpAny _ _ (evalAll ((do let v ← eval (.Name y p2) X.env; standAt pos; pure v) :: (backToKw pos (keywordEach [] X.env)).map (·.2))) _ _ s1
  refine wpAny_evalAll_cons (wpAny_bind (ld_blt I1 b2.g b2.m b2.b (wpAny_bind (wpAny_standAt (wpAny_pure (wpAny_evalAll_nil ?_)))) b2.n.1 b2.n.2))
  obtain ⟨G, a, d, hs, ha, hg, q⟩ := q1
  cases a with
  | lst l =>
    obtain ⟨a, ys, rfl, t, rr⟩ := ha
    obtain ⟨zs, h1, h2⟩ := rbind_ok (show R.bind (textsD l) longest = R.ok d from hg)
    cases zs with
    | nil => cases (show R.bad = R.ok d from h2)
    | cons z zs =>
      cases (show R.ok (D.str (maxLenS z zs)) = R.ok d from h2)
      obtain ⟨h3, h4⟩ := texts_of h1 rr
      have h5 := texts_len h1 rr
      cases (show u = Value.ref a from ru)
      obtain ⟨its, rv, hl, hz⟩ := I1.list (SqL.of t)
      rw [h3, List.map_cons] at rv
      have hm := maxLenS_mem zs z
      refine max_key (I1.ok.hd hc) hl.isList rv (fun x hx => ?_) fun h' tk' t' k => ?_
      · rw [← List.map_cons (f := fun y : List Nat => (⟨y.toArray⟩ : Str))] at hx
        obtain ⟨w, hw, rfl⟩ := List.mem_map.mp hx
        rw [strlen, ← bigLine_eq]
        exact h5 w hw
      · rw [mlS_mk]
        exact ⟨.str ⟨(maxLenS z zs).toArray⟩, H1, I1.kept k, ⟨t', rfl⟩, same1 hs (show Rep X.K G (.str (maxLenS z zs)) _ from ⟨rfl, h5 _ hm, h4 _ hm⟩) q⟩
  | _ => cases (show R.bad = R.ok d from hg)
end
end En

/-! En11e: max(tuples, key=len). -/
namespace En
open PySem PySem.Spec PyProof.Rows L2
/-- the first of the longest -/
def mlP : Value × Nat → List (Value × Nat) → Value × Nat
  | b, [] => b
  | b, y :: r => if b.2 < y.2 then mlP y r else mlP b r
section
variable {prog : Program} {w : World} {A : Around} {s : Shared} {a I S : Addr} {ps : List (Value × Nat)} {R : Result → Shared → Prop}
def TupLen (h : Heap) (v : Value) (n : Nat) : Prop := ∃ (b : Addr) (xs : List Value), v = .ref b ∧ IsTup h b xs.toArray ∧ xs.length = n ∧ n ≤ sizeLine
theorem TupLen.keep {h0 h : Heap} {v : Value} {n : Nat} (t : TupLen h0 v n) (k : KeepO h0 h) : TupLen h v n := by
  obtain ⟨b, xs, e, q, l⟩ := t
  refine ⟨b, xs, e, ?_, l⟩
  obtain ⟨o, ho, r⟩ := q
  exact ⟨o, k _ _ ho, r⟩
theorem TupLen.call {v : Value} {n : Nat} {A : Around} {Q : Value → Shared → Prop} {E : Value → Shared → Prop} (t : TupLen s.heap v n) (q : Q (.int n (s.toks + 1)) { s with toks := s.toks + 1 + 1 }) : wpAny (model prog w) A (call (.builtin "len") [v]) Q E s := by
  obtain ⟨b, xs, rfl, pl, rfl, hz⟩ := t
  have hn := line63
  have hs : sizeLine = 16777216 := sizeLine_eq
  refine len_tuple pl (by simp only [List.size_toArray]; omega) ?_
  simp only [List.size_toArray]
  exact q
theorem tp_get {i : Nat} {v : Value} (h : (ps.map (·.1))[i]? = some v) : ∃ n, ps[i]? = some (v, n) := by
  rw [List.getElem?_map] at h
  cases q : ps[i]? with
  | none => rw [q] at h; cases h
  | some p =>
    rw [q] at h
    cases h
    exact ⟨p.2, rfl⟩
theorem mt_loop (hh : A.handled = none) (hl : s.heap.IsList a (ps.map (·.1)).toArray) (hI : s.heap.get? I = none) (hS : s.heap.get? S = none) (hSI : S ≠ I) (hz : ∀ x ∈ ps, TupLen s.heap x.1 x.2) :
    ∀ (r j : Nat) (h : Heap) (tk : Nat) (xb : Value × Nat) (tb : Tok) (c : Nat), ps.length - j = r → j ≤ ps.length → KeepO s.heap h → h.get? S = some (seqObj "list" #[xb.1, .int xb.2 tb] c) → h.IsListIter I a j →
      (∀ h' tk', KeepO s.heap h' → R (.ok (.ret (mlP xb (ps.drop j)).1)) { s with heap := h', toks := tk' }) →
      codeAny (model prog w) A (.builtin "max.loop" ⟨[.ref I, .builtin "len", .ref S], []⟩) R { s with heap := h, toks := tk } := by
  have hname : (toString "max" ++ toString ".loop" : String) = "max.loop" := by decide
  have hlen : (ps.map (·.1)).length = ps.length := List.length_map ..
  have haI : a ≠ I := fun e => by
    obtain ⟨o, ho, _⟩ := hl
    rw [e, hI] at ho
    cases ho
  have W := Walks.list (prog := prog) (w := w) (A := A.in1) hh I a haI (ps.map (·.1)).toArray
  have hsz : (ps.map (·.1)).toArray.size = (ps.map (·.1)).length := List.size_toArray ..
  have notS : ∀ {b : Addr} {o : Obj}, s.heap.get? b = some o → b ≠ S := fun e q => by rw [q, hS] at e; cases e
  have notI : ∀ {b : Addr} {o : Obj}, s.heap.get? b = some o → b ≠ I := fun e q => by rw [q, hI] at e; cases e
  intro r
  induction r with
  | zero =>
    intro j h tk xb tb c hr hj k nS it hR
    have hin : j = ps.length := by omega
    refine codeAny_builtin PySem.F.entry_max_loop ?_
    rw [Around.under_plainId PySem.F.plain_max_loop _]
    show wpAny _ A.in1 (seqItems? (.ref S) >>= _) _ _ _
    refine wpAny_bind (wpAny_seqItems nS rfl ?_)
    show wpAny _ A.in1 (tryCatch (pyNext (.ref I)) _ >>= _) _ _ _
    refine wpAny_bind (wpAny_tryCatch (W.done _ _ _ ⟨by rw [hsz, hlen, ← hin]; exact it, isList_keep hl k⟩ fun h' tk' hk' => ?_))
    have hS' := hk' S _ (by simpa using hSI) nS
    have s1 := Heap.SameBut.update h' S (Obj.mapSeq fun _ => (#[] : Array Value))
    show wpAny _ A.in1 (updateSeq S (fun _ => #[]) >>= _) _ _ _
    refine wpAny_bind ?_
    refine wpAny_updateSeq hS' rfl (wpAny_bind (wpAny_letGo (wpAny_pure ?_)))
    have := hR (h'.update S (Obj.mapSeq fun _ => #[])) tk' fun b o e => (s1.2 b (notS e)).trans (hk' b o (by simpa using notI e) (k b o e))
    rw [List.drop_eq_nil_of_le (by omega)] at this
    exact this
  | succ r ih =>
    intro j h tk xb tb c hr hj k nS it hR
    have hlt : j < ps.length := by omega
    refine codeAny_builtin PySem.F.entry_max_loop ?_
    rw [Around.under_plainId PySem.F.plain_max_loop _]
    show wpAny _ A.in1 (seqItems? (.ref S) >>= _) _ _ _
    refine wpAny_bind (wpAny_seqItems nS rfl ?_)
    show wpAny _ A.in1 (tryCatch (pyNext (.ref I)) _ >>= _) _ _ _
    refine wpAny_bind (wpAny_tryCatch (W.item j _ _ _ (by rw [hsz, hlen]; exact hlt) ⟨it, isList_keep hl k⟩ fun v h' tk' hP hst' hk' => ?_))
    have hv1 : (ps.map (·.1))[j]? = some v := by simpa using hP
    obtain ⟨n, hy⟩ := tp_get hv1
    have hS' := hk' S _ (by simpa using hSI) nS
    have k' : KeepO s.heap h' := fun b o e => hk' b o (by simpa using notI e) (k b o e)
    have hyz := (hz (v, n) (List.mem_of_getElem? hy)).keep k'
    have hdrop : ps.drop j = (v, n) :: ps.drop (j + 1) := by
      rw [List.drop_eq_getElem_cons hlt]
      rw [List.getElem?_eq_getElem hlt] at hy
      rw [Option.some.inj hy]
    rw [hdrop] at hR
    obtain ⟨kf, k0, k1⟩ : ∃ kf : Nat → Int, kf 0 = n ∧ kf 1 = xb.2 := ⟨fun i => if i = 0 then n else xb.2, rfl, rfl⟩
    have hline := line63
    have hsl : sizeLine = 16777216 := sizeLine_eq
    show wpAny _ A.in1 (tryCatch (holding [v] (call (.builtin "len") [v])) _ >>= _) _ _ _
    refine wpAny_bind (wpAny_tryCatch (wpAny_holding (TupLen.call (s := { s with heap := h', toks := tk' }) hyz ?_)))
    show wpAny _ A.in1 (tryCatch (holding [v, .int n _] (richCompare .Gt (.int n _) (.int xb.2 tb) >>= _)) _ >>= _) _ _ _
    refine wpAny_bind (wpAny_tryCatch (wpAny_holding (wpAny_bind (CmpOf.ints_gt (prog := prog) (w := w) (A := A.in1) (P := fun i v => ∃ t, v = .int (kf i) t) kf (fun i v h => h) 0 1 _ _ _ _ _ ⟨_, by rw [k0]⟩ ⟨tb, by rw [k1]⟩ ?_))))
    refine wpAny_bind (wpAny_holding (wpAny_truthy_bool ?_))
    refine wpAny_bind (wpAny_letGo (wpAny_pure ?_))
    show wpAny _ A.in1 (if decide (kf 0 > kf 1) = true then _ else _) _ _ _
    by_cases hd : kf 0 > kf 1
    · rw [if_pos (decide_eq_true hd)]
      have hb : xb.2 < n := by omega
      rw [show mlP xb ((v, n) :: ps.drop (j + 1)) = mlP (v, n) (ps.drop (j + 1)) from if_pos hb] at hR
      have s1 := Heap.SameBut.update h' S (Obj.mapSeq fun _ => #[v, .int n (tk' + 1)])
      obtain ⟨c2, hc2⟩ : ∃ c2, (h'.update S (Obj.mapSeq fun _ => #[v, .int n (tk' + 1)])).get? S = some (seqObj "list" #[v, .int n (tk' + 1)] c2) := ⟨_, get?_update_seq hS' fun _ => #[v, .int n (tk' + 1)]⟩
      refine wpAny_bind ?_
      refine wpAny_updateSeq hS' rfl (wpAny_bind (wpAny_letGo ?_))
      rw [hname]
      refine wpAny_pure ⟨plainId_quiet PySem.F.plain_max_loop _, ih (j + 1) _ _ (v, n) _ c2 (by omega) (by omega) (fun b o e => (s1.2 b (notS e)).trans (k' b o e)) hc2 ?_ hR⟩
      obtain ⟨oI, ho, q⟩ := hst'.1
      exact ⟨oI, (s1.2 I hSI.symm).trans ho, q⟩
    · rw [if_neg (by rw [decide_eq_false hd]; exact Bool.false_ne_true)]
      have hb : ¬ xb.2 < n := by omega
      rw [show mlP xb ((v, n) :: ps.drop (j + 1)) = mlP xb (ps.drop (j + 1)) from if_neg hb] at hR
      refine wpAny_bind (wpAny_letGo ?_)
      rw [hname]
      exact wpAny_pure ⟨plainId_quiet PySem.F.plain_max_loop _, ih (j + 1) _ _ xb _ c (by omega) (by omega) k' hS' hst'.1 hR⟩
theorem max_keyT {x0 : Value × Nat} {E : Value → Shared → Prop} {Q : Value → Shared → Prop} (hh : A.handled = none) (hl : s.heap.IsList a ((x0 :: ps).map (·.1)).toArray) (hz : ∀ x ∈ x0 :: ps, TupLen s.heap x.1 x.2)
    (hQ : ∀ h' tk', KeepO s.heap h' → Q (mlP x0 ps).1 { s with heap := h', toks := tk' }) : wpAny (model prog w) A (call (.builtin "max") [.ref a] [(Str.ofString "key", .builtin "len")]) Q E s := by
  have hname : (toString "max" ++ toString ".loop" : String) = "max.loop" := by decide
  obtain ⟨ol, hol, _⟩ := id hl
  have hll : a < s.heap.objs.size := Heap.lt_size hol
  have hlen : ((x0 :: ps).map (·.1)).length = ps.length + 1 := by rw [List.length_map]; rfl
  have hsz : ((x0 :: ps).map (·.1)).toArray.size = ((x0 :: ps).map (·.1)).length := List.size_toArray ..
  refine kmb_tree PySem.F.kind_max PySem.F.plain_max PySem.F.entry_max (kmb_max_key _ _) ?_
  show wpAny _ A.in1 (Builtin.Builtins.bindParams "max" ["key", "default"] 0 ⟨[], [(Str.ofString "key", .builtin "len")]⟩ >>= _) _ _ s
  refine wpAny_bind (wpAny_of_eq (show Builtin.Builtins.bindParams "max" ["key", "default"] 0 ⟨[], [(Str.ofString "key", .builtin "len")]⟩ = pure [some (.builtin "len"), none] from rfl) ?_)
  refine wpAny_bind (wpAny_pure ?_)
  refine wpAny_bind (wpAny_pyIter_list hl ?_)
  refine wpAny_bind (wpAny_newList ?_ (Nat.zero_le _))
  rw [hname]
  have hS : (s.heap.push { cls := .type "list_iterator", data := .fields #[.ref a, .int 0 0] }).objs.size = s.heap.objs.size + 1 := size_push' ..
  have hSI : (s.heap.push { cls := .type "list_iterator", data := .fields #[.ref a, .int 0 0] }).objs.size ≠ s.heap.objs.size := by rw [hS]; exact Nat.ne_of_gt (Nat.lt_succ_self _)
  have haI : a ≠ s.heap.objs.size := Nat.ne_of_lt hll
  have zI : s.heap.get? s.heap.objs.size = none := Heap.get?_none_of_le (Nat.le_refl _)
  have zS : s.heap.get? (s.heap.push { cls := .type "list_iterator", data := .fields #[.ref a, .int 0 0] }).objs.size = none := Heap.get?_none_of_le (by rw [hS]; exact Nat.le_succ _)
  have notS : ∀ {b : Addr} {o : Obj}, s.heap.get? b = some o → b ≠ (s.heap.push { cls := .type "list_iterator", data := .fields #[.ref a, .int 0 0] }).objs.size := fun e q => by rw [q, zS] at e; cases e
  have notI : ∀ {b : Addr} {o : Obj}, s.heap.get? b = some o → b ≠ s.heap.objs.size := fun e q => by rw [q, zI] at e; cases e
  refine wpAny_pure ⟨plainId_quiet PySem.F.plain_max_loop _, ?_⟩
  have KH : KeepO s.heap ((s.heap.push { cls := .type "list_iterator", data := .fields #[.ref a, .int 0 0] }).push (seqObj "list" #[] 0)) := fun b x e => Heap.get?_push_of_some _ (Heap.get?_push_of_some _ e)
  have gI : ((s.heap.push { cls := .type "list_iterator", data := .fields #[.ref a, .int 0 0] }).push (seqObj "list" #[] 0)).get? s.heap.objs.size = some { cls := .type "list_iterator", data := .fields #[.ref a, .int 0 0] } :=
    Heap.get?_push_of_some _ (Heap.get?_push_size _ rfl)
  have gS : ((s.heap.push { cls := .type "list_iterator", data := .fields #[.ref a, .int 0 0] }).push (seqObj "list" #[] 0)).get? (s.heap.push { cls := .type "list_iterator", data := .fields #[.ref a, .int 0 0] }).objs.size = some (seqObj "list" #[] 0) := Heap.get?_push_size _ rfl
  have W := Walks.list (prog := prog) (w := w) (A := A.in1) hh s.heap.objs.size a haI ((x0 :: ps).map (·.1)).toArray
  refine codeAny_builtin PySem.F.entry_max_loop ?_
  rw [Around.under_plainId PySem.F.plain_max_loop _]
  show wpAny _ A.in1 (seqItems? (.ref _) >>= _) _ _ _
  refine wpAny_bind (wpAny_seqItems gS rfl ?_)
  show wpAny _ A.in1 (tryCatch (pyNext (.ref s.heap.objs.size)) _ >>= _) _ _ _
  refine wpAny_bind (wpAny_tryCatch (W.item 0 _ _ _ (by rw [hsz, hlen]; exact Nat.zero_lt_succ _) ⟨⟨_, gI, rfl, rfl⟩, isList_keep hl KH⟩ fun v h' tk' hP hst' hk' => ?_))
  have hv1 : x0.1 = v := by simpa using hP
  subst hv1
  have k' : KeepO s.heap h' := fun b o e => hk' b o (by simpa using notI e) (KH b o e)
  have hS' := hk' _ _ (by simpa using hSI) gS
  have hyz := (hz x0 List.mem_cons_self).keep k'
  have hline := line63
  have hsl : sizeLine = 16777216 := sizeLine_eq
  show wpAny _ A.in1 (tryCatch (holding [x0.1] (call (.builtin "len") [x0.1])) _ >>= _) _ _ _
  refine wpAny_bind (wpAny_tryCatch (wpAny_holding (TupLen.call (s := { s with heap := h', toks := tk' }) hyz ?_)))
  have s1 := Heap.SameBut.update h' (s.heap.push { cls := .type "list_iterator", data := .fields #[.ref a, .int 0 0] }).objs.size (Obj.mapSeq fun _ => #[x0.1, .int x0.2 (tk' + 1)])
  obtain ⟨c2, hc2⟩ : ∃ c2, (h'.update (s.heap.push { cls := .type "list_iterator", data := .fields #[.ref a, .int 0 0] }).objs.size (Obj.mapSeq fun _ => #[x0.1, .int x0.2 (tk' + 1)])).get? (s.heap.push { cls := .type "list_iterator", data := .fields #[.ref a, .int 0 0] }).objs.size = some (seqObj "list" #[x0.1, .int x0.2 (tk' + 1)] c2) := ⟨_, get?_update_seq hS' fun _ => #[x0.1, .int x0.2 (tk' + 1)]⟩
  show wpAny _ A.in1 (updateSeq (s.heap.push { cls := .type "list_iterator", data := .fields #[.ref a, .int 0 0] }).objs.size (fun _ => #[x0.1, .int x0.2 (tk' + 1)]) >>= _) _ _ _
  refine wpAny_bind ?_
  refine wpAny_updateSeq hS' rfl ?_
  rw [hname]
  refine wpAny_pure ⟨plainId_quiet PySem.F.plain_max_loop _, mt_loop (ps := x0 :: ps) hh hl zI zS hSI hz _ 1 _ _ x0 _ c2 rfl (by simp) (fun b o e => (s1.2 b (notS e)).trans (k' b o e)) hc2 ?_ fun h2 tk2 k2 => hQ h2 tk2 k2⟩
  obtain ⟨oI, ho, q⟩ := hst'.1
  exact ⟨oI, (s1.2 _ hSI.symm).trans ho, q⟩
end
section
variable {X : Cx}
/-- a tuple and where it lies -/
def TpAt (K : Fg) (G : Hp) (h : Heap) (x : List D) (p : Value × Nat) : Prop := ∃ b, p.1 = .ref b ∧ Rep K G (.tup x) (.ref b) ∧ p.2 = x.length ∧ TupLen h p.1 p.2
theorem tp_best {K : Fg} {G : Hp} {h : Heap} : ∀ {ys : List (List D)} {ps : List (Value × Nat)} {y : List D} {p : Value × Nat}, Paired (TpAt K G h) ys ps → TpAt K G h y p → TpAt K G h (maxLenG y ys) (mlP p ps)
  | _, _, y, p, .nil, t => t
  | _, _, y, p, .cons (a := x) (b := q) t1 r, t => by
    obtain ⟨b, e1, e2, e3, e4⟩ := id t
    obtain ⟨c, f1, f2, f3, f4⟩ := id t1
    rw [maxLenG, mlP, e3, f3]
    split
    · exact tp_best r t1
    · exact tp_best r t
theorem tp_list {K : Fg} {pins : List (Addr × Obj)} {σ : L2.St} {H G : Hp} {s : Shared} (eK : X.K = K) (I : Inv X pins σ H s) (hs : Same G H) : ∀ {l : List D} {ys : List (List D)} {xs : List V} {its : List Value}, tupsD l = .ok ys → Reps K G l xs → Vals xs its → ∃ ps : List (Value × Nat), its = ps.map (·.1) ∧ Paired (TpAt K G s.heap) ys ps
  | [], ys, xs, its, h, r, v => by
    cases (show R.ok [] = R.ok ys from h)
    rw [show xs = [] from r] at v
    cases v
    exact ⟨[], rfl, .nil⟩
  | .tup b :: l, ys, xs, its, h, r, v => by
    obtain ⟨z, h1, h2⟩ := rbind_ok (show R.bind (tupsD l) (fun z => R.ok (b :: z)) = R.ok ys from h)
    cases h2
    obtain ⟨x, xs', rfl, rb, rr⟩ := r
    cases v with
    | cons rv vv =>
      obtain ⟨ps, e, pp⟩ := tp_list eK I hs h1 rr vv
      have rb' := rb
      obtain ⟨a, zs, ea, t, rz⟩ := rb'
      subst ea
      cases rv
      subst eK
      obtain ⟨us, ru, pl, hz⟩ := I.tuple (seqT_mono hs t)
      exact ⟨(.ref a, b.length) :: ps, by rw [e]; rfl, .cons ⟨a, rfl, rb, rfl, a, us, rfl, pl, by rw [← ru.length, rz.length], by rw [← rz.length]; exact hz⟩ pp⟩
  | .non :: _, ys, _, _, h, _, _ => by cases (show R.bad = R.ok ys from h)
  | .bl _ :: _, ys, _, _, h, _, _ => by cases (show R.bad = R.ok ys from h)
  | .int _ :: _, ys, _, _, h, _, _ => by cases (show R.bad = R.ok ys from h)
  | .str _ :: _, ys, _, _, h, _, _ => by cases (show R.bad = R.ok ys from h)
  | .lst _ :: _, ys, _, _, h, _, _ => by cases (show R.bad = R.ok ys from h)
  | .dic _ _ :: _, ys, _, _, h, _, _ => by cases (show R.bad = R.ok ys from h)
  | .scr _ :: _, ys, _, _, h, _, _ => by cases (show R.bad = R.ok ys from h)
theorem paired_all {α β : Type} {p : α → β → Prop} {q : β → Prop} (h : ∀ a b, p a b → q b) : ∀ {l : List α} {m : List β}, Paired p l m → ∀ b ∈ m, q b
  | _, _, .nil, _, hb => nomatch hb
  | _, _, .cons h1 r, b, hb => by
    rcases List.mem_cons.mp hb with e | e
    · subst e; exact h _ _ h1
    · exact paired_all h r b e
/-- max(e, key=len), e a list of tuples -/
theorem w_maxlenT {x y : Str} {p p2 kp pos : Pos} {e : Expr} {m : M Hd} (b : Bi X x (.builtin "max")) (b2 : Bi X y (.builtin "len")) (hc : X.calm = true) (ns : nst e = true) (he : PE X e (tHd X.K m)) :
    PE X (.Call (.Name x p) [e] [⟨some (Str.ofString "key"), .Name y p2, kp⟩] pos) (tV X.K (do let h ← m; let x ← h.get; M.of (P1.run .maxlenT x))) := by
  refine ⟨fun pins s σ H Q I h => ?_⟩
  have h0 := tHd_mono (p1_imp w1 σ H Q h) (Q' := fun v H1 => rD1 X.K (P1.run .maxlenT) v H1 Q) fun v H q => q
  refine wpAny_Call_Name_kw (ld_blt I b.g b.m b.b ?_ b.n.1 b.n.2)
  refine PyProof.Rows.callWith_kw (thn ((pa_cons he pa_nil (star1 ns)).run pos pins s σ H (fun vs H1 => ∃ v, vs = [v] ∧ rD1 X.K (P1.run .maxlenT) v H1 Q) I (tHd_mono h0 fun v H q => ⟨v, rfl, q⟩)) fun us s1 ⟨vs, H1, I1, r1, v, ev, q1⟩ => ?_) (by rw [star1 ns]; rfl) (by rw [star1 ns]; rfl) rfl rfl
  subst ev
  obtain ⟨u, rfl, ru⟩ := vals1 r1
  show wpAny _ _ (evalAll ((do let v ← eval (.Name y p2) X.env; standAt pos; pure v) :: (backToKw pos (keywordEach [] X.env)).map (·.2))) _ _ s1
  refine wpAny_evalAll_cons (wpAny_bind (ld_blt I1 b2.g b2.m b2.b (wpAny_bind (wpAny_standAt (wpAny_pure (wpAny_evalAll_nil ?_)))) b2.n.1 b2.n.2))
  obtain ⟨G, a, d, hs, ha, hg, q⟩ := q1
  cases a with
  | lst l =>
    obtain ⟨a, ys, rfl, t, rr⟩ := ha
    obtain ⟨zs, h1, h2⟩ := rbind_ok (show R.bind (tupsD l) longestT = R.ok d from hg)
    cases zs with
    | nil => cases (show R.bad = R.ok d from h2)
    | cons z zs =>
      cases (show R.ok (D.tup (maxLenG z zs)) = R.ok d from h2)
      cases (show u = Value.ref a from ru)
      obtain ⟨its, rv, hl, hz⟩ := I1.list (SqL.of t)
      obtain ⟨ps, ep, pp⟩ := tp_list rfl I1 hs h1 rr rv
      subst ep
      cases pp with
      | cons t1 pr =>
        rename_i p0 ps
        obtain ⟨b0, f1, f2, f3, f4⟩ := tp_best pr t1
        have hall : ∀ x ∈ p0 :: ps, TupLen s1.heap x.1 x.2 := paired_all (fun a b h => by obtain ⟨_, _, _, _, h⟩ := h; exact h) (Paired.cons t1 pr)
        refine max_keyT (I1.ok.hd hc) hl.isList hall fun h' tk' k => ?_
        exact ⟨.ref b0, H1, I1.kept k, f1, same1 hs f2 q⟩
  | _ => cases (show R.bad = R.ok d from hg)
end
end En

/-! En11f: max(a, b, key=len) of two texts. -/
namespace En
open PySem PySem.Spec PyProof.Rows L2
section
variable {prog : Program} {w : World} {A : Around} {s : Shared} {a I S : Addr} {its : List Value} {ss : List Str} {R : Result → Shared → Prop}
theorem isTup_keep {h0 h : Heap} (l : h0.IsTuple a its.toArray) (k : KeepO h0 h) : h.IsTuple a its.toArray := by
  obtain ⟨o, ho, r⟩ := l
  exact ⟨o, k _ _ ho, r⟩
theorem args_max_two_key (u v f : Value) : argsOk "max" ⟨[u, v], [(Str.ofString "key", f)]⟩ := by unfold argsOk; kernel_rfl
theorem mw_loop {fp : List Addr} {St : Nat → Heap → Prop} (W : Walks prog w A.in1 I fp [I] its.toArray.size (fun i v => its.toArray[i]? = some v) St) (hSf : S ∉ fp) (hI : s.heap.get? I = none) (hS : s.heap.get? S = none) (hSI : S ≠ I) (hv : Vals (ss.map V.str) its) (hz : ∀ x ∈ ss, x.length ≤ sizeLine) :
    ∀ (r j : Nat) (h : Heap) (tk : Nat) (xb : Str) (tb tb2 : Tok) (c : Nat), ss.length - j = r → j ≤ ss.length → KeepO s.heap h → h.get? S = some (seqObj "list" #[.str xb tb2, .int xb.length tb] c) → St j h →
      (∀ h' tk' t, KeepO s.heap h' → R (.ok (.ret (.str (mlS xb (ss.drop j)) t))) { s with heap := h', toks := tk' }) →
      codeAny (model prog w) A (.builtin "max.loop" ⟨[.ref I, .builtin "len", .ref S], []⟩) R { s with heap := h, toks := tk } := by
  have hname : (toString "max" ++ toString ".loop" : String) = "max.loop" := by decide
  have hlen : its.length = ss.length := by have := hv.length; rw [List.length_map] at this; exact this.symm
  have hsz : its.toArray.size = its.length := List.size_toArray ..
  have notS : ∀ {b : Addr} {o : Obj}, s.heap.get? b = some o → b ≠ S := fun e q => by rw [q, hS] at e; cases e
  have notI : ∀ {b : Addr} {o : Obj}, s.heap.get? b = some o → b ≠ I := fun e q => by rw [q, hI] at e; cases e
  intro r
  induction r with
  | zero =>
    intro j h tk xb tb tb2 c hr hj k nS it hR
    have hin : j = ss.length := by omega
    refine codeAny_builtin PySem.F.entry_max_loop ?_
    rw [Around.under_plainId PySem.F.plain_max_loop _]
    show wpAny _ A.in1 (seqItems? (.ref S) >>= _) _ _ _
    refine wpAny_bind (wpAny_seqItems nS rfl ?_)
    show wpAny _ A.in1 (tryCatch (pyNext (.ref I)) _ >>= _) _ _ _
    refine wpAny_bind (wpAny_tryCatch (W.done _ _ _ (by rw [hsz, hlen, ← hin]; exact it) fun h' tk' hk' => ?_))
    have hS' := hk' S _ (by simpa using hSI) nS
    have s1 := Heap.SameBut.update h' S (Obj.mapSeq fun _ => (#[] : Array Value))
    show wpAny _ A.in1 (updateSeq S (fun _ => #[]) >>= _) _ _ _
    refine wpAny_bind ?_
    refine wpAny_updateSeq hS' rfl (wpAny_bind (wpAny_letGo (wpAny_pure ?_)))
    have := hR (h'.update S (Obj.mapSeq fun _ => #[])) tk' tb2 fun b o e => (s1.2 b (notS e)).trans (hk' b o (by simpa using notI e) (k b o e))
    rw [List.drop_eq_nil_of_le (by omega)] at this
    exact this
  | succ r ih =>
    intro j h tk xb tb tb2 c hr hj k nS it hR
    have hlt : j < ss.length := by omega
    refine codeAny_builtin PySem.F.entry_max_loop ?_
    rw [Around.under_plainId PySem.F.plain_max_loop _]
    show wpAny _ A.in1 (seqItems? (.ref S) >>= _) _ _ _
    refine wpAny_bind (wpAny_seqItems nS rfl ?_)
    show wpAny _ A.in1 (tryCatch (pyNext (.ref I)) _ >>= _) _ _ _
    refine wpAny_bind (wpAny_tryCatch (W.item j _ _ _ (by rw [hsz, hlen]; exact hlt) it fun v h' tk' hP hst' hk' => ?_))
    have hv1 : its[j]? = some v := by simpa using hP
    obtain ⟨y, ty, hy, rfl⟩ := vstr_get hv hv1
    have hS' := hk' S _ (by simpa using hSI) nS
    have k' : KeepO s.heap h' := fun b o e => hk' b o (by simpa using notI e) (k b o e)
    have hyz : y.length ≤ sizeLine := hz y (List.mem_of_getElem? hy)
    have hdrop : ss.drop j = y :: ss.drop (j + 1) := by
      rw [List.drop_eq_getElem_cons hlt]
      rw [List.getElem?_eq_getElem hlt] at hy
      rw [Option.some.inj hy]
    rw [hdrop] at hR
    obtain ⟨kf, k0, k1⟩ : ∃ kf : Nat → Int, kf 0 = y.length ∧ kf 1 = xb.length := ⟨fun i => if i = 0 then y.length else xb.length, rfl, rfl⟩
    have hline := line63
    have hsl : sizeLine = 16777216 := sizeLine_eq
    show wpAny _ A.in1 (tryCatch (holding [.str y ty] (call (.builtin "len") [.str y ty])) _ >>= _) _ _ _
    refine wpAny_bind (wpAny_tryCatch (wpAny_holding (P.len_str (by omega) ?_)))
    show wpAny _ A.in1 (tryCatch (holding [.str y ty, .int y.length _] (richCompare .Gt (.int y.length _) (.int xb.length tb) >>= _)) _ >>= _) _ _ _
    refine wpAny_bind (wpAny_tryCatch (wpAny_holding (wpAny_bind (CmpOf.ints_gt (prog := prog) (w := w) (A := A.in1) (P := fun i v => ∃ t, v = .int (kf i) t) kf (fun i v h => h) 0 1 _ _ _ _ _ ⟨_, by rw [k0]⟩ ⟨tb, by rw [k1]⟩ ?_))))
    refine wpAny_bind (wpAny_holding (wpAny_truthy_bool ?_))
    refine wpAny_bind (wpAny_letGo (wpAny_pure ?_))
    show wpAny _ A.in1 (if decide (kf 0 > kf 1) = true then _ else _) _ _ _
    by_cases hd : kf 0 > kf 1
    · rw [if_pos (decide_eq_true hd)]
      have hb : xb.length < y.length := by omega
      rw [show mlS xb (y :: ss.drop (j + 1)) = mlS y (ss.drop (j + 1)) from if_pos hb] at hR
      have s1 := Heap.SameBut.update h' S (Obj.mapSeq fun _ => #[.str y ty, .int y.length (tk' + 1)])
      obtain ⟨c2, hc2⟩ : ∃ c2, (h'.update S (Obj.mapSeq fun _ => #[.str y ty, .int y.length (tk' + 1)])).get? S = some (seqObj "list" #[.str y ty, .int y.length (tk' + 1)] c2) := ⟨_, get?_update_seq hS' fun _ => #[.str y ty, .int y.length (tk' + 1)]⟩
      refine wpAny_bind ?_
      refine wpAny_updateSeq hS' rfl (wpAny_bind (wpAny_letGo ?_))
      rw [hname]
      refine wpAny_pure ⟨plainId_quiet PySem.F.plain_max_loop _, ih (j + 1) _ _ y _ _ c2 (by omega) (by omega) (fun b o e => (s1.2 b (notS e)).trans (k' b o e)) hc2 ?_ hR⟩
      exact W.frame _ _ _ hst' fun b hb o e => (s1.2 b (fun q => hSf (q ▸ hb))).trans e
    · rw [if_neg (by rw [decide_eq_false hd]; exact Bool.false_ne_true)]
      have hb : ¬ xb.length < y.length := by omega
      rw [show mlS xb (y :: ss.drop (j + 1)) = mlS xb (ss.drop (j + 1)) from if_neg hb] at hR
      refine wpAny_bind (wpAny_letGo ?_)
      rw [hname]
      exact wpAny_pure ⟨plainId_quiet PySem.F.plain_max_loop _, ih (j + 1) _ _ xb _ _ c (by omega) (by omega) k' hS' hst' hR⟩
theorem max_key_tup {x0 : Str} {E : Value → Shared → Prop} {Q : Value → Shared → Prop} (hh : A.handled = none) (hl : s.heap.IsTuple a its.toArray) (hv : Vals ((x0 :: ss).map V.str) its) (hz : ∀ x ∈ x0 :: ss, x.length ≤ sizeLine)
    (hQ : ∀ h' tk' t, KeepO s.heap h' → Q (.str (mlS x0 ss) t) { s with heap := h', toks := tk' }) : wpAny (model prog w) A.in1 (do
      let it ← pyIter (.ref a)
      let b ← newList []
      again (.builtin "max.loop" ⟨[it, .builtin "len", b], []⟩)) (fun fin s' => match fin with
      | .done f => (match (Except.ok f : Result) with | .ok (.ret v) => Q v s' | .ok _ => False | .error e => E e s')
      | .again c' => c'.quiet = true ∧ codeAny (model prog w) A c' (fun r s' => match r with | .ok (.ret v) => Q v s' | .ok _ => False | .error e => E e s') s') E s := by
  have hname : (toString "max" ++ toString ".loop" : String) = "max.loop" := by decide
  obtain ⟨ol, hol, _⟩ := id hl
  have hll : a < s.heap.objs.size := Heap.lt_size hol
  have hlen : its.length = ss.length + 1 := by have := hv.length; rw [List.length_map] at this; exact this.symm
  have hsz : its.toArray.size = its.length := List.size_toArray ..
  refine wpAny_bind (wpAny_pyIter_tuple hl ?_)
  refine wpAny_bind (wpAny_newList ?_ (Nat.zero_le _))
  have hS : (s.heap.push { cls := .type "tuple_iterator", data := .fields #[.ref a, .int 0 0] }).objs.size = s.heap.objs.size + 1 := size_push' ..
  have hSI : (s.heap.push { cls := .type "tuple_iterator", data := .fields #[.ref a, .int 0 0] }).objs.size ≠ s.heap.objs.size := by rw [hS]; exact Nat.ne_of_gt (Nat.lt_succ_self _)
  have haI : a ≠ s.heap.objs.size := Nat.ne_of_lt hll
  have zI : s.heap.get? s.heap.objs.size = none := Heap.get?_none_of_le (Nat.le_refl _)
  have zS : s.heap.get? (s.heap.push { cls := .type "tuple_iterator", data := .fields #[.ref a, .int 0 0] }).objs.size = none := Heap.get?_none_of_le (by rw [hS]; exact Nat.le_succ _)
  have notS : ∀ {b : Addr} {o : Obj}, s.heap.get? b = some o → b ≠ (s.heap.push { cls := .type "tuple_iterator", data := .fields #[.ref a, .int 0 0] }).objs.size := fun e q => by rw [q, zS] at e; cases e
  have notI : ∀ {b : Addr} {o : Obj}, s.heap.get? b = some o → b ≠ s.heap.objs.size := fun e q => by rw [q, zI] at e; cases e
  refine wpAny_pure ⟨plainId_quiet PySem.F.plain_max_loop _, ?_⟩
  have KH : KeepO s.heap ((s.heap.push { cls := .type "tuple_iterator", data := .fields #[.ref a, .int 0 0] }).push (seqObj "list" #[] 0)) := fun b x e => Heap.get?_push_of_some _ (Heap.get?_push_of_some _ e)
  have gI : ((s.heap.push { cls := .type "tuple_iterator", data := .fields #[.ref a, .int 0 0] }).push (seqObj "list" #[] 0)).get? s.heap.objs.size = some { cls := .type "tuple_iterator", data := .fields #[.ref a, .int 0 0] } :=
    Heap.get?_push_of_some _ (Heap.get?_push_size _ rfl)
  have gS : ((s.heap.push { cls := .type "tuple_iterator", data := .fields #[.ref a, .int 0 0] }).push (seqObj "list" #[] 0)).get? (s.heap.push { cls := .type "tuple_iterator", data := .fields #[.ref a, .int 0 0] }).objs.size = some (seqObj "list" #[] 0) := Heap.get?_push_size _ rfl
  have nSf : (s.heap.push { cls := .type "tuple_iterator", data := .fields #[.ref a, .int 0 0] }).objs.size ∉ [s.heap.objs.size, a] := fun hm => by
    rcases List.mem_cons.mp hm with e | e
    · exact hSI e
    · exact notS hol (List.mem_singleton.mp e).symm
  have W := Walks.tuple (prog := prog) (w := w) (A := A.in1) hh s.heap.objs.size a haI its.toArray
  refine codeAny_builtin PySem.F.entry_max_loop ?_
  rw [Around.under_plainId PySem.F.plain_max_loop _]
  show wpAny _ A.in1 (seqItems? (.ref _) >>= _) _ _ _
  refine wpAny_bind (wpAny_seqItems gS rfl ?_)
  show wpAny _ A.in1 (tryCatch (pyNext (.ref s.heap.objs.size)) _ >>= _) _ _ _
  refine wpAny_bind (wpAny_tryCatch (W.item 0 _ _ _ (by rw [hsz, hlen]; exact Nat.zero_lt_succ _) ⟨⟨_, gI, rfl, rfl⟩, isTup_keep hl KH⟩ fun v h' tk' hP hst' hk' => ?_))
  have hv1 : its[0]? = some v := by simpa using hP
  obtain ⟨y, ty, hy, rfl⟩ := vstr_get hv hv1
  have hyx : y = x0 := by simpa using hy.symm
  subst hyx
  have k' : KeepO s.heap h' := fun b o e => hk' b o (by simpa using notI e) (KH b o e)
  have hS' := hk' _ _ (by simpa using hSI) gS
  have hyz : y.length ≤ sizeLine := hz y List.mem_cons_self
  have hline := line63
  have hsl : sizeLine = 16777216 := sizeLine_eq
  show wpAny _ A.in1 (tryCatch (holding [.str y ty] (call (.builtin "len") [.str y ty])) _ >>= _) _ _ _
  refine wpAny_bind (wpAny_tryCatch (wpAny_holding (P.len_str (by omega) ?_)))
  have s1 := Heap.SameBut.update h' (s.heap.push { cls := .type "tuple_iterator", data := .fields #[.ref a, .int 0 0] }).objs.size (Obj.mapSeq fun _ => #[.str y ty, .int y.length (tk' + 1)])
  obtain ⟨c2, hc2⟩ : ∃ c2, (h'.update (s.heap.push { cls := .type "tuple_iterator", data := .fields #[.ref a, .int 0 0] }).objs.size (Obj.mapSeq fun _ => #[.str y ty, .int y.length (tk' + 1)])).get? (s.heap.push { cls := .type "tuple_iterator", data := .fields #[.ref a, .int 0 0] }).objs.size = some (seqObj "list" #[.str y ty, .int y.length (tk' + 1)] c2) := ⟨_, get?_update_seq hS' fun _ => #[.str y ty, .int y.length (tk' + 1)]⟩
  show wpAny _ A.in1 (updateSeq (s.heap.push { cls := .type "tuple_iterator", data := .fields #[.ref a, .int 0 0] }).objs.size (fun _ => #[.str y ty, .int y.length (tk' + 1)]) >>= _) _ _ _
  refine wpAny_bind ?_
  refine wpAny_updateSeq hS' rfl ?_
  rw [hname]
  refine wpAny_pure ⟨plainId_quiet PySem.F.plain_max_loop _, mw_loop (ss := y :: ss) W nSf zI zS hSI hv hz _ 1 _ _ y _ _ c2 rfl (by simp) (fun b o e => (s1.2 b (notS e)).trans (k' b o e)) hc2 ?_ fun h2 tk2 t k2 => hQ h2 tk2 t k2⟩
  exact W.frame _ _ _ hst' fun b hb o e => (s1.2 b (fun q => nSf (q ▸ hb))).trans e
theorem max_key_two {x0 y0 : Str} {t0 t1 : Tok} {E : Value → Shared → Prop} {Q : Value → Shared → Prop} (hh : A.handled = none) (hz0 : x0.length ≤ sizeLine) (hz1 : y0.length ≤ sizeLine)
    (hQ : ∀ h' tk' t, KeepO s.heap h' → Q (.str (mlS x0 [y0]) t) { s with heap := h', toks := tk' }) : wpAny (model prog w) A (call (.builtin "max") [.str x0 t0, .str y0 t1] [(Str.ofString "key", .builtin "len")]) Q E s := by
  obtain ⟨s1, es1⟩ : ∃ s1 : Shared, s1 = { s with heap := s.heap.push { cls := .type "tuple", data := .seq #[.str x0 t0, .str y0 t1] } } := ⟨_, rfl⟩
  have h1eq : s1.heap = s.heap.push { cls := .type "tuple", data := .seq #[.str x0 t0, .str y0 t1] } := by rw [es1]
  refine kmb_tree PySem.F.kind_max PySem.F.plain_max PySem.F.entry_max (args_max_two_key _ _ _) ?_
  show wpAny _ A.in1 (Builtin.Builtins.bindParams "max" ["key", "default"] 0 ⟨[], [(Str.ofString "key", .builtin "len")]⟩ >>= _) _ _ s
  refine wpAny_bind (wpAny_of_eq (show Builtin.Builtins.bindParams "max" ["key", "default"] 0 ⟨[], [(Str.ofString "key", .builtin "len")]⟩ = pure [some (.builtin "len"), none] from rfl) ?_)
  show wpAny _ A.in1 (newTuple [.str x0 t0, .str y0 t1] >>= _) _ _ s
  refine wpAny_bind (wpAny_newObj_type ?_)
  have hT : s1.heap.IsTuple s.heap.objs.size [Value.str x0 t0, .str y0 t1].toArray := by rw [h1eq]; exact ⟨_, Heap.get?_push_size _ rfl, rfl, 0, rfl⟩
  have K0 : KeepO s.heap s1.heap := fun b o e => by rw [h1eq]; exact Heap.get?_push_of_some _ e
  have hQ1 : ∀ h' tk' t, KeepO s1.heap h' → Q (.str (mlS x0 [y0]) t) { s1 with heap := h', toks := tk' } := fun h' tk' t k => by
    have := hQ h' tk' t fun b o e => k b o (K0 b o e)
    rw [es1]
    exact this
  rw [← es1]
  exact max_key_tup hh hT (ss := [y0]) (.cons ⟨t0, rfl⟩ (.cons ⟨t1, rfl⟩ .nil)) (fun x hx => by
    rcases List.mem_cons.mp hx with e | e
    · rw [e]; exact hz0
    · rw [List.mem_singleton.mp e]; exact hz1) hQ1
end
section
variable {X : Cx}
theorem mlS_two (x y : List Nat) : mlS ⟨x.toArray⟩ [⟨y.toArray⟩] = ⟨(if x.length < y.length then y else x).toArray⟩ := by
  show (if Str.length ⟨x.toArray⟩ < Str.length ⟨y.toArray⟩ then (⟨y.toArray⟩ : Str) else ⟨x.toArray⟩) = _
  rw [strlen, strlen]
  split <;> rfl
/-- max(e, e2, key=len) -/
theorem w_mxl2 {x y : Str} {p p2 kp pos : Pos} {e e2 : Expr} {m n : M Hd} (b : Bi X x (.builtin "max")) (b2 : Bi X y (.builtin "len")) (hc : X.calm = true) (ns : nst e = true) (ns2 : nst e2 = true) (he : PE X e (tHd X.K m)) (he2 : PE X e2 (tHd X.K n)) :
    PE X (.Call (.Name x p) [e, e2] [⟨some (Str.ofString "key"), .Name y p2, kp⟩] pos) (tV X.K (do let h ← m; let k ← n; let x ← h.get; let y ← k.get; M.of (P2.run .mxl2 x y))) := by
  refine ⟨fun pins s σ H Q I h => ?_⟩
  have h0 := p2_imp w2 σ H Q h
  refine wpAny_Call_Name_kw (ld_blt I b.g b.m b.b ?_ b.n.1 b.n.2)
  refine PyProof.Rows.callWith_kw (thn ((pa_cons he (pa_cons he2 pa_nil (star1 ns2)) (star1 ns)).run pos pins s σ H (fun vs H1 => ∃ v u, vs = [v, u] ∧ rD2 X.K (P2.run .mxl2) v u H1 Q) I (tHd_mono h0 fun v H q => tHd_mono q fun u H q => ⟨v, u, rfl, q⟩)) fun us s1 ⟨vs, H1, I1, r1, v, v2, ev, q1⟩ => ?_) (by rw [star1 ns, star1 ns2]; rfl) (by rw [star1 ns, star1 ns2]; rfl) rfl rfl
  subst ev
  obtain ⟨u, u2, rfl, ru, ru2⟩ := vals2 r1
  show wpAny _ _ (evalAll ((do let v ← eval (.Name y p2) X.env; standAt pos; pure v) :: (backToKw pos (keywordEach [] X.env)).map (·.2))) _ _ s1
  refine wpAny_evalAll_cons (wpAny_bind (ld_blt I1 b2.g b2.m b2.b (wpAny_bind (wpAny_standAt (wpAny_pure (wpAny_evalAll_nil ?_)))) b2.n.1 b2.n.2))
  obtain ⟨G, a, c, d, hs, ha, hb, hg, q⟩ := q1
  cases a <;> cases c <;> (try (have z : R.bad = R.ok d := hg; cases z))
  rename_i sx sy
  cases (show R.ok (D.str (if sx.length < sy.length then sy else sx)) = R.ok d from hg)
  obtain ⟨ex, x1, x2⟩ := ha
  obtain ⟨ey, y1, y2⟩ := hb
  subst ex ey
  obtain ⟨t0, rfl⟩ := ru
  obtain ⟨t1, rfl⟩ := ru2
  refine max_key_two (I1.ok.hd hc) (by rw [strlen, ← bigLine_eq]; exact x1) (by rw [strlen, ← bigLine_eq]; exact y1) fun h' tk' t' k => ?_
  rw [mlS_two]
  refine ⟨.str ⟨(if sx.length < sy.length then sy else sx).toArray⟩, H1, I1.kept k, ⟨t', rfl⟩, same1 hs (show Rep X.K G (.str _) _ from ⟨rfl, ?_, ?_⟩) q⟩
  · split
    · exact y1
    · exact x1
  · split
    · exact y2
    · exact x2
end
end En

/-! En12: walks over sequences; blocks. -/
namespace En
open PySem PySem.Spec PyProof.Rows L2

def ItOk (K : Fg) (G : Hp) (oa : Option Addr) (l : List D) (J : L2.It) : Prop := ∀ G1 H1, Same G G1 → Same G1 H1 → (∀ a, oa = some a → ∃ xs, H1 a = some (.lst xs) ∧ Reps K G1 l xs) →
  (∀ i d, l[i]? = some d → J.go i H1 ∧ ∀ v H2, J.yld i H1 v H2 → ∃ G2, Grow0 G1 H1 G2 H2 ∧ Rep K G2 d v) ∧ ∀ i, l.length ≤ i → J.stop i H1
def tIt (K : Fg) (m : M (Hd × List D)) : TI := fun σ H R => ∃ B G e, StOk K B e σ G H ∧ ∃ h l e', m e = .ok ((h, l), e') ∧
  ∀ J oa G' H', StOk K B e' σ G' H' → Same G G' → (∀ i, h = .hc i → ∃ a, oa = some a ∧ σ[i]? = some (some (.ref a))) → (∀ d, h = .hv d → oa = none) → ItOk K G' oa l J → R J H'
def ItM (m : M (Hd × List D)) : Prop := ∀ e i l e', m e = .ok ((.hc i, l), e') → ∀ k l', e'[i]? = some (.cel k (.lst l')) → l' = l

section
variable {K : Fg} {B : Bs} {e : Ev} {σ : L2.St} {G H G' H' : Hp}
/-! ### a cell that is walked -/
theorem StOk.pin (S : StOk K B e σ G H) {i : Nat} {o : Ob} {a : Addr} (h : e[i]? = some (.cel .lock o)) (ha : σ[i]? = some (some (.ref a))) : StOk K { B with pin := (i, a, some o) :: B.pin } e σ G H :=
  ⟨S.len, fun j s v q1 q2 => by
    have z := S.sl j s v q1 q2
    cases s <;> exact z, S.dj, S.gr, fun p hp => by
    rcases List.mem_cons.mp hp with w | w
    · subst w
      exact ⟨ha, .lock, o, h, (fun z => nomatch z), fun o' w => by cases w; exact ⟨rfl, rfl⟩⟩
    · exact S.pn p w, S.kp⟩
theorem StOk.unpin {q : Nat × Addr × Option Ob} (S : StOk K { B with pin := q :: B.pin } e σ G H) : StOk K B e σ G H :=
  ⟨S.len, fun j s v q1 q2 => by
    have z := S.sl j s v q1 q2
    cases s <;> exact z, S.dj, S.gr, fun p hp => S.pn p (List.mem_cons_of_mem _ hp), S.kp⟩
/-- a cell's kind is exchanged -/
theorem StOk.kind (S : StOk K B e σ G H) {i : Nat} {k k' : CK} {o : Ob} (h : e[i]? = some (.cel k o)) (hk : k' = .own → ∀ a, σ[i]? = some (some (.ref a)) → B.H0 a = none)
    (hp : ∀ p ∈ B.pin, p.1 = i → k' ≠ .own ∧ ∀ o', p.2.2 = some o' → k' = .lock ∧ o = o') : StOk K B (e.set i (.cel k' o)) σ G H := by
  have nj : ∀ {j : Nat} {k1 : CK} {o1 : Ob}, (e.set i (.cel k' o))[j]? = some (.cel k1 o1) → ∃ k2 o2, e[j]? = some (.cel k2 o2) := fun {j k1 o1} q => by
    by_cases hj : i = j
    · subst hj
      rw [List.getElem?_set_self (S.lt h)] at q
      cases q
      exact ⟨_, _, h⟩
    · rw [List.getElem?_set_ne hj] at q
      exact ⟨_, _, q⟩
  refine ⟨by rw [List.length_set]; exact S.len, fun j s v q1 q2 => ?_, fun j j' k1 o1 k2 o2 b hne q1 q2 q3 q4 => ?_, S.gr, fun p hp' => ?_, fun p hp' => ?_⟩
  · by_cases hj : i = j
    · subst hj
      rw [List.getElem?_set_self (S.lt h)] at q1
      cases q1
      obtain ⟨a, h1, h2, h3, h4⟩ := S.cel h
      rw [h1] at q2
      cases q2
      refine ⟨a, rfl, h2, h3, ?_⟩
      rcases h4 with w | ⟨w, w2⟩
      · exact .inl w
      · by_cases z : k' = .own
        · exact .inl (hk z a h1)
        · exact .inr ⟨w, z⟩
    · rw [List.getElem?_set_ne hj] at q1
      exact S.sl j s v q1 q2
  · obtain ⟨_, _, w1⟩ := nj q1
    obtain ⟨_, _, w2⟩ := nj q2
    exact S.dj j j' _ _ _ _ b hne w1 w2 q3 q4
  · obtain ⟨p1, k1, o1, p2, p3, p4⟩ := S.pn p hp'
    by_cases hj : i = p.1
    · obtain ⟨z1, z2⟩ := hp p hp' hj.symm
      exact ⟨p1, k', o, by rw [← hj, List.getElem?_set_self (S.lt h)], z1, z2⟩
    · exact ⟨p1, k1, o1, by rw [List.getElem?_set_ne hj]; exact p2, p3, p4⟩
  · obtain ⟨z1, z2, z3⟩ := S.kp p hp'
    refine ⟨z1, z2, fun j k1 o1 q => ?_⟩
    obtain ⟨_, _, w⟩ := nj q
    exact z3 j _ _ w
theorem lock_ok {α : Type} {m : M α} {hd : Hd} {l : List D} {a : α} {e3 : Ev} (S : StOk K B e σ G H) (hl : ∀ i, hd = .hc i → ∀ k l', e[i]? = some (.cel k (.lst l')) → l' = l) (h : lockd hd m e = .ok (a, e3)) :
    ∃ (B' : Bs) (eL e2 : Ev), StOk K B' eL σ G H ∧ m eL = .ok (a, e2) ∧ B'.H0 = B.H0 ∧ B'.keep = B.keep ∧
      (∀ kp e' σ' G' H', StOk K { B' with keep := kp } e' σ' G' H' → ∀ i, hd = .hc i → ∀ ad, σ[i]? = some (some (.ref ad)) → ∃ xs, H' ad = some (.lst xs) ∧ Reps K G' l xs) ∧
      (∀ kp σ' G' H', StOk K { B' with keep := kp } e2 σ' G' H' → StOk K { B with keep := kp } e3 σ' G' H') := by
  cases hd with
  | hv d => exact ⟨B, e, e3, S, h, rfl, rfl, (fun kp e' σ' G' H' _ i w => by cases w), fun kp σ' G' H' S' => S'⟩
  | hc i =>
    have now : ∀ (o : Ob) (ad0 : Addr) (B' : Bs), ObOk K G H ad0 o → (∀ l', o = .lst l' → l' = l) → σ[i]? = some (some (.ref ad0)) → (∀ kp e' σ' G' H', StOk K { B' with keep := kp } e' σ' G' H' → (i, ad0, some o) ∈ B'.pin → ∀ j, Hd.hc i = .hc j → ∀ ad, σ[j]? = some (some (.ref ad)) → ∃ xs, H' ad = some (.lst xs) ∧ Reps K G' l xs) := fun o ad0 B' ob ho h0 kp e' σ' G' H' S' hp j w ad hj => by
      cases w
      rw [h0] at hj
      cases hj
      obtain ⟨p1, k, o', p2, p3, p4⟩ := S'.pn _ hp
      obtain ⟨_, rfl⟩ := p4 o rfl
      obtain ⟨a', z1, z2, z3, z4⟩ := S'.cel p2
      simp only at p1
      rw [p1] at z1
      cases z1
      cases o' with
      | dic ks vs => exact z3.elim
      | lst l' =>
        obtain ⟨xs, y1, y2⟩ := z3
        rw [ho l' rfl] at y2
        exact ⟨xs, y1, y2⟩
    simp only [lockd] at h
    split at h
    · rename_i o q
      obtain ⟨p, h1, h2⟩ := rbind_ok h
      cases h2
      obtain ⟨ad, w1, w2, w3, w4⟩ := S.cel q
      have np : ∀ p ∈ B.pin, p.1 ≠ i := S.np q fun k o w => by cases w; rfl
      have S1 : StOk K B (e.set i (.cel .lock o)) σ G H := S.kind q (fun z => nomatch z) fun p hp w => absurd w (np p hp)
      have S2 := S1.pin (i := i) (o := o) (List.getElem?_set_self (S.lt q)) w1
      refine ⟨_, _, p.2, S2, h1, rfl, rfl, fun kp e' σ' G' H' S' => now o ad _ w3 (fun l' w => by subst w; exact hl i rfl _ _ q) w1 kp e' σ' G' H' S' List.mem_cons_self, fun kp σ' G' H' S' => ?_⟩
      obtain ⟨p1, k, o', p2, p3, p4⟩ := S'.pn _ (List.mem_cons_self : (i, ad, some o) ∈ (i, ad, some o) :: B.pin)
      obtain ⟨_, rfl⟩ := p4 o rfl
      have S3 : StOk K { B with keep := kp } p.2 σ' G' H' := StOk.unpin (B := { B with keep := kp }) (q := (i, ad, some o')) S'
      refine S3.kind p2 (fun _ b hb => ?_) fun p hp w => absurd w (np p hp)
      have : b = ad := by
        simp only at p1
        rw [p1] at hb
        cases hb
        rfl
      subst this
      rcases w4 with w | ⟨_, w⟩
      · exact w
      · exact absurd rfl w
    · rename_i o q
      obtain ⟨p, h1, h2⟩ := rbind_ok h
      cases h2
      obtain ⟨ad, w1, w2, w3, w4⟩ := S.cel q
      have np : ∀ p ∈ B.pin, p.1 = i → p.2.2 = none := fun p hp w => by
        obtain ⟨_, k, o1, z1, z2, z3⟩ := S.pn p hp
        rw [w, q] at z1
        cases z1
        cases z : p.2.2 with
        | none => rfl
        | some o' => exact absurd (z3 o' z).1 (fun z => nomatch z)
      have S1 : StOk K B (e.set i (.cel .lock o)) σ G H := S.kind q (fun z => nomatch z) fun p hp w => ⟨(fun z => nomatch z), fun o' z => by rw [np p hp w] at z; cases z⟩
      have S2 := S1.pin (i := i) (o := o) (List.getElem?_set_self (S.lt q)) w1
      refine ⟨_, _, p.2, S2, h1, rfl, rfl, fun kp e' σ' G' H' S' => now o ad _ w3 (fun l' w => by subst w; exact hl i rfl _ _ q) w1 kp e' σ' G' H' S' List.mem_cons_self, fun kp σ' G' H' S' => ?_⟩
      obtain ⟨p1, k, o', p2, p3, p4⟩ := S'.pn _ (List.mem_cons_self : (i, ad, some o) ∈ (i, ad, some o) :: B.pin)
      obtain ⟨_, rfl⟩ := p4 o rfl
      have S3 : StOk K { B with keep := kp } p.2 σ' G' H' := StOk.unpin (B := { B with keep := kp }) (q := (i, ad, some o')) S'
      exact S3.kind p2 (fun z => nomatch z) fun p hp w => ⟨(fun z => nomatch z), fun o' z => by rw [np p hp w] at z; cases z⟩
    · rename_i o q
      obtain ⟨ad, w1, w2, w3, w4⟩ := S.cel q
      exact ⟨_, e, e3, S.pin q w1, h, rfl, rfl, fun kp e' σ' G' H' S' => now o ad _ w3 (fun l' w => by subst w; exact hl i rfl _ _ q) w1 kp e' σ' G' H' S' List.mem_cons_self, fun kp σ' G' H' S' => StOk.unpin (B := { B with keep := kp }) S'⟩
    · cases h
end
end En

/-! En13: list comprehensions. -/
namespace En
open PySem PySem.Spec PyProof.Rows L2

section
variable {K : Fg} {B : Bs} {e : Ev} {σ : L2.St} {G H G' H' : Hp}
theorem wipe_eq {own : List Nat} {σ τ : L2.St} (hl : τ.length = σ.length) (h : ∀ j, j ∉ own → τ[j]? = σ[j]?) : wipe τ own = wipe σ own := by
  refine List.ext_getElem? fun j => ?_
  have gen : ∀ (own : List Nat) (ρ : L2.St), (wipe ρ own)[j]? = if j ∈ own ∧ j < ρ.length then some none else ρ[j]? := by
    intro own ρ
    induction own with
    | nil => simp [wipe_nil]
    | cons i r ih =>
      show ((wipe ρ r).set i none)[j]? = _
      by_cases hj : i = j
      · subst hj
        by_cases hi : i < ρ.length
        · rw [List.getElem?_set_self (by rw [wipe_len]; exact hi), if_pos ⟨List.mem_cons_self, hi⟩]
        · rw [if_neg (fun z => hi z.2), List.getElem?_eq_none (by rw [List.length_set, wipe_len]; omega), List.getElem?_eq_none (by omega)]
      · rw [List.getElem?_set_ne hj, ih]
        by_cases hm : j ∈ r
        · simp [hm, List.mem_cons]
        · rw [if_neg (fun z => hm z.1), if_neg (fun z => by
            rcases List.mem_cons.mp z.1 with w | w
            · exact hj w.symm
            · exact hm w)]
  rw [gen own τ, gen own σ, hl]
  by_cases hj : j ∈ own
  · by_cases hl' : j < σ.length
    · rw [if_pos ⟨hj, hl'⟩, if_pos ⟨hj, hl'⟩]
    · rw [if_neg (fun z => hl' z.2), if_neg (fun z => hl' z.2), List.getElem?_eq_none (by omega), List.getElem?_eq_none (by omega)]
  · rw [if_neg (fun z => hj z.1), if_neg (fun z => hj z.1)]
    exact h j hj
theorem wipe_wipe {own : List Nat} {σ τ : L2.St} (h : wipe τ own = wipe σ own) : wipe (wipe τ own) own = wipe σ own := by
  rw [h]
  exact wipe_eq (wipe_len own σ) fun j hj => wipe_get own σ j hj
/-- the loop of a block: what holds ahead of each turn -/
def CompInv (K : Fg) (B : Bs) (own : List Nat) (σ : L2.St) (G : Hp) (p : Addr) (rest : List D → Acc → Ev → Prop) (l : List D) (i : Nat) (H : Hp) : Prop :=
  ∃ e σx G' xs acc, StOk K { B with keep := (p, .lst xs) :: B.keep } e σx G' H ∧ wipe σx own = wipe σ own ∧ Same G G' ∧ rest (l.drop i) acc e ∧ Reps K G' acc.2.reverse xs ∧ acc.1 = acc.2.length
theorem comp_imp {own js : List Nat} {put : D → M Unit} {test : M Bool} {elt : M D} {mI : M (Hd × List D)} (hj : ∀ j ∈ js, j ∈ own) (hI : ItM mI) : ∀ σ H Q,
    tFr K (do let p ← mI; let q ← lockd p.1 (inBlk own (compL own put test elt p.2 (0, []))); pure q.2.reverse) σ H Q → tLc (tIt K mI) (tPut K js put) (tTs K test) (tV K elt) own σ H Q := fun σ H Q ⟨B, G, e, S, res, e', he, k⟩ => by
  obtain ⟨⟨hd, l⟩, e1, h1, h2⟩ := bind_ok he
  obtain ⟨q, e3, h3, h4⟩ := bind_ok h2
  cases h4
  refine ⟨B, G, e, S, hd, l, e1, h1, fun J oa G1 H1 S1 s1 o1 o2 it p hp => ?_⟩
  obtain ⟨B', eL, e2, SL, h5, hB, hK, now, unl⟩ := lock_ok S1 (fun i w k l' z => by
    subst w
    exact hI _ _ _ _ h1 k l' z) h3
  obtain ⟨⟨_, ec⟩, h6, h7⟩ := rbind_ok h5
  obtain ⟨cl, ee⟩ := clean_ok h6
  simp only at ee h7
  subst ee
  obtain ⟨⟨q', e2'⟩, h8, h9⟩ := rbind_ok h7
  cases h9
  have hB0 : B'.H0 p = none := by
    rw [hB]
    cases z : B.H0 p with
    | none => rfl
    | some u => exact absurd hp (S1.gr.there p (by rw [z]; exact fun w => nomatch w))
  have hK0 : ∀ q ∈ B'.keep, q.1 ≠ p := fun q hq w => by
    obtain ⟨z, _⟩ := SL.kp q hq
    rw [w, hp] at z
    cases z
  have nowA : ∀ {kp : List (Addr × HO)} {ex : Ev} {σx : L2.St} {G' H' : Hp}, StOk K { B' with keep := kp } ex σx G' H' → ∀ a, oa = some a → ∃ xs, H' a = some (.lst xs) ∧ Reps K G' l xs := fun {kp ex σx G' H'} S' a w => by
    cases hd with
    | hv d =>
      rw [o2 d rfl] at w
      cases w
    | hc i =>
      obtain ⟨a', z1, z2⟩ := o1 i rfl
      rw [z1] at w
      cases w
      exact now kp ex σx G' H' S' i rfl a z2
  refine ⟨fun i m H' => CompInv K B' own σ G1 p (fun r acc ex => compL own put test elt r acc ex = .ok (q', e2')) l i H' ∧ i + m = l.length, ⟨l.length, ⟨wipeE own ec, wipe σ own, G1, [], (0, []), ?_, wipe_wipe rfl, Same.refl _, h8, rfl, rfl⟩, by omega⟩, fun i m H2 hW => ?_⟩
  · have g : Grow0 G1 H1 G1 (upd H1 p (.lst [])) := Grow.allocH S1.gh hp
    have S2 := (SL.wiped cl).grow g
    have f2 : FrOk B' (wipeE own ec) (wipe σ own) G1 (upd H1 p (.lst [])) p [] := FrOk.of (SL.wiped cl) g hp upd_same (none_of_same S1.gh hp)
    exact S2.hold f2
  · obtain ⟨⟨ex, σx, G2, xs, acc, S2, w2, s2, hr, r2, hn⟩, hm⟩ := hW
    have itk := it G2 H2 s2 S2.gh (nowA S2)
    by_cases hi : i < l.length
    · right
      have hd' : l.drop i = l[i] :: l.drop (i + 1) := List.drop_eq_getElem_cons hi
      simp only [hd'] at hr
      obtain ⟨_, ew, h10, hr⟩ := bind_ok hr
      cases h10
      obtain ⟨_, ep, h11, hr⟩ := bind_ok hr
      obtain ⟨b, et, h12, hr⟩ := bind_ok hr
      obtain ⟨hgo, hyl⟩ := itk.1 i l[i] (List.getElem?_eq_getElem hi)
      refine ⟨hgo, fun H' => CompInv K B' own σ G1 p (fun r acc ex => compL own put test elt r acc ex = .ok (q', e2')) l (i + 1) H', fun H' hN => ⟨m - 1, by omega, hN, by omega⟩, fun x H3 hy => ?_⟩
      obtain ⟨G3, g3, r3⟩ := hyl x H3 hy
      have S3 := S2.grow g3
      have S4 : StOk K { B' with keep := (p, .lst xs) :: B'.keep } (wipeE own ex) (wipe σ own) G3 H3 := by
        rw [← w2]
        refine StOk.wiped0 own S3 fun j hj' => ⟨?_, fun q hq => SL.npC cl hj' q hq⟩
        obtain ⟨t, z, _⟩ := cl j hj'
        have := SL.lt z
        rw [SL.len] at this
        rw [S3.len, wipe_len2 w2]
        exact this
      refine ⟨_, G3, _, S4, l[i], ((), ep), r3, h11, fun σ5 S5 fr5 ln5 => ?_⟩
      have w5 : wipe σ5 own = wipe σ own := by
        have := wipe_eq (own := own) ln5 fun j hj' => fr5 j fun z => hj' (hj j z)
        rw [this]
        exact wipe_wipe rfl
      refine ⟨w5, _, G3, ep, S5, b, et, h12, fun G6 H6 S6 s6 => ?_⟩
      cases b with
      | false =>
        exact ⟨et, σ5, G6, xs, acc, S6, w5, s2.trans (g3.g.trans s6), hr, r2.mono (g3.g.trans s6), hn⟩
      | true =>
        obtain ⟨y, ey, h13, hr⟩ := bind_ok hr
        refine ⟨_, G6, et, S6, y, ey, h13, fun v G7 H7 S7 s7 r7 => ?_⟩
        split at hr
        · rename_i hlt
          have f7 := FrOk.back S7 hB0 hK0
          have r8 : Reps K G7 acc.2.reverse xs := r2.mono ((g3.g.trans s6).trans s7)
          refine ⟨xs, f7.h, ?_, ?_⟩
          · rw [r8.length, List.length_reverse, ← hn, ← bigLine_eq]
            exact hlt
          · have S8 := S7.free.growF (H' := upd H7 p (.lst (xs ++ [v]))) f7 (Grow.write S7.gh f7.h f7.g rfl)
            have f8 : FrOk B' ey σ5 G7 (upd H7 p (.lst (xs ++ [v]))) p (xs ++ [v]) := ⟨upd_same, f7.g, f7.b, f7.c, f7.k⟩
            exact ⟨ey, σ5, G7, xs ++ [v], (acc.1 + 1, y :: acc.2), S8.hold f8, w5, s2.trans (g3.g.trans (s6.trans s7)), hr, by
              show Reps K G7 (y :: acc.2).reverse (xs ++ [v])
              rw [List.reverse_cons]
              exact Reps.append r8 (Reps.cons r7 rfl), by show acc.1 + 1 = acc.2.length + 1; rw [hn]⟩
        · cases hr
    · left
      have hd' : l.drop i = [] := List.drop_eq_nil_of_le (by omega)
      simp only [hd'] at hr
      have hq : (q', e2') = (acc, ex) := by
        have hr' : R.ok (acc, ex) = R.ok (q', e2') := hr
        cases hr'
        rfl
      cases hq
      refine ⟨itk.2 i (by omega), ?_⟩
      have S3 : StOk K { B' with keep := (p, .lst xs) :: B'.keep } (restE own ec _) σ G2 H2 := StOk.rest (B := { B' with keep := (p, .lst xs) :: B'.keep }) SL rfl cl S2 s2 w2
      have S4 := unl _ _ _ _ S3
      rw [hK] at S4
      exact k p xs G2 H2 S4.free (s1.trans s2) (FrOk.back S4 (by rw [← hB]; exact hB0) (by rw [← hK]; exact hK0)) r2
end
end En

/-! En14: what is walked. -/
namespace En
open PySem PySem.Spec PyProof.Rows L2

theorem rngD_get : ∀ (n : Nat) (lo : Int) (i : Nat), (rngD lo n)[i]? = if i < n then some (.int (lo + i)) else none
  | 0, lo, i => by simp [rngD]
  | n + 1, lo, 0 => by simp [rngD]
  | n + 1, lo, i + 1 => by
    rw [rngD, List.getElem?_cons_succ, rngD_get n (lo + 1) i]
    by_cases h : i < n
    · rw [if_pos h, if_pos (by omega)]
      congr 2
      push_cast
      omega
    · rw [if_neg h, if_neg (by omega)]
theorem rngD_len : ∀ (n : Nat) (lo : Int), (rngD lo n).length = n
  | 0, _ => rfl
  | n + 1, lo => by rw [rngD, List.length_cons, rngD_len n]
theorem rngDn_get : ∀ (n : Nat) (hi : Int) (i : Nat), (rngDn hi n)[i]? = if i < n then some (.int (hi + i * (-1))) else none
  | 0, lo, i => by simp [rngDn]
  | n + 1, lo, 0 => by simp [rngDn]
  | n + 1, lo, i + 1 => by
    rw [rngDn, List.getElem?_cons_succ, rngDn_get n (lo - 1) i]
    by_cases h : i < n
    · rw [if_pos h, if_pos (by omega)]
      congr 2
      push_cast
      omega
    · rw [if_neg h, if_neg (by omega)]
theorem rngDn_len : ∀ (n : Nat) (lo : Int), (rngDn lo n).length = n
  | 0, _ => rfl
  | n + 1, lo => by rw [rngDn, List.length_cons, rngDn_len n]

section
variable {X : Cx} {K : Fg}
def srcM (m : M Hd) : M (Hd × List D) := do
  let h ← m
  let x ← h.get
  let l ← M.of (D.items? x)
  pure (h, l)
/-- a handle is a name's cell or a value, and a cell's handle tells it -/
theorem it_src (m : M Hd) : ItM (srcM m) := fun e i l e' h k l' q => by
  obtain ⟨hd, e1, h1, h2⟩ := bind_ok h
  obtain ⟨x, e2, h3, h4⟩ := bind_ok h2
  obtain ⟨l2, e3, h5, h6⟩ := bind_ok h4
  cases h6
  obtain ⟨h7, h8⟩ := of_ok h5
  have := hd_same h3
  subst this
  simp only at h7 h8
  subst h8
  simp only [Hd.get] at h3
  rw [q] at h3
  cases h3
  cases (show R.ok l' = R.ok l from h7)
  rfl
theorem itl_ok {G : Hp} {a : Addr} {l : List D} {oa : Option Addr} (h : ∀ G1 H1, Same G G1 → Same G1 H1 → (∀ a, oa = some a → ∃ xs, H1 a = some (.lst xs) ∧ Reps K G1 l xs) → ∃ xs, SqL K H1 a xs ∧ Reps K G1 l xs ∧ ∀ ys, SqL K H1 a ys → ys = xs) : ItOk K G oa l (Itl K a) := fun G1 H1 s1 s2 hn => by
  obtain ⟨xs, t, r, u⟩ := h G1 H1 s1 s2 hn
  refine ⟨fun i d hd => ?_, fun i hi => ⟨xs, t, by rw [r.length]; exact hi⟩⟩
  obtain ⟨x, z1, z2⟩ := r.get hd
  exact ⟨⟨xs, x, t, z1⟩, fun v H2 ⟨e, y⟩ => by
    subst e
    have := y xs t
    rw [z1] at this
    cases this
    exact ⟨G1, Grow.refl s2, z2⟩⟩
theorem itl_cell {G : Hp} {a : Addr} {l : List D} {oa : Option Addr} (h : ∀ G1 H1, Same G G1 → Same G1 H1 → (∀ a, oa = some a → ∃ xs, H1 a = some (.lst xs) ∧ Reps K G1 l xs) → ∃ xs, SqL K H1 a xs ∧ Reps K G1 l xs) : ItOk K G oa l (Itl K a) := fun G1 H1 s1 s2 hn => by
  obtain ⟨xs, t, r⟩ := h G1 H1 s1 s2 hn
  refine ⟨fun i d hd => ?_, fun i hi => ⟨xs, t, by rw [r.length]; exact hi⟩⟩
  obtain ⟨x, z1, z2⟩ := r.get hd
  exact ⟨⟨xs, x, t, z1⟩, fun v H2 ⟨e, y⟩ => by
    subst e
    have := y xs t
    rw [z1] at this
    cases this
    exact ⟨G1, Grow.refl s2, z2⟩⟩
theorem itt_ok {G : Hp} {a : Addr} {l : List D} {xs : List V} {oa : Option Addr} (t : SqT K G a xs) (r : Reps K G l xs) : ItOk K G oa l (Itt K a) := fun G1 H1 s1 s2 hn => by
  have t' : SqT K H1 a xs := seqT_mono (s1.trans s2) t
  have r' := r.mono s1
  refine ⟨fun i d hd => ?_, fun i hi => ⟨xs, t', by rw [r.length]; exact hi⟩⟩
  obtain ⟨x, z1, z2⟩ := r'.get hd
  exact ⟨⟨xs, x, t', z1⟩, fun v H2 ⟨e, y⟩ => by
    subst e
    have := y xs t'
    rw [z1] at this
    cases this
    exact ⟨G1, Grow.refl s2, z2⟩⟩
theorem its_ok {G : Hp} {z : List Nat} {oa : Option Addr} (h : ∀ c ∈ z, c < 0x110000) : ItOk K G oa (z.map fun c => D.str [c]) (Its ⟨z.toArray⟩) := fun G1 H1 s1 s2 hn => by
  refine ⟨fun i d hd => ?_, fun i hi => ?_⟩
  · rw [List.getElem?_map] at hd
    cases e : z[i]? with
    | none => rw [e] at hd; cases hd
    | some c =>
      rw [e] at hd
      cases hd
      have hi : i < z.length := (List.getElem?_eq_some_iff.mp e).1
      refine ⟨by show i < z.toArray.size; rw [List.size_toArray]; exact hi, fun v H2 ⟨e1, c', e2, e3⟩ => ?_⟩
      subst e1
      have : z[i]? = some c' := by simpa using e2
      rw [e] at this
      cases this
      exact ⟨G1, Grow.refl s2, e3, show 1 ≤ bigLine by decide, fun x hx => by
        rw [List.mem_singleton] at hx
        subst hx
        exact h _ (List.mem_of_getElem? e)⟩
  · show z.toArray.size ≤ i
    rw [List.size_toArray]
    rw [List.length_map] at hi
    exact hi
theorem itr_ok {G : Hp} {lo : Int} {n : Nat} {oa : Option Addr} : ItOk K G oa (rngD lo n) (Itr lo n) := fun G1 H1 s1 s2 hn => by
  refine ⟨fun i d hd => ?_, fun i hi => by rw [rngD_len] at hi; exact hi⟩
  rw [rngD_get] at hd
  split at hd
  · rename_i hi
    cases hd
    exact ⟨hi, fun v H2 ⟨e1, e2⟩ => by subst e1; exact ⟨G1, Grow.refl s2, e2⟩⟩
  · cases hd
theorem itc_ok {G : Hp} {lo : Int} {n : Nat} {oa : Option Addr} : ItOk K G oa (rngDn lo n) (Itc lo (-1) n) := fun G1 H1 s1 s2 hn => by
  refine ⟨fun i d hd => ?_, fun i hi => by rw [rngDn_len] at hi; exact hi⟩
  rw [rngDn_get] at hd
  split at hd
  · rename_i hi
    cases hd
    exact ⟨hi, fun v H2 ⟨e1, e2⟩ => by subst e1; exact ⟨G1, Grow.refl s2, e2⟩⟩
  · cases hd
def HdM (m : M Hd) : Prop := ∀ e i e', m e = .ok (.hc i, e') → ∃ k o, e'[i]? = some (.cel k o)
theorem pi_src {tg iter : Expr} {m : M Hd} (hm : HdM m) (he : PE X iter (tHd X.K m)) : PI X tg iter (tIt X.K (srcM m)) := by
  refine ⟨fun pins s σ H Rr I ⟨B, G, e, S, hd, l, e', h, k⟩ => ?_⟩
  obtain ⟨hd', e1, h1, h2⟩ := bind_ok h
  obtain ⟨x, e2, h3, h4⟩ := bind_ok h2
  obtain ⟨l2, e3, h5, h6⟩ := bind_ok h4
  cases h6
  obtain ⟨h7, h8⟩ := of_ok h5
  simp only at h7 h8
  subst h8
  have := hd_same h3
  subst this
  have oaE : ∀ (v : V) (a : Addr), v = .ref a → ∃ oa : Option Addr, (∀ G', HdOk X.K G' σ hd v → (∀ i, hd = .hc i → ∃ b, oa = some b ∧ σ[i]? = some (some (.ref b))) ∧ (∀ d, hd = .hv d → oa = none)) ∧ (∀ b, oa = some b → b = a ∧ ∃ i, hd = .hc i) ∧ (oa = none → ∃ d, hd = .hv d) := fun v a ev => by
    cases hd with
    | hv d => exact ⟨none, fun G' q => ⟨(fun i w => nomatch w), fun _ _ => rfl⟩, (fun b w => nomatch w), fun _ => ⟨d, rfl⟩⟩
    | hc i => exact ⟨some a, fun G' q => ⟨fun j w => by cases w; exact ⟨a, rfl, by rw [← ev]; exact q⟩, fun d w => nomatch w⟩, fun b w => ⟨by cases w; rfl, i, rfl⟩, fun w => nomatch w⟩
  cases x with
  | lst m' =>
    cases (show R.ok m' = R.ok l from h7)
    refine (pi_list (tg := tg) he).run pins s σ H Rr I ⟨B, G, e, S, hd, _, h1, fun v G1 H1 S1 s1 q1 => ?_⟩
    obtain ⟨_, t⟩ := HdOk.get S1 q1 h3
    obtain ⟨a, xs, ev, hx, r⟩ := t
    obtain ⟨oa, w1, w2, w3⟩ := oaE v a ev
    refine ⟨a, ev, ⟨xs, SqL.of hx⟩, k (Itl X.K a) oa G1 H1 S1 s1 (w1 G1 q1).1 (w1 G1 q1).2 (itl_cell fun G2 H2 s2 s3 hn => ?_)⟩
    cases oa with
    | none =>
      obtain ⟨d, hd'⟩ := w3 rfl
      subst hd'
      have hdv : d = .lst l := by cases h3; rfl
      subst hdv
      obtain ⟨a', xs', ev', hx', r'⟩ := q1
      rw [ev] at ev'
      cases ev'
      exact ⟨xs', SqL.of (s3 _ _ (s2 _ _ hx')), r'.mono s2⟩
    | some b =>
      obtain ⟨rfl, _⟩ := w2 b rfl
      obtain ⟨ys, z1, z2⟩ := hn b rfl
      exact ⟨ys, SqL.of z1, z2⟩
  | tup m' =>
    cases (show R.ok m' = R.ok l from h7)
    refine (pi_tup (tg := tg) he).run pins s σ H Rr I ⟨B, G, e, S, hd, _, h1, fun v G1 H1 S1 s1 q1 => ?_⟩
    obtain ⟨_, t⟩ := HdOk.get S1 q1 h3
    obtain ⟨a, xs, ev, hx, r⟩ := t
    obtain ⟨oa, w1, w2, w3⟩ := oaE v a ev
    exact ⟨a, ev, ⟨xs, seqT_mono S1.gh hx⟩, k (Itt X.K a) oa G1 H1 S1 s1 (w1 G1 q1).1 (w1 G1 q1).2 (itt_ok hx r)⟩
  | str z =>
    cases (show R.ok (z.map fun c => D.str [c]) = R.ok l from h7)
    refine (pi_str (tg := tg) he).run pins s σ H Rr I ⟨B, G, e, S, hd, _, h1, fun v G1 H1 S1 s1 q1 => ?_⟩
    obtain ⟨_, t⟩ := HdOk.get S1 q1 h3
    obtain ⟨rfl, hz1, hz2⟩ := t
    refine ⟨_, rfl, k (Its _) none G1 H1 S1 s1 (fun i w => ?_) (fun d w => rfl) (its_ok hz2)⟩
    subst w
    obtain ⟨k0, o0, w0⟩ := hm _ _ _ h1
    simp only [Hd.get] at h3
    rw [w0] at h3
    cases o0 <;> cases h3
  | dic _ _ =>
    refine (pi_list (tg := tg) he).run pins s σ H Rr I ⟨B, G, e, S, hd, _, h1, fun v G1 H1 S1 s1 q1 => ?_⟩
    obtain ⟨_, t⟩ := HdOk.get S1 q1 h3
    exact t.elim
  | _ => cases (show R.bad = R.ok l from h7)
/-! ### range -/
def rng1M (m : M D) : M (Hd × List D) := do
  let x ← m
  let i ← M.of (D.int? x)
  if rOk i then pure (.hv .non, rngD 0 i.toNat) else M.of .bad
def rng2M (m n : M D) : M (Hd × List D) := do
  let x ← m
  let y ← n
  let i ← M.of (D.int? x)
  let j ← M.of (D.int? y)
  if rOk i && rOk j then pure (.hv .non, rngD i (j - i).toNat) else M.of .bad
def rngdnM (m n : M D) : M (Hd × List D) := do
  let x ← m
  let y ← n
  let i ← M.of (D.int? x)
  let j ← M.of (D.int? y)
  if rOk i && rOk j then pure (.hv .non, rngDn i (i - j).toNat) else M.of .bad
theorem int_ok {x : D} {i : Int} (h : D.int? x = .ok i) : x = .int i := by
  cases x <;> first | (cases h; rfl) | cases h
theorem rOk_iff {i : Int} (h : rOk i = true) : -(2 ^ 62) ≤ i ∧ i < 2 ^ 62 := by
  have := jOk_ok h
  omega
theorem it_rng1 (m : M D) : ItM (rng1M m) := fun e i l e' h => by
  obtain ⟨x, e1, h1, h⟩ := bind_ok h
  obtain ⟨y, e2, h2, h⟩ := bind_ok h
  split at h <;> cases h
theorem it_rng2 (m n : M D) : ItM (rng2M m n) := fun e i l e' h => by
  obtain ⟨x, e1, h1, h⟩ := bind_ok h
  obtain ⟨y, e2, h2, h⟩ := bind_ok h
  obtain ⟨x, e1, h1, h⟩ := bind_ok h
  obtain ⟨y, e2, h2, h⟩ := bind_ok h
  split at h <;> cases h
theorem it_rngdn (m n : M D) : ItM (rngdnM m n) := fun e i l e' h => by
  obtain ⟨x, e1, h1, h⟩ := bind_ok h
  obtain ⟨y, e2, h2, h⟩ := bind_ok h
  obtain ⟨x, e1, h1, h⟩ := bind_ok h
  obtain ⟨y, e2, h2, h⟩ := bind_ok h
  split at h <;> cases h
theorem PIimp {tg iter : Expr} {t t' : TI} (h : PI X tg iter t) (i : ∀ σ H Rr, t' σ H Rr → t σ H Rr) : PI X tg iter t' := ⟨fun pins s σ H Rr I q => h.run pins s σ H Rr I (i σ H Rr q)⟩
theorem pi_rng1 {tg a : Expr} {p pos : Pos} {m : M D} (hg : Gl X (Str.ofString "range")) (hm : X.mg (Str.ofString "range") = none) (ns : nst a = true) (ha : PE X a (tV X.K m)) :
    PI X tg (.Call (.Name (Str.ofString "range") p) [a] [] pos) (tIt X.K (rng1M m)) :=
  PIimp (pi_range1 hg hm (pa_cons ha pa_nil (star1 ns)) (by rw [star1 ns]; rfl)) fun σ H Rr ⟨B, G, e, S, hd, l, e', h, k⟩ => by
    obtain ⟨x, e1, h1, h2⟩ := bind_ok h
    obtain ⟨i, e2, h3, h4⟩ := bind_ok h2
    obtain ⟨h5, h6⟩ := of_ok h3
    simp only at h6
    subst h6
    have := int_ok h5
    subst this
    split at h4
    · rename_i hr
      cases h4
      exact ⟨B, G, e, S, _, _, h1, fun v G1 H1 S1 s1 r1 => ⟨i, by rw [show v = .int i from r1], (rOk_iff hr).1, (rOk_iff hr).2, k _ none G1 H1 S1 s1 (fun i w => nomatch w) (fun _ _ => rfl) itr_ok⟩⟩
    · cases h4
theorem pi_rng2 {tg a b : Expr} {p pos : Pos} {m n : M D} (hg : Gl X (Str.ofString "range")) (hm : X.mg (Str.ofString "range") = none) (ns : nst a = true) (ns2 : nst b = true) (ha : PE X a (tV X.K m)) (hb : PE X b (tV X.K n)) :
    PI X tg (.Call (.Name (Str.ofString "range") p) [a, b] [] pos) (tIt X.K (rng2M m n)) :=
  PIimp (pi_range2 hg hm (pa_cons ha (pa_cons hb pa_nil (star1 ns2)) (star1 ns)) (by rw [star1 ns, star1 ns2]; rfl) (by rw [star1 ns2]; rfl)) fun σ H Rr ⟨B, G, e, S, hd, l, e', h, k⟩ => by
    obtain ⟨x, e1, h1, h2⟩ := bind_ok h
    obtain ⟨y, e2, h3, h4⟩ := bind_ok h2
    obtain ⟨i, e3, h5, h6⟩ := bind_ok h4
    obtain ⟨j, e4, h7, h8⟩ := bind_ok h6
    obtain ⟨z1, z2⟩ := of_ok h5
    obtain ⟨z3, z4⟩ := of_ok h7
    simp only at z2 z4
    subst z2
    subst z4
    have := int_ok z1
    subst this
    have := int_ok z3
    subst this
    split at h8
    · rename_i hr
      cases h8
      rw [Bool.and_eq_true] at hr
      exact ⟨B, G, e, S, _, _, h1, fun v G1 H1 S1 s1 r1 => ⟨B, G1, _, S1, _, _, h3, fun u G2 H2 S2 s2 r2 => ⟨i, j, by rw [show v = .int i from r1, show u = .int j from r2], ⟨(rOk_iff hr.1).1, (rOk_iff hr.1).2, (rOk_iff hr.2).1, (rOk_iff hr.2).2⟩, k _ none G2 H2 S2 (s1.trans s2) (fun i w => nomatch w) (fun _ _ => rfl) itr_ok⟩⟩⟩
    · cases h8
theorem pi_rngdn {tg a b : Expr} {p pos : Pos} {kk : Nat} {p1 p2 : Pos} {m n : M D} (hg : Gl X (Str.ofString "range")) (hm : X.mg (Str.ofString "range") = none) (ns : nst a = true) (ns2 : nst b = true) (ha : PE X a (tV X.K m)) (hb : PE X b (tV X.K n)) :
    PI X tg (.Call (.Name (Str.ofString "range") p) [a, b, .UnaryOp .USub (.Constant (.int 1) kk p1) p2] [] pos) (tIt X.K (rngdnM m n)) :=
  PIimp (pi_range3 hg hm (pa_cons ha (pa_cons hb (pa_cons (pe_un un_neg pe_int) pa_nil rfl) (star1 ns2)) (star1 ns)) (by rw [star1 ns, star1 ns2] <;> rfl) (by rw [star1 ns2] <;> rfl)) fun σ H Rr ⟨B, G, e, S, hd, l, e', h, k⟩ => by
    obtain ⟨x, e1, h1, h2⟩ := bind_ok h
    obtain ⟨y, e2, h3, h4⟩ := bind_ok h2
    obtain ⟨i, e3, h5, h6⟩ := bind_ok h4
    obtain ⟨j, e4, h7, h8⟩ := bind_ok h6
    obtain ⟨z1, z2⟩ := of_ok h5
    obtain ⟨z3, z4⟩ := of_ok h7
    simp only at z2 z4
    subst z2
    subst z4
    have := int_ok z1
    subst this
    have := int_ok z3
    subst this
    split at h8
    · rename_i hr
      cases h8
      rw [Bool.and_eq_true] at hr
      exact ⟨B, G, e, S, _, _, h1, fun v G1 H1 S1 s1 r1 => ⟨B, G1, _, S1, _, _, h3, fun u G2 H2 S2 s2 r2 => ⟨1, rfl, i, j, -1, (i - j).toNat, by rw [show v = .int i from r1, show u = .int j from r2], RgC.neg (rOk_iff hr.1).1 (rOk_iff hr.1).2 (rOk_iff hr.2).1 (rOk_iff hr.2).2, k _ none G2 H2 S2 (s1.trans s2) (fun i w => nomatch w) (fun _ _ => rfl) itc_ok⟩⟩⟩
    · cases h8
/-! ### the comprehension's rule -/
theorem ts_nil : PTs X [] (tTs X.K (pure true)) := ⟨fun pins s σ H Q I ⟨B, G, e, S, b, e', h, k⟩ => by
  cases h
  exact pts_nil.run pins s σ H Q I (k G H S (Same.refl _))⟩
theorem n_comp {elt tg iter : Expr} {ifs : List Expr} {scope : Scope} {own : List (Str × Nat)} {js : List Nat} {pos : Pos} {put : D → M Unit} {test : M Bool} {em : M D} {mI : M (Hd × List D)}
    (hc : X.calm = true) (nd : X.N.Nodup) (hI : PI X tg iter (tIt X.K mI)) (it : ItM mI) (ok : BlkOk X.N X.env.scope scope own) (hj : ∀ j ∈ js, j ∈ own.map (·.2))
    (hg : ∀ s H C cl fp, PG (X.blk s H scope (compEnvC scope cl C X.env) fp) tg (tPut X.K js put))
    (ht : ∀ s H C cl fp, PTs (X.blk s H scope (compEnvC scope cl C X.env) fp) ifs (tTs X.K test))
    (he : ∀ s H C cl fp, PE (X.blk s H scope (compEnvC scope cl C X.env) fp) elt (tV X.K em)) (hs : ∀ x, foldedSetIterable iter X.env x = pure x) :
    PE X (.ListComp elt [⟨tg, iter, ifs, 0⟩] scope pos) (tFr X.K (do let p ← mI; let q ← lockd p.1 (inBlk (own.map (·.2)) (compL (own.map (·.2)) put test em p.2 (0, []))); pure q.2.reverse)) :=
  PEimp (pe_lc hc nd hI ok hg ht he hs) (comp_imp hj it)
end
end En

/-! En14z: zip and enumerate over any two sequences. -/
namespace En
open PySem PySem.Spec PyProof.Rows L2

/-- what is walked beside another one: a list, a tuple, a text -/
inductive Sc where
  | lst (a : Addr)
  | tup (a : Addr)
  | str (x : Str) (t : Tok)
def Sc.val : Sc → Value
  | .lst a => .ref a
  | .tup a => .ref a
  | .str x t => .str x t
def Sc.obj : Sc → Obj
  | .lst a => ⟨.type "list_iterator", none, .fields #[.ref a, .int 0 0], #[]⟩
  | .tup a => ⟨.type "tuple_iterator", none, .fields #[.ref a, .int 0 0], #[]⟩
  | .str x t => ⟨.type (strIterType x), none, .fields #[.str x t, .int 0 0], #[]⟩
def Sc.it : Sc → Heap → Addr → Nat → Prop
  | .lst a, h, p, i => h.IsListIter p a i
  | .tup a, h, p, i => h.IsTupleIter p a i
  | .str x t, h, p, i => h.IsStrIter p (strIterType x) x t i
def Sc.has (K : Fg) (H : Hp) : Sc → List V → Prop
  | .lst a, xs => SqL K H a xs
  | .tup a, xs => SqT K H a xs
  | .str x _, xs => xs = x.cps.toList.map fun c => V.str ⟨#[c]⟩
def Sc.off : Sc → Addr → Prop
  | .lst a, b => a ≠ b
  | .tup a, b => a ≠ b
  | .str _ _, _ => True
theorem Sc.it_at {c : Sc} {h h' : Heap} {p : Addr} {i : Nat} (x : c.it h p i) (e : ∀ o, h.get? p = some o → h'.get? p = some o) : c.it h' p i := by
  cases c with
  | lst a => exact Heap.IsListIter.at x e
  | tup a => exact Heap.IsTupleIter.at x e
  | str y t => obtain ⟨o, ho, r⟩ := x; exact ⟨o, e _ ho, r⟩
theorem Sc.it_obj {c : Sc} {h : Heap} {p : Addr} {i : Nat} (x : c.it h p i) : ∃ o, h.get? p = some o ∧ ∀ v, o.data ≠ .cell v := by
  cases c with
  | lst a => obtain ⟨o, ho, _, hd⟩ := x; exact ⟨o, ho, fun v q => by rw [hd] at q; cases q⟩
  | tup a => obtain ⟨o, ho, _, hd⟩ := x; exact ⟨o, ho, fun v q => by rw [hd] at q; cases q⟩
  | str y t => obtain ⟨o, ho, _, hd⟩ := x; exact ⟨o, ho, fun v q => by rw [hd] at q; cases q⟩
theorem Sc.it_start {c : Sc} {h : Heap} {p : Addr} (e : h.get? p = some c.obj) : c.it h p 0 := by
  cases c with
  | lst a => exact ⟨_, e, rfl, rfl⟩
  | tup a => exact ⟨_, e, rfl, rfl⟩
  | str y t => exact ⟨_, e, rfl, rfl⟩
theorem vals_back : ∀ {xs : List V} {us : List Value} {i : Nat} {u : Value}, Vals xs us → us[i]? = some u → ∃ x, xs[i]? = some x ∧ L2.RelV x u
  | _, _, 0, _, .cons r t, e => by
    cases e
    exact ⟨_, rfl, r⟩
  | _, _, i + 1, _, .cons r t, e => vals_back (i := i) t (by simpa using e)
section
variable {X : Cx} {pins : List (Addr × Obj)} {σ : L2.St} {H : Hp} {s : Shared}
theorem Sc.draws (I : Inv X pins σ H s) {A : Around} (hh : A.handled = none) {c : Sc} {xs : List V} (h : c.has X.K H xs) (p : Addr) (ho : c.off p) :
    ∃ (fp : List Addr) (P : Nat → Value → Prop) (St : Nat → Heap → Prop), Draws X.prog X.w A p fp xs.length P St ∧ (∀ i, c.it s.heap p i → St i s.heap) ∧ (∀ i h, St i h → c.it h p i) ∧
      (∀ i u, P i u → ∃ x, xs[i]? = some x ∧ L2.RelV x u) ∧ p ∈ fp ∧ ∀ b ∈ fp, b = p ∨ ¬ c.off b := by
  cases c with
  | lst a =>
    obtain ⟨its, r, q, _⟩ := I.list h
    have d := Draws.list (prog := X.prog) (w := X.w) hh p a ho its.toArray
    rw [show its.toArray.size = xs.length by rw [List.size_toArray, r.length]] at d
    refine ⟨_, _, _, d, fun i z => ⟨z, q.isList⟩, fun i h z => z.1, fun i u z => vals_back r (by simpa using z), by simp, fun b hb => ?_⟩
    rcases List.mem_cons.mp hb with z | z
    · exact .inl z
    · rw [List.mem_singleton.mp z]; exact .inr fun w => w rfl
  | tup a =>
    obtain ⟨its, r, q, _⟩ := I.tuple h
    have d := Draws.tuple (prog := X.prog) (w := X.w) hh p a ho its.toArray
    rw [show its.toArray.size = xs.length by rw [List.size_toArray, r.length]] at d
    refine ⟨_, _, _, d, fun i z => ⟨z, q⟩, fun i h z => z.1, fun i u z => vals_back r (by simpa using z), by simp, fun b hb => ?_⟩
    rcases List.mem_cons.mp hb with z | z
    · exact .inl z
    · rw [List.mem_singleton.mp z]; exact .inr fun w => w rfl
  | str y t =>
    have d := Draws.text (prog := X.prog) (w := X.w) hh p y t
    have e : xs = y.cps.toList.map fun c => V.str ⟨#[c]⟩ := h
    rw [show y.cps.size = xs.length by rw [e, List.length_map, Array.length_toList]] at d
    refine ⟨_, _, _, d, fun i z => z, fun i h z => z, fun i u ⟨c, t', z1, z2⟩ => ⟨.str ⟨#[c]⟩, ?_, t', z2⟩, by simp, fun b hb => .inl (List.mem_singleton.mp hb)⟩
    rw [e, List.getElem?_map, Array.getElem?_toList, z1]
    rfl
theorem Sc.begins (I : Inv X pins σ H s) {c : Sc} {xs : List V} (h : c.has X.K H xs) : ∃ HH : Heap → Prop, Begins c.val c.obj HH ∧ HH s.heap := by
  cases c with
  | lst a => obtain ⟨its, r, q, _⟩ := I.list h; exact ⟨_, begins_list a its.toArray, q.isList⟩
  | tup a => obtain ⟨its, r, q, _⟩ := I.tuple h; exact ⟨_, begins_tuple a its.toArray, q⟩
  | str y t => exact ⟨_, begins_text y t, trivial⟩
theorem Sc.off_new (I : Inv X pins σ H s) {c : Sc} {xs : List V} (h : c.has X.K H xs) {b : Addr} (hb : s.heap.objs.size ≤ b) : c.off b := by
  cases c with
  | lst a => obtain ⟨its, r, q, _⟩ := I.list h; exact Nat.ne_of_lt (Nat.lt_of_lt_of_le q.lt hb)
  | tup a => obtain ⟨its, r, q, _⟩ := I.tuple h; obtain ⟨o, ho, _⟩ := q; exact Nat.ne_of_lt (Nat.lt_of_lt_of_le (Heap.lt_size ho) hb)
  | str y t => exact trivial
end

theorem sc_uniq {X : Cx} {pins : List (Addr × Obj)} {σ : L2.St} {H : Hp} {s : Shared} (I : Inv X pins σ H s) {c : Sc} {xs ys : List V} (h : c.has X.K H xs) (h' : c.has X.K H ys) : xs = ys := by
  cases c with
  | lst a => exact I.list_inj h h'
  | tup a => exact I.tuple_inj h h'
  | str y t => exact (show xs = _ from h).trans (show ys = _ from h').symm
def Itzg (K : Fg) (c d : Sc) (n m : Nat) : L2.It :=
  ⟨fun i H => i < n ∧ i < m ∧ ∃ xs ys, c.has K H xs ∧ d.has K H ys ∧ xs.length = n ∧ ys.length = m,
   fun i H v H' => ∃ T x y, v = .ref T ∧ H T = none ∧ H' = upd H T (.tup [x, y]) ∧ ∀ xs ys, c.has K H xs → d.has K H ys → xs[i]? = some x ∧ ys[i]? = some y,
   fun i H => (n ≤ i ∨ m ≤ i) ∧ ∃ xs ys, c.has K H xs ∧ d.has K H ys ∧ xs.length = n ∧ ys.length = m⟩
structure Apt (z TI TO i1 i2 : Addr) (c d : Sc) : Prop where
  nd : TI ≠ z ∧ TO ≠ z ∧ TI ≠ TO ∧ TI ≠ i1 ∧ TI ≠ i2 ∧ z ≠ i1 ∧ z ≠ i2 ∧ TO ≠ i1 ∧ TO ≠ i2 ∧ i1 ≠ i2
  c : ∀ b ∈ [z, TI, TO, i1, i2], c.off b ∧ d.off b
theorem Apt.sep {z TI TO i1 i2 : Addr} {c d : Sc} (D : Apt z TI TO i1 i2 c d) {f1 f2 : List Addr} (m1 : i1 ∈ f1) (m2 : i2 ∈ f2) (h1 : ∀ b ∈ f1, b = i1 ∨ ¬ c.off b) (h2 : ∀ b ∈ f2, b = i2 ∨ ¬ d.off b) : ZipSep2 z TI TO i1 i2 f1 f2 := by
  obtain ⟨a1, a2, a3, a4, a5, a6, a7, a8, a9, a10⟩ := D.nd
  have n1 : ∀ b ∈ [z, TI, TO, i1, i2], b ≠ i1 → b ∉ f1 := fun b hb hn z => by
    rcases h1 b z with w | w
    · exact hn w
    · exact w (D.c b hb).1
  have n2 : ∀ b ∈ [z, TI, TO, i1, i2], b ≠ i2 → b ∉ f2 := fun b hb hn z => by
    rcases h2 b z with w | w
    · exact hn w
    · exact w (D.c b hb).2
  exact ⟨a1, a2, a3, a4, m1, n1 z (by simp) a6, n1 TO (by simp) a8, a5, m2, n2 z (by simp) a7, n2 TO (by simp) a9, n2 i1 (by simp) a10, n1 i2 (by simp) (Ne.symm a10)⟩
theorem turn_zipG {P : Program} {w : World} {K : Fg} {elts : List Expr} {kk : Nat} {tpos : Pos} {z TI TO i1 i2 : Addr} {c d : Sc} {n m : Nat} (D : Apt z TI TO i1 i2 c d) :
    Turn P w K (.Tuple elts kk tpos) (Itzg K c d n m) [z, TI, TO, i1, i2] z (fun i h => IsZip h z TI TO .none ∧ IsTupOf2 h TI (.ref i1) (.ref i2) ∧ (∃ x y, IsTupOf2 h TO x y) ∧ c.it h i1 i ∧ d.it h i2 i ∧ i ≤ n ∧ i ≤ m) where
  mem := by simp
  obj := fun i h st b hc => by
    obtain ⟨hz, hTI, ⟨x, y, hTO⟩, h1, h2, _⟩ := st
    simp only [List.mem_cons, List.not_mem_nil, or_false] at hc
    rcases hc with rfl | rfl | rfl | rfl | rfl
    · exact ⟨_, hz, fun v q => nomatch q⟩
    · exact ⟨_, hTI, fun v q => nomatch q⟩
    · exact ⟨_, hTO, fun v q => nomatch q⟩
    · exact Sc.it_obj h1
    · exact Sc.it_obj h2
  keep := fun i h h' st k => by
    obtain ⟨hz, hTI, ⟨x, y, hTO⟩, h1, h2, hn⟩ := st
    exact ⟨k z (by simp) _ hz, k TI (by simp) _ hTI, ⟨x, y, k TO (by simp) _ hTO⟩, Sc.it_at h1 (fun o q => k i1 (by simp) o q), Sc.it_at h2 (fun o q => k i2 (by simp) o q), hn⟩
  item := by
    intro X hP hw hK hc i pins s σ H E I hf st hg
    subst hP hw hK
    obtain ⟨hz, hTI, ⟨x0, y0, hTO⟩, h1, h2, _⟩ := st
    obtain ⟨ln, lm, xs, ys, hx, hy, rfl, rfl⟩ := hg
    obtain ⟨a1, a2, a3, a4, a5, a6, a7, a8, a9, a10⟩ := D.nd
    obtain ⟨f1, P1, S1, D1, s1, t1, p1, m1, g1⟩ := Sc.draws I (A := X.A.in1) (show X.A.in1.handled = none from I.ok.hd hc) hx i1 (D.c i1 (by simp)).1
    obtain ⟨f2, P2, S2, D2, s2, t2, p2, m2, g2⟩ := Sc.draws I (A := X.A.in1) (show X.A.in1.handled = none from I.ok.hd hc) hy i2 (D.c i2 (by simp)).2
    have hzl : z < s.heap.objs.size := Heap.lt_size hz
    refine wpAny_pyNext_zipD2_item (D.sep m1 m2 g1 g2) D1 D2 hz hTI hTO (s1 _ h1) (s2 _ h2) ln lm fun u1 u2 h' tk q1 q2 z' TO' e1 e2 hT hsz hk => ?_
    obtain ⟨x, hx1, r1⟩ := p1 _ _ q1
    obtain ⟨y, hy1, r2⟩ := p2 _ _ q2
    refine ⟨_, rfl, wpAny_letOwnedTupleGo_zip (s := { s with heap := h', toks := tk }) z' fun h'' z'' sb => ?_⟩
    have hT2 : IsTupOf2 h'' s.heap.objs.size u1 u2 := (sb.2 _ (Nat.ne_of_gt hzl)).trans hT
    have new : ObjOk X.prog X.w (upd H s.heap.objs.size (.tup [x, y])) h'' s.heap.objs.size (.tup [x, y]) :=
      ⟨show 2 ≤ sizeLine by decide, [u1, u2], Paired.cons r1 (Paired.cons r2 Paired.nil), ⟨_, hT2, rfl, _, rfl⟩⟩
    have I1 : Inv X pins σ (upd H s.heap.objs.size (.tup [x, y])) { s with heap := h'', toks := tk } :=
      I.turnedNew (t' := tk) (ch := [z, TI, TO, i1, i2]) (fun b o hb q => by
        simp only [List.mem_cons, List.not_mem_nil, or_false, not_or] at hb
        exact (sb.2 b hb.1).trans (hk b o hb.1 hb.2.2.1 hb.2.2.2.1 hb.2.2.2.2 q)) hf (Nat.le_refl _) new
    refine ⟨.ref s.heap.objs.size, _, I1, rfl, ⟨_, x, y, rfl, I.hok.fresh (Nat.le_refl _), rfl, fun xs2 ys2 w1 w2 => by
      rw [sc_uniq I w1 hx, sc_uniq I w2 hy]
      exact ⟨hx1, hy1⟩⟩, ⟨z'', ?_, ⟨u1, u2, ?_⟩, ?_, ?_, ln, lm⟩, fun b hb => ?_⟩
    · exact (sb.2 _ a1).trans (hk _ _ a1 a3 a4 a5 hTI)
    · exact (sb.2 _ a2).trans TO'
    · exact Sc.it_at (t1 _ _ e1) fun o q => (sb.2 _ (Ne.symm a6)).trans q
    · exact Sc.it_at (t2 _ _ e2) fun o q => (sb.2 _ (Ne.symm a7)).trans q
    · have hlt : b < s.heap.objs.size := by
        simp only [List.mem_cons, List.not_mem_nil, or_false] at hb
        rcases hb with rfl | rfl | rfl | rfl | rfl
        · exact hzl
        · exact Heap.lt_size hTI
        · exact Heap.lt_size hTO
        · obtain ⟨o, e, _⟩ := Sc.it_obj h1; exact Heap.lt_size e
        · obtain ⟨o, e, _⟩ := Sc.it_obj h2; exact Heap.lt_size e
      rw [upd_ne (Nat.ne_of_lt hlt)]
      exact (hf b hb).1
  done := by
    intro X hP hw hK hc i pins s σ H E I hf st hg
    subst hP hw hK
    obtain ⟨hz, hTI, ⟨x0, y0, hTO⟩, h1, h2, ln, lm⟩ := st
    obtain ⟨hend, xs, ys, hx, hy, rfl, rfl⟩ := hg
    obtain ⟨f1, P1, S1, D1, s1, t1, p1, m1, g1⟩ := Sc.draws I (A := X.A.in1) (show X.A.in1.handled = none from I.ok.hd hc) hx i1 (D.c i1 (by simp)).1
    obtain ⟨f2, P2, S2, D2, s2, t2, p2, m2, g2⟩ := Sc.draws I (A := X.A.in1) (show X.A.in1.handled = none from I.ok.hd hc) hy i2 (D.c i2 (by simp)).2
    refine wpAny_pyNext_zipD2_end (D.sep m1 m2 g1 g2) D1 D2 hz hTI hTO (s1 _ h1) (s2 _ h2) ln lm (by omega) fun h' tk hk => ⟨rfl, I.turnedL (t' := tk) (ch := [z, TI, TO, i1, i2]) (fun b o hb q => ?_) hf⟩
    simp only [List.mem_cons, List.not_mem_nil, or_false, not_or] at hb
    exact hk b o hb.1 hb.2.2.1 hb.2.2.2.1 hb.2.2.2.2 q
  self := fun A i s Q E st h => wpAny_pyIter_zip st.1 h

/-! ### enumerate -/
def Iteg (K : Fg) (c : Sc) (n : Nat) : L2.It :=
  ⟨fun i H => i < n ∧ ∃ xs, c.has K H xs ∧ xs.length = n,
   fun i H v H' => ∃ T x, v = .ref T ∧ H T = none ∧ H' = upd H T (.tup [.int (i : Nat), x]) ∧ ∀ xs, c.has K H xs → xs[i]? = some x,
   fun i H => n ≤ i ∧ ∃ xs, c.has K H xs ∧ xs.length = n⟩
theorem turn_enumG {P : Program} {w : World} {K : Fg} {elts : List Expr} {kk : Nat} {tpos : Pos} {e p : Addr} {c : Sc} {n : Nat} (hne : e ≠ p) (oe : c.off e) (op : c.off p) :
    Turn P w K (.Tuple elts kk tpos) (Iteg K c n) [e, p] e (fun i h => (∃ old, IsEnum h e p ((i : Nat) : Int) old) ∧ c.it h p i ∧ i ≤ n) where
  mem := by simp
  obj := fun i h st b hc => by
    obtain ⟨⟨old, he⟩, h1, _⟩ := st
    simp only [List.mem_cons, List.not_mem_nil, or_false] at hc
    rcases hc with rfl | rfl
    · exact ⟨_, he, fun v q => nomatch q⟩
    · exact Sc.it_obj h1
  keep := fun i h h' st k => by
    obtain ⟨⟨old, he⟩, h1, hn⟩ := st
    exact ⟨⟨old, k e (by simp) _ he⟩, Sc.it_at h1 (fun o q => k p (by simp) o q), hn⟩
  item := by
    intro X hP hw hK hc i pins s σ H E I hf st hg
    subst hP hw hK
    obtain ⟨⟨old, he⟩, h1, _⟩ := st
    obtain ⟨ln, xs, hx, rfl⟩ := hg
    obtain ⟨f1, P1, S1, D1, s1, t1, p1, m1, g1⟩ := Sc.draws I (A := X.A.in1) (show X.A.in1.handled = none from I.ok.hd hc) hx p op
    have ef : e ∉ f1 := fun z => by
      rcases g1 e z with w | w
      · exact hne w
      · exact w oe
    have hel : e < s.heap.objs.size := Heap.lt_size he
    refine wpAny_pyNext_enum_itemD D1 he (s1 _ h1) ln hne ef fun u h' tk q1 ho e1 hT hsz hk => ?_
    obtain ⟨x, hx1, r1⟩ := p1 _ _ q1
    refine ⟨_, rfl, wpAny_letOwnedTupleGo_enum (s := { s with heap := h', toks := tk + 1 }) ho fun h'' he' sb => ?_⟩
    have hT2 : h''.get? s.heap.objs.size = some { cls := .type "tuple", data := .seq #[.int i tk, u] } := (sb.2 _ (Nat.ne_of_gt hel)).trans hT
    have new : ObjOk X.prog X.w (upd H s.heap.objs.size (.tup [.int (i : Nat), x])) h'' s.heap.objs.size (.tup [.int (i : Nat), x]) :=
      ⟨show 2 ≤ sizeLine by decide, [.int i tk, u], Paired.cons ⟨_, rfl⟩ (Paired.cons r1 Paired.nil), ⟨_, hT2, rfl, _, rfl⟩⟩
    have I1 : Inv X pins σ (upd H s.heap.objs.size (.tup [.int (i : Nat), x])) { s with heap := h'', toks := tk + 1 } :=
      I.turnedNew (t' := tk + 1) (ch := [e, p]) (fun b o hb q => by
        simp only [List.mem_cons, List.not_mem_nil, or_false, not_or] at hb
        exact (sb.2 b hb.1).trans (hk b o hb.1 hb.2 q)) hf (Nat.le_refl _) new
    refine ⟨.ref s.heap.objs.size, _, I1, rfl, ⟨_, x, rfl, I.hok.fresh (Nat.le_refl _), rfl, fun xs2 w1 => by
      rw [sc_uniq I w1 hx]
      exact hx1⟩, ⟨⟨u, ?_⟩, ?_, ln⟩, fun b hb => ?_⟩
    · rw [show ((i + 1 : Nat) : Int) = (i : Int) + 1 by omega]
      exact he'
    · exact Sc.it_at (t1 _ _ e1) fun o q => (sb.2 _ (Ne.symm hne)).trans q
    · have hlt : b < s.heap.objs.size := by
        simp only [List.mem_cons, List.not_mem_nil, or_false] at hb
        rcases hb with rfl | rfl
        · exact hel
        · obtain ⟨o, z, _⟩ := Sc.it_obj h1; exact Heap.lt_size z
      rw [upd_ne (Nat.ne_of_lt hlt)]
      exact (hf b hb).1
  done := by
    intro X hP hw hK hc i pins s σ H E I hf st hg
    subst hP hw hK
    obtain ⟨⟨old, he⟩, h1, ln⟩ := st
    obtain ⟨hend, xs, hx, rfl⟩ := hg
    obtain ⟨f1, P1, S1, D1, s1, t1, p1, m1, g1⟩ := Sc.draws I (A := X.A.in1) (show X.A.in1.handled = none from I.ok.hd hc) hx p op
    have hi : i = xs.length := by omega
    subst hi
    refine wpAny_pyNext_enum_endD D1 he (s1 _ h1) fun h' hk => ⟨rfl, I.turnedL (t' := s.toks) (ch := [e, p]) (fun b o hb q => ?_) hf⟩
    simp only [List.mem_cons, List.not_mem_nil, or_false, not_or] at hb
    exact hk b o hb.2 q
  self := fun A i s Q E st h => let ⟨⟨_, he⟩, _⟩ := st; wpAny_pyIter_enum he h

/-! ### the rules -/
def zipM (m n : M D) : M (Hd × List D) := do
  let x ← m
  let y ← n
  let l ← M.of (D.items? x)
  let k ← M.of (D.items? y)
  pure (.hv .non, zipD l k)
def enumM (m : M D) : M (Hd × List D) := do
  let x ← m
  let l ← M.of (D.items? x)
  pure (.hv .non, enumD 0 l)
theorem it_zip (m n : M D) : ItM (zipM m n) := fun e i l e' h => by
  obtain ⟨x, e1, h1, h⟩ := bind_ok h
  obtain ⟨y, e2, h2, h⟩ := bind_ok h
  obtain ⟨x, e1, h1, h⟩ := bind_ok h
  obtain ⟨y, e2, h2, h⟩ := bind_ok h
  cases h
theorem it_enum (m : M D) : ItM (enumM m) := fun e i l e' h => by
  obtain ⟨x, e1, h1, h⟩ := bind_ok h
  obtain ⟨y, e2, h2, h⟩ := bind_ok h
  cases h
theorem zipD_get : ∀ {l k : List D} {i : Nat} {d : D}, (zipD l k)[i]? = some d → ∃ x y, l[i]? = some x ∧ k[i]? = some y ∧ d = .tup [x, y]
  | [], _, _, _, h => by simp [zipD] at h
  | _ :: _, [], _, _, h => by simp [zipD] at h
  | x :: l, y :: k, 0, d, h => by
    rw [zipD] at h
    cases h
    exact ⟨x, y, rfl, rfl, rfl⟩
  | x :: l, y :: k, i + 1, d, h => by
    rw [zipD, List.getElem?_cons_succ] at h
    exact zipD_get (i := i) h
theorem zipD_len : ∀ (l k : List D), (zipD l k).length = min l.length k.length
  | [], _ => by simp [zipD]
  | _ :: _, [] => by simp [zipD]
  | x :: l, y :: k => by
    rw [zipD, List.length_cons, zipD_len l k, List.length_cons, List.length_cons]
    omega
theorem enumD_get : ∀ {l : List D} {n i : Nat} {d : D}, (enumD n l)[i]? = some d → ∃ x, l[i]? = some x ∧ d = .tup [.int ((n + i : Nat) : Int), x]
  | [], _, _, _, h => by simp [enumD] at h
  | x :: l, n, 0, d, h => by
    rw [enumD] at h
    cases h
    exact ⟨x, rfl, rfl⟩
  | x :: l, n, i + 1, d, h => by
    rw [enumD, List.getElem?_cons_succ] at h
    obtain ⟨y, h1, h2⟩ := enumD_get (n := n + 1) (i := i) h
    exact ⟨y, h1, by rw [h2, show n + 1 + i = n + (i + 1) by omega]⟩
theorem enumD_len : ∀ (l : List D) (n : Nat), (enumD n l).length = l.length
  | [], _ => rfl
  | x :: l, n => by rw [enumD, List.length_cons, enumD_len l, List.length_cons]
theorem sc_of {K : Fg} {G : Hp} {x : D} {v : V} {u : Value} {l : List D} (r : Rep K G x v) (h : D.items? x = .ok l) (q : L2.RelV v u) : ∃ c : Sc, u = c.val ∧ ∀ G1 H1, Same G G1 → Same G1 H1 → ∃ xs, c.has K H1 xs ∧ Reps K G1 l xs := by
  cases x with
  | lst m =>
    cases (show R.ok m = R.ok l from h)
    obtain ⟨a, xs, rfl, h1, h2⟩ := r
    exact ⟨.lst a, q, fun G1 H1 s1 s2 => ⟨xs, SqL.of (s2 _ _ (s1 _ _ h1)), h2.mono s1⟩⟩
  | tup m =>
    cases (show R.ok m = R.ok l from h)
    obtain ⟨a, xs, rfl, h1, h2⟩ := r
    exact ⟨.tup a, q, fun G1 H1 s1 s2 => ⟨xs, seqT_mono (s1.trans s2) h1, h2.mono s1⟩⟩
  | str z =>
    cases (show R.ok (z.map fun c => D.str [c]) = R.ok l from h)
    obtain ⟨rfl, hz, hz2⟩ := r
    obtain ⟨t, rfl⟩ := q
    exact ⟨.str ⟨z.toArray⟩ t, rfl, fun G1 H1 s1 s2 => ⟨_, rfl, by simpa using Reps.signs hz2⟩⟩
  | dic _ _ => exact r.elim
  | _ => cases (show R.bad = R.ok l from h)
section
variable {X : Cx}
set_option maxHeartbeats 1000000 in
theorem meets_enumT (l : Addr) (items : Array Value) (n : Nat) (dct : Option Addr) (sl : Array (Option Value)) :
    Meets (Builtin.«enumerate.__new__» ⟨[.type "enumerate", .ref l], []⟩) (fun _ R s => s.heap.get? l = some ⟨.type "tuple", dct, .seq items n, sl⟩ ∧
      R (.ok (.ret (.ref (s.heap.push (Sc.tup l).obj).objs.size))) { s with heap := (s.heap.push (Sc.tup l).obj).push ⟨.type "enumerate", none, .fields #[.none, .bool false, .ref s.heap.objs.size, rawInt 0, .none, .none], #[]⟩ }) :=
  .of_wp fun prog w A R s h => by
    obtain ⟨hp, g, d, tk, os⟩ := s
    obtain ⟨hl, h⟩ := h
    have hsub := sub_enumerate
    have hT : Heap.IsTuple (Shared.heap ⟨hp, g, d, tk, os⟩) l items := ⟨_, hl, rfl, n, rfl⟩
    wp_walk using AutoSeq1.wpAny_loadPart' hl
    refine wpAny_stack_any fun st => wpAny_pure ?_
    split
    · rename_i c _ _ _ _ _
      cases (c == Value.type "enumerate") <;> (wp_walk using AutoSeq1.wpAny_loadPart' hl, wpAny_pyIter_tuple hT; exact ⟨_, rfl, h⟩)
    · wp_walk using AutoSeq1.wpAny_loadPart' hl, wpAny_pyIter_tuple hT
      exact ⟨_, rfl, h⟩
theorem call_enumT {prog : Program} {w : World} {A : Around} {E : Value → Shared → Prop} {s : Shared} {l : Addr} {items : Array Value} {Q : Value → Shared → Prop} (hL : s.heap.IsTuple l items)
    (k : ∀ h', IsEnum h' (s.heap.objs.size + 1) s.heap.objs.size 0 .none → h'.IsTupleIter s.heap.objs.size l 0 → h'.objs.size = s.heap.objs.size + 2 → (∀ b o, s.heap.get? b = some o → h'.get? b = some o) → Q (.ref (s.heap.objs.size + 1)) { s with heap := h' }) :
    wpAny (model prog w) A (call (.type "enumerate") [.ref l]) Q E s := by
  obtain ⟨⟨c, dct, dt, sl⟩, hl, hc, n, hd⟩ := hL
  have hc' : c = .type "tuple" := hc
  have hd' : dt = .seq items n := hd
  subst hc' hd'
  refine callType_new F.called_enumerate (by decide) (F.typeCall_enumerate_1 _) (F.newCall_enumerate_1 _) (fun obj => F.args_object_init_2 obj _) F.entry_enumerate_new (meets_enumT l items n dct sl) ⟨hl, ?_⟩
  have hz : (s.heap.push (Sc.tup l).obj).objs.size = s.heap.objs.size + 1 := Heap.size_push ..
  show _ ∧ _
  rw [hz]
  have he : IsEnum ((s.heap.push (Sc.tup l).obj).push ⟨.type "enumerate", none, .fields #[.none, .bool false, .ref s.heap.objs.size, rawInt 0, .none, .none], #[]⟩) (s.heap.objs.size + 1) s.heap.objs.size 0 .none := by
    have := Heap.get?_push_size (s.heap.push (Sc.tup l).obj) (o := ⟨.type "enumerate", none, .fields #[.none, .bool false, .ref s.heap.objs.size, rawInt 0, .none, .none], #[]⟩) rfl
    rw [hz] at this
    exact this
  exact ⟨⟨_, he, rfl⟩, k _ he ⟨_, Heap.get?_push_of_some _ (Heap.get?_push_size _ rfl), rfl, rfl⟩ (by rw [Heap.size_push, hz]) fun b o x => Heap.get?_push_of_some _ (Heap.get?_push_of_some _ x)⟩
/-- enumerate(v): its two new cells -/
theorem call_enumG {pins : List (Addr × Obj)} {σ : L2.St} {H : Hp} {s : Shared} (I : Inv X pins σ H s) {c : Sc} {xs : List V} (h : c.has X.K H xs) {A : Around} {E : Value → Shared → Prop} {Q : Value → Shared → Prop}
    (k : ∀ h', IsEnum h' (s.heap.objs.size + 1) s.heap.objs.size 0 .none → c.it h' s.heap.objs.size 0 → h'.objs.size = s.heap.objs.size + 2 → (∀ b o, s.heap.get? b = some o → h'.get? b = some o) → Q (.ref (s.heap.objs.size + 1)) { s with heap := h' }) :
    wpAny (model X.prog X.w) A (call (.type "enumerate") [c.val]) Q E s := by
  cases c with
  | lst a => obtain ⟨its, r, q, _⟩ := I.list h; exact call_enumerate_list q.isList k
  | tup a => obtain ⟨its, r, q, _⟩ := I.tuple h; exact call_enumT q k
  | str y t => exact call_enumerate_str k
theorem pi_zipG {ts : List Expr} {kk : Nat} {tp p pos : Pos} {a b : Expr} {m n : M D} (hg : Gl X (Str.ofString "zip")) (hm : X.mg (Str.ofString "zip") = none) (ns : nst a = true) (ns2 : nst b = true) (ha : PE X a (tV X.K m)) (hb : PE X b (tV X.K n)) :
    PI X (.Tuple ts kk tp) (.Call (.Name (Str.ofString "zip") p) [a, b] [] pos) (tIt X.K (zipM m n)) := by
  have hA : PA X [a, b] (tCons (tV X.K m) (tCons (tV X.K n) tNil)) := pa_cons ha (pa_cons hb pa_nil (star1 ns2)) (star1 ns)
  refine ⟨fun pins s σ H Rr I ⟨B, G, e, S, hd, l, e', h, k⟩ => ?_⟩
  obtain ⟨x, e1, h1, h2⟩ := bind_ok h
  obtain ⟨y, e2, h3, h4⟩ := bind_ok h2
  obtain ⟨lx, e3, h5, h6⟩ := bind_ok h4
  obtain ⟨ly, e4, h7, h8⟩ := bind_ok h6
  obtain ⟨z1, z2⟩ := of_ok h5
  obtain ⟨z3, z4⟩ := of_ok h7
  cases h8
  simp only at z1 z2 z3 z4
  subst z2
  subst z4
  refine Call_ (ld_blt I hg hm PyProof.Rows.boot_zip (PyProof.Rows.callWith_type1 (thn (hA.run pos pins s σ H
    (fun vs H2 => ∃ G2 v u, vs = [v, u] ∧ StOk X.K B _ σ G2 H2 ∧ Same G G2 ∧ Rep X.K G2 x v ∧ Rep X.K G2 y u) I
    ⟨B, G, e, S, x, e1, h1, fun v G1 H1 S1 s1 r1 => ⟨B, G1, _, S1, y, _, h3, fun u G2 H2 S2 s2 r2 => ⟨G2, v, u, rfl, S2, s1.trans s2, Rep.mono s2 x r1, r2⟩⟩⟩) fun us s1 ⟨vs, H2, I1, rv, G2, v, u, ex, S2, s2, r1, r2⟩ => ?_) (by rw [star1 ns, star1 ns2]) (by rw [star1 ns2]; rfl)))
  subst ex
  cases rv with
  | cons q1 rr =>
    cases rr with
    | cons q2 rr =>
      cases rr
      obtain ⟨c, rfl, hc⟩ := sc_of r1 z1 q1
      obtain ⟨d, rfl, hd⟩ := sc_of r2 z3 q2
      obtain ⟨xs, hx, rx⟩ := hc _ _ (Same.refl _) S2.gh
      obtain ⟨ys, hy, ry⟩ := hd _ _ (Same.refl _) S2.gh
      obtain ⟨HH1, B1, q3⟩ := Sc.begins I1 hx
      obtain ⟨HH2, B2, q4⟩ := Sc.begins I1 hy
      refine zip_begins2 B1 B2 q3 q4 fun h' hz hTI hTO e1 e2 hsz hk => wpAny_pyIter_zip hz ?_
      have I2 : Inv X pins σ H2 { s1 with heap := h' } := I1.kept (t' := s1.toks) hk
      have new : ∀ b ∈ [s1.heap.objs.size + 4, s1.heap.objs.size + 2, s1.heap.objs.size + 3, s1.heap.objs.size, s1.heap.objs.size + 1], s1.heap.objs.size ≤ b := fun b hb => by
        simp only [List.mem_cons, List.not_mem_nil, or_false] at hb
        rcases hb with rfl | rfl | rfl | rfl | rfl <;> first | exact Nat.le_refl _ | exact Nat.le_add_right _ _
      refine ⟨s1.heap.objs.size + 4, _, _, Itzg X.K c d lx.length ly.length, H2, rfl, I2, turn_zipG (n := lx.length) (m := ly.length) ⟨⟨?_, ?_, ?_, ?_, ?_, ?_, ?_, ?_, ?_, ?_⟩, fun b hb => ⟨Sc.off_new I1 hx (new b hb), Sc.off_new I1 hy (new b hb)⟩⟩, ⟨hz, hTI, ⟨_, _, hTO⟩, Sc.it_start e1, Sc.it_start e2, Nat.zero_le _, Nat.zero_le _⟩, fun b hb => I1.fpOk (new b hb) (I1.hok.fresh (new b hb)), ?_⟩
      all_goals first | (intro w; have w' : (_ : Nat) = _ := w; omega) | skip
      refine k _ none G2 H2 S2 s2 (fun i w => nomatch w) (fun _ _ => rfl) fun G3 H3 s3 s4 _ => ?_
      obtain ⟨xs', hx', rx'⟩ := hc G3 H3 s3 s4
      obtain ⟨ys', hy', ry'⟩ := hd G3 H3 s3 s4
      refine ⟨fun i dd hi => ?_, fun i hi => ⟨by rw [zipD_len] at hi; omega, xs', ys', hx', hy', rx'.length, ry'.length⟩⟩
      obtain ⟨dx, dy, w1, w2, rfl⟩ := zipD_get hi
      refine ⟨⟨(List.getElem?_eq_some_iff.mp w1).1, (List.getElem?_eq_some_iff.mp w2).1, xs', ys', hx', hy', rx'.length, ry'.length⟩, fun vv H4 ⟨T, x', y', ev, hT, eH, w⟩ => ?_⟩
      obtain ⟨w5, w6⟩ := w xs' ys' hx' hy'
      obtain ⟨x2, y1, y2⟩ := rx'.get w1
      obtain ⟨x3, y3, y4⟩ := ry'.get w2
      rw [w5] at y1
      rw [w6] at y3
      cases y1
      cases y3
      subst eH
      have g := Grow.alloc (may := no1) (o := HO.tup [x', y']) s4 hT
      exact ⟨_, g, T, _, ev, SqT.of upd_same, Reps.cons (Rep.mono g.g dx y2) (Reps.cons (Rep.mono g.g dy y4) rfl)⟩
theorem pi_enumG {ts : List Expr} {kk : Nat} {tp p pos : Pos} {a : Expr} {m : M D} (hg : Gl X (Str.ofString "enumerate")) (hm : X.mg (Str.ofString "enumerate") = none) (ns : nst a = true) (ha : PE X a (tV X.K m)) :
    PI X (.Tuple ts kk tp) (.Call (.Name (Str.ofString "enumerate") p) [a] [] pos) (tIt X.K (enumM m)) := by
  have hA : PA X [a] (tCons (tV X.K m) tNil) := pa_cons ha pa_nil (star1 ns)
  refine ⟨fun pins s σ H Rr I ⟨B, G, e, S, hd, l, e', h, k⟩ => ?_⟩
  obtain ⟨x, e1, h1, h2⟩ := bind_ok h
  obtain ⟨lx, e3, h5, h8⟩ := bind_ok h2
  obtain ⟨z1, z2⟩ := of_ok h5
  cases h8
  simp only at z1 z2
  subst z2
  refine Call_ (ld_blt I hg hm boot_enumerate (PyProof.Rows.callWith_type1 (thn (hA.run pos pins s σ H
    (fun vs H2 => ∃ G2 v, vs = [v] ∧ StOk X.K B _ σ G2 H2 ∧ Same G G2 ∧ Rep X.K G2 x v) I
    ⟨B, G, e, S, x, _, h1, fun v G1 H1 S1 s1 r1 => ⟨G1, v, rfl, S1, s1, r1⟩⟩) fun us s1 ⟨vs, H2, I1, rv, G2, v, ex, S2, s2, r1⟩ => ?_) (by rw [star1 ns]) rfl))
  subst ex
  cases rv with
  | cons q1 rr =>
    cases rr
    obtain ⟨c, rfl, hc⟩ := sc_of r1 z1 q1
    obtain ⟨xs, hx, rx⟩ := hc _ _ (Same.refl _) S2.gh
    refine call_enumG I1 hx fun h' he e1 hsz hk => wpAny_pyIter_enum he ?_
    have I2 : Inv X pins σ H2 { s1 with heap := h' } := I1.kept (t' := s1.toks) hk
    have new : ∀ b ∈ [s1.heap.objs.size + 1, s1.heap.objs.size], s1.heap.objs.size ≤ b := fun b hb => by
      simp only [List.mem_cons, List.not_mem_nil, or_false] at hb
      rcases hb with rfl | rfl
      · exact Nat.le_add_right _ _
      · exact Nat.le_refl _
    refine ⟨s1.heap.objs.size + 1, _, _, Iteg X.K c lx.length, H2, rfl, I2, turn_enumG (n := lx.length) (Nat.succ_ne_self _) (Sc.off_new I1 hx (new _ (by simp))) (Sc.off_new I1 hx (new _ (by simp))), ⟨⟨.none, he⟩, e1, Nat.zero_le _⟩, fun b hb => I1.fpOk (new b hb) (I1.hok.fresh (new b hb)), ?_⟩
    refine k _ none G2 H2 S2 s2 (fun i w => nomatch w) (fun _ _ => rfl) fun G3 H3 s3 s4 _ => ?_
    obtain ⟨xs', hx', rx'⟩ := hc G3 H3 s3 s4
    refine ⟨fun i dd hi => ?_, fun i hi => ⟨by rw [enumD_len] at hi; exact hi, xs', hx', rx'.length⟩⟩
    obtain ⟨dx, w1, rfl⟩ := enumD_get hi
    refine ⟨⟨(List.getElem?_eq_some_iff.mp w1).1, xs', hx', rx'.length⟩, fun vv H4 ⟨T, x', ev, hT, eH, w⟩ => ?_⟩
    have w5 := w xs' hx'
    obtain ⟨x2, y1, y2⟩ := rx'.get w1
    rw [w5] at y1
    cases y1
    subst eH
    have g := Grow.alloc (may := no1) (o := HO.tup [V.int (i : Nat), x']) s4 hT
    exact ⟨_, g, T, _, ev, SqT.of upd_same, Reps.cons (by rw [Nat.zero_add]; exact rfl) (Reps.cons (Rep.mono g.g dx y2) rfl)⟩
end
end En

/-! En15: statements. -/
namespace En
open PySem PySem.Spec PyProof.Rows L2

def FlOk (K : Fg) (fr : Bool) (H0 : Hp) (G H : Hp) (σ : L2.St) (E : Ends) : Fl → Prop
  | .nx => E.nx σ H
  | .brk => E.bk σ H
  | .cnt => E.ct σ H
  | .ret d => match fr, d with
    | true, .lst l => ∀ p xs, H p = some (.lst xs) → G p = none → H0 p = none → Reps K G l xs → E.rt (.ref p) H
    | _, d => ∀ v, Rep K G d v → E.rt v H
def tSt (K : Fg) (fr : Bool) (m : M Fl) : TS := fun E σ H => ∃ B G e, StOk K B e σ G H ∧ ∃ f e', m e = .ok (f, e') ∧ ∀ σ' G' H', StOk K B e' σ' G' H' → Same G G' → FlOk K fr B.H0 G' H' σ' E f

section
variable {X : Cx} {K : Fg} {fr : Bool}
theorem nx_ok {m : M Unit} {e e' : Ev} {f : Fl} (h : (do m; pure Fl.nx : M Fl) e = .ok (f, e')) : f = .nx ∧ m e = .ok ((), e') := by
  obtain ⟨_, e1, h1, h2⟩ := bind_ok h
  cases h2
  exact ⟨rfl, h1⟩
/-! ### stores -/
theorem asg_imp {m : M D} {i : Nat} : ∀ E σ H, tSt K fr (do let d ← m; wr i (.val d); pure .nx) E σ H → tV K m σ H fun x H1 => E.nx (σ.set i (some x)) H1 := fun E σ H ⟨B, G, e, S, f, e', h, k⟩ => by
  obtain ⟨d, e1, h1, h2⟩ := bind_ok h
  obtain ⟨rfl, h3⟩ := nx_ok h2
  exact ⟨B, G, e, S, d, e1, h1, fun v G1 H1 S1 s1 r1 => k _ G1 H1 (S1.put h3 r1) s1⟩
theorem new_imp {m : M (List D)} {i : Nat} : ∀ E σ H, tSt K fr (do let l ← m; wr i (.cel .own (.lst l)); pure .nx) E σ H → tFr K m σ H fun x H1 => E.nx (σ.set i (some x)) H1 := fun E σ H ⟨B, G, e, S, f, e', h, k⟩ => by
  obtain ⟨d, e1, h1, h2⟩ := bind_ok h
  obtain ⟨rfl, h3⟩ := nx_ok h2
  exact ⟨B, G, e, S, d, e1, h1, fun p xs G1 H1 S1 s1 f1 r1 => k _ G1 H1 (S1.putC h3 f1 r1) s1⟩
structure Sto (X : Cx) (i : Nat) (x : Str) : Prop where
  n : X.N.Nodup
  i : X.N[i]? = some x
  l : L2.Loc X.env.scope x
  f : X.fn x = true ∨ X.env.scope.names.lookup x = some .local
/-- a value that is no comprehension -/
def ncmp : Expr → Bool
  | .ListComp _ _ _ _ => false
  | .SetComp _ _ _ _ => false
  | .DictComp _ _ _ _ _ => false
  | _ => true
theorem swp {e : Expr} {t : Option Expr} {l : Nat} {env : Env} (h : ncmp e = true) : swapsWith e t l env = pure false := by
  cases e <;> first | rfl | cases h
theorem s_set {e : Expr} {te : TE} {x : Str} {i : Nat} {pos pos' : Pos} (st : Sto X i x) (hn : ncmp e = true) (he : PE X e te) : PS X (.Assign [.Name x pos'] e pos) (tAsg te (gName i)) := ps_set st.n st.i st.l he (swp hn) st.f
theorem s_setLc {elt tg iter : Expr} {ifs : List Expr} {scope : Scope} {own : List (Str × Nat)} {js : List Nat} {pos pos' pos2 : Pos} {put : D → M Unit} {test : M Bool} {em : M D} {mI : M (Hd × List D)} {x : Str} {i : Nat} (st : Sto X i x)
    (hc : X.calm = true) (hI : PI X tg iter (tIt X.K mI)) (it : ItM mI) (ok : BlkOk X.N X.env.scope scope own) (hj : ∀ j ∈ js, j ∈ own.map (·.2))
    (hg : ∀ s H C cl fp, PG (X.blk s H scope (compEnvC scope cl C X.env) fp) tg (tPut X.K js put))
    (ht : ∀ s H C cl fp, PTs (X.blk s H scope (compEnvC scope cl C X.env) fp) ifs (tTs X.K test))
    (he : ∀ s H C cl fp, PE (X.blk s H scope (compEnvC scope cl C X.env) fp) elt (tV X.K em)) (hs : ∀ x, foldedSetIterable iter X.env x = pure x) :
    PS X (.Assign [.Name x pos'] (.ListComp elt [⟨tg, iter, ifs, 0⟩] scope pos) pos2) (tAsg (tLc (tIt X.K mI) (tPut X.K js put) (tTs X.K test) (tV X.K em) (own.map (·.2))) (gName i)) := by
  have key : ∃ b, swapsWith (.ListComp elt [⟨tg, iter, ifs, 0⟩] scope pos) (some (.Name x pos')) pos2.line X.env = pure b ∧ (b = true → X.env.scope.names.lookup x = some .local) := by
    refine ⟨_, rfl, fun h => ?_⟩
    rw [Bool.and_eq_true, Bool.and_eq_true, Bool.and_eq_true] at h
    exact eq_of_beq h.1.1.2
  obtain ⟨b, h1, h2⟩ := key
  cases b with
  | true => exact ps_setLc hc st.n st.i (h2 rfl) h1 hI ok hg ht he hs
  | false => exact ps_set st.n st.i st.l (pe_lc hc st.n hI ok hg ht he hs) h1 st.f

/-! ### name op= e, ints -/
def opA : P2 → Option Operator
  | .add => some .Add
  | .sub => some .Sub
  | _ => none
theorem pip_of {o : P2} {op : Operator} (h : opA o = some op) : PIp X op (fun x y H Q => ∃ i j z, x = .int i ∧ y = .int j ∧ augI o i j = .ok z ∧ Q (.int z) H) := by
  cases o <;> first | (cases h; done) | skip
  · cases h
    intro pins s σ H x y v u Q I r1 r2 ⟨i, j, z, e1, e2, e3, q⟩
    cases e3
    exact ip_add pins s σ H x y v u Q I r1 r2 ⟨i, j, e1, e2, q⟩
  · cases h
    intro pins s σ H x y v u Q I r1 r2 ⟨i, j, z, e1, e2, e3, q⟩
    cases e3
    exact ip_sub pins s σ H x y v u Q I r1 r2 ⟨i, j, e1, e2, q⟩
def augM (i : Nat) (o : P2) (m : M D) : M Fl := do
  let a ← rdI i
  let d ← m
  let b ← M.of (D.int? d)
  let z ← M.of (augI o a b)
  wr i (.val (.int z))
  pure .nx
theorem rdI_ok {i : Nat} {e e' : Ev} {n : Int} (h : rdI i e = .ok (n, e')) : e' = e ∧ e[i]? = some (.val (.int n)) := by
  unfold rdI at h
  split at h
  · rename_i q
    cases h
    exact ⟨rfl, q⟩
  · cases h
theorem s_aug {e : Expr} {x : Str} {i : Nat} {pos pos' : Pos} {o : P2} {op : Operator} {m : M D} (st : Sto X i x) (ho : opA o = some op) (he : PE X e (tV X.K m)) : PS X (.AugAssign (.Name x pos') op e pos) (tSt X.K fr (augM i o m)) :=
  PSimp (ps_aug st.n st.i st.l he (pip_of ho) st.f) fun E σ H ⟨B, G, e, S, f, e', h, k⟩ => by
    obtain ⟨a, e1, h1, h2⟩ := bind_ok h
    obtain ⟨d, e2, h3, h4⟩ := bind_ok h2
    obtain ⟨b, e3, h5, h6⟩ := bind_ok h4
    obtain ⟨z, e4, h7, h8⟩ := bind_ok h6
    obtain ⟨z1, z2⟩ := of_ok h5
    obtain ⟨z3, z4⟩ := of_ok h7
    obtain ⟨rfl, h9⟩ := nx_ok h8
    obtain ⟨w1, w2⟩ := rdI_ok h1
    simp only at z2 z4 w1
    subst z2 z4 w1
    have := int_ok z1
    subst this
    obtain ⟨v, q1, q2⟩ := S.val w2
    have e5 : v = .int a := q2
    subst e5
    exact ⟨_, q1, B, G, _, S, .int b, _, h3, fun u G1 H1 S1 s1 r1 => ⟨a, b, z, rfl, show u = V.int b from r1, z3, k _ G1 H1 (S1.put h9 rfl) s1⟩⟩

/-! ### returns -/
theorem ret_imp {m : M D} : ∀ E σ H, tSt K false (do let d ← m; pure (.ret d)) E σ H → tV K m σ H E.rt := fun E σ H ⟨B, G, e, S, f, e', h, k⟩ => by
  obtain ⟨d, e1, h1, h2⟩ := bind_ok h
  cases h2
  refine ⟨B, G, e, S, d, _, h1, fun v G1 H1 S1 s1 r1 => ?_⟩
  have := k σ G1 H1 S1 s1
  cases d <;> exact this v r1
theorem retF_imp {m : M (List D)} : ∀ E σ H, tSt K true (do let l ← m; pure (.ret (.lst l))) E σ H → tFr K m σ H E.rt := fun E σ H ⟨B, G, e, S, f, e', h, k⟩ => by
  obtain ⟨d, e1, h1, h2⟩ := bind_ok h
  cases h2
  exact ⟨B, G, e, S, d, _, h1, fun p xs G1 H1 S1 s1 f1 r1 => k σ G1 H1 S1 s1 p xs f1.h f1.g f1.b r1⟩
theorem retF_imp' {m : M (List D)} : ∀ E σ H, tSt K false (do let l ← m; pure (.ret (.lst l))) E σ H → tFr K m σ H E.rt := fun E σ H ⟨B, G, e, S, f, e', h, k⟩ => by
  obtain ⟨d, e1, h1, h2⟩ := bind_ok h
  cases h2
  refine ⟨B, G, e, S, d, _, h1, fun p xs G1 H1 S1 s1 f1 r1 => ?_⟩
  obtain ⟨G2, S2, s2, r2⟩ := S1.fix f1 r1
  exact k σ G2 H1 S2 (s1.trans s2) _ r2
def retCm (i : Nat) : M Fl := fun e => match e[i]? with
  | some (.cel .own (.lst l)) => .ok (.ret (.lst l), e)
  | _ => .bad
theorem retC_imp {i : Nat} : ∀ E σ H, tSt K true (retCm i) E σ H → tVar i σ H E.rt := fun E σ H ⟨B, G, e, S, f, e', h, k⟩ => by
  unfold retCm at h
  split at h
  · rename_i l q
    cases h
    obtain ⟨a, h1, h2, h3, h4⟩ := S.cel q
    obtain ⟨xs, z1, z2⟩ := h3
    have hb : B.H0 a = none := by
      rcases h4 with w | ⟨_, w⟩
      · exact w
      · exact absurd rfl w
    exact ⟨_, h1, k σ G H S (Same.refl _) a xs z1 h2 hb z2⟩
  · cases h
theorem retN_imp : ∀ E σ H, tSt K fr (pure (.ret .non)) E σ H → tRetN E σ H := fun E σ H ⟨B, G, e, S, f, e', h, k⟩ => by
  cases h
  have := k σ G H S (Same.refl _)
  cases fr <;> exact this .non rfl

/-! ### if, blocks -/
theorem if_imp {c : M Bool} {a b : M Fl} : ∀ E σ H, tSt K fr (do let t ← c; if t then a else b) E σ H → tIfS (tTs K c) (tSt K fr a) (tSt K fr b) E σ H := fun E σ H ⟨B, G, e, S, f, e', h, k⟩ => by
  obtain ⟨t, e1, h1, h2⟩ := bind_ok h
  refine ⟨B, G, e, S, t, e1, h1, fun G1 H1 S1 s1 => ?_⟩
  cases t with
  | true => exact ⟨B, G1, e1, S1, f, e', h2, fun σ' G' H' S' s' => k σ' G' H' S' (s1.trans s')⟩
  | false => exact ⟨B, G1, e1, S1, f, e', h2, fun σ' G' H' S' s' => k σ' G' H' S' (s1.trans s')⟩
def seqM (a b : M Fl) : M Fl := do
  let f ← a
  match f with
  | .nx => b
  | .ret d => pure (.ret d)
  | .brk => pure .brk
  | .cnt => pure .cnt
theorem seq_imp {a b : M Fl} : ∀ E σ H, tSt K fr (seqM a b) E σ H → tSeq (tSt K fr a) (tSt K fr b) E σ H := fun E σ H ⟨B, G, e, S, f, e', h, k⟩ => by
  obtain ⟨f1, e1, h1, h2⟩ := bind_ok h
  refine ⟨B, G, e, S, f1, e1, h1, fun σ1 G1 H1 S1 s1 => ?_⟩
  cases f1 with
  | nx => exact ⟨B, G1, e1, S1, f, e', h2, fun σ' G' H' S' s' => k σ' G' H' S' (s1.trans s')⟩
  | ret d =>
    cases h2
    exact k σ1 G1 H1 S1 s1
  | brk =>
    cases h2
    exact k σ1 G1 H1 S1 s1
  | cnt =>
    cases h2
    exact k σ1 G1 H1 S1 s1
theorem nil_imp : ∀ E σ H, tSt K fr (pure .nx) E σ H → tNext E σ H := fun E σ H ⟨B, G, e, S, f, e', h, k⟩ => by
  cases h
  exact k σ G H S (Same.refl _)
theorem brk_imp : ∀ E σ H, tSt K fr (pure .brk) E σ H → tBreak E σ H := fun E σ H ⟨B, G, e, S, f, e', h, k⟩ => by
  cases h
  exact k σ G H S (Same.refl _)
theorem cnt_imp : ∀ E σ H, tSt K fr (pure .cnt) E σ H → tCont E σ H := fun E σ H ⟨B, G, e, S, f, e', h, k⟩ => by
  cases h
  exact k σ G H S (Same.refl _)
theorem expr_imp {m : M D} : ∀ E σ H, tSt K fr (do let _ ← m; pure .nx) E σ H → tDrop (tV K m) E σ H := fun E σ H ⟨B, G, e, S, f, e', h, k⟩ => by
  obtain ⟨d, e1, h1, h2⟩ := bind_ok h
  cases h2
  exact ⟨B, G, e, S, d, _, h1, fun v G1 H1 S1 s1 r1 => k σ G1 H1 S1 s1⟩

/-! ### loops -/
theorem for_imp {js : List Nat} {put : D → M Unit} {body : M Fl} {mI : M (Hd × List D)} (hI : ItM mI) : ∀ E σ H,
    tSt K fr (do let p ← mI; lockd p.1 (forL put body p.2)) E σ H → tFor (tIt K mI) (tPut K js put) (tSt K fr body) E σ H := fun E σ H ⟨B, G, e, S, f, e', he, k⟩ => by
  obtain ⟨⟨hd, l⟩, e1, h1, h2⟩ := bind_ok he
  refine ⟨B, G, e, S, hd, l, e1, h1, fun J oa G1 H1 S1 s1 o1 o2 it => ?_⟩
  obtain ⟨B', eL, e2, SL, h5, hB, hK, now, unl⟩ := lock_ok S1 (fun i w k l' z => by
    subst w
    exact hI _ _ _ _ h1 k l' z) h2
  have nowA : ∀ {ex : Ev} {σx : L2.St} {G' H' : Hp}, StOk K B' ex σx G' H' → ∀ a, oa = some a → ∃ xs, H' a = some (.lst xs) ∧ Reps K G' l xs := fun {ex σx G' H'} S' a w => by
    cases hd with
    | hv d =>
      rw [o2 d rfl] at w
      cases w
    | hc i =>
      obtain ⟨a', z1, z2⟩ := o1 i rfl
      rw [z1] at w
      cases w
      exact now B'.keep ex σx G' H' S' i rfl a z2
  have unl' : ∀ σ' G' H', StOk K B' e2 σ' G' H' → StOk K B e' σ' G' H' := fun σ' G' H' S' => by
    have := unl B'.keep σ' G' H' S'
    rw [hK] at this
    exact this
  have fin : ∀ (E' : Ends) σ' G' H', StOk K B' e2 σ' G' H' → Same G1 G' → FlOk K fr B.H0 G' H' σ' E f := fun E' σ' G' H' S' s' => k σ' G' H' (unl' σ' G' H' S') (s1.trans s')
  refine ⟨fun i m σ' H' => (∃ ex G', StOk K B' ex σ' G' H' ∧ Same G1 G' ∧ forL put body (l.drop i) ex = .ok (f, e2)) ∧ i + m = l.length, ⟨l.length, ⟨eL, G1, SL, Same.refl _, h5⟩, by omega⟩, fun i m σ2 H2 hW => ?_⟩
  obtain ⟨⟨ex, G2, S2, s2, hr⟩, hm⟩ := hW
  have itk := it G2 H2 s2 S2.gh (nowA S2)
  by_cases hi : i < l.length
  · right
    have hd' : l.drop i = l[i] :: l.drop (i + 1) := List.drop_eq_getElem_cons hi
    simp only [hd'] at hr
    obtain ⟨_, ep, h11, hr⟩ := bind_ok hr
    obtain ⟨fb, eb, h12, hr⟩ := bind_ok hr
    obtain ⟨hgo, hyl⟩ := itk.1 i l[i] (List.getElem?_eq_getElem hi)
    refine ⟨hgo, fun σ' H' => ∃ ex G', StOk K B' ex σ' G' H' ∧ Same G1 G' ∧ forL put body (l.drop (i + 1)) ex = .ok (f, e2), fun σ' H' hN => ⟨m - 1, by omega, hN, by omega⟩, fun x H3 hy => ?_⟩
    obtain ⟨G3, g3, r3⟩ := hyl x H3 hy
    refine ⟨B', G3, ex, S2.grow g3, l[i], ((), ep), r3, h11, fun σ5 S5 fr5 ln5 => ⟨B', G3, ep, S5, fb, eb, h12, fun σ6 G6 H6 S6 s6 => ?_⟩⟩
    have s7 : Same G1 G6 := s2.trans (g3.g.trans s6)
    cases fb with
    | nx => exact ⟨eb, G6, S6, s7, hr⟩
    | cnt => exact ⟨eb, G6, S6, s7, hr⟩
    | brk =>
      cases hr
      exact fin E σ6 G6 H6 S6 s7
    | ret d =>
      cases hr
      have := fin E σ6 G6 H6 S6 s7
      rw [hB]
      cases fr <;> cases d <;> exact this
  · left
    have hd' : l.drop i = [] := List.drop_eq_nil_of_le (by omega)
    simp only [hd'] at hr
    cases hr
    exact ⟨itk.2 i (by omega), fin E σ2 G2 H2 S2 s2⟩
theorem while_imp {test : M Bool} {body : M Fl} {n : Nat} : ∀ E σ H,
    tSt K fr (whileL test body n) E σ H → tWhile (tTs K test) (tSt K fr body) E σ H := fun E σ H ⟨B, G, e, S, f, e', he, k⟩ => by
  refine ⟨fun m σ' H' => ∃ ex G', StOk K B ex σ' G' H' ∧ Same G G' ∧ whileL test body m ex = .ok (f, e'), ⟨n, e, G, S, Same.refl _, he⟩, fun m σ2 H2 ⟨ex, G2, S2, s2, hr⟩ => ?_⟩
  cases m with
  | zero => cases hr
  | succ m =>
    obtain ⟨b, et, h1, hr⟩ := bind_ok hr
    refine ⟨B, G2, ex, S2, b, et, h1, fun G3 H3 S3 s3 => ?_⟩
    cases b with
    | true =>
      obtain ⟨fb, eb, h2, hr⟩ := bind_ok hr
      refine ⟨fun σ' H' => ∃ ex G', StOk K B ex σ' G' H' ∧ Same G G' ∧ whileL test body m ex = .ok (f, e'), fun σ' H' hN => ⟨m, by omega, hN⟩, B, G3, et, S3, fb, eb, h2, fun σ6 G6 H6 S6 s6 => ?_⟩
      have s7 : Same G G6 := s2.trans (s3.trans s6)
      cases fb with
      | nx => exact ⟨eb, G6, S6, s7, hr⟩
      | cnt => exact ⟨eb, G6, S6, s7, hr⟩
      | brk =>
        cases hr
        exact k σ6 G6 H6 S6 s7
      | ret d =>
        cases hr
        have := k σ6 G6 H6 S6 s7
        cases fr <;> cases d <;> exact this
    | false =>
      cases hr
      exact k σ2 G3 H3 S3 (s2.trans s3)
end
end En

/-! En13b: list comprehensions with two fors. -/
namespace En
open PySem PySem.Spec PyProof.Rows L2
/-- what a turn of the outer for does -/
def innM (mI : M (Hd × List D)) (own : List Nat) (put : D → M Unit) (test : M Bool) (elt : M D) (acc : Acc) : M Acc := do
  let p ← mI
  lockd p.1 (do
    clean own
    compL own put test elt p.2 acc)
section
variable {K : Fg}
theorem wipe_sub {own own2 : List Nat} {σ τ : L2.St} (hs : ∀ j ∈ own2, j ∈ own) (h : wipe τ own2 = wipe σ own2) : wipe τ own = wipe σ own := by
  have hl : τ.length = σ.length := wipe_len2 h
  refine wipe_eq hl fun j hj => ?_
  have h1 := wipe_get own2 τ j fun z => hj (hs j z)
  have h2 := wipe_get own2 σ j fun z => hj (hs j z)
  rw [← h1, ← h2, h]
theorem comp2_imp {own own2 js js2 : List Nat} {put put2 : D → M Unit} {test : M Bool} {elt : M D} {mI mI2 : M (Hd × List D)} (hj : ∀ j ∈ js, j ∈ own) (hj2 : ∀ j ∈ js2, j ∈ own2) (hs : ∀ j ∈ own2, j ∈ own) (hI : ItM mI) (hI2 : ItM mI2) : ∀ σ H Q,
    tFr K (do let p ← mI; let q ← lockd p.1 (inBlk own (compL2 own put (innM mI2 own2 put2 test elt) p.2 (0, []))); pure q.2.reverse) σ H Q →
      tLc2 (tIt K mI) (tPut K js put) (tTs K (pure true)) (tIt K mI2) (tPut K js2 put2) (tTs K test) (tV K elt) own own2 σ H Q := fun σ H Q ⟨B, G, e, S, res, e', he, k⟩ => by
  obtain ⟨⟨hd, l⟩, e1, h1, h2⟩ := bind_ok he
  obtain ⟨q, e3, h3, h4⟩ := bind_ok h2
  cases h4
  refine ⟨B, G, e, S, hd, l, e1, h1, fun J oa G1 H1 S1 s1 o1 o2 it p hp => ?_⟩
  obtain ⟨B', eL, e2, SL, h5, hB, hK, now, unl⟩ := lock_ok S1 (fun i w k l' z => by
    subst w
    exact hI _ _ _ _ h1 k l' z) h3
  obtain ⟨⟨_, ec⟩, h6, h7⟩ := rbind_ok h5
  obtain ⟨cl, ee⟩ := clean_ok h6
  simp only at ee h7
  subst ee
  obtain ⟨⟨q', e2'⟩, h8, h9⟩ := rbind_ok h7
  cases h9
  have hB0 : B'.H0 p = none := by
    rw [hB]
    cases z : B.H0 p with
    | none => rfl
    | some u => exact absurd hp (S1.gr.there p (by rw [z]; exact fun w => nomatch w))
  have hK0 : ∀ q ∈ B'.keep, q.1 ≠ p := fun q hq w => by
    obtain ⟨z, _⟩ := SL.kp q hq
    rw [w, hp] at z
    cases z
  have nowA : ∀ {kp : List (Addr × HO)} {ex : Ev} {σx : L2.St} {G' H' : Hp}, StOk K { B' with keep := kp } ex σx G' H' → ∀ a, oa = some a → ∃ xs, H' a = some (.lst xs) ∧ Reps K G' l xs := fun {kp ex σx G' H'} S' a w => by
    cases hd with
    | hv d =>
      rw [o2 d rfl] at w
      cases w
    | hc i =>
      obtain ⟨a', z1, z2⟩ := o1 i rfl
      rw [z1] at w
      cases w
      exact now kp ex σx G' H' S' i rfl a z2
  -- the outer for's word
  let Out : List D → Acc → Ev → Prop := fun r acc ex => compL2 own put (innM mI2 own2 put2 test elt) r acc ex = .ok (q', e2')
  refine ⟨fun i m H' => CompInv K B' own σ G1 p Out l i H' ∧ i + m = l.length, ⟨l.length, ⟨wipeE own ec, wipe σ own, G1, [], (0, []), ?_, wipe_wipe rfl, Same.refl _, h8, rfl, rfl⟩, by omega⟩, fun i m H2 hW => ?_⟩
  · have g : Grow0 G1 H1 G1 (upd H1 p (.lst [])) := Grow.allocH S1.gh hp
    have S2 := (SL.wiped cl).grow g
    have f2 : FrOk B' (wipeE own ec) (wipe σ own) G1 (upd H1 p (.lst [])) p [] := FrOk.of (SL.wiped cl) g hp upd_same (none_of_same S1.gh hp)
    exact S2.hold f2
  · obtain ⟨⟨ex, σx, G2, xs, acc, S2, w2, s2, hr, r2, hn⟩, hm⟩ := hW
    have itk := it G2 H2 s2 S2.gh (nowA S2)
    by_cases hi : i < l.length
    · right
      have hd' : l.drop i = l[i] :: l.drop (i + 1) := List.drop_eq_getElem_cons hi
      rw [hd'] at hr
      replace hr : compL2 own put (innM mI2 own2 put2 test elt) (l[i] :: l.drop (i + 1)) acc ex = .ok (q', e2') := hr
      obtain ⟨_, ew, h10, hr⟩ := bind_ok hr
      cases h10
      obtain ⟨_, ep, h11, hr⟩ := bind_ok hr
      obtain ⟨acc2, e7, hin, hr⟩ := bind_ok hr
      obtain ⟨hgo, hyl⟩ := itk.1 i l[i] (List.getElem?_eq_getElem hi)
      refine ⟨hgo, fun H' => CompInv K B' own σ G1 p Out l (i + 1) H', fun H' hN => ⟨m - 1, by omega, hN, by omega⟩, fun x H3 hy => ?_⟩
      obtain ⟨G3, g3, r3⟩ := hyl x H3 hy
      have S3 := S2.grow g3
      have S4 : StOk K { B' with keep := (p, .lst xs) :: B'.keep } (wipeE own ex) (wipe σ own) G3 H3 := by
        rw [← w2]
        refine StOk.wiped0 own S3 fun j hj' => ⟨?_, fun q hq => SL.npC cl hj' q hq⟩
        obtain ⟨t, z, _⟩ := cl j hj'
        have := SL.lt z
        rw [SL.len] at this
        rw [S3.len, wipe_len2 w2]
        exact this
      refine ⟨_, G3, _, S4, l[i], ((), ep), r3, h11, fun σ5 S5 fr5 ln5 => ?_⟩
      have w5 : wipe σ5 own = wipe σ own := by
        have := wipe_eq (own := own) ln5 fun j hj' => fr5 j fun z => hj' (hj j z)
        rw [this]
        exact wipe_wipe rfl
      refine ⟨w5, _, G3, ep, S5, true, ep, rfl, fun G6 H6 S6 s6 => ?_⟩
      -- the inner for
      obtain ⟨⟨hd2, l2⟩, e8, h20, hin⟩ := bind_ok hin
      refine ⟨_, G6, ep, S6, hd2, l2, e8, h20, fun J1 oa2 G7 H7 S7 s7 o3 o4 it2 => ?_⟩
      obtain ⟨B2, eL2, e9, SL2, h21, hB2, hK2, now2, unl2⟩ := lock_ok S7 (fun i w k l' z => by
        subst w
        exact hI2 _ _ _ _ h20 k l' z) hin
      obtain ⟨_, ec2, h22, h23⟩ := bind_ok h21
      obtain ⟨cl2, ee2⟩ := clean_ok h22
      simp only at ee2 h23
      subst ee2
      have hB02 : B2.H0 p = none := by rw [hB2]; exact hB0
      have nowB : ∀ {kp : List (Addr × HO)} {ex : Ev} {σx : L2.St} {G' H' : Hp}, StOk K { B2 with keep := kp } ex σx G' H' → ∀ a, oa2 = some a → ∃ xs, H' a = some (.lst xs) ∧ Reps K G' l2 xs := fun {kp ex σx G' H'} S' a w => by
        cases hd2 with
        | hv d =>
          rw [o4 d rfl] at w
          cases w
        | hc i =>
          obtain ⟨a', z1, z2⟩ := o3 i rfl
          rw [z1] at w
          cases w
          exact now2 kp ex σx G' H' S' i rfl a z2
      have SL3 : StOk K { B2 with keep := (p, .lst xs) :: B'.keep } ec2 σ5 G7 H7 := by
        obtain ⟨g0, h0, my, pn, kp⟩ := B2
        have hK2' : kp = (p, .lst xs) :: B'.keep := hK2
        subst hK2'
        exact SL2
      let In : List D → Acc → Ev → Prop := fun r a ex => compL own2 put2 test elt r a ex = .ok (acc2, e9)
      refine ⟨fun j k H' => CompInv K { B2 with keep := B'.keep } own2 σ5 G7 p In l2 j H' ∧ j + k = l2.length, ⟨l2.length, ⟨ec2, σ5, G7, xs, acc, SL3, rfl, Same.refl _, h23, r2.mono (g3.g.trans (s6.trans s7)), hn⟩, by omega⟩, fun j k2 H8 hW2 => ?_⟩
      obtain ⟨⟨ex2, σy, G8, xs2, acc3, S8, w8, s8, hr2, r8, hn8⟩, hm2⟩ := hW2
      have itk2 := it2 G8 H8 s8 S8.gh (nowB S8)
      by_cases hj' : j < l2.length
      · right
        have hd3 : l2.drop j = l2[j] :: l2.drop (j + 1) := List.drop_eq_getElem_cons hj'
        rw [hd3] at hr2
        replace hr2 : compL own2 put2 test elt (l2[j] :: l2.drop (j + 1)) acc3 ex2 = .ok (acc2, e9) := hr2
        obtain ⟨_, ew2, h30, hr2⟩ := bind_ok hr2
        cases h30
        obtain ⟨_, ep2, h31, hr2⟩ := bind_ok hr2
        obtain ⟨b, et, h32, hr2⟩ := bind_ok hr2
        obtain ⟨hgo2, hyl2⟩ := itk2.1 j l2[j] (List.getElem?_eq_getElem hj')
        refine ⟨hgo2, fun H' => CompInv K { B2 with keep := B'.keep } own2 σ5 G7 p In l2 (j + 1) H', fun H' hN => ⟨k2 - 1, by omega, hN, by omega⟩, fun x2 H9 hy2 => ?_⟩
        obtain ⟨G9, g9, r9⟩ := hyl2 x2 H9 hy2
        have S9 := S8.grow g9
        have S10 : StOk K { B2 with keep := (p, .lst xs2) :: B'.keep } (wipeE own2 ex2) (wipe σ5 own2) G9 H9 := by
          rw [← w8]
          refine StOk.wiped0 own2 S9 fun i2 hi2 => ⟨?_, fun q hq => SL3.npC cl2 hi2 q hq⟩
          obtain ⟨t, z, _⟩ := cl2 i2 hi2
          have := SL3.lt z
          rw [SL3.len] at this
          rw [S9.len, wipe_len2 w8]
          exact this
        refine ⟨_, G9, _, S10, l2[j], ((), ep2), r9, h31, fun σ11 S11 fr11 ln11 => ?_⟩
        have w11 : wipe σ11 own2 = wipe σ5 own2 := by
          have := wipe_eq (own := own2) ln11 fun i2 hi2 => fr11 i2 fun z => hi2 (hj2 i2 z)
          rw [this]
          exact wipe_wipe rfl
        refine ⟨w11, _, G9, ep2, S11, b, et, h32, fun G12 H12 S12 s12 => ?_⟩
        cases b with
        | false =>
          exact ⟨et, σ11, G12, xs2, acc3, S12, w11, s8.trans (g9.g.trans s12), hr2, r8.mono (g9.g.trans s12), hn8⟩
        | true =>
          obtain ⟨y, ey, h33, hr2⟩ := bind_ok hr2
          refine ⟨_, G12, et, S12, y, ey, h33, fun v G13 H13 S13 s13 r13 => ?_⟩
          split at hr2
          · rename_i hlt
            have f13 := FrOk.back (B := { B2 with keep := B'.keep }) S13 hB02 hK0
            have r14 : Reps K G13 acc3.2.reverse xs2 := r8.mono ((g9.g.trans s12).trans s13)
            refine ⟨xs2, f13.h, ?_, ?_⟩
            · rw [r14.length, List.length_reverse, ← hn8, ← bigLine_eq]
              exact hlt
            · have S14 := (StOk.free (B := { B2 with keep := B'.keep }) S13).growF (H' := upd H13 p (.lst (xs2 ++ [v]))) f13 (Grow.write S13.gh f13.h f13.g rfl)
              have f14 : FrOk { B2 with keep := B'.keep } ey σ11 G13 (upd H13 p (.lst (xs2 ++ [v]))) p (xs2 ++ [v]) := ⟨upd_same, f13.g, f13.b, f13.c, f13.k⟩
              exact ⟨ey, σ11, G13, xs2 ++ [v], (acc3.1 + 1, y :: acc3.2), S14.hold f14, w11, s8.trans (g9.g.trans (s12.trans s13)), hr2, by
                show Reps K G13 (y :: acc3.2).reverse (xs2 ++ [v])
                rw [List.reverse_cons]
                exact Reps.append r14 (Reps.cons r13 rfl), by show acc3.1 + 1 = acc3.2.length + 1; rw [hn8]⟩
          · cases hr2
      · left
        have hd3 : l2.drop j = [] := List.drop_eq_nil_of_le (by omega)
        rw [hd3] at hr2
        have hq : (acc2, e9) = (acc3, ex2) := by
          have hr' : R.ok (acc3, ex2) = R.ok (acc2, e9) := hr2
          cases hr'
          rfl
        cases hq
        refine ⟨itk2.2 j (by omega), ?_⟩
        have S15 := unl2 _ _ _ _ S8
        exact ⟨e7, σy, G8, xs2, acc2, S15, (wipe_sub hs w8).trans w5, s2.trans (g3.g.trans (s6.trans (s7.trans s8))), hr, r8, hn8⟩
    · left
      have hd' : l.drop i = [] := List.drop_eq_nil_of_le (by omega)
      rw [hd'] at hr
      have hq : (q', e2') = (acc, ex) := by
        have hr' : R.ok (acc, ex) = R.ok (q', e2') := hr
        cases hr'
        rfl
      cases hq
      refine ⟨itk.2 i (by omega), ?_⟩
      have S3 : StOk K { B' with keep := (p, .lst xs) :: B'.keep } (restE own ec _) σ G2 H2 := StOk.rest (B := { B' with keep := (p, .lst xs) :: B'.keep }) SL rfl cl S2 s2 w2
      have S4 := unl _ _ _ _ S3
      rw [hK] at S4
      exact k p xs G2 H2 S4.free (s1.trans s2) (FrOk.back S4 (by rw [← hB]; exact hB0) (by rw [← hK]; exact hK0)) r2
end
section
variable {X : Cx} {elt tg iter tg1 iter1 : Expr} {ifs1 : List Expr} {scope : Scope} {own : List (Str × Nat)} {own2 js js2 : List Nat} {pos pos' pos2 : Pos} {put put2 : D → M Unit} {test : M Bool} {em : M D} {mI mI2 : M (Hd × List D)}
theorem n_comp2 (hc : X.calm = true) (nd : X.N.Nodup) (hI : PI X tg iter (tIt X.K mI)) (it : ItM mI) (it2 : ItM mI2) (ok : BlkOk X.N X.env.scope scope own) (hj : ∀ j ∈ js, j ∈ own.map (·.2)) (hj2 : ∀ j ∈ js2, j ∈ own2) (hv : ∀ j ∈ own2, j ∈ own.map (·.2))
    (hg : ∀ s H C cl fp, PG (X.blk s H scope (compEnvC scope cl C X.env) fp) tg (tPut X.K js put))
    (hI1 : ∀ s H C cl fp, PI (X.blk s H scope (compEnvC scope cl C X.env) fp) tg1 iter1 (tIt X.K mI2))
    (hg1 : ∀ s H C cl fp, PG (X.blk s H scope (compEnvC scope cl C X.env) fp) tg1 (tPut X.K js2 put2))
    (ht : ∀ s H C cl fp, PTs (X.blk s H scope (compEnvC scope cl C X.env) fp) [] (tTs X.K (pure true)))
    (ht1 : ∀ s H C cl fp, PTs (X.blk s H scope (compEnvC scope cl C X.env) fp) ifs1 (tTs X.K test))
    (he : ∀ s H C cl fp, PE (X.blk s H scope (compEnvC scope cl C X.env) fp) elt (tV X.K em)) (hs : ∀ x, foldedSetIterable iter X.env x = pure x) (hs1 : ∀ env x, foldedSetIterable iter1 env x = pure x) :
    PE X (.ListComp elt [⟨tg, iter, [], 0⟩, ⟨tg1, iter1, ifs1, 0⟩] scope pos) (tFr X.K (do let p ← mI; let q ← lockd p.1 (inBlk (own.map (·.2)) (compL2 (own.map (·.2)) put (innM mI2 own2 put2 test em) p.2 (0, []))); pure q.2.reverse)) :=
  PEimp (pe_lc2 hc nd hI ok hv hg ht hI1 hg1 ht1 he hs hs1) (comp2_imp hj hj2 hv it it2)
theorem s_setLc2 {x : Str} {i : Nat} (st : Sto X i x)
    (hc : X.calm = true) (hI : PI X tg iter (tIt X.K mI)) (it : ItM mI) (it2 : ItM mI2) (ok : BlkOk X.N X.env.scope scope own) (hj : ∀ j ∈ js, j ∈ own.map (·.2)) (hj2 : ∀ j ∈ js2, j ∈ own2) (hv : ∀ j ∈ own2, j ∈ own.map (·.2))
    (hg : ∀ s H C cl fp, PG (X.blk s H scope (compEnvC scope cl C X.env) fp) tg (tPut X.K js put))
    (hI1 : ∀ s H C cl fp, PI (X.blk s H scope (compEnvC scope cl C X.env) fp) tg1 iter1 (tIt X.K mI2))
    (hg1 : ∀ s H C cl fp, PG (X.blk s H scope (compEnvC scope cl C X.env) fp) tg1 (tPut X.K js2 put2))
    (ht : ∀ s H C cl fp, PTs (X.blk s H scope (compEnvC scope cl C X.env) fp) [] (tTs X.K (pure true)))
    (ht1 : ∀ s H C cl fp, PTs (X.blk s H scope (compEnvC scope cl C X.env) fp) ifs1 (tTs X.K test))
    (he : ∀ s H C cl fp, PE (X.blk s H scope (compEnvC scope cl C X.env) fp) elt (tV X.K em)) (hs : ∀ x, foldedSetIterable iter X.env x = pure x) (hs1 : ∀ env x, foldedSetIterable iter1 env x = pure x) :
    ∃ te, PS X (.Assign [.Name x pos'] (.ListComp elt [⟨tg, iter, [], 0⟩, ⟨tg1, iter1, ifs1, 0⟩] scope pos) pos2) (tAsg te (gName i)) ∧ ∀ σ H Q, tFr X.K (do let p ← mI; let q ← lockd p.1 (inBlk (own.map (·.2)) (compL2 (own.map (·.2)) put (innM mI2 own2 put2 test em) p.2 (0, []))); pure q.2.reverse) σ H Q → te σ H Q := by
  refine ⟨_, ?_, comp2_imp hj hj2 hv it it2⟩
  have key : ∃ b, swapsWith (.ListComp elt [⟨tg, iter, [], 0⟩, ⟨tg1, iter1, ifs1, 0⟩] scope pos) (some (.Name x pos')) pos2.line X.env = pure b ∧ (b = true → X.env.scope.names.lookup x = some .local) := by
    refine ⟨_, rfl, fun h => ?_⟩
    rw [Bool.and_eq_true, Bool.and_eq_true, Bool.and_eq_true] at h
    exact eq_of_beq h.1.1.2
  obtain ⟨b, h1, h2⟩ := key
  cases b with
  | true => exact ps_setLc2 hc st.n st.i (h2 rfl) h1 hI ok hv hg ht hI1 hg1 ht1 he hs hs1
  | false => exact ps_set st.n st.i st.l (pe_lc2 hc st.n hI ok hv hg ht hI1 hg1 ht1 he hs hs1) h1 st.f
end
end En

/-! En16: changes of lists, targets. -/
namespace En
open PySem PySem.Spec PyProof.Rows L2

def nix : Expr → Bool
  | .Name _ _ => true
  | .Constant (.int _) _ _ => true
  | .BinOp _ _ _ _ => true
  | .UnaryOp _ _ _ => true
  | .Call _ _ _ _ => true
  | .Subscript _ _ _ => true
  | .IfExp _ _ _ _ => true
  | _ => false
theorem nix_plain {b : Expr} (h : nix b = true) : PlainIx b := fun o i => by
  cases b with
  | Constant c _ _ => cases c <;> first | rfl | cases h
  | _ => first | rfl | cases h
theorem nix_asg {o i : Expr} {pos : Pos} {env : Env} (h : nix i = true) (v : Value) : assign (o.Subscript i pos) env v = (holding [v] (eval o env) >>= fun ov => holding [v, ov] (eval i env) >>= fun iv => standAt pos >>= fun _ => holding [v, ov, iv] (setItem ov iv v) >>= fun _ => PySem.release [v, ov, iv] []) := by
  cases i with
  | Constant c _ _ => cases c <;> first | rfl | cases h
  | _ => first | rfl | cases h

section
variable {X : Cx} {K : Fg} {fr : Bool}
theorem chg_ok {i : Nat} {f : Ob → En.R Ob} {e e' : Ev} {u : Unit} (h : chg i f e = .ok (u, e')) : ∃ k o o', e[i]? = some (.cel k o) ∧ k ≠ .lock ∧ f o = .ok o' ∧ e' = e.set i (.cel k o') := by
  unfold chg at h
  split at h
  · rename_i o q
    obtain ⟨p, h1, h2⟩ := rbind_ok h
    cases h2
    exact ⟨_, _, _, q, (fun z => nomatch z), h1, rfl⟩
  · rename_i o q
    obtain ⟨p, h1, h2⟩ := rbind_ok h
    cases h2
    exact ⟨_, _, _, q, (fun z => nomatch z), h1, rfl⟩
  · cases h
theorem ixNat_eq (n : Nat) (i : Int) : ixNat n i = L2.ixN n i := rfl
/-- a list's cell is written -/
theorem StOk.write {B : Bs} {e : Ev} {σ : L2.St} {G H : Hp} (S : StOk K B e σ G H) {i : Nat} {k : CK} {l l' : List D} {a : Addr} {xs ys : List V} (h : e[i]? = some (.cel k (.lst l))) (hk : k ≠ .lock) (ha : σ[i]? = some (some (.ref a))) (hx : H a = some (.lst xs)) (r : Reps K G l' ys) :
    StOk K B (e.set i (.cel k (.lst l'))) σ G (upd H a (.lst ys)) ∧ Same G G := by
  obtain ⟨a', h1, h2, _⟩ := S.cel h
  rw [ha] at h1
  cases h1
  exact ⟨S.change h hk ha (Grow.write S.gh hx h2 rfl) ⟨ys, upd_same, r⟩, Same.refl _⟩
/-- i[k] = e -/
theorem s_setI {x : Str} {i : Nat} {e k : Expr} {pos pos' pos2 : Pos} {m n : M D} (hx : PE X (.Name x pos2) (tVar i)) (hn : ncmp e = true) (hk : nix k = true) (he : PE X e (tV X.K m)) (hk' : PE X k (tV X.K n)) :
    PS X (.Assign [.Subscript (.Name x pos2) k pos'] e pos) (tSt X.K fr (do let d ← m; isC i; let x ← n; chg i (setOb x d); pure .nx)) :=
  PSimp (ps_asg he (pg_sub hx hk' set_list (fun v => nix_asg hk v)) (by unfold swapsWithSole; exact swp hn) (by cases e <;> first | rfl | cases hn) rfl) fun E σ H ⟨B, G, e, S, f, e', h, k⟩ => by
    obtain ⟨d, e1, h1, h⟩ := bind_ok h
    obtain ⟨_, e2, h2, h⟩ := bind_ok h
    obtain ⟨y, e3, h3, h⟩ := bind_ok h
    obtain ⟨rfl, h4⟩ := nx_ok h
    obtain ⟨ee, k0, o0, hc⟩ := isC_ok h2
    simp only at ee
    subst ee
    obtain ⟨k1, o1, o', h5, h6, h7, h8⟩ := chg_ok h4
    cases o1 with
    | dic _ _ => cases y <;> cases h7
    | lst l =>
      cases y with
      | int z =>
        have h7' : (match ixNat l.length z with | some j => R.ok (.lst (l.set j d)) | none => R.bad) = R.ok o' := h7
        cases hj : ixNat l.length z with
        | none => rw [hj] at h7'; cases h7'
        | some j =>
          rw [hj] at h7'
          cases h7'
          refine ⟨B, G, e, S, d, _, h1, fun v G1 H1 S1 s1 r1 => ?_⟩
          obtain ⟨a, ha, _⟩ := S1.cel hc
          refine ⟨.ref a, ha, B, G1, _, S1, .int z, e3, h3, fun u G2 H2 S2 s2 r2 => ?_⟩
          obtain ⟨a', y1, y2, ⟨xs, y3, y4⟩, _⟩ := S2.cel h5
          rw [ha] at y1
          cases y1
          refine ⟨a, xs, z, j, rfl, r2, y3, by rw [y4.length, ← ixNat_eq]; exact hj, ?_⟩
          obtain ⟨S3, s3⟩ := S2.write h5 h6 ha y3 (Reps.set (Rep.mono s2 d r1) j y4)
          rw [h8] at k
          exact k σ G2 _ S3 (s1.trans s2)
      | _ => cases h7
theorem mr {id : String} {r : V → List V → Hp → VK → Prop} (h : MtM X id r) : MtR X id r := h
/-- x.append(e) -/
theorem s_app {x : Str} {i : Nat} {e : Expr} {apos pos pos2 : Pos} {m : M D} (hx : PE X (.Name x pos2) (tVar i)) (hl : (apos.endLine == pos.line) = true) (ns : nst e = true) (he : PE X e (tV X.K m)) :
    PE X (.Call (.Attribute (.Name x pos2) (Str.ofString "append") apos) [e] [] pos) (tV X.K (do isC i; let d ← m; chg i (appOb d); pure .non)) := by
  refine PEimp (pe_bm F.plainAttrs_list F.slot_list_append F.type_list_append mt_append hx (pa_cons he pa_nil (star1 ns)) (nab rfl) (by rw [star1 ns]; rfl) hl (star1 ns) rfl) fun σ H Q ⟨B, G, e, S, d, e', h, k⟩ => ?_
  obtain ⟨_, e2, h2, h⟩ := bind_ok h
  obtain ⟨y, e3, h3, h⟩ := bind_ok h
  obtain ⟨_, e4, h4, h⟩ := bind_ok h
  cases h
  obtain ⟨ee, k0, o0, hc⟩ := isC_ok h2
  simp only at ee
  subst ee
  obtain ⟨k1, o1, o', h5, h6, h7, h8⟩ := chg_ok h4
  obtain ⟨a, ha, _, hb, _⟩ := S.cel hc
  refine ⟨.ref a, ha, ?_, ?_⟩
  · cases o0 with
    | dic _ _ => exact hb.elim
    | lst l => obtain ⟨xs, z1, _⟩ := hb; exact .inl ⟨rfl, xs, SqL.of z1⟩
  · refine ⟨B, G, _, S, y, e3, h3, fun u G2 H2 S2 s2 r2 => ?_⟩
    cases o1 with
    | dic _ _ => cases h7
    | lst l =>
      obtain ⟨a', y1, y2, ⟨xs, y3, y4⟩, _⟩ := S2.cel h5
      rw [ha] at y1
      cases y1
      have h7' : (if l.length < bigLine then R.ok (Ob.lst (l ++ [y])) else R.bad) = R.ok o' := h7
      split at h7'
      · rename_i hlt
        cases h7'
        refine ⟨a, xs, u, rfl, rfl, y3, by rw [y4.length, ← bigLine_eq]; exact hlt, ?_⟩
        obtain ⟨S3, s3⟩ := S2.write h5 h6 ha y3 (Reps.append y4 (Reps.cons r2 Reps.nil))
        rw [h8] at k
        exact k _ G2 _ S3 s2 rfl
      · cases h7'
theorem s_ext {x : Str} {i : Nat} {e : Expr} {apos pos pos2 : Pos} {m : M Hd} (hx : PE X (.Name x pos2) (tVar i)) (hl : (apos.endLine == pos.line) = true) (ns : nst e = true) (he : PE X e (tHd X.K m)) :
    PE X (.Call (.Attribute (.Name x pos2) (Str.ofString "extend") apos) [e] [] pos) (tV X.K (do isC i; let h ← m; let x ← h.get; match x with | .lst l => (do chg i (extOb l); pure .non) | _ => M.of .bad)) := by
  refine PEimp (pe_bm F.plainAttrs_list F.slot_list_extend F.type_list_extend mt_extend hx (pa_cons he pa_nil (star1 ns)) (nab rfl) (by rw [star1 ns]; rfl) hl (star1 ns) rfl) fun σ H Q ⟨B, G, e, S, d, e', h, k⟩ => ?_
  obtain ⟨_, e2, h2, h⟩ := bind_ok h
  obtain ⟨hd, e3, h3, h⟩ := bind_ok h
  obtain ⟨y, e3', h3', h⟩ := bind_ok h
  have := hd_same h3'
  subst this
  cases y with
  | lst yl =>
    obtain ⟨_, e4, h4, h⟩ := bind_ok h
    cases h
    obtain ⟨ee, k0, o0, hc⟩ := isC_ok h2
    simp only at ee
    subst ee
    obtain ⟨k1, o1, o', h5, h6, h7, h8⟩ := chg_ok h4
    obtain ⟨a, ha, _, hb, _⟩ := S.cel hc
    refine ⟨.ref a, ha, ?_, ?_⟩
    · cases o0 with
      | dic _ _ => exact hb.elim
      | lst l => obtain ⟨xs, z1, _⟩ := hb; exact .inl ⟨rfl, xs, SqL.of z1⟩
    · refine ⟨B, G, _, S, hd, _, h3, fun u G2 H2 S2 s2 r2 => ?_⟩
      cases o1 with
      | dic _ _ => cases h7
      | lst l =>
        obtain ⟨a', y1, y2, ⟨xs, y3, y4⟩, _⟩ := S2.cel h5
        rw [ha] at y1
        cases y1
        obtain ⟨_, b, zs, eu, z3, z4⟩ := HdOk.get S2 r2 h3'
        have h7' : (if l.length + yl.length ≤ bigLine then R.ok (Ob.lst (l ++ yl)) else R.bad) = R.ok o' := h7
        split at h7'
        · rename_i hlt
          cases h7'
          refine ⟨a, b, xs, zs, rfl, by rw [eu], y3, z3, by rw [y4.length, z4.length, ← bigLine_eq]; exact hlt, ?_⟩
          obtain ⟨S3, s3⟩ := S2.write h5 h6 ha y3 (Reps.append y4 z4)
          rw [h8] at k
          exact k _ G2 _ S3 s2 rfl
        · cases h7'
  | _ => cases h
theorem s_pop {x : Str} {i : Nat} {apos pos pos2 : Pos} (hx : PE X (.Name x pos2) (tVar i)) (hl : (apos.endLine == pos.line) = true) :
    PE X (.Call (.Attribute (.Name x pos2) (Str.ofString "pop") apos) [] [] pos) (tV X.K (chgV i fun o => match o with
      | .lst l => match l.getLast? with
        | some x => .ok (x, .lst l.dropLast)
        | none => .bad
      | _ => .bad)) := by
  refine PEimp (pe_bm0 F.plainAttrs_list F.slot_list_pop F.type_list_pop mt_pop hx (nab rfl) hl) fun σ H Q ⟨B, G, e, S, d, e', h, k⟩ => ?_
  obtain ⟨k1, o1, o', h5, h6, h7, h8⟩ := chgV_ok h
  cases o1 with
  | dic _ _ => cases h7
  | lst l =>
    obtain ⟨a, y1, y2, ⟨xs, y3, y4⟩, _⟩ := S.cel h5
    simp only at h7
    cases hj : l.getLast? with
    | none => rw [hj] at h7; cases h7
    | some z =>
      rw [hj] at h7
      cases h7
      rw [List.getLast?_eq_getElem?] at hj
      obtain ⟨w, w1, w2⟩ := y4.get hj
      refine ⟨.ref a, y1, .inl ⟨rfl, xs, SqL.of y3⟩, a, xs, w, rfl, rfl, y3, by rw [y4.length]; exact w1, ?_⟩
      obtain ⟨S3, s3⟩ := S.write h5 h6 y1 y3 y4.dropLast
      rw [h8] at k
      exact k _ G _ S3 s3 w2

/-! ### targets -/
def Tg.slots : Tg → List Nat
  | .nm i => [i]
  | .two a b => a.slots ++ b.slots
  | .three a b c => a.slots ++ (b.slots ++ c.slots)
theorem g_nm {i : Nat} {x : Str} {pos : Pos} (st : Sto X i x) : PG X (.Name x pos) (tPut X.K [i] (Tg.put (.nm i))) := PGimp (pg_name st.n st.i st.l st.f) fun v σ H Q ⟨B, G, e, S, d, r, hr, h, k⟩ => by
  refine k _ (S.put (show wr i (.val d) e = .ok r from h) hr) (fun j hj => List.getElem?_set_ne fun w => hj (by rw [w]; exact List.mem_singleton_self _)) (List.length_set ..)
def gTL (K : PySem.W.Frag) (n : Nat) (t : TGs) : TG := fun v σ H Q => ∃ a xs, v = .ref a ∧ (SqT K H a xs ∨ SqL K H a xs) ∧ xs.length = n ∧ t xs σ H Q
theorem pg_tl {es : List Expr} {k : Nat} {pos : Pos} {t : TGs} {n : Nat} (hc : X.calm = true) (h : PGs X es t) (hn : (assignEach es X.env).length = n) (hst : (assignEach es X.env).findIdx? (·.1) = none) : PG X (.Tuple es k pos) (gTL X.K n t) :=
  ⟨fun pins s σ H v u Q I r ⟨a, xs, e1, hq, hl, hw⟩ => hq.elim (fun hq => (pg_tup hc h hn hst).run pins s σ H v u Q I r ⟨a, xs, e1, hq, hl, hw⟩) fun hq => (pg_unl hc h hn hst).run pins s σ H v u Q I r ⟨a, xs, e1, hq, hl, hw⟩⟩
theorem g_two {ea eb : Expr} {kk : Nat} {pos : Pos} {a b : Tg} (hc : X.calm = true) (na : nst ea = true) (nb : nst eb = true) (ha : PG X ea (tPut X.K a.slots a.put)) (hb : PG X eb (tPut X.K b.slots b.put)) :
    PG X (.Tuple [ea, eb] kk pos) (tPut X.K (Tg.slots (.two a b)) (Tg.put (.two a b))) :=
  PGimp (pg_tl (n := 2) hc (pgs_cons ha (pgs_cons hb pgs_nil (by rw [asg1 nb]; rfl)) (by rw [asg1 na]; rfl)) (by rw [asg1 na, asg1 nb]; rfl) (by rw [asg1 na, asg1 nb]; rfl)) fun v σ H Q ⟨B, G, e, S, d, r, hr, h, k⟩ => by
    cases d with
    | tup l =>
      match l, hr, h with
      | [x, y], hr, h =>
        obtain ⟨p, xs, rfl, t, rr⟩ := hr
        obtain ⟨vx, xs1, rfl, rx, rr⟩ := rr
        obtain ⟨vy, xs2, rfl, ry, rr⟩ := rr
        cases (show xs2 = [] from rr)
        obtain ⟨⟨⟩, e1, h1, h2⟩ := bind_ok (show (do a.put x; b.put y : M Unit) e = .ok (r.1, r.2) from h)
        refine ⟨p, [vx, vy], rfl, .inl (seqT_mono S.gh t), rfl, vx, [vy], rfl, B, G, e, S, x, ((), e1), rx, h1, fun σ1 S1 f1 l1 => ⟨vy, [], rfl, B, G, e1, S1, y, r, ry, h2, fun σ2 S2 f2 l2 => ⟨rfl, k σ2 S2 (fun j hj => ?_) (l2.trans l1)⟩⟩⟩
        rw [f2 j fun w => hj (List.mem_append_right _ w), f1 j fun w => hj (List.mem_append_left _ w)]
      | [], _, h => cases h
      | [_], _, h => cases h
      | _ :: _ :: _ :: _, _, h => cases h
    | lst l =>
      match l, hr, h with
      | [x, y], hr, h =>
        obtain ⟨p, xs, rfl, t, rr⟩ := hr
        obtain ⟨vx, xs1, rfl, rx, rr⟩ := rr
        obtain ⟨vy, xs2, rfl, ry, rr⟩ := rr
        cases (show xs2 = [] from rr)
        obtain ⟨⟨⟩, e1, h1, h2⟩ := bind_ok (show (do a.put x; b.put y : M Unit) e = .ok (r.1, r.2) from h)
        refine ⟨p, [vx, vy], rfl, .inr (SqL.of (S.gh _ _ t)), rfl, vx, [vy], rfl, B, G, e, S, x, ((), e1), rx, h1, fun σ1 S1 f1 l1 => ⟨vy, [], rfl, B, G, e1, S1, y, r, ry, h2, fun σ2 S2 f2 l2 => ⟨rfl, k σ2 S2 (fun j hj => ?_) (l2.trans l1)⟩⟩⟩
        rw [f2 j fun w => hj (List.mem_append_right _ w), f1 j fun w => hj (List.mem_append_left _ w)]
      | [], _, h => cases h
      | [_], _, h => cases h
      | _ :: _ :: _ :: _, _, h => cases h
    | _ => cases h
theorem g_three {ea eb ec : Expr} {kk : Nat} {pos : Pos} {a b c : Tg} (hc : X.calm = true) (na : nst ea = true) (nb : nst eb = true) (nc : nst ec = true) (ha : PG X ea (tPut X.K a.slots a.put)) (hb : PG X eb (tPut X.K b.slots b.put)) (hcc : PG X ec (tPut X.K c.slots c.put)) :
    PG X (.Tuple [ea, eb, ec] kk pos) (tPut X.K (Tg.slots (.three a b c)) (Tg.put (.three a b c))) :=
  PGimp (pg_tl (n := 3) hc (pgs_cons ha (pgs_cons hb (pgs_cons hcc pgs_nil (by rw [asg1 nc]; rfl)) (by rw [asg1 nb]; rfl)) (by rw [asg1 na]; rfl)) (by rw [asg1 na, asg1 nb, asg1 nc]; rfl) (by rw [asg1 na, asg1 nb, asg1 nc]; rfl)) fun v σ H Q ⟨B, G, e, S, d, r, hr, h, k⟩ => by
    cases d with
    | tup l =>
      match l, hr, h with
      | [x, y, z], hr, h =>
        obtain ⟨p, xs, rfl, t, rr⟩ := hr
        obtain ⟨vx, xs1, rfl, rx, rr⟩ := rr
        obtain ⟨vy, xs2, rfl, ry, rr⟩ := rr
        obtain ⟨vz, xs3, rfl, rz, rr⟩ := rr
        cases (show xs3 = [] from rr)
        obtain ⟨⟨⟩, e1, h1, h2⟩ := bind_ok (show (do a.put x; b.put y; c.put z : M Unit) e = .ok (r.1, r.2) from h)
        obtain ⟨⟨⟩, e2, h2, h3⟩ := bind_ok h2
        refine ⟨p, [vx, vy, vz], rfl, .inl (seqT_mono S.gh t), rfl, vx, [vy, vz], rfl, B, G, e, S, x, ((), e1), rx, h1, fun σ1 S1 f1 l1 => ⟨vy, [vz], rfl, B, G, e1, S1, y, ((), e2), ry, h2, fun σ2 S2 f2 l2 => ⟨vz, [], rfl, B, G, e2, S2, z, r, rz, h3, fun σ3 S3 f3 l3 => ⟨rfl, k σ3 S3 (fun j hj => ?_) (l3.trans (l2.trans l1))⟩⟩⟩⟩
        rw [f3 j fun w => hj (List.mem_append_right _ (List.mem_append_right _ w)), f2 j fun w => hj (List.mem_append_right _ (List.mem_append_left _ w)), f1 j fun w => hj (List.mem_append_left _ w)]
      | [], _, h => cases h
      | [_], _, h => cases h
      | [_, _], _, h => cases h
      | _ :: _ :: _ :: _ :: _, _, h => cases h
    | lst l =>
      match l, hr, h with
      | [x, y, z], hr, h =>
        obtain ⟨p, xs, rfl, t, rr⟩ := hr
        obtain ⟨vx, xs1, rfl, rx, rr⟩ := rr
        obtain ⟨vy, xs2, rfl, ry, rr⟩ := rr
        obtain ⟨vz, xs3, rfl, rz, rr⟩ := rr
        cases (show xs3 = [] from rr)
        obtain ⟨⟨⟩, e1, h1, h2⟩ := bind_ok (show (do a.put x; b.put y; c.put z : M Unit) e = .ok (r.1, r.2) from h)
        obtain ⟨⟨⟩, e2, h2, h3⟩ := bind_ok h2
        refine ⟨p, [vx, vy, vz], rfl, .inr (SqL.of (S.gh _ _ t)), rfl, vx, [vy, vz], rfl, B, G, e, S, x, ((), e1), rx, h1, fun σ1 S1 f1 l1 => ⟨vy, [vz], rfl, B, G, e1, S1, y, ((), e2), ry, h2, fun σ2 S2 f2 l2 => ⟨vz, [], rfl, B, G, e2, S2, z, r, rz, h3, fun σ3 S3 f3 l3 => ⟨rfl, k σ3 S3 (fun j hj => ?_) (l3.trans (l2.trans l1))⟩⟩⟩⟩
        rw [f3 j fun w => hj (List.mem_append_right _ (List.mem_append_right _ w)), f2 j fun w => hj (List.mem_append_right _ (List.mem_append_left _ w)), f1 j fun w => hj (List.mem_append_left _ w)]
      | [], _, h => cases h
      | [_], _, h => cases h
      | [_, _], _, h => cases h
      | _ :: _ :: _ :: _ :: _, _, h => cases h
    | _ => cases h
/-- a, b = e -/
theorem unp_imp {m : M D} {tg : Tg} : ∀ E σ H, tSt K fr (do let d ← m; tg.put d; pure .nx) E σ H → tAsg (tV K m) (tPut K tg.slots tg.put) E σ H := fun E σ H ⟨B, G, e, S, f, e', h, k⟩ => by
  obtain ⟨d, e1, h1, h2⟩ := bind_ok h
  obtain ⟨rfl, h3⟩ := nx_ok h2
  exact ⟨B, G, e, S, d, e1, h1, fun v G1 H1 S1 s1 r1 => ⟨B, G1, e1, S1, d, ((), e'), r1, h3, fun σ' S' _ _ => k σ' G1 H1 S' s1⟩⟩
theorem s_unp {te : Expr} {es : List Expr} {kk : Nat} {pos pos' : Pos} {m : M D} {tg : Tg} (ht : (match te with | .Tuple _ _ _ => false | _ => true) = true) (hn : ncmp te = true) (he : PE X te (tV X.K m)) (hg : PG X (.Tuple es kk pos') (tPut X.K tg.slots tg.put)) :
    PS X (.Assign [.Tuple es kk pos'] te pos) (tSt X.K fr (do let d ← m; tg.put d; pure .nx)) := PSimp (ps_asg he hg (by unfold swapsWithSole; exact swp hn) (by cases te <;> first | rfl | cases ht) rfl) unp_imp
end
end En

/-! En17: several stores at once. -/
namespace En
open PySem PySem.Spec PyProof.Rows L2

def PvOk (K : Fg) (B : Bs) (e : Ev) (σ : L2.St) (G H : Hp) : List Pv → List V → Prop
  | [], xs => xs = []
  | .val i d :: r, xs => ∃ x xs', xs = x :: xs' ∧ Rep K G d x ∧ PvOk K B e σ G H r xs'
  | .cel i l :: r, xs => ∃ p ys xs', xs = .ref p :: xs' ∧ FrOk B e σ G H p ys ∧ Reps K G l ys ∧ PvOk K { B with keep := (p, .lst ys) :: B.keep } e σ G H r xs'
def tPv (K : Fg) (n : M (List Pv)) : TA := fun σ H Q => ∃ B G e, StOk K B e σ G H ∧ ∃ l e', n e = .ok (l, e') ∧ ∀ xs G' H', StOk K B e' σ G' H' → Same G G' → PvOk K B e' σ G' H' l xs → Q xs H'
def Pv.slot : Pv → Nat
  | .val i _ => i
  | .cel i _ => i
def setPs (σ : L2.St) : List Pv → List V → L2.St
  | p :: r, x :: xs => setPs (σ.set p.slot (some x)) r xs
  | _, _ => σ
section
variable {X : Cx} {K : Fg} {fr : Bool}
theorem FrOk.less {B B' : Bs} {e : Ev} {σ : L2.St} {G H : Hp} {p : Addr} {xs : List V} (f : FrOk B e σ G H p xs) (h0 : B'.H0 = B.H0) (hk : ∀ q ∈ B'.keep, q ∈ B.keep) : FrOk B' e σ G H p xs :=
  ⟨f.h, f.g, by rw [h0]; exact f.b, f.c, fun q hq => f.k q (hk q hq)⟩
theorem PvOk.less : ∀ {l : List Pv} {xs : List V} {B B' : Bs} {e : Ev} {σ : L2.St} {G H : Hp}, PvOk K B e σ G H l xs → B'.H0 = B.H0 → (∀ q ∈ B'.keep, q ∈ B.keep) → PvOk K B' e σ G H l xs
  | [], _, _, _, _, _, _, _, h, _, _ => h
  | .val i d :: r, _, _, _, _, _, _, _, ⟨x, xs', h1, h2, h3⟩, h0, hk => ⟨x, xs', h1, h2, h3.less h0 hk⟩
  | .cel i l :: r, _, _, _, _, _, _, _, ⟨p, ys, xs', h1, h2, h3, h4⟩, h0, hk => ⟨p, ys, xs', h1, h2.less h0 hk, h3, h4.less h0 fun q hq => by
    rcases List.mem_cons.mp hq with w | w
    · rw [w]; exact List.mem_cons_self
    · exact List.mem_cons_of_mem _ (hk q w)⟩
theorem FrOk.setV {B : Bs} {e : Ev} {σ : L2.St} {G H : Hp} {p : Addr} {xs : List V} (f : FrOk B e σ G H p xs) {i : Nat} {d : D} {v : V} (hi : i < e.length) : FrOk B (e.set i (.val d)) (σ.set i (some v)) G H p xs :=
  ⟨f.h, f.g, f.b, fun j k o q => by
    by_cases hj : i = j
    · subst hj
      rw [List.getElem?_set_self hi] at q
      cases q
    · rw [List.getElem?_set_ne hj] at q ⊢
      exact f.c j k o q, f.k⟩
theorem PvOk.setV : ∀ {l : List Pv} {xs : List V} {B : Bs} {e : Ev} {σ : L2.St} {G H : Hp} {i : Nat} {d : D} {v : V}, PvOk K B e σ G H l xs → i < e.length → PvOk K B (e.set i (.val d)) (σ.set i (some v)) G H l xs
  | [], _, _, _, _, _, _, _, _, _, h, _ => h
  | .val _ _ :: r, _, _, _, _, _, _, _, _, _, ⟨x, xs', h1, h2, h3⟩, hi => ⟨x, xs', h1, h2, h3.setV hi⟩
  | .cel _ l :: r, _, _, _, _, _, _, _, _, _, ⟨p, ys, xs', h1, h2, h3, h4⟩, hi => ⟨p, ys, xs', h1, h2.setV hi, h3, h4.setV hi⟩
theorem FrOk.setC {B : Bs} {e : Ev} {σ : L2.St} {G H : Hp} {p q : Addr} {xs : List V} {u : HO} (f : FrOk B e σ G H p xs) (hq : (q, u) ∈ B.keep) {i : Nat} {o : Ob} (hi : i < e.length) (hi' : i < σ.length) : FrOk B (e.set i (.cel .own o)) (σ.set i (some (.ref q))) G H p xs :=
  ⟨f.h, f.g, f.b, fun j k o q' => by
    by_cases hj : i = j
    · subst hj
      rw [List.getElem?_set_self hi']
      intro w
      cases w
      exact f.k _ hq rfl
    · rw [List.getElem?_set_ne hj] at q' ⊢
      exact f.c j k o q', f.k⟩
theorem PvOk.setC : ∀ {l : List Pv} {xs : List V} {B : Bs} {e : Ev} {σ : L2.St} {G H : Hp} {i : Nat} {o : Ob} {q : Addr} {u : HO}, PvOk K B e σ G H l xs → (q, u) ∈ B.keep → i < e.length → i < σ.length → PvOk K B (e.set i (.cel .own o)) (σ.set i (some (.ref q))) G H l xs
  | [], _, _, _, _, _, _, _, _, _, _, h, _, _, _ => h
  | .val _ _ :: r, _, _, _, _, _, _, _, _, _, _, ⟨x, xs', h1, h2, h3⟩, hq, hi, hi' => ⟨x, xs', h1, h2, h3.setC hq hi hi'⟩
  | .cel _ l :: r, _, _, _, _, _, _, _, _, _, _, ⟨p, ys, xs', h1, h2, h3, h4⟩, hq, hi, hi' => ⟨p, ys, xs', h1, h2.setC hq hi hi', h3, h4.setC (List.mem_cons_of_mem _ hq) hi hi'⟩
theorem putP_ok : ∀ {l : List Pv} {xs : List V} {B : Bs} {e : Ev} {σ : L2.St} {G H : Hp} {r : Unit × Ev}, StOk K B e σ G H → PvOk K B e σ G H l xs → putP l e = .ok r → StOk K B r.2 (setPs σ l xs) G H
  | [], xs, B, e, σ, G, H, r, S, h, hp => by
    cases hp
    rw [show xs = [] from h]
    exact S
  | .val i d :: r, xs, B, e, σ, G, H, r', S, ⟨x, xs', h1, h2, h3⟩, hp => by
    obtain ⟨⟨⟩, e1, z1, z2⟩ := bind_ok (show (do wr i (.val d); putP r : M Unit) e = .ok (r'.1, r'.2) from hp)
    subst h1
    obtain ⟨t, w1, w2, w3⟩ := wr_ok z1
    simp only at w3
    have S1 := S.put z1 h2
    simp only at S1
    have h4 := h3.setV (i := i) (d := d) (v := x) (S.lt w1)
    rw [← w3] at h4
    have := putP_ok (l := r) (xs := xs') S1 h4 z2
    exact this
  | .cel i l :: r, xs, B, e, σ, G, H, r', S, ⟨p, ys, xs', h1, h2, h3, h4⟩, hp => by
    obtain ⟨⟨⟩, e1, z1, z2⟩ := bind_ok (show (do wr i (.cel .own (.lst l)); putP r : M Unit) e = .ok (r'.1, r'.2) from hp)
    subst h1
    obtain ⟨t, w1, w2, w3⟩ := wr_ok z1
    simp only at w3
    have S1 := S.putC z1 h2 h3
    simp only at S1
    have h5 := h4.setC (i := i) (o := .lst l) (q := p) List.mem_cons_self (S.lt w1) (by rw [← S.len]; exact S.lt w1)
    rw [← w3] at h5
    have := putP_ok (l := r) (xs := xs') S1 (h5.less (B' := B) rfl fun q hq => List.mem_cons_of_mem _ hq) z2
    exact this
theorem v_nil : PA X [] (tPv X.K (pure [])) := PAimp pa_nil fun σ H Q ⟨B, G, e, S, l, e', he, k⟩ => by
  cases he
  exact k [] G H S (Same.refl _) rfl
theorem PvOk.mono : ∀ {l : List Pv} {xs : List V} {B : Bs} {e : Ev} {σ : L2.St} {G H : Hp}, PvOk K B e σ G H l xs → True := fun _ => trivial
theorem v_val {e : Expr} {es : List Expr} {i : Nat} {m : M D} {n : M (List Pv)} (hn : nst e = true) (he : PE X e (tV X.K m)) (hs : PA X es (tPv X.K n)) :
    PA X (e :: es) (tPv X.K (do let x ← m; let l ← n; pure (.val i x :: l))) := PAimp (pa_cons he hs (star1 hn)) fun σ H Q ⟨B, G, e, S, d, e', h, k⟩ => by
  obtain ⟨x, e1, h1, h2⟩ := bind_ok h
  obtain ⟨l, e2, h3, h4⟩ := bind_ok h2
  cases h4
  exact ⟨B, G, e, S, x, e1, h1, fun v G1 H1 S1 s1 r1 => ⟨B, G1, e1, S1, l, _, h3, fun vs G2 H2 S2 s2 r2 => k (v :: vs) G2 H2 S2 (s1.trans s2) ⟨v, vs, rfl, Rep.mono s2 x r1, r2⟩⟩⟩
theorem v_cel {e : Expr} {es : List Expr} {i : Nat} {m : M (List D)} {n : M (List Pv)} (hn : nst e = true) (he : PE X e (tFr X.K m)) (hs : PA X es (tPv X.K n)) :
    PA X (e :: es) (tPv X.K (do let x ← m; let l ← n; pure (.cel i x :: l))) := PAimp (pa_cons he hs (star1 hn)) fun σ H Q ⟨B, G, e, S, d, e', h, k⟩ => by
  obtain ⟨x, e1, h1, h2⟩ := bind_ok h
  obtain ⟨l, e2, h3, h4⟩ := bind_ok h2
  cases h4
  exact ⟨B, G, e, S, x, e1, h1, fun p xs G1 H1 S1 s1 f1 r1 => ⟨_, G1, e1, S1.hold f1, l, _, h3, fun vs G2 H2 S2 s2 r2 => k (.ref p :: vs) G2 H2 S2.free (s1.trans s2) ⟨p, xs, vs, rfl, FrOk.back S2 f1.b f1.k, r1.mono s2, r2⟩⟩⟩

/-! ### a, b = c, d -/
def bkS (sc : Scope) : ScopeKind := if sc.kind.isAnnotationScope = true then ScopeKind.function else sc.kind
def swC (sc : Scope) (ts vs : List Expr) : Option (Option (List Str)) :=
  if (!(ts.length == 2 || ts.length == 3) || vs.length != ts.length || bkS sc != ScopeKind.function) = true then some none
  else if (vs.any fun x => match x with | .Starred _ _ => true | _ => false) = true then some none
  else
    let line := ((ts.head?).map fun x => x.pos.line).getD 0
    let names := ts.filterMap fun x => match x with
      | .Name id pos => if (sc.names.lookup id == some NameKind.local && pos.line == line) = true then some id else none
      | _ => none
    if (names.length != ts.length || names.eraseDups.length != names.length) = true then some none
    else if vs.all (foldedForSure 8) = true then some none
    else if vs.all (constantsAlone 8) = true then none
    else some (some names)
theorem sw_eq {env : Env} {ts vs : List Expr} {kt k2 : Nat} {pt pt2 : Pos} {r : Option (List Str)} (h : swC env.scope ts vs = some r) : swappedStores [.Tuple ts kt pt] (.Tuple vs k2 pt2) env = pure r := by
  unfold swC at h
  unfold swappedStores
  dsimp only at h ⊢
  split at h
  · rename_i h1
    cases h
    exact if_pos h1
  · rename_i h1
    refine (if_neg h1).trans ?_
    split at h
    · rename_i h2
      cases h
      exact if_pos h2
    · rename_i h2
      refine (if_neg h2).trans ?_
      split at h
      · rename_i h3
        cases h
        exact if_pos h3
      · rename_i h3
        refine (if_neg h3).trans ?_
        split at h
        · rename_i h4
          cases h
          exact if_pos h4
        · rename_i h4
          refine (if_neg h4).trans ?_
          split at h
          · cases h
          · rename_i h5
            cases h
            exact if_neg h5
theorem sole {tg : Expr} {vs : List Expr} {k2 l : Nat} {pt2 : Pos} {env : Env} : swapsWithSole [tg] (.Tuple vs k2 pt2) l env = pure false := by
  unfold swapsWithSole
  rfl
theorem par_imp {n : M (List Pv)} : ∀ E σ H, tSt K fr (do let l ← n; putP l; pure .nx) E σ H → ∃ l, tPv K n σ H fun xs H1 => E.nx (setPs σ l xs) H1 := fun E σ H ⟨B, G, e, S, f, e', h, k⟩ => by
  obtain ⟨l, e1, h1, h2⟩ := bind_ok h
  obtain ⟨rfl, h3⟩ := nx_ok h2
  exact ⟨l, B, G, e, S, l, e1, h1, fun xs G1 H1 S1 s1 r1 => k _ G1 H1 (putP_ok S1 r1 h3) s1⟩
def Ps.slots : Ps → List Nat
  | .nil => []
  | .val i _ r => i :: r.slots
  | .cel i _ r => i :: r.slots
def PvM (n : M (List Pv)) (js : List Nat) : Prop := ∀ e l e', n e = .ok (l, e') → l.map Pv.slot = js
theorem par2_imp {n : M (List Pv)} {i j : Nat} (hn : PvM n [i, j]) : ∀ E σ H, tSt K fr (do let l ← n; putP l; pure .nx) E σ H → tPar i j (tPv K n) E σ H := fun E σ H ⟨B, G, e, S, f, e', h, k⟩ => by
  obtain ⟨l, e1, h1, h2⟩ := bind_ok h
  obtain ⟨rfl, h3⟩ := nx_ok h2
  refine ⟨B, G, e, S, l, e1, h1, fun xs G1 H1 S1 s1 r1 => ?_⟩
  have hs := hn _ _ _ h1
  match l, hs with
  | [a, b], hs =>
    have hs' : a.slot = i ∧ b.slot = j := by simpa using hs
    obtain ⟨ha, hb⟩ := hs'
    have len : ∃ u v, xs = [u, v] := by
      cases a with
      | val _ _ =>
        obtain ⟨u, xs', rfl, _, r1⟩ := r1
        cases b with
        | val _ _ =>
          obtain ⟨v, xs'', rfl, _, r1⟩ := r1
          exact ⟨u, v, by rw [show xs'' = [] from r1]⟩
        | cel _ _ =>
          obtain ⟨v, _, xs'', rfl, _, _, r1⟩ := r1
          exact ⟨u, _, by rw [show xs'' = [] from r1]⟩
      | cel _ _ =>
        obtain ⟨u, _, xs', rfl, _, _, r1⟩ := r1
        cases b with
        | val _ _ =>
          obtain ⟨v, xs'', rfl, _, r1⟩ := r1
          exact ⟨_, v, by rw [show xs'' = [] from r1]⟩
        | cel _ _ =>
          obtain ⟨v, _, xs'', rfl, _, _, r1⟩ := r1
          exact ⟨_, _, by rw [show xs'' = [] from r1]⟩
    obtain ⟨u, v, rfl⟩ := len
    have := k _ G1 H1 (putP_ok S1 r1 h3) s1
    refine ⟨u, v, rfl, ?_⟩
    rw [← ha, ← hb]
    exact this
theorem pv_len {e : Ev} {σ : L2.St} {G H : Hp} : ∀ {l : List Pv} {xs : List V} {B : Bs}, PvOk K B e σ G H l xs → xs.length = l.length
  | [], _, _, h => by rw [show _ = [] from h]; rfl
  | .val _ _ :: r, _, _, ⟨x, xs', h1, _, h3⟩ => by rw [h1, List.length_cons, List.length_cons, pv_len h3]
  | .cel _ _ :: r, _, _, ⟨p, ys, xs', h1, _, _, h4⟩ => by rw [h1, List.length_cons, List.length_cons, pv_len h4]
theorem par3_imp {n : M (List Pv)} {i j m : Nat} (hn : PvM n [i, j, m]) : ∀ E σ H, tSt K fr (do let l ← n; putP l; pure .nx) E σ H → tPar3 i j m (tPv K n) E σ H := fun E σ H ⟨B, G, e, S, f, e', h, k⟩ => by
  obtain ⟨l, e1, h1, h2⟩ := bind_ok h
  obtain ⟨rfl, h3⟩ := nx_ok h2
  refine ⟨B, G, e, S, l, e1, h1, fun xs G1 H1 S1 s1 r1 => ?_⟩
  have hs := hn _ _ _ h1
  have hl := pv_len r1
  have hl2 : l.length = 3 := by
    rw [← List.length_map (f := Pv.slot), hs]
    rfl
  match l, xs, hs, hl, hl2 with
  | [a, b, c], [u, v, w], hs, _, _ =>
    have hs' : a.slot = i ∧ b.slot = j ∧ c.slot = m := by simpa using hs
    obtain ⟨ha, hb, hc⟩ := hs'
    have := k _ G1 H1 (putP_ok S1 r1 h3) s1
    refine ⟨u, v, w, rfl, ?_⟩
    rw [← ha, ← hb, ← hc]
    exact this
/-- through a tuple of our own -/
def gNames : List Nat → TGs
  | [] => gNil
  | i :: r => gCons (gName i) (gNames r)
theorem gNames_of {l : List Pv} : ∀ {xs : List V} {σ : L2.St} {H : Hp} {Q : L2.St → Hp → Prop}, xs.length = l.length → Q (setPs σ l xs) H → gNames (l.map Pv.slot) xs σ H Q := by
  induction l with
  | nil =>
    intro xs σ H Q hl q
    cases xs with
    | nil => exact ⟨rfl, q⟩
    | cons _ _ => cases hl
  | cons p r ih =>
    intro xs σ H Q hl q
    cases xs with
    | nil => cases hl
    | cons x xs => exact ⟨x, xs, rfl, ih (Nat.succ.inj hl) q⟩
theorem parT_imp {n : M (List Pv)} {js : List Nat} (hn : PvM n js) (hl : js.length ≤ 9) : ∀ E σ H, tSt K fr (do let l ← n; putP l; pure .nx) E σ H → tAsg (tTup (tPv K n)) (gTup K js.length (gNames js)) E σ H := fun E σ H ⟨B, G, e, S, f, e', h, k⟩ => by
  obtain ⟨l, e1, h1, h2⟩ := bind_ok h
  obtain ⟨rfl, h3⟩ := nx_ok h2
  refine ⟨B, G, e, S, l, e1, h1, fun xs G1 H1 S1 s1 r1 => ?_⟩
  have hs := hn _ _ _ h1
  have hx := pv_len r1
  have hll : js.length = l.length := by rw [← hs, List.length_map]
  refine ⟨by rw [hx, ← hll]; exact Nat.le_trans hl (by decide), fun p hp => ?_⟩
  have g : Grow0 G1 H1 G1 (upd H1 p (.tup xs)) := Grow.allocH S1.gh hp
  have mono : ∀ {l : List Pv} {xs : List V} {B : Bs}, StOk K B e1 σ G1 H1 → PvOk K B e1 σ G1 H1 l xs → ∀ {H2 : Hp}, Grow0 G1 H1 G1 H2 → PvOk K B e1 σ G1 H2 l xs := by
    intro l
    induction l with
    | nil => exact fun _ h _ _ => h
    | cons a r ih =>
      intro xs B S h H2 g
      cases a with
      | val i d => obtain ⟨x, xs', z1, z2, z3⟩ := h; exact ⟨x, xs', z1, z2, ih S z3 g⟩
      | cel i d =>
        obtain ⟨q, ys, xs', z1, z2, z3, z4⟩ := h
        exact ⟨q, ys, xs', z1, ⟨g.same _ _ z2.h, z2.g, z2.b, z2.c, z2.k⟩, z3, ih (S.hold z2) z4 g⟩
  refine ⟨p, xs, rfl, SqT.of upd_same, hx.trans hll.symm, ?_⟩
  rw [← hs]
  exact gNames_of hx (k _ G1 _ (putP_ok (S1.grow g) (mono S1 r1 g) h3) s1)
/-! ### the statements -/
theorem s_par2 {x y : Str} {px py pt pos pt2 : Pos} {kt k2 i j : Nat} {a b : Expr} {n : M (List Pv)} (hc : X.calm = true) (sx : Sto X i x) (sy : Sto X j y) (hij : i ≠ j) (lx : X.env.scope.names.lookup x = some .local) (ly : X.env.scope.names.lookup y = some .local)
    (hsw : swC X.env.scope [.Name x px, .Name y py] [a, b] = some (some [x, y])) (hn : PvM n [i, j]) (ha : PA X [a, b] (tPv X.K n)) :
    PS X (.Assign [.Tuple [.Name x px, .Name y py] kt pt] (.Tuple [a, b] k2 pt2) pos) (tSt X.K fr (do let l ← n; putP l; pure .nx)) :=
  PSimp (ps_par hc sx.n sx.i sy.i hij lx ly ha (sw_eq hsw) sole) (par2_imp hn)
theorem s_par3 {x y z : Str} {px py pz pt pos pt2 : Pos} {kt k2 i j m : Nat} {a b c : Expr} {n : M (List Pv)} (hc : X.calm = true) (sx : Sto X i x) (sy : Sto X j y) (sz : Sto X m z) (hij : i ≠ j) (him : i ≠ m) (hjm : j ≠ m) (lx : X.env.scope.names.lookup x = some .local) (ly : X.env.scope.names.lookup y = some .local) (lz : X.env.scope.names.lookup z = some .local)
    (hsw : swC X.env.scope [.Name x px, .Name y py, .Name z pz] [a, b, c] = some (some [x, y, z])) (hn : PvM n [i, j, m]) (ha : PA X [a, b, c] (tPv X.K n)) :
    PS X (.Assign [.Tuple [.Name x px, .Name y py, .Name z pz] kt pt] (.Tuple [a, b, c] k2 pt2) pos) (tSt X.K fr (do let l ← n; putP l; pure .nx)) :=
  PSimp (ps_par3 hc sx.n sx.i sy.i sz.i hij him hjm lx ly lz ha (sw_eq hsw) sole) (par3_imp hn)
inductive Nms (X : Cx) : List Nat → List Expr → Prop
  | nil : Nms X [] []
  | cons {i : Nat} {x : Str} {p : Pos} {js : List Nat} {es : List Expr} (s : Sto X i x) (r : Nms X js es) : Nms X (i :: js) (.Name x p :: es)
theorem nms_g : ∀ {js : List Nat} {es : List Expr}, Nms X js es → PGs X es (gNames js) ∧ (assignEach es X.env).length = js.length ∧ List.findIdx? (fun x => x.1) (assignEach es X.env) = none
  | _, _, .nil => ⟨pgs_nil, rfl, rfl⟩
  | _, _, .cons s r => by
    obtain ⟨h1, h2, h3⟩ := nms_g r
    refine ⟨pgs_cons (pg_name s.n s.i s.l s.f) h1 rfl, ?_, ?_⟩
    · rw [asg1 rfl, List.length_cons, List.length_cons, h2]
    · rw [asg1 rfl, List.findIdx?_cons, h3]
      rfl
theorem s_parT {ts vs : List Expr} {pt pos pt2 : Pos} {kt k2 : Nat} {js : List Nat} {n : M (List Pv)} (hc : X.calm = true) (ht : Nms X js ts) (hl : js.length ≤ 9)
    (hsw : swC X.env.scope ts vs = some none) (hn : PvM n js) (ha : PA X vs (tPv X.K n)) :
    PS X (.Assign [.Tuple ts kt pt] (.Tuple vs k2 pt2) pos) (tSt X.K fr (do let l ← n; putP l; pure .nx)) := by
  obtain ⟨h1, h2, h3⟩ := nms_g ht
  exact PSimp (ps_asg (pe_tup ha) (pg_tup hc h1 h2 h3) sole (sw_eq hsw) rfl) (parT_imp hn hl)
end
end En

/-! En17b: i[k], i[l] = d, e. -/
namespace En
open PySem PySem.Spec PyProof.Rows L2
def setM (i : Nat) (n : M D) (d : D) : M Unit := do
  isC i
  let x ← n
  chg i (setOb x d)
section
variable {X : Cx} {fr : Bool}
theorem gset_ok {K : Fg} {B : Bs} {G H : Hp} {e e' : Ev} {σ : L2.St} {i : Nat} {n : M D} {d : D} {v : V} {Q : L2.St → Hp → Prop} (S1 : StOk K B e σ G H) (r1 : Rep K G d v) (h : setM i n d e = .ok ((), e')) (q : ∀ G' H', StOk K B e' σ G' H' → Same G G' → Q σ H') :
    gSub (tVar i) (tV K n) rSetL v σ H Q := by
  obtain ⟨_, e2, h2, h⟩ := bind_ok h
  obtain ⟨y, e3, h3, h4⟩ := bind_ok h
  obtain ⟨ee, k0, o0, hc⟩ := isC_ok h2
  simp only at ee
  subst ee
  obtain ⟨k1, o1, o', h5, h6, h7, h8⟩ := chg_ok h4
  cases o1 with
  | dic _ _ => cases y <;> cases h7
  | lst l =>
    cases y with
    | int z =>
      have h7' : (match ixNat l.length z with | some j => R.ok (.lst (l.set j d)) | none => R.bad) = R.ok o' := h7
      cases hj : ixNat l.length z with
      | none => rw [hj] at h7'; cases h7'
      | some j =>
        rw [hj] at h7'
        cases h7'
        obtain ⟨a, ha, _⟩ := S1.cel hc
        refine ⟨.ref a, ha, B, G, _, S1, .int z, e3, h3, fun u G2 H2 S2 s2 r2 => ?_⟩
        obtain ⟨a', y1, y2, ⟨xs, y3, y4⟩, _⟩ := S2.cel h5
        rw [ha] at y1
        cases y1
        refine ⟨a, xs, z, j, rfl, r2, y3, by rw [y4.length, ← ixNat_eq]; exact hj, ?_⟩
        obtain ⟨S3, s3⟩ := S2.write h5 h6 ha y3 (Reps.set (Rep.mono s2 d r1) j y4)
        rw [h8] at q
        exact q G2 _ S3 (s2.trans s3)
    | _ => cases h7
def set2M (i : Nat) (n1 n2 m1 m2 : M D) : M Fl := do
  let d1 ← m1
  let d2 ← m2
  setM i n1 d1
  setM i n2 d2
  pure .nx
theorem s_set2 {x : Str} {i : Nat} {e1 e2 k1 k2 : Expr} {kt kk : Nat} {p1 p2 q1 q2 pt pt2 pos : Pos} {m1 m2 n1 n2 : M D} (hc : X.calm = true) (hx : PE X (.Name x p1) (tVar i)) (hx2 : PE X (.Name x p2) (tVar i)) (hk1 : nix k1 = true) (hk2 : nix k2 = true)
    (ns1 : nst e1 = true) (ns2 : nst e2 = true) (he1 : PE X e1 (tV X.K m1)) (he2 : PE X e2 (tV X.K m2)) (hk1' : PE X k1 (tV X.K n1)) (hk2' : PE X k2 (tV X.K n2)) :
    PS X (.Assign [.Tuple [.Subscript (.Name x p1) k1 q1, .Subscript (.Name x p2) k2 q2] kt pt] (.Tuple [e1, e2] kk pt2) pos) (tSt X.K fr (set2M i n1 n2 m1 m2)) := by
  have hsw : swappedStores [.Tuple [.Subscript (.Name x p1) k1 q1, .Subscript (.Name x p2) k2 q2] kt pt] (.Tuple [e1, e2] kk pt2) X.env = pure none := by
    unfold swappedStores
    dsimp only
    split
    · rfl
    · split <;> rfl
  refine PSimp (ps_asg (pe_tup (pa_cons he1 (pa_cons he2 pa_nil (star1 ns2)) (star1 ns1))) (pg_tup hc (pgs_cons (pg_sub hx hk1' set_list (fun v => nix_asg hk1 v)) (pgs_cons (pg_sub hx2 hk2' set_list (fun v => nix_asg hk2 v)) pgs_nil rfl) rfl) rfl rfl) sole hsw rfl) fun E σ H ⟨B, G, e, S, f, e', h, k⟩ => ?_
  obtain ⟨d1, c1, h1, h⟩ := bind_ok h
  obtain ⟨d2, c2, h2, h⟩ := bind_ok h
  obtain ⟨_, c3, h3, h⟩ := bind_ok h
  obtain ⟨rfl, h4⟩ := nx_ok h
  refine ⟨B, G, e, S, d1, c1, h1, fun v1 G1 H1 S1 s1 r1 => ⟨B, G1, c1, S1, d2, c2, h2, fun v2 G2 H2 S2 s2 r2 => ⟨(by show 2 ≤ sizeLine; rw [sizeLine_eq]; decide), fun p hp => ?_⟩⟩⟩
  have g : Grow0 G2 H2 G2 (upd H2 p (.tup [v1, v2])) := Grow.allocH S2.gh hp
  refine ⟨p, [v1, v2], rfl, SqT.of upd_same, rfl, v1, [v2], rfl, ?_⟩
  refine gset_ok (S2.grow g) (Rep.mono s2 d1 r1) h3 fun G3 H3 S3 s3 => ⟨v2, [], rfl, ?_⟩
  exact gset_ok S3 (Rep.mono s3 d2 r2) h4 fun G4 H4 S4 s4 => ⟨rfl, k σ G4 H4 S4 (((s1.trans s2).trans s3).trans s4)⟩
end
end En

set_option maxHeartbeats 1000000
/-! EnX1: an exception that is caught and kept in a name. -/
namespace En
open PySem PySem.Spec PyProof.Rows L2

theorem exT_ok {P : Program} {w : World} {H : Hp} {h : Heap} {a : Addr} {cls : Value} {oe : Obj} {vs : Array Value} (e : h.get? a = some oe) (z : Zc cls none oe) (d : oe.data = .fields vs) : ObjOk P w H h a (ExT cls a) :=
  ⟨⟨oe, vs, e, z, d⟩, ⟨oe, e⟩, fun _ _ ⟨o, v, q, r⟩ k => ⟨o, v, k o q, r⟩⟩
section
variable {X : Cx} {pins : List (Addr × Obj)} {σ : L2.St} {H : Hp} {s : Shared}
/-- an object that was not tracked is tracked from now on -/
theorem inv_track {a : Addr} {o : HO} (I : Inv X pins σ H s) (na : H a = none) (n0 : X.s_0.heap.get? a = none) (new : ObjOk X.prog X.w (upd H a o) s.heap a o) (nL : a ≠ X.env.locals) (nC : ∀ x c, X.env.cells.lookup x = some c → c ≠ a)
    (nP : ∀ p ∈ X.pn ++ pins, p.1 ≠ a) : Inv X pins σ (upd H a o) s := by
  have ne : ∀ b u, H b = some u → b ≠ a := fun b u e => ne_of_none e na
  refine ⟨I.ok, I.os, I.bare, ⟨I.base.keep, I.base.slot, fun b u e n hx => ?_, I.base.there, fun b xs e => ?_, fun b u xs e => ?_, fun b ps e => ?_⟩, I.loc, I.cell, ?_, fun x c e => ?_, fun p hp => ?_, I.hok.laidN (fun _ _ q => q) na new, I.len⟩
  · rw [upd_ne (fun z => by rw [z, n0] at e; cases e)]
    exact I.base.free b u e n hx
  · have q := I.base.tups b xs e
    rw [upd_ne (ne _ _ q)]
    exact q
  · have q := I.base.frzs b u xs e
    rw [upd_ne (ne _ _ q)]
    exact q
  · obtain ⟨m, q⟩ := I.base.tbls b ps e
    exact ⟨m, by rw [upd_ne (ne _ _ q)]; exact q⟩
  · rw [upd_ne (Ne.symm nL)]
    exact I.free
  · rw [upd_ne (nC x c e)]
    exact I.freeC x c e
  · obtain ⟨e, n, r⟩ := I.pin p hp
    exact ⟨e, by rw [upd_ne (nP p hp)]; exact n, r⟩
/-- into the suite, with no pin -/
theorem inv_suite {a : Addr} (I : Inv X pins σ H s) : Inv (X.suite a (X.pn ++ pins)) [] σ H s :=
  ⟨I.ok.suite _ _, I.os, I.bare, I.base, I.loc, I.cell, I.free, I.freeC, fun p hp => I.pin p (by rw [List.append_nil] at hp; exact hp), I.hok, I.len⟩
theorem inv_unsuite {a : Addr} (I : Inv (X.suite a (X.pn ++ pins)) [] σ H s) (ok : X.Ok) : Inv X pins σ H s :=
  ⟨ok, I.os, I.bare, I.base, I.loc, I.cell, I.free, I.freeC, fun p hp => I.pin p (by rw [List.append_nil]; exact hp), I.hok, I.len⟩
end

/-- what 'except x as n: m = n' wishes of an exception of the body: slot i is n's, slot j m's -/
def wKeep (K : PySem.W.Frag) (c : Value) (i j : Nat) (D : Ends) : WX := fun cls d σ H =>
  PySem.W.exmOne K cls c = some true ∧ d = none ∧ ∀ a, H a = none → D.nx (((σ.set i (some (.ref a))).set j (some (.ref a))).set i none) (upd H a (ExT cls a))
section
variable {X : Cx} {x n m : Str} {c : Value} {i j : Nat} {body : List Stmt} {np pos pos' p3 p4 p5 : Pos} {tb : WX → TS}
theorem ps_try_keep (hs : X.stack = X.env :: X.outer) (hf : X.env.frame = some X.env.locals) (hex : X.ex = []) (hN : X.N.Nodup) (hi : X.N[i]? = some n) (hln : X.env.kindOf n = some .local) (hc : Names X x c)
    (stj : Sto X j m) (hvis : Vis X.env.scope n) (hdb : (n == ("__debug__" : Str)) = false) (hcd : (n == ("__classdict__" : Str)) = false)
    (hb : ∀ (W : WX) (pn : List (Addr × Obj)) (xe : Value → Shared → Prop), Takes (X.tr pn xe) W → PassesOwn (model X.prog X.w) X.A X.env xe → PSs (X.tr pn xe) body (tb W)) :
    PS X (.Try body [.ExceptHandler (some (.Name x np)) (some n) [.Assign [.Name m p3] (.Name n p4) p5] pos'] [] [] pos) (fun D σ H => tb (wKeep X.K c i j D) D σ H) := by
  refine ⟨fun pins s σ H D I h => ?_⟩
  have ok := I.ok
  have hfr : X.A.frames = some (X.env :: X.outer) := by rw [ok.frames, hs]
  have hloc : Loc X.env.scope n := .inl hln
  refine wpAny_Try_except ?_
  refine wpAny_mono ((hb (wKeep X.K c i j D) (X.pn ++ pins) (fun e s₁ => wpAny (model X.prog X.w) X.A (noteFrame e X.env) (fun _ s₂ => wpAny (model X.prog X.w) X.A (setFlight e none) (fun _ s₃ =>
    wpAny (model X.prog X.w) X.A (handleBy e X.env [.ExceptHandler (some (.Name x np)) (some n) [.Assign [.Name m p3] (.Name n p4) p5] pos']) (SP X pins D) X.xe s₃) X.xe s₂) X.xe s₁) (fun u s' xx => ?_) PassesOwn.looking).run [] s σ H D (I.toTry _) h) (fun f s1 hsp => ?_) (fun e s1 he => he)
  · obtain ⟨a, B, sI, pins', σ', H', cls, d, rfl, J', nb, up, sky, na, os, ag, hb1, rfl, hyes⟩ := xx
    have J : Inv X pins σ' H' sI := J'.ofTry ok
    have sky' : Sky B (X.env :: X.outer) a (Zc cls none) X.env.locals s'.heap := by rw [← hs]; exact sky
    show wpAny (model X.prog X.w) X.A (noteFrame (.ref a) X.env) _ _ _
    refine Sky.land Zc.steady hfr hf sky' fun h3 fl3 up3 => ?_
    have J3 : Inv X pins σ' H' { s' with heap := h3 } := J.landed nb fl3.1 (up.trans up3) os ag
    obtain ⟨oe3, vs3, he3, hz3, hd3⟩ := fl3.there
    have notFr : ∀ {h : Heap} {o : Obj} {vs : Array Value}, h.FunFrames B (X.env :: X.outer) → h.get? a = some o → o.data = .fields vs → a ∉ frs (X.env :: X.outer) := fun {h o vs} ff e dd hm => by
      obtain ⟨_, o', e', hnf⟩ := ff.mem hm
      rw [e] at e'; cases e'
      exact hnf _ dd
    have nfr := notFr fl3.2.2.1 he3 hd3
    have nL : a ≠ X.env.locals := fun z => nfr (List.mem_filterMap.mpr ⟨X.env, List.mem_cons_self, by rw [hf, z]⟩)
    have nI : ∀ b o, sI.heap.get? b = some o → b ≠ a := fun b o e z => by
      subst z
      have := nb b o e (by rw [hs]; exact nfr)
      rw [fl3.2.1] at this
      cases this
    have n0 : X.s_0.heap.get? a = none := by
      cases e : X.s_0.heap.get? a with
      | none => rfl
      | some o =>
        obtain ⟨o', e'⟩ := J.base.there a o e (by rw [hex]; exact fun z => nomatch z)
        exact absurd rfl (nI a o' e')
    have nC : ∀ x c, X.env.cells.lookup x = some c → c ≠ a := fun x c e => by
      obtain ⟨v, o, ho, _⟩ := J.cell x c e
      exact nI c o ho
    have nP : ∀ p ∈ X.pn ++ pins, p.1 ≠ a := fun p hp => nI p.1 p.2 (J.pin p hp).1
    refine wpAny_handleBy_cons (codeAny_handlers_test ?_) (by intro q; cases q)
    have LT : PySem.W.Looks (model X.prog X.w) h3 (typeOf (.ref a)) cls := fun A Q E s k q => wpAny_typeOf_ref (k _ _ he3) (by rw [hz3.1]; exact q)
    have LM := PySem.W.exm_one (M := model X.prog X.w) (J3.kIn) LT hb1
    have S3 := inv_suite (a := a) J3
    have test : ∀ {Q : Value → Shared → Prop} {E : Value → Shared → Prop}, Q c { s' with heap := h3 } → wpAny (model X.prog X.w) (X.A.mark (some (.ref a))) (eval (.Name x np) X.env) Q E { s' with heap := h3 } := fun {Q E} q => by
      obtain ⟨hg, hdbg, hm | ⟨hm, hv, hnn⟩⟩ := hc
      · exact ld_glob (X := X.suite a (X.pn ++ pins)) S3 hg hm q hdbg
      · exact ld_blt (X := X.suite a (X.pn ++ pins)) S3 hg hm hv q hnn hdbg
    refine test (LM.here ?_)
    refine codeAny_handlers_suite_as ?_
    refine HandSPX.lands_againZ fl3 fun h4 fl4 up4 => ?_
    have J4 : Inv X pins σ' H' { s' with heap := h4 } := J.landed nb fl4.1 ((up.trans up3).trans up4) os ag
    obtain ⟨oe4, vs4, he4, hz4, hd4⟩ := fl4.there
    have T4 : Inv X pins σ' (upd H' a (ExT cls a)) { s' with heap := h4 } := inv_track J4 na n0 (exT_ok he4 hz4 hd4) nL nC nP
    have S4 := inv_suite (a := a) T4
    refine store_ok (X := X.suite a (X.pn ++ pins)) (v := .ref a) S4 hN hi hloc rfl (fun s5 S5 => ?_) (.inr hln)
    have key : PSs (X.suite a (X.pn ++ pins)) [.Assign [.Name m p3] (.Name n p4) p5] (tAsg (tVar i) (gName j)) := pss_one (ps_set (X := X.suite a (X.pn ++ pins)) stj.n stj.i stj.l (pe_var (X := X.suite a (X.pn ++ pins)) hi hvis hdb hcd) rfl stj.f)
    have q5 : tAsg (tVar i) (gName j) { nx := fun σ' H' => D.nx (σ'.set i none) H', rt := D.rt, bk := fun σ' H' => D.bk (σ'.set i none) H', ct := fun σ' H' => D.ct (σ'.set i none) H' } (σ'.set i (some (.ref a))) (upd H' a (ExT cls a)) := by
      have hlt : i < σ'.length := by rw [J.len]; exact (List.getElem?_eq_some_iff.mp hi).1
      exact ⟨.ref a, by rw [List.getElem?_set_self hlt], hyes a na⟩
    refine wpAny_mono (key.run [] s5 _ _ _ S5 q5) (fun f s6 hsp => ?_) (fun _ _ z => False.elim z)
    have end_ : ∀ {σ6 : L2.St} {H6 : Hp} {Q : Shared → Prop}, Inv (X.suite a (X.pn ++ pins)) [] σ6 H6 s6 → (∀ s7, Inv X pins (σ6.set i none) H6 s7 → Q s7) →
        wpAny (model X.prog X.w) X.A (do bindName X.env n .none; unbindBehindTheSuite X.env n pos') (fun _ s7 => Q s7) X.xe s6 := fun {σ6 H6 Q} S6 hq => gone_ok (inv_unsuite S6 ok) hN hi hln hq
    cases f with
    | next =>
      obtain ⟨σ6, H6, S6, q6⟩ := hsp
      exact end_ S6 fun s7 J7 => ⟨_, _, J7, q6⟩
    | brk =>
      obtain ⟨σ6, H6, S6, q6⟩ := hsp
      exact end_ S6 fun s7 J7 => ⟨_, _, J7, q6⟩
    | cont =>
      obtain ⟨σ6, H6, S6, q6⟩ := hsp
      exact end_ S6 fun s7 J7 => ⟨_, _, J7, q6⟩
    | ret u =>
      obtain ⟨v6, σ6, H6, S6, r6, q6⟩ := hsp
      exact end_ S6 fun s7 J7 => ⟨_, _, _, J7, r6, q6⟩
  · cases f with
    | next =>
      obtain ⟨σ', H', J', q⟩ := hsp
      exact wpAny_execs_nil ⟨σ', H', J'.ofTry ok, q⟩
    | brk =>
      obtain ⟨σ', H', J', q⟩ := hsp
      exact ⟨σ', H', J'.ofTry ok, q⟩
    | cont =>
      obtain ⟨σ', H', J', q⟩ := hsp
      exact ⟨σ', H', J'.ofTry ok, q⟩
    | ret u =>
      obtain ⟨v, σ', H', J', r, q⟩ := hsp
      exact ⟨v, σ', H', J'.ofTry ok, r, q⟩
end

/-! ### isinstance of an exception that is kept -/
/-- isinstance(e, c) -/
def rIsX (K : PySem.W.Frag) : List V → Hp → VK → Prop := fun xs H Q => ∃ (a D : Addr) (c : V) (cv : Value) (b : Bool), xs = [.ref a, c] ∧ H a = some (ExT (.ref D) a) ∧ ExcC K D ∧ (∀ u, RelV c u → u = cv) ∧ PySem.W.kitOne K (.ref D) cv = some b ∧ Q (.bl b) H
theorem call_isX {X : Cx} : CallR X (.builtin "isinstance") (rIsX X.K) := by
  intro pins s σ H xs us Q I r h
  obtain ⟨a, D, c, cv, b, rfl, ha, C, hcv, e, q⟩ := h
  cases r with
  | cons rx rr =>
    cases rr with
    | cons rt rr =>
      cases rr
      cases rx
      have ec := hcv _ rt
      subst ec
      obtain ⟨⟨oe, vs, hget, hz, hv⟩, _, _⟩ := I.hok a _ ha
      have J : PySem.W.InstAt s.heap a oe D none := by
        obtain ⟨oc, od, oda, osl⟩ := oe
        obtain ⟨h1, h2⟩ := hz
        dsimp only at h1 h2 hv
        subst h1 h2 hv
        exact ⟨hget, rfl, rfl, trivial⟩
      exact PySem.W.kia_one (PySem.W.handS_kitx_exc C.hg C.hk C.hs C.hd C.ha C.hn C.ht C.hm) I.kIn J e (fun z => nomatch z) fun tk => ⟨.bl b, H, I.kept (t' := tk) fun _ _ z => z, rfl, q⟩

/-! ### X(), an own exception class without own __init__ -/
theorem pmk_own0 {X : Cx} {C : Addr} {bmB : List Value} {B newId initId : String} {x : Str} {p pos : Pos} (F : ExcBaseFacts B newId initId bmB) (q : PySem.W.excIn X.K C bmB newId = true) (gC : X.mg x = some (.ref C)) (kC : PySem.W.keepIn X.K (.ref C) = true) (r : Raises X (.ref C)) (hg : Gl X x)
    (hdb : (x == ("__debug__" : Str)) = false := by decide) : PMk X (.Call (.Name x p) [] [] pos) (fun _ H Q => Q (.ref C) none H) := by
  intro pins s σ H Q I h
  refine wpAny_Call_Name_kw (ld_glob I hg gC ?_ hdb)
  refine PySem.W.callWith_K0 I.kIn kC ?_
  show wpAny _ _ (call (.ref C) []) _ _ _
  obtain ⟨bm, N, nm, qn, bs, hdct, sn, sub, ab, col, dd, k0, k1, k2, k3, k5, mN, hC, hN, hni, T⟩ := exc_obj I.kIn q
  refine wpAny_call_exc_subT F T hC hN hni (fun h' e hm => ?_) (by show 0 ≤ sizeLine; omega)
  exact mk_of I hm r h (I.hok.gone hm.new)
end En

set_option maxHeartbeats 1000000
/-! EnX2: exceptions: the engine's forms. -/
namespace En
open PySem PySem.Spec PyProof.Rows L2

/-- what is known of a class of exceptions -/
structure XcOk (K : Fg) (mg : Str → Option Value) (x : Str) (id : Nat) (c : Addr) : Prop where
  here : At K id c
  mg : mg x = some (.ref c)
  kp : PySem.W.keepIn K (.ref c) = true
  ex : ∃ (bmB : List Value) (B newId initId : String), ExcBaseFacts B newId initId bmB ∧ PySem.W.excIn K c bmB newId = true
  sub : PySem.W.subIn K (.ref c) (.type "BaseException") = some true
  ty : PySem.W.typeIn K (.ref c) = some (.type "type")
  self : PySem.W.exmOne K (.ref c) (.ref c) = some true
/-- what isinstance tells of an exception's class -/
structure XiOk (K : Fg) (mg : Str → Option Value) (x : Str) (t : List (Nat × Bool)) : Prop where
  mg : mg x = none
  b : ∃ nm : String, bootBuiltins x = some (.type nm) ∧ ∀ c b, t.lookup c = some b → ∃ cc, At K c cc ∧ PySem.W.kitOne K (.ref cc) (.type nm) = some b ∧ ExcC K cc

section
variable {K : Fg} {B : Bs} {e : Ev} {σ : L2.St} {G H G' H' : Hp}
theorem StOk.putX (S : StOk K B e σ G H) {i c : Nat} {a cc : Addr} {r : Unit × Ev} (h : wr i (.exn c) e = .ok r) (tt : At K c cc) (q : G a = some (ExT (.ref cc) a)) : StOk K B r.2 (σ.set i (some (.ref a))) G H := by
  obtain ⟨t, h1, h2, h3⟩ := wr_ok h
  rw [h3]
  exact S.store (S.lt h1) (S.np h1 h2) ⟨a, cc, rfl, tt, q⟩ fun k o a w => nomatch w
theorem StOk.del (S : StOk K B e σ G H) {i : Nat} {r : Unit × Ev} (h : wr i .no e = .ok r) : StOk K B r.2 (σ.set i none) G H := by
  obtain ⟨t, h1, h2, h3⟩ := wr_ok h
  rw [h3]
  exact S.store (S.lt h1) (S.np h1 h2) (s := .no) trivial fun k o a w => nomatch w
theorem StOk.exn (S : StOk K B e σ G H) {i c : Nat} (h : e[i]? = some (.exn c)) : ∃ a cc, σ[i]? = some (some (.ref a)) ∧ At K c cc ∧ H a = some (ExT (.ref cc) a) := by
  obtain ⟨v, h1, a, cc, rfl, t, h2⟩ := S.at h
  exact ⟨a, cc, h1, t, S.gh _ _ h2⟩
end

/-! ### is None, isinstance -/
theorem rdX_ok {neg : Bool} {i : Nat} {e e' : Ev} {d : D} (h : rdX neg i e = .ok (d, e')) : e' = e ∧ ((∃ c, e[i]? = some (.exn c) ∧ d = .bl neg) ∨ (e[i]? = some (.val .non) ∧ d = .bl (!neg))) := by
  unfold rdX at h
  split at h
  · rename_i c q
    cases h
    exact ⟨rfl, .inl ⟨c, q, rfl⟩⟩
  · rename_i q
    cases h
    exact ⟨rfl, .inr ⟨q, rfl⟩⟩
  · cases h
theorem rdXi_ok {i : Nat} {tb : List (Nat × Bool)} {e e' : Ev} {d : D} (h : rdXi i tb e = .ok (d, e')) : e' = e ∧ ∃ c b, e[i]? = some (.exn c) ∧ tb.lookup c = some b ∧ d = .bl b := by
  unfold rdXi at h
  split at h
  · rename_i c q
    split at h
    · rename_i b q2
      cases h
      exact ⟨rfl, c, b, q, q2, rfl⟩
    · cases h
  · cases h
section
variable {X : Cx}
theorem xno_imp {neg : Bool} {i : Nat} : ∀ σ H Q, tV X.K (rdX neg i) σ H Q → tVar i σ H fun x H1 => Q (.bl (if neg then !decide (x = V.non) else decide (x = V.non))) H1 := fun σ H Q ⟨B, G, e, S, d, e', h, k⟩ => by
  obtain ⟨rfl, h1⟩ := rdX_ok h
  rcases h1 with ⟨c, q, rfl⟩ | ⟨q, rfl⟩
  · obtain ⟨a, cc, q1, qt, q2⟩ := S.exn q
    refine ⟨.ref a, q1, ?_⟩
    have e1 : decide (V.ref a = V.non) = false := decide_eq_false fun z => nomatch z
    show Q (.bl (if neg then !decide (V.ref a = V.non) else decide (V.ref a = V.non))) H
    rw [e1]
    have := k (.bl neg) G H S (Same.refl _) rfl
    cases neg <;> exact this
  · obtain ⟨v, q1, q2⟩ := S.val q
    have e2 : v = V.non := q2
    subst e2
    refine ⟨.non, q1, ?_⟩
    have e1 : decide (V.non = V.non) = true := decide_eq_true rfl
    show Q (.bl (if neg then !decide (V.non = V.non) else decide (V.non = V.non))) H
    rw [e1]
    have := k (.bl (!neg)) G H S (Same.refl _) rfl
    cases neg <;> exact this
theorem w_xno {neg : Bool} {i : Nat} {a : Expr} {pos pos' : Pos} {j : Nat} {op : CmpOp} (ho : (if neg then op == .IsNot else op == .Is) = true) (ha : PE X a (tVar i)) :
    PE X (.Compare a [op] [.Constant .none j pos'] pos) (tV X.K (rdX neg i)) ∧ PT X (.Compare a [op] [.Constant .none j pos'] pos) (tTs X.K (evB (rdX neg i))) := by
  have bl : ∀ e d e', rdX neg i e = .ok (d, e') → isBl d = true := fun e d e' h => by
    obtain ⟨_, h1⟩ := rdX_ok h
    rcases h1 with ⟨_, _, rfl⟩ | ⟨_, rfl⟩ <;> rfl
  cases neg with
  | false =>
    have e : op = .Is := eq_of_beq ho
    subst e
    refine ⟨PEimp (pe_cmpR op_isN ha pe_non rfl) fun σ H Q h => ?_,
      PTimp (pt_cmpR op_isN ha pe_non rfl) fun σ H Q h => ?_⟩
    · obtain ⟨x, q1, q2⟩ := xno_imp σ H Q h
      exact ⟨x, q1, rfl, q2⟩
    · obtain ⟨x, q1, q2⟩ := xno_imp σ H _ (tV_test bl σ H Q h)
      exact ⟨x, q1, rfl, q2⟩
  | true =>
    have e : op = .IsNot := eq_of_beq ho
    subst e
    refine ⟨PEimp (pe_cmpR op_notN ha pe_non rfl) fun σ H Q h => ?_,
      PTimp (pt_cmpR op_notN ha pe_non rfl) fun σ H Q h => ?_⟩
    · obtain ⟨x, q1, q2⟩ := xno_imp σ H Q h
      exact ⟨x, q1, rfl, q2⟩
    · obtain ⟨x, q1, q2⟩ := xno_imp σ H _ (tV_test bl σ H Q h)
      exact ⟨x, q1, rfl, q2⟩
theorem w_xis {i : Nat} {tb : List (Nat × Bool)} {p p1 p2 pos : Pos} {x y z : Str} (b : Bi X x (.builtin "isinstance")) (hy : PE X (.Name y p1) (tVar i)) (hz : XiOk X.K X.mg z tb) (g : Gl X z) (n : z ≠ Str.ofString "__name__" ∧ (z == Str.ofString "__debug__") = false) :
    PE X (.Call (.Name x p) [.Name y p1, .Name z p2] [] pos) (tV X.K (rdXi i tb)) := by
  obtain ⟨nm, hb, ht⟩ := hz.b
  refine PEimp (w_bi b.f (call_isX (X := X)) b.g b.m b.b b.n rfl (pa_cons hy (pa_cons (pe_bltn (v := .ty nm) g hz.mg hb rfl n.1 n.2) pa_nil rfl) rfl)) fun σ H Q ⟨B, G, e, S, d, e', h, k⟩ => ?_
  obtain ⟨rfl, c, bb, q1, q2, rfl⟩ := rdXi_ok h
  obtain ⟨a, cc, q3, qt, q4⟩ := S.exn q1
  obtain ⟨cc', t', z1, z2⟩ := ht c bb q2
  have ec := t'.uniq qt
  subst ec
  exact ⟨.ref a, q3, a, cc', .ty nm, .type nm, bb, rfl, q4, z2, fun u r => r, z1, k (.bl bb) G H S (Same.refl _) rfl⟩
end

/-! ### a def that may raise -/
def spX (K : Fg) (cf : CF) (id : Nat) (F : Fn) : Sp := fun vs H Q E => vs.length = F.np ∧
  ∃ G l, Same G H ∧ Reps K G l vs ∧ ((∃ d o', cf id none l = .ok (d, o') ∧ RetOk K F.fr G H d Q) ∨ (∃ c cc, cf id none l = .exc c [] ∧ At K c cc ∧ ∀ G' H', Grow0 G H G' H' → E (.ref cc) none H'))
structure CalX (X : Cx) (cf : CF) (x : Str) (id : Nat) (F : Fn) : Prop where
  ex : ∃ f fd ps k, X.mg x = some (.ref f) ∧ PySem.W.keepIn X.K (.ref f) = true ∧ Binds X.K fd ps [] ∧ FnOk X.prog X.w X.K X.mg X.base (L2.CX X.prog X.w) k f fd ps (spX X.K cf id F) ∧ Room k X.A
  g : Gl X x
  n : (x == Str.ofString "__debug__") = false
section
variable {X : Cx} {W : WX}
def tXc (K : Fg) (cf : CF) (id : Nat) (F : Fn) (n : M (List D)) (W : WX) : TE := fun σ H Q => tAr K n σ H fun vs H1 => spX K cf id F vs H1 Q (WE W σ)
theorem w_callX {x : Str} {id : Nat} {F : Fn} {cf : CF} {p pos : Pos} {ex : Expr} {es : List Expr} {n : M (List D)} (tk : Takes X W) (c : CalX X cf x id F) (ns : (ex :: es).all nst = true) (ha : PA X (ex :: es) (tAr X.K n)) :
    PE X (.Call (.Name x p) (ex :: es) [] pos) (tXc X.K cf id F n W) := by
  obtain ⟨f, fd, ps, k, h1, h2, h3, h4, h5⟩ := c.ex
  have ns' := ns
  rw [List.all_cons, Bool.and_eq_true] at ns'
  exact pe_callS h4 h5 c.g h1 h2 h3 (fun σ => passAt tk σ) ha c.n (star1 ns'.1) (star_any ns'.2)
def tXv (K : Fg) (cf : CF) (id : Nat) (F : Fn) (n : M (List D)) (W : WX) : Option (M (List D)) → TE
  | none => tXc K cf id F n W
  | some r => tLst (tCons (tXc K cf id F n W) (tAr K r))
theorem set3 {σ : L2.St} {i j : Nat} {v : Option V} : ((σ.set i v).set j v).set i none = (σ.set j v).set i none := by
  apply List.ext_getElem?
  intro q
  by_cases h1 : i = q
  · subst h1
    by_cases hl : i < σ.length
    · rw [List.getElem?_set_self (by simpa using hl), List.getElem?_set_self (by simpa using hl)]
    · rw [List.getElem?_eq_none (by simpa using hl), List.getElem?_eq_none (by simpa using hl)]
  · rw [List.getElem?_set_ne h1, List.getElem?_set_ne h1]
    by_cases h2 : j = q
    · subst h2
      by_cases hl : j < σ.length
      · rw [List.getElem?_set_self (by simpa using hl), List.getElem?_set_self (by simpa using hl)]
      · rw [List.getElem?_eq_none (by simpa using hl), List.getElem?_eq_none (by simpa using hl)]
    · rw [List.getElem?_set_ne h2, List.getElem?_set_ne h2, List.getElem?_set_ne h1]
theorem s_tryX {S0 : Su} {F : Fn} {f : Nat} {x m n told : Str} {i j g : Nat} {id : Nat} {c : Addr} {v : Expr} {np pos pos' p1 p2 p3 p4 p5 : Pos} {an : M (List D)} {w : Option (M (List D))} {fr : Bool}
    (hs : X.stack = X.env :: X.outer) (hf : X.env.frame = some X.env.locals) (hex : X.ex = []) (hg : X.N[g]? = some n) (hln : X.env.scope.names.lookup n = some .local) (hkn : X.env.kindOf n = some .local) (hc : Names X x (.ref c)) (hxc : XcOk X.K X.mg x id c)
    (sti : Sto X i told) (stj : Sto X j m) (hdb : (n == ("__debug__" : Str)) = false) (hcd : (n == ("__classdict__" : Str)) = false) (hnc : ncmp v = true) (hl : lenIs an F.np)
    (hv : ∀ (W : WX) (pn : List (Addr × Obj)) (xe : Value → Shared → Prop), Takes (X.tr pn xe) W → PE (X.tr pn xe) v (tXv X.K S0.cf f F an W w)) :
    PS X (.Try [.Assign [.Name told p1] v p2] [.ExceptHandler (some (.Name x np)) (some n) [.Assign [.Name m p3] (.Name n p4) p5] pos'] [] [] pos) (tSt X.K fr (tryM S0 i f an w j g id)) := by
  refine PSimp (ps_try_keep (tb := fun W => tAsg (tXv X.K S0.cf f F an W w) (gName i)) hs hf hex sti.n hg hkn hc stj (.inl hln) hdb hcd (fun W pn xe tk hp => pss_one ?_)) fun D σ H ⟨B, G, e, S, fl, e', h, k⟩ => ?_
  · have st' : Sto (X.tr pn xe) i told := ⟨sti.n, sti.i, sti.l, sti.f⟩
    exact s_set st' hnc (hv W pn xe tk)
  · obtain ⟨l, e1, h1, h2⟩ := bind_ok h
    unfold catchM at h2
    have hlen := hl _ _ _ h1
    -- how it ends
    have args : ∀ {Q : VK}, (∀ vs G1 H1, StOk X.K B e1 σ G1 H1 → Same G G1 → Reps X.K G1 l vs → spX X.K S0.cf f F vs H1 Q (WE (wKeep X.K (.ref c) g j D) σ)) → tXc X.K S0.cf f F an (wKeep X.K (.ref c) g j D) σ H Q := fun {Q} q => ⟨B, G, e, S, l, e1, h1, fun vs G1 H1 S1 s1 r1 => q vs G1 H1 S1 s1 r1⟩
    show tXv X.K S0.cf f F an (wKeep X.K (.ref c) g j D) w σ H fun x H1 => D.nx (σ.set i (some x)) H1
    have bad : ∀ c', S0.cf f none l = .exc c' [] → ∀ {Q : VK} {vs : List V} {G1 H1 : Hp}, StOk X.K B e1 σ G1 H1 → Same G G1 → Reps X.K G1 l vs → spX X.K S0.cf f F vs H1 Q (WE (wKeep X.K (.ref c) g j D) σ) := fun c' hc' {Q vs G1 H1} S1 s1 r1 => by
      rw [hc'] at h2
      dsimp only at h2
      split at h2
      · rename_i hcc
        subst hcc
        obtain ⟨_, e2, h3, h4⟩ := bind_ok h2
        obtain ⟨_, e3, h5, h6⟩ := bind_ok h4
        cases h6
        refine ⟨by rw [r1.length, hlen], G1, l, S1.gh, r1, .inr ⟨c', c, hc', hxc.here, fun G2 H2 g2 => ⟨hxc.self, rfl, fun a na => ?_⟩⟩⟩
        rw [set3]
        have S2 := S1.grow g2
        have S3 := S2.grow (Grow.alloc (o := ExT (.ref c) a) S2.gh na)
        have S4 := S3.putX h3 (a := a) hxc.here upd_same
        have S5 := S4.del h5
        exact k _ _ _ S5 ((s1.trans g2.g).trans (same_upd (none_of_same S2.gh na)))
      · cases h2
    cases hcf : S0.cf f none l with
    | bad => rw [hcf] at h2; cases h2
    | exc c' fs =>
      cases fs with
      | cons _ _ => rw [hcf] at h2; cases h2
      | nil =>
        cases w with
        | none => exact args fun vs G1 H1 S1 s1 r1 => bad c' hcf S1 s1 r1
        | some r => exact args fun vs G1 H1 S1 s1 r1 => bad c' hcf S1 s1 r1
    | ok q =>
      obtain ⟨d, o'⟩ := q
      rw [hcf] at h2
      obtain ⟨v1, e2, h3, h4⟩ := bind_ok h2
      obtain ⟨_, e3, h5, h6⟩ := bind_ok h4
      cases h6
      cases w with
      | none =>
        cases h3
        exact args fun vs G1 H1 S1 s1 r1 => ⟨by rw [r1.length, hlen], G1, l, S1.gh, r1, .inl ⟨d, o', hcf, ret_val S1 fun v G2 H2 S2 s2 r2 => k _ _ _ (S2.put h5 r2) (s1.trans s2)⟩⟩
      | some r =>
        obtain ⟨m1, e4, h7, h8⟩ := bind_ok h3
        split at h8
        · rename_i hm
          cases h8
          refine args fun vs G1 H1 S1 s1 r1 => ⟨by rw [r1.length, hlen], G1, l, S1.gh, r1, .inl ⟨d, o', hcf, ret_val S1 fun v G2 H2 S2 s2 r2 => ⟨B, G2, e1, S2, m1, _, h7, fun xs G3 H3 S3 s3 r3 => ⟨?_, fun p hp => ?_⟩⟩⟩⟩
          · rw [List.length_cons, r3.length, ← bigLine_eq]; exact hm
          · refine newF (Q := fun x H1 => D.nx (List.set σ i (some x)) H1) S3.gh (Reps.cons (r2.mono s3) r3) (fun p xs G4 H4 g4 hp4 h4' g4' r4 => ?_) hp
            have S4 := S3.grow g4
            obtain ⟨G5, S5, s5, r5⟩ := S4.fix (FrOk.of S3 g4 hp4 h4' g4') r4
            exact k _ _ _ (S5.put h5 r5) ((((s1.trans s2).trans s3).trans g4.g).trans s5)
        · cases h8
theorem s_tryE {S0 : Su} {F : Fn} {f : Nat} {x m n : Str} {j g : Nat} {id : Nat} {c : Addr} {v : Expr} {np pos pos' p2 p3 p4 p5 : Pos} {an : M (List D)} {fr : Bool}
    (hs : X.stack = X.env :: X.outer) (hf : X.env.frame = some X.env.locals) (hex : X.ex = []) (hN : X.N.Nodup) (hg : X.N[g]? = some n) (hln : X.env.scope.names.lookup n = some .local) (hkn : X.env.kindOf n = some .local) (hc : Names X x (.ref c)) (hxc : XcOk X.K X.mg x id c)
    (stj : Sto X j m) (hdb : (n == ("__debug__" : Str)) = false) (hcd : (n == ("__classdict__" : Str)) = false) (hnc : ncmp v = true) (hl : lenIs an F.np)
    (hv : ∀ (W : WX) (pn : List (Addr × Obj)) (xe : Value → Shared → Prop), Takes (X.tr pn xe) W → PE (X.tr pn xe) v (tXc X.K S0.cf f F an W)) :
    PS X (.Try [.Expr v p2] [.ExceptHandler (some (.Name x np)) (some n) [.Assign [.Name m p3] (.Name n p4) p5] pos'] [] [] pos) (tSt X.K fr (tryEM S0 f an j g id)) := by
  refine PSimp (ps_try_keep (tb := fun W => tDrop (tXc X.K S0.cf f F an W)) hs hf hex hN hg hkn hc stj (.inl hln) hdb hcd (fun W pn xe tk hp => pss_one (ps_expr (hv W pn xe tk) (swp hnc)))) fun D σ H ⟨B, G, e, S, fl, e', h, k⟩ => ?_
  obtain ⟨l, e1, h1, h2⟩ := bind_ok h
  unfold catchM at h2
  have hlen := hl _ _ _ h1
  show tXc X.K S0.cf f F an (wKeep X.K (.ref c) g j D) σ H fun x H1 => D.nx σ H1
  refine ⟨B, G, e, S, l, e1, h1, fun vs G1 H1 S1 s1 r1 => ?_⟩
  cases hcf : S0.cf f none l with
  | bad => rw [hcf] at h2; cases h2
  | exc c' fs =>
    cases fs with
    | cons _ _ => rw [hcf] at h2; cases h2
    | nil =>
      rw [hcf] at h2
      dsimp only at h2
      split at h2
      · rename_i hcc
        subst hcc
        obtain ⟨_, e2, h3, h4⟩ := bind_ok h2
        obtain ⟨_, e3, h5, h6⟩ := bind_ok h4
        cases h6
        refine ⟨by rw [r1.length, hlen], G1, l, S1.gh, r1, .inr ⟨c', c, hcf, hxc.here, fun G2 H2 g2 => ⟨hxc.self, rfl, fun a na => ?_⟩⟩⟩
        rw [set3]
        have S2 := S1.grow g2
        have S3 := S2.grow (Grow.alloc (o := ExT (.ref c) a) S2.gh na)
        have S4 := S3.putX h3 (a := a) hxc.here upd_same
        have S5 := S4.del h5
        exact k _ _ _ S5 ((s1.trans g2.g).trans (same_upd (none_of_same S2.gh na)))
      · cases h2
  | ok q =>
    obtain ⟨d, o'⟩ := q
    rw [hcf] at h2
    cases h2
    exact ⟨by rw [r1.length, hlen], G1, l, S1.gh, r1, .inl ⟨d, o', hcf, ret_val S1 fun v G2 H2 S2 s2 r2 => k _ _ _ S2 (s1.trans s2)⟩⟩
end

/-! ### the body of a def that may raise -/
def tSX (K : Fg) (fr : Bool) (m : M Fl) (W : WX) : TS := fun E σ H => ∃ B G e, StOk K B e σ G H ∧ ((∃ f e', m e = .ok (f, e') ∧ ∀ σ' G' H', StOk K B e' σ' G' H' → Same G G' → FlOk K fr B.H0 G' H' σ' E f) ∨
  (∃ c cc, m e = .exc c [] ∧ At K c cc ∧ ∀ e' σ' G' H', StOk K B e' σ' G' H' → Same G G' → W (.ref cc) none σ' H'))
section
variable {X : Cx} {W : WX} {fr : Bool}
theorem dry_ok {α : Type} {m : M α} {e : Ev} {r : α × Ev} (h : dry m e = .ok r) : m e = .ok r := by
  unfold dry R.dry at h
  split at h
  · cases h
  · exact h
theorem dry_exc {α : Type} {m : M α} {e : Ev} {c : Nat} {l : List D} (h : dry m e = .exc c l) : False := by
  unfold dry at h
  cases q : m e with
  | ok p => rw [q] at h; cases h
  | exc a b => rw [q] at h; cases h
  | bad => rw [q] at h; cases h
theorem x_nil : PSs X [] (tSX X.K fr (pure .nx) W) := ⟨fun pins s σ H D I h => by
  obtain ⟨B, G, e, S, h⟩ := h
  rcases h with ⟨f, e', h1, k⟩ | ⟨c, cc, h1, _, _⟩
  · cases h1
    exact (pss_nil (X := X)).run pins s σ H D I (k σ G H S (Same.refl _))
  · cases h1⟩
theorem x_raise {x : Str} {id : Nat} {c : Addr} {p pos pos' : Pos} (hc : X.calm = true) (tk : Takes X W) (z : XcOk X.K X.mg x id c) (g : Gl X x) (n : (x == ("__debug__" : Str)) = false) :
    PS X (.Raise (some (.Call (.Name x p) [] [] pos)) none pos') (tSX X.K fr (fun _ => .exc id []) W) := by
  obtain ⟨bmB, B, newId, initId, F, q⟩ := z.ex
  have key := ps_raise (pos := pos') hc tk (pmk_own0 (pos := pos) (p := p) F q z.mg z.kp (raises_own z.sub z.ty) g n)
  refine PSimp key fun D σ H ⟨B, G, e, S, h⟩ => ?_
  rcases h with ⟨f, e', h1, k⟩ | ⟨c', cc, h1, t, k⟩
  · cases h1
  · cases h1
    have ec := t.uniq z.here
    subst ec
    exact k e σ G H S (Same.refl _)
theorem x_dry {s : Stmt} {m : M Fl} (h : PS X s (tSt X.K fr m)) : PS X s (tSX X.K fr (dry m) W) := PSimp h fun D σ H ⟨B, G, e, S, h⟩ => by
  rcases h with ⟨f, e', h1, k⟩ | ⟨c, cc, h1, _, _⟩
  · exact ⟨B, G, e, S, f, e', dry_ok h1, k⟩
  · exact (dry_exc h1).elim
theorem x_seq {s : Stmt} {ss : List Stmt} {m n : M Fl} (h1 : PS X s (tSX X.K fr m W)) (h2 : PSs X ss (tSX X.K fr n W)) : PSs X (s :: ss) (tSX X.K fr (seqM m n) W) := PSsimp (pss_cons h1 h2) fun D σ H ⟨B, G, e, S, h⟩ => by
  rcases h with ⟨f, e', h3, k⟩ | ⟨c, cc, h3, tt, k⟩
  · obtain ⟨f1, e1, h4, h5⟩ := bind_ok h3
    refine ⟨B, G, e, S, .inl ⟨f1, e1, h4, fun σ1 G1 H1 S1 s1 => ?_⟩⟩
    cases f1 with
    | nx => exact ⟨B, G1, e1, S1, .inl ⟨f, e', h5, fun σ' G' H' S' s' => k σ' G' H' S' (s1.trans s')⟩⟩
    | ret d =>
      cases h5
      exact k σ1 G1 H1 S1 s1
    | brk =>
      cases h5
      exact k σ1 G1 H1 S1 s1
    | cnt =>
      cases h5
      exact k σ1 G1 H1 S1 s1
  · have h3' : R.bind (m e) (fun p => (match p.1 with | .nx => n | .ret d => pure (.ret d) | .brk => pure .brk | .cnt => pure .cnt : M Fl) p.2) = .exc c [] := h3
    cases hm : m e with
    | bad => rw [hm] at h3'; cases h3'
    | exc a b =>
      rw [hm] at h3'
      cases h3'
      exact ⟨B, G, e, S, .inr ⟨c, cc, hm, tt, k⟩⟩
    | ok q =>
      obtain ⟨f1, e1⟩ := q
      rw [hm] at h3'
      cases f1 with
      | nx => exact ⟨B, G, e, S, .inl ⟨.nx, e1, hm, fun σ1 G1 H1 S1 s1 => ⟨B, G1, e1, S1, .inr ⟨c, cc, h3', tt, fun e' σ' G' H' S' s' => k e' σ' G' H' S' (s1.trans s')⟩⟩⟩⟩
      | ret d => cases h3'
      | brk => cases h3'
      | cnt => cases h3'
theorem x_if {q : Expr} {x y : List Stmt} {pos : Pos} {tm : M Bool} {a b : M Fl} (hq : PT X q (tTs X.K tm)) (ha : PSs X x (tSX X.K fr a W)) (hb : PSs X y (tSX X.K fr b W)) : PS X (.If q x y pos) (tSX X.K fr (do let t ← dry tm; if t then a else b) W) := PSimp (ps_if hq ha hb) fun D σ H ⟨B, G, e, S, h⟩ => by
  rcases h with ⟨f, e', h3, k⟩ | ⟨c, cc, h3, tt, k⟩
  · obtain ⟨t, e1, h4, h5⟩ := bind_ok h3
    refine ⟨B, G, e, S, t, e1, dry_ok h4, fun G1 H1 S1 s1 => ?_⟩
    cases t with
    | true => exact ⟨B, G1, e1, S1, .inl ⟨f, e', h5, fun σ' G' H' S' s' => k σ' G' H' S' (s1.trans s')⟩⟩
    | false => exact ⟨B, G1, e1, S1, .inl ⟨f, e', h5, fun σ' G' H' S' s' => k σ' G' H' S' (s1.trans s')⟩⟩
  · have h3' : R.bind (dry tm e) (fun p => (if p.1 = true then a else b : M Fl) p.2) = .exc c [] := h3
    cases hm : dry tm e with
    | bad => rw [hm] at h3'; cases h3'
    | exc a b => exact (dry_exc hm).elim
    | ok q =>
      obtain ⟨t, e1⟩ := q
      rw [hm] at h3'
      refine ⟨B, G, e, S, t, e1, dry_ok hm, fun G1 H1 S1 s1 => ?_⟩
      cases t with
      | true => exact ⟨B, G1, e1, S1, .inr ⟨c, cc, h3', tt, fun e' σ' G' H' S' s' => k e' σ' G' H' S' (s1.trans s')⟩⟩
      | false => exact ⟨B, G1, e1, S1, .inr ⟨c, cc, h3', tt, fun e' σ' G' H' S' s' => k e' σ' G' H' S' (s1.trans s')⟩⟩
end

/-- a def that may raise, where it does not -/
theorem calm_of {P : Program} {w : World} {K : Fg} {mg : Str → Option Value} {base : Heap} {k : Nat} {f : Addr} {fd : FuncData} {ps : List Str} {cf : CF} {id : Nat} {F : Fn} (io : F.io = false) (h : FnOk P w K mg base (L2.CX P w) k f fd ps (spX K cf id F)) :
    FnOk P w K mg base CX0 k f fd ps (spF K cf id F) := by
  have up : ∀ vs H Q E, spF K cf id F vs H Q E → spX K cf id F vs H Q E0 := fun vs H Q E ⟨h1, h2⟩ => by
    rw [io] at h2
    obtain ⟨G, l, d, o', a, b, c, r⟩ := h2
    exact ⟨h1, G, l, a, b, .inl ⟨d, o', c, r⟩⟩
  refine ⟨fun vs H Q E q => h.len vs H Q E0 (up vs H Q E q), fun A outer s H args us vs Q E hr he hb hv hsp => codeAny_mono (h.run A outer s H args us vs Q E0 hr he hb hv (up vs H Q E hsp)) fun r s' q => ?_⟩
  cases r with
  | error e =>
    obtain ⟨_, _, _, _, _, _, _, _, _, _, _, _, z⟩ := (show L2.CX P w outer H s E0 e s' from q)
    exact z.elim
  | ok fl => cases fl <;> exact q
end En

/-! En18: the check: is the engine's text that of the program? -/
namespace En
open PySem PySem.Spec PyProof.Rows L2

structure Ga where
  N : List Str
  sc : Scope
  ws : List (Str × NameKind)
  fn : List (Str × Nat)
  fs : Nat → Option Fn
  cs : List (Str × Lit)
  kw : List (Nat × List Str × List Nat)
  /-- classes of exceptions: where they lie; isinstance with a built-in class: what it tells of them -/
  xc : List (Str × Nat)
  xi : List (Str × List (Nat × Bool))
abbrev so (s : String) : Str := Str.ofString s
def bns : List Str := [so "len", so "int", so "abs", so "tuple", so "all", so "any", so "sum", so "min", so "max", so "list", so "isinstance", so "range", so "zip", so "enumerate", so "sorted", so "set", so "str", so "bool"]
def glb (Γ : Ga) (x : Str) : Bool := Γ.sc.names.lookup x == some .globalImplicit && !(x == so "__name__") && !(x == so "__debug__")
def ckB (Γ : Ga) (x nm : Str) : Bool := x == nm && glb Γ x
def ckV (Γ : Ga) (i : Nat) (x : Str) : Bool := Γ.N[i]? == some x && (Γ.sc.names.lookup x == some .local || Γ.sc.names.lookup x == some .cell || Γ.sc.names.lookup x == some .free) && !(x == so "__debug__") && !(x == so "__classdict__")
def ckW (Γ : Ga) (i : Nat) (x : Str) : Bool := Γ.N[i]? == some x && (Γ.ws.lookup x == some .local || Γ.ws.lookup x == some .cell)
def strOk (s : List Nat) : Bool := decide (s.length ≤ bigLine) && s.all fun c => decide (c < 0x110000)
def litC : Lit → Const → Bool
  | .non, .none => true
  | .bl b, .bool c => b == c
  | .int i, .int j => i == j
  | .str s, .str t => t == ⟨s.toArray⟩ && strOk s
  | _, _ => false
def Ga.blk (Γ : Ga) (scope : Scope) : Ga := { Γ with sc := relS scope Γ.sc, ws := scope.names }
def ckTys (Γ : Ga) : List Ty → List Expr → Bool
  | [], [] => true
  | t :: ts, .Name y _ :: es => ckB Γ y (so t.nm) && ckTys Γ ts es
  | _, _ => false
def fn1 : P1 → Option Str
  | .len => some (so "len")
  | .int => some (so "int")
  | .abs => some (so "abs")
  | .tuple => some (so "tuple")
  | .all => some (so "all")
  | .any => some (so "any")
  | .sum => some (so "sum")
  | .min => some (so "min")
  | .max => some (so "max")
  | _ => none
def fnT : List Ty → Option Ty
  | [t] => some t
  | _ => none
def ck1 (Γ : Ga) (o : P1) (c : Expr → Bool) (e : Expr) : Bool := match o, e with
  | .neg, .UnaryOp .USub a _ => c a
  | .isN, .Compare a [.Is] [.Constant .none _ _] _ => c a
  | .notN, .Compare a [.IsNot] [.Constant .none _ _] _ => c a
  | .isi ts, .Call (.Name x _) [a, .Tuple es _ _] [] _ => ckB Γ x (so "isinstance") && nst a && c a && ckTys Γ ts es && decide (ts.length ≤ 9)
  | .isi ts, .Call (.Name x _) [a, .Name y _] [] _ => (match fnT ts with | some t => ckB Γ x (so "isinstance") && nst a && c a && ckB Γ y (so t.nm) | none => false)
  | .rev, .Subscript a (.Slice none none (some (.UnaryOp .USub (.Constant (.int 1) _ _) _)) _) _ => c a
  | .maxlen, .Call (.Name x _) [a] [⟨some k, .Name y _, _⟩] _ => k == so "key" && ckB Γ x (so "max") && ckB Γ y (so "len") && nst a && c a
  | .maxlenT, .Call (.Name x _) [a] [⟨some k, .Name y _, _⟩] _ => k == so "key" && ckB Γ x (so "max") && ckB Γ y (so "len") && nst a && c a
  | o, .Call (.Name x _) [a] [] _ => (match fn1 o with | some nm => ckB Γ x nm && nst a && c a | none => false)
  | _, _ => false
def bin2 : P2 → Option Operator
  | .add => some .Add
  | .sub => some .Sub
  | .mul => some .Mult
  | .fdiv => some .FloorDiv
  | .mod => some .Mod
  | .pow => some .Pow
  | _ => none
def cmp2 : P2 → Option CmpOp
  | .eq => some .Eq
  | .ne => some .NotEq
  | .lt => some .Lt
  | .le => some .LtE
  | .gt => some .Gt
  | .ge => some .GtE
  | .isIn => some .In
  | .notIn => some .NotIn
  | _ => none
def fn2 : P2 → Option Str
  | .min2 => some (so "min")
  | .max2 => some (so "max")
  | _ => none
def isStrLit : Ex → Option (List Nat)
  | .lit (.str s) => some s
  | _ => none
def notCall : Expr → Bool
  | .Call _ _ _ _ => false
  | _ => true
def ck2 (Γ : Ga) (o : P2) (a : Ex) (c d : Expr → Bool) (e : Expr) : Bool := match e with
  | .BinOp x op y _ => bin2 o == some op && c x && d y
  | .Compare x [op] [y] _ => cmp2 o == some op && !behindInMarks op y && c x && d y
  | .Subscript x (.Slice none (some y) none _) _ => o == .slcHi && c x && d y
  | .Subscript x (.Slice (some y) none none _) _ => o == .slcLo && c x && d y
  | .Subscript x y _ => o == .idx && nix y && c x && d y
  | .Call (.Name f _) [x, y] [] _ => (match fn2 o with | some nm => ckB Γ f nm && nst x && nst y && c x && d y | none => false)
  | .Call (.Name f _) [x, y] [⟨some k, .Name g _, _⟩] _ => o == .mxl2 && k == so "key" && ckB Γ f (so "max") && ckB Γ g (so "len") && nst x && nst y && c x && d y
  | .Call (.Attribute x m apos) [y] [] pos => o == .join && m == so "join" && apos.endLine == pos.line && nst y && notCall x && (isStrLit a).isSome && c x && d y
  | _ => false
def ck3 (Γ : Ga) (o : P3) (c d f : Expr → Bool) (e : Expr) : Bool := match o, e with
  | .slc, .Subscript x (.Slice (some y) (some z) none _) _ => c x && d y && f z
  | .max3, .Call (.Name g _) [x, y, z] [] _ => ckB Γ g (so "max") && nst x && nst y && nst z && c x && d y && f z
  | .min3, .Call (.Name g _) [x, y, z] [] _ => ckB Γ g (so "min") && nst x && nst y && nst z && c x && d y && f z
  | _, _ => false
def nset : Expr → Bool
  | .Set _ _ _ => false
  | _ => true
def ckTg (Γ : Ga) : Tg → Expr → Bool
  | .nm i, e => (match e with | .Name x _ => ckW Γ i x | _ => false)
  | .two a b, e => (match e with | .Tuple [x, y] _ _ => nst x && nst y && ckTg Γ a x && ckTg Γ b y | _ => false)
  | .three a b c, e => (match e with | .Tuple [x, y, z] _ _ => nst x && nst y && nst z && ckTg Γ a x && ckTg Γ b y && ckTg Γ c z | _ => false)
def blkOkB (N : List Str) (sc scope : Scope) (own : List Nat) : Bool :=
  scope.kind == .function && (scope.names.all fun y => scope.names.lookup y.1 == some y.2) && (own.all fun i => decide (i < N.length)) &&
  (scope.names.all fun y => !(y.2 == .free) || sc.names.lookup y.1 == some .cell || sc.names.lookup y.1 == some .free) &&
  (scope.names.all fun y => !(y.2 == .local || y.2 == .cell) || (own.any fun i => N[i]? == some y.1) || !(N.contains y.1))
def Es.len : Es → Nat
  | .nil => 0
  | .cons _ r => r.len + 1
  | .star _ r => r.len
def Es.nos : Es → Bool
  | .nil => true
  | .cons _ r => r.nos
  | .star _ _ => false
/-- pairs go to two names -/
def okTg : It → Tg → Bool
  | .zip _ _, tg => (match tg with | .two _ _ => true | _ => false)
  | .enum _, tg => (match tg with | .two _ _ => true | _ => false)
  | _, _ => true
/-- a comprehension with two fors -/
def lc2Of : Expr → Option (Expr × Expr × Expr × Expr × Expr × List Expr × Scope)
  | .ListComp x [⟨t, iter, [], 0⟩, ⟨t2, iter2, ifs, 0⟩] scope _ => some (x, t, iter, t2, iter2, ifs, scope)
  | _ => none
theorem lc2Of_ok {e x t iter t2 iter2 : Expr} {ifs : List Expr} {scope : Scope} (h : lc2Of e = some (x, t, iter, t2, iter2, ifs, scope)) : ∃ pos, e = .ListComp x [⟨t, iter, [], 0⟩, ⟨t2, iter2, ifs, 0⟩] scope pos := by
  unfold lc2Of at h
  split at h
  · cases h
    exact ⟨_, rfl⟩
  · cases h
def lc1Of : Expr → Option (Expr × Expr × Expr × List Expr × Scope)
  | .ListComp x [⟨t, iter, ifs, 0⟩] scope _ => some (x, t, iter, ifs, scope)
  | _ => none
theorem lc1Of_ok {e x t iter : Expr} {ifs : List Expr} {scope : Scope} (h : lc1Of e = some (x, t, iter, ifs, scope)) : ∃ pos, e = .ListComp x [⟨t, iter, ifs, 0⟩] scope pos := by
  unfold lc1Of at h
  split at h
  · cases h
    exact ⟨_, rfl⟩
  · cases h
def lc1Ck (Γ : Ga) (own : List Nat) (tg : Tg) (it : It) (e : Expr) : Option (Expr × Expr × List Expr × Scope) := match lc1Of e with
  | some (x, t, iter, ifs, scope) => if blkOkB Γ.N Γ.sc scope own && okTg it tg && (tg.slots.all fun j => own.contains j) && nset iter && ckTg (Γ.blk scope) tg t then some (x, iter, ifs, scope) else none
  | none => none
def lc2Ck (Γ : Ga) (own own2 : List Nat) (tg : Tg) (it : It) (tg2 : Tg) (it2 : It) (e : Expr) : Option (Expr × Expr × Expr × List Expr × Scope) := match lc2Of e with
  | some (x, t, iter, t2, iter2, ifs, scope) => if blkOkB Γ.N Γ.sc scope own && okTg it tg && (tg.slots.all fun j => own.contains j) && nset iter && ckTg (Γ.blk scope) tg t && okTg it2 tg2 && (own2.all fun j => own.contains j) && (tg2.slots.all fun j => own2.contains j) && nset iter2 && ckTg (Γ.blk scope) tg2 t2 then some (x, iter, iter2, ifs, scope) else none
  | none => none
theorem lc1Ck_ok {Γ : Ga} {own : List Nat} {tg : Tg} {it : It} {e x iter : Expr} {ifs : List Expr} {scope : Scope} (h : lc1Ck Γ own tg it e = some (x, iter, ifs, scope)) : ∃ t pos, e = .ListComp x [⟨t, iter, ifs, 0⟩] scope pos ∧
    (((blkOkB Γ.N Γ.sc scope own = true ∧ okTg it tg = true) ∧ (tg.slots.all fun j => own.contains j) = true) ∧ nset iter = true) ∧ ckTg (Γ.blk scope) tg t = true := by
  unfold lc1Ck at h
  split at h
  · rename_i x t iter ifs scope hq
    split at h
    · rename_i hc
      cases h
      obtain ⟨pos, rfl⟩ := lc1Of_ok hq
      simp only [Bool.and_eq_true] at hc
      exact ⟨t, pos, rfl, hc⟩
    · cases h
  · cases h
theorem lc2Ck_ok {Γ : Ga} {own own2 : List Nat} {tg tg2 : Tg} {it it2 : It} {e x iter iter2 : Expr} {ifs : List Expr} {scope : Scope} (h : lc2Ck Γ own own2 tg it tg2 it2 e = some (x, iter, iter2, ifs, scope)) : ∃ t t2 pos, e = .ListComp x [⟨t, iter, [], 0⟩, ⟨t2, iter2, ifs, 0⟩] scope pos ∧
    ((((((((blkOkB Γ.N Γ.sc scope own = true ∧ okTg it tg = true) ∧ (tg.slots.all fun j => own.contains j) = true) ∧ nset iter = true) ∧ ckTg (Γ.blk scope) tg t = true) ∧ okTg it2 tg2 = true) ∧ (own2.all fun j => own.contains j) = true) ∧ (tg2.slots.all fun j => own2.contains j) = true) ∧ nset iter2 = true) ∧ ckTg (Γ.blk scope) tg2 t2 = true := by
  unfold lc2Ck at h
  split at h
  · rename_i x t iter t2 iter2 ifs scope hq
    split at h
    · rename_i hc
      cases h
      obtain ⟨pos, rfl⟩ := lc2Of_ok hq
      simp only [Bool.and_eq_true] at hc
      exact ⟨t, t2, pos, rfl, hc⟩
    · cases h
  · cases h
def ckQ1 (Γ : Ga) (o : Q1) (c : Expr → Bool) (e : Expr) : Bool := match o, e with
  | .list, .Call (.Name x _) [y] [] _ => ckB Γ x (so "list") && nst y && c y
  | .rev, .Subscript x (.Slice none none (some (.UnaryOp .USub (.Constant (.int 1) _ _) _)) _) _ => c x
  | _, _ => false
def ckQ2 (o : Q2) (c d : Expr → Bool) (e : Expr) : Bool := match o, e with
  | .cat, .BinOp x .Add y _ => c x && d y
  | .mul, .BinOp x .Mult y _ => c x && d y
  | .slcHi, .Subscript x (.Slice none (some y) none _) _ => c x && d y
  | .slcLo, .Subscript x (.Slice (some y) none none _) _ => c x && d y
  | _, _ => false
def ckQ3 (o : Q3) (c d f : Expr → Bool) (e : Expr) : Bool := match o, e with
  | .slc, .Subscript x (.Slice (some y) (some z) none _) _ => c x && d y && f z
  | _, _ => false
/-- a callee -/
def ckF0 (Γ : Ga) (x : Str) (f : Nat) : Option Fn := if Γ.fn.lookup x == some f && glb Γ x then Γ.fs f else none
mutual
def ckE (Γ : Ga) : Ex → Expr → Bool
  | .var i, e => (match e with | .Name x _ => ckV Γ i x | _ => false)
  | .lit l, e => (match e with | .Constant c _ _ => litC l c | .Name x _ => Γ.cs.lookup x == some l && glb Γ x | _ => false)
  | .glb _, _ => false
  | .p1 o a, e => ck1 Γ o (ckE Γ a) e
  | .p2 o a b, e => ck2 Γ o a (ckE Γ a) (ckE Γ b) e
  | .p3 o a b c, e => ck3 Γ o (ckE Γ a) (ckE Γ b) (ckE Γ c) e
  | .chn o o' a b d, e => (match e with | .Compare x [op, op'] [y, z] _ => cmp2 o == some op && cmp2 o' == some op' && !behindInMarks op' z && ckE Γ a x && ckE Γ b y && ckE Γ d z | _ => false)
  | .chn3 _ _ _ _ _ _ _, _ => false
  | .xno neg i, e => (match e with | .Compare (.Name x _) [op] [.Constant .none _ _] _ => (if neg then op == .IsNot else op == .Is) && ckV Γ i x | _ => false)
  | .xis i tb, e => (match e with | .Call (.Name x _) [.Name y _, .Name z _] [] _ => ckB Γ x (so "isinstance") && ckV Γ i y && Γ.xi.lookup z == some tb && glb Γ z | _ => false)
  | .and_ a b, e => (match e with
    | .BoolOp .And (x :: y :: r) p => ckE Γ a x && (match r with | [] => ckE Γ b y | z :: r => ckE Γ b (.BoolOp .And (y :: z :: r) p))
    | _ => false)
  | .or_ a b, e => (match e with
    | .BoolOp .Or (x :: y :: r) p => ckE Γ a x && (match r with | [] => ckE Γ b y | z :: r => ckE Γ b (.BoolOp .Or (y :: z :: r) p))
    | _ => false)
  | .not_ a, e => (match e with | .UnaryOp .Not x _ => ckE Γ a x | _ => false)
  | .ite c a b, e => (match e with | .IfExp t x y _ => ckE Γ c t && tst c t && ckE Γ a x && ckE Γ b y | _ => false)
  | .tup es, e => (match e with | .Tuple xs _ _ => ckEs Γ es xs | _ => false)
  | .fr f, e => ckF Γ f e
  | .call f kw es, e => (match e with
    | .Call (.Name x _) xs kws _ => (match ckF0 Γ x f with
      | some F => !F.io && es.nos && (match kw with
        | none => kws.isEmpty && es.len == F.np && xs.all nst && ckEs Γ es xs
        | some p => xs.isEmpty && kwA kws && Γ.kw.contains (f, kwN kws, p) && p.length == F.np && es.len == p.length && ckEs Γ es (kwE kws))
      | none => false)
    | _ => false)
  | .cio f i es, e => (match e with
    | .Call (.Name x _) (.Name y _ :: xs) [] _ => (match ckF0 Γ x f with | some F => F.io && decide (es.len + 1 = F.np) && es.nos && xs.all nst && ckV Γ i y && ckEs Γ es xs | none => false)
    | _ => false)
  | .ciof f m es, e => (match e with
    | .Call (.Name x _) (y :: xs) [] _ => (match ckF0 Γ x f with | some F => F.io && decide (es.len + 1 = F.np) && es.nos && (y :: xs).all nst && ckF Γ m y && ckEs Γ es xs | none => false)
    | _ => false)
  | .pop i, e => (match e with
    | .Call (.Attribute (.Name x _) m apos) [] [] pos => m == so "pop" && apos.endLine == pos.line && ckV Γ i x
    | _ => false)
  | .popAt _ _, _ => false
/-- may stand as a test -/
def tst : Ex → Expr → Bool
  | .and_ a b, e => (match e with
    | .BoolOp .And (x :: y :: r) p => tst a x && (match r with | [] => tst b y | z :: r => tst b (.BoolOp .And (y :: z :: r) p))
    | _ => false)
  | .or_ a b, e => (match e with
    | .BoolOp .Or (x :: y :: r) p => tst a x && (match r with | [] => tst b y | z :: r => tst b (.BoolOp .Or (y :: z :: r) p))
    | _ => false)
  | .not_ a, e => (match e with | .UnaryOp .Not x _ => tst a x | _ => false)
  | .ite _ _ _, _ => false
  | .chn _ _ _ _ _, _ => true
  | .chn3 _ _ _ _ _ _ _, _ => false
  | .fr f, _ => (match f with | .orf _ _ => false | _ => true)
  | _, _ => true
def ckEs (Γ : Ga) : Es → List Expr → Bool
  | .nil, xs => xs.isEmpty
  | .cons e r, xs => (match xs with | x :: xs => nst x && ckE Γ e x && ckEs Γ r xs | [] => false)
  | .star e r, xs => (match xs with | .Starred x _ :: xs => ckE Γ e x && ckEs Γ r xs | _ => false)
def ckF (Γ : Ga) : Fx → Expr → Bool
  | .disp es, e => (match e with | .List xs _ => ckEs Γ es xs | _ => false)
  | .q1 o a, e => ckQ1 Γ o (ckE Γ a) e
  | .q2 o a b, e => ckQ2 o (ckE Γ a) (ckE Γ b) e
  | .q3 o a b c, e => ckQ3 o (ckE Γ a) (ckE Γ b) (ckE Γ c) e
  | .orf a b, e => (match e with | .BoolOp .Or [x, y] _ => ckF Γ a x && ckF Γ b y | _ => false)
  | .call f es, e => (match e with
    | .Call (.Name x _) xs [] _ => (match ckF0 Γ x f with | some F => !F.io && F.fr && es.len == F.np && es.nos && xs.all nst && ckEs Γ es xs | none => false)
    | _ => false)
  | .comp own tg it cs elt, e => (match lc1Ck Γ own tg it e with
    | some (x, iter, ifs, scope) => ckI Γ it iter && ckE (Γ.blk scope) elt x && (match cs, ifs with | none, [] => true | some c, [y] => ckE (Γ.blk scope) c y && tst c y | _, _ => false)
    | none => false)
  | .comp2 own own2 tg it tg2 it2 cs elt, e => (match lc2Ck Γ own own2 tg it tg2 it2 e with
    | some (x, iter, iter2, ifs, scope) => ckI Γ it iter && ckI (Γ.blk scope) it2 iter2 && ckE (Γ.blk scope) elt x && (match cs, ifs with | none, [] => true | some c, [y] => ckE (Γ.blk scope) c y && tst c y | _, _ => false)
    | none => false)
def ckI (Γ : Ga) : It → Expr → Bool
  | .src a, e => ckE Γ a e
  | .rng1 a, e => (match e with | .Call (.Name x _) [y] [] _ => ckB Γ x (so "range") && nst y && ckE Γ a y | _ => false)
  | .rng2 a b, e => (match e with | .Call (.Name x _) [y, z] [] _ => ckB Γ x (so "range") && nst y && nst z && ckE Γ a y && ckE Γ b z | _ => false)
  | .rngdn a b, e => (match e with | .Call (.Name x _) [y, z, .UnaryOp .USub (.Constant (.int 1) _ _) _] [] _ => ckB Γ x (so "range") && nst y && nst z && ckE Γ a y && ckE Γ b z | _ => false)
  | .zip a b, e => (match e with | .Call (.Name x _) [y, z] [] _ => ckB Γ x (so "zip") && nst y && nst z && ckE Γ a y && ckE Γ b z | _ => false)
  | .enum a, e => (match e with | .Call (.Name x _) [y] [] _ => ckB Γ x (so "enumerate") && nst y && ckE Γ a y | _ => false)
end
def ckP (Γ : Ga) : Ps → List Expr → List Expr → Bool
  | .nil, ts, vs => ts.isEmpty && vs.isEmpty
  | .val i e r, ts, vs => (match ts, vs with | .Name x _ :: ts, v :: vs => ckW Γ i x && nst v && ckE Γ e v && ckP Γ r ts vs | _, _ => false)
  | .cel i f r, ts, vs => (match ts, vs with | .Name x _ :: ts, v :: vs => ckW Γ i x && nst v && ckF Γ f v && ckP Γ r ts vs | _, _ => false)
def namesOf : List Expr → List Str
  | .Name x _ :: r => x :: namesOf r
  | _ => []
def ckPar (Γ : Ga) (ps : Ps) (ts vs : List Expr) : Bool := ckP Γ ps ts vs && decide (ps.slots.length ≤ 9) && (match swC Γ.sc ts vs with
  | some none => true
  | some (some ns) => ns == namesOf ts && decide ps.slots.Nodup && (ns.all fun x => Γ.sc.names.lookup x == some .local)
  | none => false)
/-- a def that may raise -/
def Fn.rz (F : Fn) : Bool := (match F.body with | .cons (.rzb _) .nil => true | _ => false) && !F.io && !F.fr
/-- a call of one -/
def ckXc (Γ : Ga) (x : Str) (f : Nat) (es : Es) (xs : List Expr) : Bool := match ckF0 Γ x f with
  | some F => F.rz && es.len == F.np && es.nos && xs.all nst && ckEs Γ es xs && !xs.isEmpty
  | none => false
def notTup : Expr → Bool
  | .Tuple _ _ _ => false
  | _ => true
/-- what a try's body stores -/
def ckXv (Γ : Ga) (f : Nat) (es : Es) (w : Option Es) (v : Expr) : Bool := match w, v with
  | none, .Call (.Name y _) xs [] _ => ckXc Γ y f es xs
  | some r, .List (.Call (.Name y _) xs [] _ :: ys) _ => ckXc Γ y f es xs && ckEs Γ r ys
  | _, _ => false
mutual
def ckSt (Γ : Ga) (fr : Bool) : En.St → Stmt → Bool
  | .asg i e, s => (match s with | .Assign [.Name x _] v _ => ckW Γ i x && ckE Γ e v && (ncmp v || (match e with | .fr (.comp _ _ _ _ _) => true | .fr (.comp2 _ _ _ _ _ _ _ _) => true | _ => false)) | _ => false)
  | .new i f, s => (match s with | .Assign [.Name x _] v _ => ckW Γ i x && ckF Γ f v && (ncmp v || (match f with | .comp _ _ _ _ _ => true | .comp2 _ _ _ _ _ _ _ _ => true | _ => false)) | _ => false)
  | .unp tg e, s => (match s with | .Assign [.Tuple es k p] v _ => ckTg Γ tg (.Tuple es k p) && ckE Γ e v && ncmp v && notTup v | _ => false)
  | .par ps, s => (match s with | .Assign [.Tuple ts _ _] (.Tuple vs _ _) _ => ckPar Γ ps ts vs | _ => false)
  | .setI i k e, s => (match s with | .Assign [.Subscript (.Name x _) k' _] v _ => ckV Γ i x && nix k' && ncmp v && ckE Γ k k' && ckE Γ e v | _ => false)
  | .set2 i k l d e, s => (match s with | .Assign [.Tuple [.Subscript (.Name x _) k' _, .Subscript (.Name y _) l' _] _ _] (.Tuple [d', e'] _ _) _ => x == y && ckV Γ i x && nix k' && nix l' && nst d' && nst e' && ckE Γ d d' && ckE Γ e e' && ckE Γ k k' && ckE Γ l l' | _ => false)
  | .aug i o e, s => (match s with | .AugAssign (.Name x _) op v _ => opA o == some op && ckW Γ i x && ckE Γ e v | _ => false)
  | .app i e, s => (match s with | .Expr (.Call (.Attribute (.Name x _) m apos) [y] [] pos) _ => m == so "append" && apos.endLine == pos.line && ckV Γ i x && nst y && ckE Γ e y | _ => false)
  | .ext i e, s => (match s with | .Expr (.Call (.Attribute (.Name x _) m apos) [y] [] pos) _ => m == so "extend" && apos.endLine == pos.line && ckV Γ i x && nst y && ckE Γ e y | _ => false)
  | .expr e, s => (match s with | .Expr v _ => ckE Γ e v && ncmp v | _ => false)
  | .ret e, s => (match s with | .Return (some v) _ => !fr && ckE Γ e v | _ => false)
  | .retF f, s => (match s with | .Return (some v) _ => ckF Γ f v | _ => false)
  | .retC i, s => (match s with | .Return (some (.Name x _)) _ => fr && ckV Γ i x | _ => false)
  | .retN, s => (match s with | .Return none _ => true | _ => false)
  | .ite c a b, s => (match s with | .If t x y _ => ckE Γ c t && tst c t && ckSs Γ fr a x && ckSs Γ fr b y | _ => false)
  | .loop tg it b, s => (match s with | .For t iter body [] _ => nset iter && okTg it tg && ckTg Γ tg t && ckI Γ it iter && ckSs Γ fr b body | _ => false)
  | .whl c b, s => (match s with | .While t body [] _ => ckE Γ c t && tst c t && ckSs Γ fr b body | _ => false)
  | .brk, s => (match s with | .Break _ => true | _ => false)
  | .cnt, s => (match s with | .Continue _ => true | _ => false)
  | .pass, s => (match s with | .Pass _ => true | _ => false)
  | .rse _, _ => false
  | .rif _ _ _, _ => false
  | .rzb _, _ => false
  | .tryX i f es w j g cl, s => (match s with
    | .Try [.Assign [.Name told _] v _] [.ExceptHandler (some (.Name x _)) (some n) [.Assign [.Name m _] (.Name n' _) _] _] [] [] _ =>
      ckW Γ i told && ckW Γ j m && Γ.N[g]? == some n && n' == n && Γ.sc.names.lookup n == some .local && !(n == so "__debug__") && !(n == so "__classdict__") && Γ.xc.lookup x == some cl && glb Γ x && ckXv Γ f es w v
    | _ => false)
  | .tryE f es j g cl, s => (match s with
    | .Try [.Expr (.Call (.Name y _) xs [] _) _] [.ExceptHandler (some (.Name x _)) (some n) [.Assign [.Name m _] (.Name n' _) _] _] [] [] _ =>
      ckW Γ j m && Γ.N[g]? == some n && n' == n && Γ.sc.names.lookup n == some .local && !(n == so "__debug__") && !(n == so "__classdict__") && Γ.xc.lookup x == some cl && glb Γ x && ckXc Γ y f es xs
    | _ => false)
def ckSs (Γ : Ga) (fr : Bool) : Ss → List Stmt → Bool
  | .nil, xs => xs.isEmpty
  | .cons s r, xs => (match xs with | x :: xs => ckSt Γ fr s x && ckSs Γ fr r xs | [] => false)
end
mutual
/-- statements that may raise -/
def ckR (Γ : Ga) (fr : Bool) : En.St → Stmt → Bool
  | .rse cl, s => (match s with | .Raise (some (.Call (.Name x _) [] [] _)) none _ => Γ.xc.lookup x == some cl && glb Γ x | _ => false)
  | .rif q a b, s => (match s with | .If t x y _ => ckE Γ q t && tst q t && ckXs Γ fr a x && ckXs Γ fr b y | _ => false)
  | _, _ => false
def ckXs (Γ : Ga) (fr : Bool) : Ss → List Stmt → Bool
  | .nil, xs => xs.isEmpty
  | .cons s r, xs => (match xs with | x :: xs => (ckR Γ fr s x || (!s.isR && ckSt Γ fr s x)) && ckXs Γ fr r xs | [] => false)
end
end En

/-! En19: the check is sound: surroundings, parts. -/
namespace En
open PySem PySem.Spec PyProof.Rows L2

def Lit.v : Lit → V
  | .non => .non
  | .bl b => .bl b
  | .int i => .int i
  | .str s => .str ⟨s.toArray⟩
structure CtxOk (Γ : Ga) (S : Su) (X : Cx) : Prop where
  N : X.N = Γ.N
  sc : X.env.scope = Γ.sc
  calm : X.calm = true
  nd : X.N.Nodup
  hh : X.A.handled = none
  un : X.A.units + 100 < cLine
  st : ∀ x, (Γ.ws.lookup x = some .local ∨ Γ.ws.lookup x = some .cell) → L2.Loc X.env.scope x ∧ (X.fn x = true ∨ X.env.scope.names.lookup x = some .local)
  fn : ∀ x id F, Γ.fn.lookup x = some id → Γ.fs id = some F → ∃ f fd ps k, X.mg x = some (.ref f) ∧ PySem.W.keepIn X.K (.ref f) = true ∧ Binds X.K fd ps [] ∧ FnOk X.prog X.w X.K X.mg X.base CX0 k f fd ps (spF X.K S.cf id F) ∧ Room k X.A ∧ ∀ ks p, (id, ks, p) ∈ Γ.kw → KBinds X.K fd ps ks (gP p) (gVP p)
  bl : ∀ x ∈ bns, X.mg x = none
  cs : ∀ x l, Γ.cs.lookup x = some l → (∃ u, X.mg x = some u ∧ L2.RelV l.v u) ∧ (∀ s, l = .str s → strOk s = true)
  fx : ∀ x id F, Γ.fn.lookup x = some id → Γ.fs id = some F → F.rz = true → ∃ f fd ps k, X.mg x = some (.ref f) ∧ PySem.W.keepIn X.K (.ref f) = true ∧ Binds X.K fd ps [] ∧ FnOk X.prog X.w X.K X.mg X.base (L2.CX X.prog X.w) k f fd ps (spX X.K S.cf id F) ∧ Room k X.A
  xc : ∀ x c, Γ.xc.lookup x = some c → ∃ cc, XcOk X.K X.mg x c cc
  xi : ∀ x t, Γ.xi.lookup x = some t → XiOk X.K X.mg x t
/-- where statements stand -/
structure TopOk (X : Cx) : Prop where
  hs : X.stack = X.env :: X.outer
  hf : X.env.frame = some X.env.locals
  hex : X.ex = []
theorem CtxOk.tr {Γ : Ga} {S : Su} {X : Cx} (c : CtxOk Γ S X) (pn : List (Addr × Obj)) (xe : Value → Shared → Prop) : CtxOk Γ S (X.tr pn xe) :=
  ⟨c.N, c.sc, c.calm, c.nd, c.hh, c.un, c.st, c.fn, c.bl, c.cs, c.fx, c.xc, c.xi⟩

theorem lookup_rel : ∀ (l : List (Str × NameKind)) (sc : Scope) (x : Str) (k : NameKind), k = .local ∨ k = .cell → l.lookup x = some k → (l.map fun p => match p with
    | (n, k) => if (k == NameKind.free && sc.kind == ScopeKind.function && List.lookup n sc.names == some NameKind.cell) = true then (n, NameKind.cell) else (n, k)).lookup x = some k
  | [], _, _, _, _, h => by cases h
  | (n, k') :: l, sc, x, k, hk, h => by
    rw [List.map_cons]
    by_cases hx : x == n
    · have : k' = k := by
        rw [List.lookup_cons, hx] at h
        exact Option.some.inj h
      subst this
      have e : (k' == NameKind.free && sc.kind == ScopeKind.function && List.lookup n sc.names == some NameKind.cell) = false := by
        rcases hk with rfl | rfl <;> rfl
      simp only [e]
      rw [if_neg (by simp), List.lookup_cons, hx]
    · have h' : l.lookup x = some k := by
        rw [List.lookup_cons] at h
        simp only [hx] at h
        exact h
      have hx' : (x == n) = false := by simpa using hx
      have ih := lookup_rel l sc x k hk h'
      have g : ∀ (b : Bool) (m : List (Str × NameKind)), ((if b = true then (n, NameKind.cell) else (n, k')) :: m).lookup x = m.lookup x := fun b m => by
        cases b
        · show (match x == n with | true => some k' | false => m.lookup x) = _
          rw [hx']
        · show (match x == n with | true => some NameKind.cell | false => m.lookup x) = _
          rw [hx']
      exact (g _ _).trans ih
theorem CtxOk.blk {Γ : Ga} {S : Su} {X : Cx} (c : CtxOk Γ S X) (scope : Scope) (s : Shared) (H : Hp) (C : Addr) (cl : List (Str × Addr)) (fp : List Addr) : CtxOk (Γ.blk scope) S (X.blk s H scope (compEnvC scope cl C X.env) fp) where
  N := c.N
  sc := by show relS scope X.env.scope = relS scope Γ.sc; rw [c.sc]
  calm := c.calm
  nd := c.nd
  hh := c.hh
  un := c.un
  st := fun x h => by
    have h1 : ∀ k, k = NameKind.local ∨ k = .cell → scope.names.lookup x = some k → (relS scope X.env.scope).names.lookup x = some k := fun k hk h => lookup_rel scope.names X.env.scope x k hk h
    rcases h with h | h
    · exact ⟨.inl (h1 _ (.inl rfl) h), .inr (h1 _ (.inl rfl) h)⟩
    · refine ⟨.inr (h1 _ (.inr rfl) h), .inl ?_⟩
      show (List.lookup x scope.names == some NameKind.cell) = true
      rw [show List.lookup x scope.names = some NameKind.cell from h]
      rfl
  fn := c.fn
  bl := c.bl
  cs := c.cs
  fx := c.fx
  xc := c.xc
  xi := c.xi

section
variable {Γ : Ga} {S : Su} {X : Cx}
theorem gl_of (c : CtxOk Γ S X) {x : Str} (h : glb Γ x = true) : Gl X x ∧ x ≠ so "__name__" ∧ (x == so "__debug__") = false := by
  unfold glb at h
  rw [Bool.and_eq_true, Bool.and_eq_true] at h
  refine ⟨?_, ?_, ?_⟩
  · show List.lookup x X.env.scope.names = _
    rw [c.sc]
    exact eq_of_beq h.1.1
  · intro e
    have := h.1.2
    rw [e] at this
    simp at this
  · simpa using h.2
theorem bi_of (c : CtxOk Γ S X) {x nm : Str} {v : Value} (h : ckB Γ x nm = true) (hn : nm ∈ bns) (hv : IsFn v) (hb : bootBuiltins nm = some v) : Bi X x v := by
  unfold ckB at h
  rw [Bool.and_eq_true] at h
  have e : x = nm := eq_of_beq h.1
  subst e
  obtain ⟨h1, h2, h3⟩ := gl_of c h.2
  exact ⟨hv, h1, c.bl _ hn, hb, h2, h3⟩
theorem var_of (c : CtxOk Γ S X) {i : Nat} {x : Str} {pos : Pos} (h : ckV Γ i x = true) : PE X (.Name x pos) (tVar i) := by
  unfold ckV at h
  rw [Bool.and_eq_true, Bool.and_eq_true, Bool.and_eq_true] at h
  obtain ⟨⟨h, hd⟩, hcd⟩ := h
  refine pe_var (by rw [c.N]; exact eq_of_beq h.1) ?_ (by simpa using hd) (by simpa using hcd)
  show Vis X.env.scope x
  rw [c.sc]
  have h2 := h.2
  rw [Bool.or_eq_true, Bool.or_eq_true] at h2
  rcases h2 with (w | w) | w
  · exact .inl (eq_of_beq w)
  · exact .inr (.inl (eq_of_beq w))
  · exact .inr (.inr (eq_of_beq w))
theorem sto_of (c : CtxOk Γ S X) {i : Nat} {x : Str} (h : ckW Γ i x = true) : Sto X i x := by
  unfold ckW at h
  rw [Bool.and_eq_true] at h
  have h2 : Γ.ws.lookup x = some .local ∨ Γ.ws.lookup x = some .cell := by
    have h2 := h.2
    rw [Bool.or_eq_true] at h2
    rcases h2 with w | w
    · exact .inl (eq_of_beq w)
    · exact .inr (eq_of_beq w)
  obtain ⟨h3, h4⟩ := c.st x h2
  exact ⟨c.nd, by rw [c.N]; exact eq_of_beq h.1, h3, h4⟩
theorem strOk_iff {s : List Nat} (h : strOk s = true) : s.length ≤ bigLine ∧ ∀ c ∈ s, c < 0x110000 := by
  unfold strOk at h
  rw [Bool.and_eq_true] at h
  exact ⟨of_decide_eq_true h.1, fun c hc => of_decide_eq_true (List.all_eq_true.mp h.2 c hc)⟩
theorem lit_rep {K : Fg} {G : Hp} : ∀ {l : Lit}, (∀ s, l = .str s → strOk s = true) → Rep K G l.val l.v
  | .non, _ => rfl
  | .bl _, _ => rfl
  | .int _, _ => rfl
  | .str s, h => by
    obtain ⟨h1, h2⟩ := strOk_iff (h s rfl)
    exact ⟨rfl, h1, h2⟩
theorem litC_ok {l : Lit} {c : Const} {pos : Pos} {k : Nat} (h : litC l c = true) : PE X (.Constant c k pos) (tC l.v) ∧ ∀ s, l = .str s → strOk s = true := by
  cases l <;> cases c <;> first | (cases h; done) | skip
  · exact ⟨pe_non, fun s e => by cases e⟩
  · rename_i a b
    have e : a = b := eq_of_beq h
    subst e
    exact ⟨pe_bl, fun s e => by cases e⟩
  · rename_i a b
    have e : a = b := eq_of_beq h
    subst e
    exact ⟨pe_int, fun s e => by cases e⟩
  · rename_i a b
    have h' : (b == ⟨a.toArray⟩ && strOk a) = true := h
    rw [Bool.and_eq_true] at h'
    have e : b = ⟨a.toArray⟩ := eq_of_beq h'.1
    subst e
    exact ⟨pe_str, fun s e => by cases e; exact h'.2⟩
theorem lit_of (c : CtxOk Γ S X) {l : Lit} {e : Expr} (h : ckE Γ (.lit l) e = true) : PE X e (tC l.v) ∧ ∀ s, l = .str s → strOk s = true := by
  cases e with
  | Constant cc k pos => exact litC_ok h
  | Name x pos =>
    have h' : (Γ.cs.lookup x == some l && glb Γ x) = true := h
    rw [Bool.and_eq_true] at h'
    obtain ⟨⟨u, h1, h2⟩, h3⟩ := c.cs x l (eq_of_beq h'.1)
    obtain ⟨h4, h5, h6⟩ := gl_of c h'.2
    exact ⟨pe_glob h4 h1 h2 h6, h3⟩
  | _ => cases h
theorem call_of (c : CtxOk Γ S X) {x : Str} {f : Nat} {F : Fn} (h : ckF0 Γ x f = some F) : Cal X S.cf x f F := by
  unfold ckF0 at h
  split at h
  · rename_i h1
    rw [Bool.and_eq_true] at h1
    obtain ⟨h4, h5, h6⟩ := gl_of c h1.2
    obtain ⟨a, fd, ps, k, z1, z2, z3, z4, z5, _⟩ := c.fn x f F (eq_of_beq h1.1) h
    exact ⟨⟨a, fd, ps, k, z1, z2, z3, z4, z5⟩, h4, h6⟩
  · cases h
theorem callX_of (c : CtxOk Γ S X) {x : Str} {f : Nat} {F : Fn} (h : ckF0 Γ x f = some F) (hz : F.rz = true) : CalX X S.cf x f F := by
  unfold ckF0 at h
  split at h
  · rename_i h1
    rw [Bool.and_eq_true] at h1
    obtain ⟨h4, h5, h6⟩ := gl_of c h1.2
    obtain ⟨a, fd, ps, k, z1, z2, z3, z4, z5⟩ := c.fx x f F (eq_of_beq h1.1) h hz
    exact ⟨⟨a, fd, ps, k, z1, z2, z3, z4, z5⟩, h4, h6⟩
  · cases h
theorem callK_of (c : CtxOk Γ S X) {x : Str} {f : Nat} {F : Fn} {ks : List Str} {p : List Nat} (h : ckF0 Γ x f = some F) (hk : Γ.kw.contains (f, ks, p) = true) : CalK X S.cf x f F ks p := by
  unfold ckF0 at h
  split at h
  · rename_i h1
    rw [Bool.and_eq_true] at h1
    obtain ⟨h4, h5, h6⟩ := gl_of c h1.2
    obtain ⟨a, fd, ps, k, z1, z2, z3, z4, z5, z6⟩ := c.fn x f F (eq_of_beq h1.1) h
    exact ⟨⟨a, fd, ps, k, z1, z2, z6 ks p (List.contains_iff_mem.mp hk), z4, z5⟩, h4, h6⟩
  · cases h
theorem blk_of (c : CtxOk Γ S X) {scope : Scope} {own : List Nat} (h : blkOkB Γ.N Γ.sc scope own = true) : BlkOk X.N X.env.scope scope (own.map fun i => (Γ.N.getD i ⟨#[]⟩, i)) := by
  unfold blkOkB at h
  rw [Bool.and_eq_true, Bool.and_eq_true, Bool.and_eq_true, Bool.and_eq_true] at h
  obtain ⟨⟨⟨⟨h1, h2⟩, h3⟩, h4⟩, h5⟩ := h
  have gN : ∀ i ∈ own, Γ.N[i]? = some (Γ.N.getD i ⟨#[]⟩) := fun i hi => by
    have := of_decide_eq_true (List.all_eq_true.mp h3 i hi)
    rw [List.getD_eq_getElem?_getD, List.getElem?_eq_getElem this]
    rfl
  refine ⟨eq_of_beq h1, fun y hy => eq_of_beq (List.all_eq_true.mp h2 y hy), fun p hp => ?_, fun y hy hf => ?_, fun y hy hl => ?_⟩
  · obtain ⟨i, hi, rfl⟩ := List.mem_map.mp hp
    rw [c.N]
    exact gN i hi
  · have := List.all_eq_true.mp h4 y hy
    rw [hf] at this
    rw [c.sc]
    rw [Bool.or_eq_true, Bool.or_eq_true] at this
    rcases this with (w | w) | w
    · cases w
    · exact .inl (eq_of_beq w)
    · exact .inr (eq_of_beq w)
  · have := List.all_eq_true.mp h5 y hy
    rw [Bool.or_eq_true, Bool.or_eq_true] at this
    rcases this with (w | w) | w
    · rcases hl with e | e <;> rw [e] at w <;> cases w
    · obtain ⟨i, hi, e⟩ := List.any_eq_true.mp w
      refine .inl ?_
      rw [List.map_map]
      refine List.mem_map.mpr ⟨i, hi, ?_⟩
      have e1 : Γ.N[i]? = some y.1 := eq_of_beq e
      rw [gN i hi] at e1
      exact Option.some.inj e1
    · refine .inr fun hm => ?_
      rw [c.N] at hm
      rw [List.contains_iff_mem.mpr hm] at w
      cases w
theorem nset_ok {e : Expr} {env : Env} (h : nset e = true) : ∀ x, foldedSetIterable e env x = pure x := fun x => by
  cases e <;> first | rfl | cases h
theorem nst_of (n : Bool) : True := trivial
/-- targets -/
theorem tg_nst {Γ : Ga} : ∀ {tg : Tg} {e : Expr}, ckTg Γ tg e = true → nst e = true := fun {tg e} h => by
  cases tg <;> cases e <;> first | rfl | cases h
theorem tg_ok : ∀ {tg : Tg} {e : Expr}, CtxOk Γ S X → ckTg Γ tg e = true → PG X e (tPut X.K tg.slots tg.put)
  | .nm i, e, c, h => by
    cases e with
    | Name x pos => exact g_nm (sto_of c h)
    | _ => cases h
  | .two a b, e, c, h => by
    cases e with
    | Tuple es k p =>
      match es, h with
      | [x, y], h =>
        have h' : (nst x && nst y && ckTg Γ a x && ckTg Γ b y) = true := h
        simp only [Bool.and_eq_true] at h'
        exact g_two c.calm h'.1.1.1 h'.1.1.2 (tg_ok c h'.1.2) (tg_ok c h'.2)
      | [], h => cases h
      | [_], h => cases h
      | _ :: _ :: _ :: _, h => cases h
    | _ => cases h
  | .three a b d, e, c, h => by
    cases e with
    | Tuple es k p =>
      match es, h with
      | [x, y, z], h =>
        have h' : (nst x && nst y && nst z && ckTg Γ a x && ckTg Γ b y && ckTg Γ d z) = true := h
        simp only [Bool.and_eq_true] at h'
        exact g_three c.calm h'.1.1.1.1.1 h'.1.1.1.1.2 h'.1.1.1.2 (tg_ok c h'.1.1.2) (tg_ok c h'.1.2) (tg_ok c h'.2)
      | [], h => cases h
      | [_], h => cases h
      | [_, _], h => cases h
      | _ :: _ :: _ :: _ :: _, h => cases h
    | _ => cases h
end
end En

/-! En20: the check of operations is sound. -/
namespace En
open PySem PySem.Spec PyProof.Rows L2

abbrev P1M (o : P1) (m : M Hd) : M D := do
  let h ← m
  let x ← h.get
  M.of (o.run x)
abbrev P2M (o : P2) (m n : M Hd) : M D := do
  let h ← m
  let k ← n
  let x ← h.get
  let y ← k.get
  M.of (o.run x y)
abbrev P3M (o : P3) (m : M Hd) (n p : M D) : M D := do
  let h ← m
  let y ← n
  let z ← p
  let x ← h.get
  M.of (o.run x y z)
section
variable {Γ : Ga} {S : Su} {X : Cx}
def plainT (e : Expr) : Prop := ∀ (env : Env) (whole : Sem Value), PySem.isTrue e env whole = (whole >>= fun v => standAt e.pos >>= fun _ => holding [v] (truthy v))
theorem both {e : Expr} {m : M D} (he : PE X e (tV X.K m)) (hp : plainT e) : PE X e (tV X.K m) ∧ PT X e (tTs X.K (evB m)) := ⟨he, pt_val' he (hp X.env)⟩
theorem isN_bl : ∀ x d, P1.run .isN x = .ok d → isBl d = true := fun x d h => by
  cases (show R.ok (D.bl _) = R.ok d from h)
  rfl
theorem notN_bl : ∀ x d, P1.run .notN x = .ok d → isBl d = true := fun x d h => by
  cases (show R.ok (D.bl _) = R.ok d from h)
  rfl
theorem boot_tab : bootBuiltins (so "len") = some (.builtin "len") ∧ bootBuiltins (so "int") = some (.type "int") ∧ bootBuiltins (so "abs") = some (.builtin "abs") ∧ bootBuiltins (so "tuple") = some (.type "tuple") ∧ bootBuiltins (so "all") = some (.builtin "all") ∧ bootBuiltins (so "any") = some (.builtin "any") ∧ bootBuiltins (so "sum") = some (.builtin "sum") ∧ bootBuiltins (so "min") = some (.builtin "min") ∧ bootBuiltins (so "max") = some (.builtin "max") ∧ bootBuiltins (so "list") = some (.type "list") ∧ bootBuiltins (so "isinstance") = some (.builtin "isinstance") := by decide +kernel
theorem boot_ty (t : Ty) : bootBuiltins (so t.nm) = some (.type t.nm) := by cases t <;> decide +kernel
theorem ty_bns (t : Ty) : so t.nm ∈ bns := by cases t <;> decide +kernel
theorem fn1_ok (c : CtxOk Γ S X) : ∀ {o : P1} {nm : Str}, fn1 o = some nm → ∃ v, IsFn v ∧ nm ∈ bns ∧ bootBuiltins nm = some v ∧ CallR X v (c1 (rD1 X.K o.run)) := fun {o nm} h => by
  obtain ⟨b1, b2, b3, b4, b5, b6, b7, b8, b9, b10, b11⟩ := boot_tab
  cases o <;> first | (cases h; done) | skip
  all_goals cases h
  · exact ⟨_, .inl ⟨_, rfl⟩, by decide +kernel, b1, crD_len⟩
  · exact ⟨_, .inr ⟨_, rfl⟩, by decide +kernel, b2, crD_int⟩
  · exact ⟨_, .inl ⟨_, rfl⟩, by decide +kernel, b3, crD_abs⟩
  · exact ⟨_, .inr ⟨_, rfl⟩, by decide +kernel, b4, crD_tuple c.calm⟩
  · exact ⟨_, .inl ⟨_, rfl⟩, by decide +kernel, b5, crD_all c.calm⟩
  · exact ⟨_, .inl ⟨_, rfl⟩, by decide +kernel, b6, crD_any c.calm⟩
  · exact ⟨_, .inl ⟨_, rfl⟩, by decide +kernel, b7, crD_sum c.calm⟩
  · exact ⟨_, .inl ⟨_, rfl⟩, by decide +kernel, b8, crD_min c.calm⟩
  · exact ⟨_, .inl ⟨_, rfl⟩, by decide +kernel, b9, crD_max c.calm⟩
theorem tys_ok (c : CtxOk Γ S X) : ∀ {ts : List Ty} {es : List Expr}, ckTys Γ ts es = true → Paired (fun t e => ∃ y p, e = Expr.Name y p ∧ Bi X y (.type (Ty.nm t))) ts es
  | [], [], _ => .nil
  | t :: ts, .Name y p :: es, h => by
    have h' : (ckB Γ y (so t.nm) && ckTys Γ ts es) = true := h
    rw [Bool.and_eq_true] at h'
    exact .cons ⟨y, p, rfl, bi_of c h'.1 (ty_bns t) (.inr ⟨_, rfl⟩) (boot_ty t)⟩ (tys_ok c h'.2)
  | [], _ :: _, h => by cases h
  | _ :: _, [], h => by cases h
theorem fnT_ok : ∀ {ts : List Ty} {t : Ty}, fnT ts = some t → ts = [t]
  | [], _, h => by cases h
  | [_], _, h => by cases h; rfl
  | _ :: _ :: _, _, h => by cases h
theorem ck1_ok (c : CtxOk Γ S X) {o : P1} {m : M Hd} {cf : Expr → Bool} {e : Expr} (h : ck1 Γ o cf e = true) (hc : ∀ e', cf e' = true → PE X e' (tHd X.K m)) : PE X e (tV X.K (P1M o m)) ∧ PT X e (tTs X.K (evB (P1M o m))) := by
  obtain ⟨b1, b2, b3, b4, b5, b6, b7, b8, b9, b10, b11⟩ := boot_tab
  unfold ck1 at h
  split at h
  · exact both (w_un unD_neg (hc _ h)) fun _ _ => rfl
  · exact ⟨w_isN opD_isN (fun _ => rfl) (hc _ h), t_isN opD_isN (fun _ => rfl) isN_bl (hc _ h)⟩
  · exact ⟨w_isN opD_notN (fun _ => rfl) (hc _ h), t_isN opD_notN (fun _ => rfl) notN_bl (hc _ h)⟩
  · simp only [Bool.and_eq_true] at h
    obtain ⟨⟨⟨⟨h1, h2⟩, h3⟩, h4⟩, h5⟩ := h
    exact both (w_isiT (bi_of c h1 (by decide +kernel) (.inl ⟨_, rfl⟩) b11) (tys_ok c h4) (of_decide_eq_true h5) h2 (hc _ h3)) fun _ _ => rfl
  · split at h
    · rename_i t ht
      simp only [Bool.and_eq_true] at h
      obtain ⟨⟨⟨h1, h2⟩, h3⟩, h4⟩ := h
      have e := fnT_ok ht
      subst e
      exact both (w_isi1 (bi_of c h1 (by decide +kernel) (.inl ⟨_, rfl⟩) b11) (bi_of c h4 (ty_bns t) (.inr ⟨_, rfl⟩) (boot_ty t)) h2 (hc _ h3)) fun _ _ => rfl
    · cases h
  · exact both (PEimp (pe_revD (hc _ h)) fun σ H Q q => p1_imp w1 σ H Q q) fun _ _ => rfl
  · simp only [Bool.and_eq_true] at h
    obtain ⟨⟨⟨⟨h0, h1⟩, h2⟩, h3⟩, h4⟩ := h
    have e0 := eq_of_beq h0
    subst e0
    exact both (w_maxlen (bi_of c h1 (by decide +kernel) (.inl ⟨_, rfl⟩) b9) (bi_of c h2 (by decide +kernel) (.inl ⟨_, rfl⟩) b1) c.calm h3 (hc _ h4)) fun _ _ => rfl
  · simp only [Bool.and_eq_true] at h
    obtain ⟨⟨⟨⟨h0, h1⟩, h2⟩, h3⟩, h4⟩ := h
    have e0 := eq_of_beq h0
    subst e0
    exact both (w_maxlenT (bi_of c h1 (by decide +kernel) (.inl ⟨_, rfl⟩) b9) (bi_of c h2 (by decide +kernel) (.inl ⟨_, rfl⟩) b1) c.calm h3 (hc _ h4)) fun _ _ => rfl
  · split at h
    · rename_i nm hn
      simp only [Bool.and_eq_true] at h
      obtain ⟨⟨h1, h2⟩, h3⟩ := h
      obtain ⟨v, hv, hb, hbt, cr⟩ := fn1_ok c hn
      exact both (w_f1 (bi_of c h1 hb hv hbt) cr h2 (hc _ h3)) fun _ _ => rfl
    · cases h
  · cases h
theorem bin2_ok : ∀ {o : P2} {op : Operator}, bin2 o = some op → OpR X (binaryOp op) (rD2 X.K o.run) := fun {o op} h => by
  cases o <;> first | (cases h; done) | skip
  all_goals cases h
  · exact opD_add
  · exact opD_sub
  · exact opD_mul
  · exact opD_fdiv
  · exact opD_mod
  · exact opD_pow
theorem cmp2_ok (c : CtxOk Γ S X) : ∀ {o : P2} {op : CmpOp}, cmp2 o = some op → OpR X (compareOp op) (rD2 X.K o.run) := fun {o op} h => by
  have u := c.un
  cases o <;> first | (cases h; done) | skip
  all_goals cases h
  · exact opD_eq (by omega)
  · exact opD_ne (by omega)
  · exact opD_lt
  · exact opD_le
  · exact opD_gt
  · exact opD_ge
  · exact opD_in (by omega)
  · exact opD_notIn (by omega)
theorem blite {p : Prop} [Decidable p] {b : Bool} {d : D} (h : (if p then R.ok (D.bl b) else R.bad) = R.ok d) : isBl d = true := by
  split at h
  · cases h; rfl
  · cases h
theorem cmp2_bl : ∀ {o : P2} {op : CmpOp}, cmp2 o = some op → ∀ x y d, o.run x y = .ok d → isBl d = true := fun {o op} h x y d e => by
  have ins : ∀ (f : Bool → Bool) (u v : List Nat), inStr u v f = .ok d → isBl d = true := fun f u v e => by
    unfold inStr at e
    split at e
    · cases e; rfl
    · cases e
  cases o <;> first | (cases h; done) | skip
  · exact blite (show (if x.okc && y.okc then R.ok (D.bl _) else R.bad) = R.ok d from e)
  · exact blite (show (if x.okc && y.okc then R.ok (D.bl _) else R.bad) = R.ok d from e)
  · cases x <;> cases y <;> first | (cases e; rfl) | cases (show R.bad = R.ok d from e)
  · cases x <;> cases y <;> first | (cases e; rfl) | cases (show R.bad = R.ok d from e)
  · cases x <;> cases y <;> first | (cases e; rfl) | cases (show R.bad = R.ok d from e)
  · cases x <;> cases y <;> first | (cases e; rfl) | cases (show R.bad = R.ok d from e)
  · cases y with
    | str v =>
      cases x with
      | str u => exact ins _ u v e
      | _ => cases (show R.bad = R.ok d from e)
    | lst l => cases x <;> (simp only [P2.run] at e; exact blite e)
    | tup l => cases x <;> (simp only [P2.run] at e; exact blite e)
    | dic ks vs => cases x <;> (cases (show R.ok (D.bl _) = R.ok d from e); rfl)
    | _ => cases x <;> cases (show R.bad = R.ok d from e)
  · cases y with
    | str v =>
      cases x with
      | str u => exact ins _ u v e
      | _ => cases (show R.bad = R.ok d from e)
    | lst l => cases x <;> (simp only [P2.run] at e; exact blite e)
    | tup l => cases x <;> (simp only [P2.run] at e; exact blite e)
    | dic ks vs => cases x <;> (cases (show R.ok (D.bl _) = R.ok d from e); rfl)
    | _ => cases x <;> cases (show R.bad = R.ok d from e)
theorem fn2_ok (c : CtxOk Γ S X) : ∀ {o : P2} {nm : Str}, fn2 o = some nm → ∃ v, IsFn v ∧ nm ∈ bns ∧ bootBuiltins nm = some v ∧ CallR X v (c2 (rD2 X.K o.run)) := fun {o nm} h => by
  obtain ⟨b1, b2, b3, b4, b5, b6, b7, b8, b9, b10, b11⟩ := boot_tab
  cases o <;> first | (cases h; done) | skip
  all_goals cases h
  · exact ⟨_, .inl ⟨_, rfl⟩, by decide +kernel, b8, crD_min2 c.calm⟩
  · exact ⟨_, .inl ⟨_, rfl⟩, by decide +kernel, b9, crD_max2 c.calm⟩
theorem isStr_ok {a : Ex} (h : (isStrLit a).isSome = true) : ∃ s, a = .lit (.str s) := by
  cases a with
  | lit l => cases l <;> first | exact ⟨_, rfl⟩ | cases h
  | _ => cases h
theorem notCall_ok : ∀ {e : Expr}, notCall e = true → (match e with | .Call _ _ _ _ => false | _ => true) = true := fun {e} h => by
  cases e <;> first | rfl | cases h
theorem ev_lit (S : Su) (l : Lit) : ev S (.lit l) = pure l.val := by rw [ev]
theorem look_lit (S : Su) (s : List Nat) : look (.lit (.str s)) (ev S (.lit (.str s))) = (do let d ← (pure (D.str s) : M D); pure (Hd.hv d) : M Hd) := by
  rw [ev_lit]
  rfl
theorem ck2_ok (c : CtxOk Γ S X) {o : P2} {a : Ex} {n : M Hd} {cf df : Expr → Bool} {e : Expr} (h : ck2 Γ o a cf df e = true) (hc : ∀ e', cf e' = true → PE X e' (tHd X.K (look a (ev S a)))) (hd : ∀ e', df e' = true → PE X e' (tHd X.K n))
    (hl : ∀ s e', a = .lit (.str s) → cf e' = true → PE X e' (tC (.str ⟨s.toArray⟩)) ∧ strOk s = true) : PE X e (tV X.K (P2M o (look a (ev S a)) n)) ∧ PT X e (tTs X.K (evB (P2M o (look a (ev S a)) n))) := by
  unfold ck2 at h
  split at h
  · simp only [Bool.and_eq_true] at h
    obtain ⟨⟨h1, h2⟩, h3⟩ := h
    exact both (w_op2 (bin2_ok (eq_of_beq h1)) (hc _ h2) (hd _ h3)) fun _ _ => rfl
  · simp only [Bool.and_eq_true] at h
    obtain ⟨⟨⟨h1, h2⟩, h3⟩, h4⟩ := h
    have hb := by simpa using h2
    exact ⟨w_cmp (cmp2_ok c (eq_of_beq h1)) hb (hc _ h3) (hd _ h4), t_cmp (cmp2_ok c (eq_of_beq h1)) hb (cmp2_bl (eq_of_beq h1)) (hc _ h3) (hd _ h4)⟩
  · simp only [Bool.and_eq_true] at h
    obtain ⟨⟨h1, h2⟩, h3⟩ := h
    have e := eq_of_beq h1
    subst e
    exact both (w_slHi (hc _ h2) (hd _ h3)) fun _ _ => rfl
  · simp only [Bool.and_eq_true] at h
    obtain ⟨⟨h1, h2⟩, h3⟩ := h
    have e := eq_of_beq h1
    subst e
    exact both (w_slLo (hc _ h2) (hd _ h3)) fun _ _ => rfl
  · simp only [Bool.and_eq_true] at h
    obtain ⟨⟨⟨h1, h4⟩, h2⟩, h3⟩ := h
    have e := eq_of_beq h1
    subst e
    exact both (w_ix (nix_plain h4) (hc _ h2) (hd _ h3)) fun _ _ => rfl
  · split at h
    · rename_i nm hn
      simp only [Bool.and_eq_true] at h
      obtain ⟨⟨⟨⟨h1, h2⟩, h3⟩, h4⟩, h5⟩ := h
      obtain ⟨v, hv, hb, hbt, cr⟩ := fn2_ok c hn
      exact both (w_f2 (bi_of c h1 hb hv hbt) cr h2 h3 (hc _ h4) (hd _ h5)) fun _ _ => rfl
    · cases h
  · simp only [Bool.and_eq_true] at h
    obtain ⟨⟨⟨⟨⟨⟨⟨h1, h2⟩, h3⟩, h4⟩, h5⟩, h6⟩, h7⟩, h8⟩ := h
    have e := eq_of_beq h1
    subst e
    have e := eq_of_beq h2
    subst e
    obtain ⟨b1, b2, b3, b4, b5, b6, b7, b8, b9, b10, b11⟩ := boot_tab
    exact both (w_mxl2 (bi_of c h3 (by decide +kernel) (.inl ⟨_, rfl⟩) b9) (bi_of c h4 (by decide +kernel) (.inl ⟨_, rfl⟩) b1) c.calm h5 h6 (hc _ h7) (hd _ h8)) fun _ _ => rfl
  · simp only [Bool.and_eq_true] at h
    obtain ⟨⟨⟨⟨⟨⟨⟨h1, h2⟩, h3⟩, h4⟩, h5⟩, h6⟩, h7⟩, h8⟩ := h
    have e := eq_of_beq h1
    subst e
    have e := eq_of_beq h2
    subst e
    obtain ⟨s, rfl⟩ := isStr_ok h6
    obtain ⟨h9, h10⟩ := hl s _ rfl h7
    obtain ⟨h11, h12⟩ := strOk_iff h10
    rw [look_lit]
    exact both (w_join h3 (notCall_ok h5) h4 h11 h12 h9 (hd _ h8)) fun _ _ => rfl
  · cases h
theorem ck3_ok (c : CtxOk Γ S X) {o : P3} {m : M Hd} {n p : M D} {cf df ff : Expr → Bool} {e : Expr} (h : ck3 Γ o cf df ff e = true) (hc : ∀ e', cf e' = true → PE X e' (tHd X.K m)) (hd : ∀ e', df e' = true → PE X e' (tV X.K n)) (hf : ∀ e', ff e' = true → PE X e' (tV X.K p)) :
    PE X e (tV X.K (P3M o m n p)) ∧ PT X e (tTs X.K (evB (P3M o m n p))) := by
  unfold ck3 at h
  split at h
  · simp only [Bool.and_eq_true] at h
    obtain ⟨⟨h1, h2⟩, h3⟩ := h
    exact both (w_slBo (hc _ h1) (hd _ h2) (hf _ h3)) fun _ _ => rfl
  · simp only [Bool.and_eq_true] at h
    obtain ⟨⟨⟨⟨⟨⟨h0, n1⟩, n2⟩, n3⟩, h1⟩, h2⟩, h3⟩ := h
    exact both (w_f3 (bi_of c h0 (by decide +kernel) (.inl ⟨_, rfl⟩) boot_tab.2.2.2.2.2.2.2.2.1) (fun _ _ _ _ => max3_ok) (cr_max3 c.calm) n1 n2 n3 (hc _ h1) (hd _ h2) (hf _ h3)) fun _ _ => rfl
  · simp only [Bool.and_eq_true] at h
    obtain ⟨⟨⟨⟨⟨⟨h0, n1⟩, n2⟩, n3⟩, h1⟩, h2⟩, h3⟩ := h
    exact both (w_f3 (bi_of c h0 (by decide +kernel) (.inl ⟨_, rfl⟩) boot_tab.2.2.2.2.2.2.2.1) (fun _ _ _ _ => min3_ok) (cr_min3 c.calm) n1 n2 n3 (hc _ h1) (hd _ h2) (hf _ h3)) fun _ _ => rfl
  · cases h
end
end En

/-! En21: the check of expressions is sound. -/
namespace En
open PySem PySem.Spec PyProof.Rows L2

theorem nos_len {S : Su} : ∀ {es : Es}, es.nos = true → lenIs (evs S es) es.len
  | .nil, _ => fun e l e' h => by
    rw [evs] at h
    cases h
    rfl
  | .cons x r, h => fun e l e' h' => by
    rw [evs] at h'
    obtain ⟨x, e1, h1, h2⟩ := bind_ok h'
    obtain ⟨l, e2, h3, h4⟩ := bind_ok h2
    cases h4
    rw [List.length_cons, nos_len (show r.nos = true from h) _ _ _ h3]
    rfl
  | .star _ _, h => by cases h
theorem look_nv {a : Ex} {m : M D} (h : ∀ i, a ≠ .var i) : look a m = (do let d ← m; pure (Hd.hv d) : M Hd) := by
  cases a <;> first | rfl | exact absurd rfl (h _)
theorem look_hdM (S : Su) (a : Ex) : HdM (look a (ev S a)) := fun e i e' h => by
  by_cases hv : ∃ j, a = .var j
  · obtain ⟨j, rfl⟩ := hv
    have h' : rdHd j e = .ok (.hc i, e') := h
    unfold rdHd at h'
    split at h'
    · cases h'
    · rename_i k o q
      cases h'
      exact ⟨k, o, q⟩
    · cases h'
  · rw [look_nv fun j w => hv ⟨j, w⟩] at h
    obtain ⟨d, e1, h1, h2⟩ := bind_ok h
    cases h2
section
variable {Γ : Ga} {S : Su} {X : Cx}
theorem var_inv {i : Nat} {e : Expr} (h : ckE Γ (.var i) e = true) : ∃ x p, e = .Name x p ∧ ckV Γ i x = true := by
  unfold ckE at h
  cases e <;> first | exact ⟨_, _, rfl, h⟩ | cases h
/-- a handle from a value -/
theorem hd_pe (c : CtxOk Γ S X) {a : Ex} {e : Expr} (h : ckE Γ a e = true) (p : PE X e (tV X.K (ev S a))) : PE X e (tHd X.K (look a (ev S a))) := by
  by_cases hv : ∃ j, a = .var j
  · obtain ⟨j, rfl⟩ := hv
    obtain ⟨x, q, rfl, h'⟩ := var_inv h
    exact pe_rdHd (var_of c h')
  · rw [look_nv fun j w => hv ⟨j, w⟩]
    exact pe_look p
theorem hd_pt (c : CtxOk Γ S X) {a : Ex} {e : Expr} (h : ckE Γ a e = true) (p : PT X e (tTs X.K (evB (ev S a)))) : PT X e (tTs X.K (hdB (look a (ev S a)))) := by
  by_cases hv : ∃ j, a = .var j
  · obtain ⟨j, rfl⟩ := hv
    obtain ⟨x, q, rfl, h'⟩ := var_inv h
    exact pt_hd (pe_rdHd (var_of c h')) fun _ => rfl
  · rw [look_nv fun j w => hv ⟨j, w⟩, hd_of]
    exact p
def isBo : Expr → Bool
  | .BoolOp _ _ _ => true
  | _ => false
def Sn (X : Cx) (S : Su) (x : Ex) (e : Expr) : Prop := PE X e (tV X.K (ev S x)) ∧ (tst x e = true → PT X e (tTs X.K (evB (ev S x))) ∧ (isBo e = true → PW X e (tTs X.K (evB (ev S x)))))
theorem sn_plain {x : Ex} {e : Expr} {m : M D} (hm : ev S x = m) (h : PE X e (tV X.K m) ∧ PT X e (tTs X.K (evB m))) (hb : isBo e = false) : Sn X S x e := by
  subst hm
  exact ⟨h.1, fun _ => ⟨h.2, fun w => by rw [hb] at w; cases w⟩⟩
theorem sn_and (c : CtxOk Γ S X) {a b : Ex} {x y : Expr} {r : List Expr} {p : Pos} (ha : Sn X S a x) (hb : match r with | [] => Sn X S b y | z :: r => Sn X S b (.BoolOp .And (y :: z :: r) p)) : Sn X S (.and_ a b) (.BoolOp .And (x :: y :: r) p) := by
  have e : ev S (.and_ a b) = (do let x ← ev S a; if x.truth then ev S b else pure x) := by rw [ev]
  refine ⟨?_, fun ht => ?_⟩
  · rw [e]
    cases r with
    | nil => exact w_and ha.1 (pe_one hb.1)
    | cons z r => exact w_and ha.1 hb.1
  · have key : PW X (.BoolOp .And (x :: y :: r) p) (tTs X.K (evB (ev S (.and_ a b)))) := by
      unfold tst at ht
      rw [Bool.and_eq_true] at ht
      rw [e]
      cases r with
      | nil => exact t_and (ha.2 ht.1).1 (pw_and1 (hb.2 ht.2).1)
      | cons z r => exact t_and (ha.2 ht.1).1 ((hb.2 ht.2).2 rfl)
    exact ⟨key.pt, fun _ => key⟩
theorem sn_or (c : CtxOk Γ S X) {a b : Ex} {x y : Expr} {r : List Expr} {p : Pos} (ha : Sn X S a x) (hb : match r with | [] => Sn X S b y | z :: r => Sn X S b (.BoolOp .Or (y :: z :: r) p)) : Sn X S (.or_ a b) (.BoolOp .Or (x :: y :: r) p) := by
  have e : ev S (.or_ a b) = (do let x ← ev S a; if x.truth then pure x else ev S b) := by rw [ev]
  refine ⟨?_, fun ht => ?_⟩
  · rw [e]
    cases r with
    | nil => exact w_or ha.1 (pe_one hb.1)
    | cons z r => exact w_or ha.1 hb.1
  · have key : PW X (.BoolOp .Or (x :: y :: r) p) (tTs X.K (evB (ev S (.or_ a b)))) := by
      unfold tst at ht
      rw [Bool.and_eq_true] at ht
      rw [e]
      cases r with
      | nil => exact t_or (ha.2 ht.1).1 (pw_or1 (hb.2 ht.2).1)
      | cons z r => exact t_or (ha.2 ht.1).1 ((hb.2 ht.2).2 rfl)
    exact ⟨key.pt, fun _ => key⟩
theorem sn_not (c : CtxOk Γ S X) {a : Ex} {x : Expr} {p : Pos} (hk : ckE Γ a x = true) (ha : Sn X S a x) : Sn X S (.not_ a) (.UnaryOp .Not x p) := by
  have e : ev S (.not_ a) = (do let h ← look a (ev S a); let x ← h.get; pure (.bl (!x.truth))) := by rw [ev]
  refine ⟨?_, fun ht => ⟨?_, fun w => by cases w⟩⟩
  · rw [e]
    exact w_not (hd_pe c hk ha.1)
  · rw [e]
    unfold tst at ht
    exact t_not (hd_pt c hk (ha.2 ht).1)
theorem sn_ite (c : CtxOk Γ S X) {q a b : Ex} {t x y : Expr} {p : Pos} (hk : ckE Γ q t = true) (ht : tst q t = true) (hq : Sn X S q t) (ha : Sn X S a x) (hb : Sn X S b y) : Sn X S (.ite q a b) (.IfExp t x y p) := by
  have e : ev S (.ite q a b) = (do let t ← hdB (look q (ev S q)); if t then ev S a else ev S b) := by
    rw [ev]
    funext e0
    show R.bind (look q (ev S q) e0) _ = R.bind (R.bind (look q (ev S q) e0) _) _
    cases look q (ev S q) e0 with
    | ok r =>
      show R.bind (r.1.get r.2) _ = R.bind (R.bind (r.1.get r.2) _) _
      cases r.1.get r.2 <;> rfl
    | exc _ _ => rfl
    | bad => rfl
  refine ⟨?_, fun h => by unfold tst at h; cases h⟩
  rw [e]
  exact w_ite (hd_pt c hk (hq.2 ht).1) ha.1 hb.1
end
end En

/-! En22: the check of expressions is sound. -/
namespace En
open PySem PySem.Spec PyProof.Rows L2

section
variable {Γ : Ga} {S : Su} {X : Cx}
/-! ### calls -/
theorem sn_call (c : CtxOk Γ S X) {f : Nat} {F : Fn} {es : Es} {x : Str} {p pos : Pos} {xs : List Expr} (hf : ckF0 Γ x f = some F) (io : F.io = false) (hl : es.len = F.np) (hn : es.nos = true) (ns : xs.all nst = true) (hlx : es.len = xs.length) (ha : PA X xs (tAr X.K (evs S es))) :
    PE X (.Call (.Name x p) xs [] pos) (tV X.K (do let l ← evs S es; callR S.cf f l)) := by
  have cal := call_of c hf
  cases xs with
  | nil =>
    have he : es = .nil := by
      cases es with
      | nil => rfl
      | cons _ _ => cases hlx
      | star _ _ => cases hn
    subst he
    rw [evs]
    exact w_call0 cal io hl.symm
  | cons y ys => exact w_call cal io (by rw [← hl]; exact nos_len hn) ns ha
theorem fx_call (c : CtxOk Γ S X) {f : Nat} {F : Fn} {es : Es} {x : Str} {p pos : Pos} {xs : List Expr} (hf : ckF0 Γ x f = some F) (io : F.io = false) (fr : F.fr = true) (hl : es.len = F.np) (hn : es.nos = true) (ns : xs.all nst = true) (hlx : es.len = xs.length) (ha : PA X xs (tAr X.K (evs S es))) :
    PE X (.Call (.Name x p) xs [] pos) (tFr X.K (do let l ← evs S es; let d ← callR S.cf f l; lstOf d)) := by
  have cal := call_of c hf
  cases xs with
  | nil =>
    have he : es = .nil := by
      cases es with
      | nil => rfl
      | cons _ _ => cases hlx
      | star _ _ => cases hn
    subst he
    rw [evs]
    exact n_call0 cal io fr hl.symm
  | cons y ys => exact n_call cal io fr (by rw [← hl]; exact nos_len hn) ns ha
theorem ckEs_len : ∀ {es : Es} {xs : List Expr}, es.nos = true → ckEs Γ es xs = true → es.len = xs.length
  | .nil, xs, _, h => by
    unfold ckEs at h
    cases xs with
    | nil => rfl
    | cons _ _ => cases h
  | .cons e r, xs, hn, h => by
    unfold ckEs at h
    cases xs with
    | nil => cases h
    | cons x xs =>
      simp only [Bool.and_eq_true] at h
      show r.len + 1 = xs.length + 1
      rw [ckEs_len (show r.nos = true from hn) h.2]
  | .star _ _, _, hn, _ => by cases hn
/-! ### what is walked -/
theorem si_src (c : CtxOk Γ S X) {a : Ex} {te e : Expr} (h : ckE Γ a e = true) (ha : Sn X S a e) : PI X te e (tIt X.K (evI S (.src a))) := by
  have e1 : evI S (.src a) = srcM (look a (ev S a)) := by rw [evI]; rfl
  rw [e1]
  exact pi_src (look_hdM S a) (hd_pe c h ha.1)
theorem si_itM (S : Su) : ∀ it : It, ItM (evI S it)
  | .src a => by
    have e1 : evI S (.src a) = srcM (look a (ev S a)) := by rw [evI]; rfl
    rw [e1]
    exact it_src _
  | .rng1 a => by
    have e1 : evI S (.rng1 a) = rng1M (ev S a) := by rw [evI]; rfl
    rw [e1]
    exact it_rng1 _
  | .rng2 a b => by
    have e1 : evI S (.rng2 a b) = rng2M (ev S a) (ev S b) := by rw [evI]; rfl
    rw [e1]
    exact it_rng2 _ _
  | .rngdn a b => by
    have e1 : evI S (.rngdn a b) = rngdnM (ev S a) (ev S b) := by rw [evI]; rfl
    rw [e1]
    exact it_rngdn _ _
  | .zip a b => by
    have e1 : evI S (.zip a b) = zipM (ev S a) (ev S b) := by rw [evI]; rfl
    rw [e1]
    exact it_zip _ _
  | .enum a => by
    have e1 : evI S (.enum a) = enumM (ev S a) := by rw [evI]; rfl
    rw [e1]
    exact it_enum _
theorem rng_bl (c : CtxOk Γ S X) {x nm : Str} (h : ckB Γ x nm = true) (hn : nm ∈ bns) : x = nm ∧ Gl X nm ∧ X.mg nm = none := by
  unfold ckB at h
  rw [Bool.and_eq_true] at h
  have e : x = nm := eq_of_beq h.1
  subst e
  exact ⟨rfl, (gl_of c h.2).1, c.bl _ hn⟩
/-! ### the comprehension -/
theorem map_own (N : List Str) (own : List Nat) : (own.map fun i => (N.getD i ⟨#[]⟩, i)).map (·.2) = own := by
  rw [List.map_map]
  exact List.map_id own
def tsM (S : Su) : Option Ex → M Bool
  | none => pure true
  | some c => hdB (look c (ev S c))
def cmpM (S : Su) (own : List Nat) (tg : Tg) (it : It) (cs : Option Ex) (e : Ex) : M (List D) := do
  let p ← evI S it
  let q ← lockd p.1 (inBlk own (compL own tg.put (tsM S cs) (ev S e) p.2 (0, [])))
  pure q.2.reverse
theorem evF_comp2 (S : Su) (own own2 : List Nat) (tg tg2 : Tg) (it it2 : It) (cs : Option Ex) (e : Ex) : evF S (.comp2 own own2 tg it tg2 it2 cs e) =
    (do let p ← evI S it; let q ← lockd p.1 (inBlk own (compL2 own tg.put (innM (evI S it2) own2 tg2.put (tsM S cs) (ev S e)) p.2 (0, []))); pure q.2.reverse : M (List D)) := by
  cases cs <;> (unfold evF; rfl)
theorem evF_comp (S : Su) (own : List Nat) (tg : Tg) (it : It) (cs : Option Ex) (e : Ex) : evF S (.comp own tg it cs e) = cmpM S own tg it cs e := by
  cases cs <;> (unfold evF; rfl)
end
/-! ### all together -/
mutual
theorem sE {Γ : Ga} {S : Su} {X : Cx} (c : CtxOk Γ S X) : ∀ (x : Ex) {e : Expr}, ckE Γ x e = true → Sn X S x e
  | .var i, e, h => by
    obtain ⟨x, p, rfl, h'⟩ := var_inv h
    exact sn_plain rfl (both (pe_rdVar (var_of c h')) fun _ _ => rfl) rfl
  | .lit l, e, h => by
    obtain ⟨h1, h2⟩ := lit_of c h
    have h3 : PE X e (tV X.K (pure l.val)) := PEimp h1 (tC_imp fun G => lit_rep h2)
    have hp : plainT e ∧ isBo e = false := by
      unfold ckE at h
      cases e <;> first | exact ⟨fun _ _ => rfl, rfl⟩ | cases h
    exact sn_plain (ev_lit S l) (both h3 hp.1) hp.2
  | .glb _, _, h => by
    unfold ckE at h
    cases h
  | .p1 o a, e, h => by
    have e1 : ev S (.p1 o a) = P1M o (look a (ev S a)) := by rw [ev]
    unfold ckE at h
    refine sn_plain e1 (ck1_ok c h fun e' he => hd_pe c he (sE c a he).1) ?_
    unfold ck1 at h
    split at h <;> first | rfl | cases h
  | .p2 o a b, e, h => by
    have e1 : ev S (.p2 o a b) = P2M o (look a (ev S a)) (look b (ev S b)) := by rw [ev]
    unfold ckE at h
    refine sn_plain e1 (ck2_ok c h (fun e' he => hd_pe c he (sE c a he).1) (fun e' he => hd_pe c he (sE c b he).1) fun s e' ea he => ?_) ?_
    · subst ea
      obtain ⟨h1, h2⟩ := lit_of c he
      exact ⟨h1, h2 s rfl⟩
    · unfold ck2 at h
      split at h <;> first | rfl | cases h
  | .p3 o a b d, e, h => by
    have e1 : ev S (.p3 o a b d) = P3M o (look a (ev S a)) (ev S b) (ev S d) := by rw [ev]
    unfold ckE at h
    refine sn_plain e1 (ck3_ok c h (fun e' he => hd_pe c he (sE c a he).1) (fun e' he => (sE c b he).1) fun e' he => (sE c d he).1) ?_
    unfold ck3 at h
    split at h <;> first | rfl | cases h
  | .chn o o' a b d, e, h => by
    have e1 : ev S (.chn o o' a b d) = chnM o o' (ev S a) (ev S b) (ev S d) := by rw [ev]; rfl
    unfold ckE at h
    split at h
    · simp only [Bool.and_eq_true] at h
      obtain ⟨⟨⟨⟨⟨h1, h2⟩, h3⟩, h4⟩, h5⟩, h6⟩ := h
      have h1' := eq_of_beq h1
      have h2' := eq_of_beq h2
      have h3' := by simpa using h3
      exact sn_plain e1 ⟨w_chn (cmp2_ok c h1') (cmp2_ok c h2') h3' (sE c a h4).1 (sE c b h5).1 (sE c d h6).1, t_chn (cmp2_ok c h1') (cmp2_ok c h2') (cmp2_bl h2') h3' (sE c a h4).1 (sE c b h5).1 (sE c d h6).1⟩ rfl
    · cases h
  | .xno neg i, e, h => by
    have e1 : ev S (.xno neg i) = rdX neg i := by rw [ev]
    unfold ckE at h
    split at h
    · rw [Bool.and_eq_true] at h
      exact sn_plain e1 (w_xno h.1 (var_of c h.2)) rfl
    · cases h
  | .xis i tb, e, h => by
    have e1 : ev S (.xis i tb) = rdXi i tb := by rw [ev]
    unfold ckE at h
    split at h
    · simp only [Bool.and_eq_true] at h
      obtain ⟨⟨⟨h1, h2⟩, h3⟩, h4⟩ := h
      obtain ⟨g1, g2, g3⟩ := gl_of c h4
      obtain ⟨b1, b2, b3, b4, b5, b6, b7, b8, b9, b10, b11⟩ := boot_tab
      exact sn_plain e1 (both (w_xis (bi_of c h1 (by decide +kernel) (.inl ⟨_, rfl⟩) b11) (var_of c h2) (c.xi _ _ (eq_of_beq h3)) g1 ⟨g2, g3⟩) fun _ _ => rfl) rfl
    · cases h
  | .chn3 _ _ _ _ _ _ _, _, h => by
    unfold ckE at h
    cases h
  | .and_ a b, e, h => by
    unfold ckE at h
    split at h
    · rename_i x y r p
      rw [Bool.and_eq_true] at h
      refine sn_and c (sE c a h.1) ?_
      cases r with
      | nil => exact sE c b h.2
      | cons z r => exact sE c b h.2
    · cases h
  | .or_ a b, e, h => by
    unfold ckE at h
    split at h
    · rename_i x y r p
      rw [Bool.and_eq_true] at h
      refine sn_or c (sE c a h.1) ?_
      cases r with
      | nil => exact sE c b h.2
      | cons z r => exact sE c b h.2
    · cases h
  | .not_ a, e, h => by
    unfold ckE at h
    split at h
    · exact sn_not c h (sE c a h)
    · cases h
  | .ite q a b, e, h => by
    unfold ckE at h
    split at h
    · simp only [Bool.and_eq_true] at h
      exact sn_ite c h.1.1.1 h.1.1.2 (sE c q h.1.1.1) (sE c a h.1.2) (sE c b h.2)
    · cases h
  | .tup es, e, h => by
    unfold ckE at h
    split at h
    · have e1 : ev S (.tup es) = (do let l ← evs S es; if l.length ≤ bigLine then pure (.tup l) else M.of .bad) := by rw [ev]
      exact sn_plain e1 (both (w_tup (sEs c es h)) fun _ _ => rfl) rfl
    · cases h
  | .fr f, e, h => by
    unfold ckE at h
    have e1 : ev S (.fr f) = (do let l ← evF S f; pure (.lst l)) := by rw [ev]
    have h1 : PE X e (tV X.K (ev S (.fr f))) := by
      rw [e1]
      exact w_fr (sF c f h)
    refine ⟨h1, fun ht => ?_⟩
    have hp : plainT e ∧ isBo e = false := by
      unfold tst at ht
      cases f with
      | orf _ _ => cases ht
      | disp _ =>
        unfold ckF at h
        cases e <;> first | exact ⟨fun _ _ => rfl, rfl⟩ | cases h
      | q1 o a =>
        unfold ckF ckQ1 at h
        cases o <;> cases e <;> first | exact ⟨fun _ _ => rfl, rfl⟩ | cases h
      | q2 o a b =>
        unfold ckF ckQ2 at h
        cases o <;> cases e <;> first | exact ⟨fun _ _ => rfl, rfl⟩ | cases h
      | q3 o a b d =>
        unfold ckF ckQ3 at h
        cases o <;> cases e <;> first | exact ⟨fun _ _ => rfl, rfl⟩ | cases h
      | call _ _ =>
        unfold ckF at h
        cases e <;> first | exact ⟨fun _ _ => rfl, rfl⟩ | cases h
      | comp _ _ _ _ _ =>
        unfold ckF at h
        split at h
        · rename_i hlc
          obtain ⟨t, pos, rfl, _⟩ := lc1Ck_ok hlc
          exact ⟨fun _ _ => rfl, rfl⟩
        · cases h
      | comp2 _ _ _ _ _ _ _ _ =>
        unfold ckF at h
        split at h
        · rename_i hlc
          obtain ⟨t, t2, pos, rfl, _⟩ := lc2Ck_ok hlc
          exact ⟨fun _ _ => rfl, rfl⟩
        · cases h
    exact ⟨pt_val' h1 (hp.1 X.env), fun w => by rw [hp.2] at w; cases w⟩
  | .call f kw es, e, h => by
    unfold ckE at h
    split at h
    · split at h
      · rename_i F hF
        simp only [Bool.and_eq_true] at h
        obtain ⟨⟨h1, h3⟩, h⟩ := h
        cases kw with
        | none =>
          simp only [Bool.and_eq_true] at h
          obtain ⟨⟨⟨h0, h2⟩, h4⟩, h5⟩ := h
          have ek := List.isEmpty_iff.mp h0
          subst ek
          have e1 : ev S (.call f none es) = (do let l ← evs S es; callR S.cf f l) := by rw [ev]; rfl
          exact sn_plain e1 (both (sn_call c hF (by simpa using h1) (eq_of_beq h2) h3 h4 (ckEs_len h3 h5) (sEs c es h5)) fun _ _ => rfl) rfl
        | some p =>
          simp only [Bool.and_eq_true] at h
          obtain ⟨⟨⟨⟨⟨h0, h6⟩, h7⟩, h2⟩, h8⟩, h5⟩ := h
          have ek := List.isEmpty_iff.mp h0
          subst ek
          have e1 : ev S (.call f (some p) es) = (do let l ← evs S es; callR S.cf f (permD p l)) := by rw [ev]; rfl
          exact sn_plain e1 (both (w_callK (callK_of c hF h7) (by simpa using h1) (eq_of_beq h2) (by rw [← eq_of_beq h8]; exact nos_len h3) h6 (sKs c es h3 h5)) fun _ _ => rfl) rfl
      · cases h
    · cases h
  | .cio f i es, e, h => by
    unfold ckE at h
    split at h
    · split at h
      · rename_i F hF
        simp only [Bool.and_eq_true] at h
        obtain ⟨⟨⟨⟨⟨h1, h2⟩, h3⟩, h4⟩, h5⟩, h6⟩ := h
        have h2' := of_decide_eq_true h2
        have e1 : ev S (.cio f i es) = (do isC i; let l ← evs S es; callC S f i l) := by rw [ev]
        exact sn_plain e1 (both (w_cio (call_of c hF) h1 (by rw [show F.np - 1 = es.len by omega]; exact nos_len h3) (by omega) h4 (var_of c h5) (sEs c es h6)) fun _ _ => rfl) rfl
      · cases h
    · cases h
  | .ciof f m es, e, h => by
    unfold ckE at h
    split at h
    · split at h
      · rename_i F hF
        simp only [Bool.and_eq_true] at h
        obtain ⟨⟨⟨⟨⟨h1, h2⟩, h3⟩, h4⟩, h5⟩, h6⟩ := h
        have h2' := of_decide_eq_true h2
        have e1 : ev S (.ciof f m es) = (do let c ← evF S m; let l ← evs S es; M.of (R.bind (S.cf f (some (.lst c)) l) fun p => .ok p.1)) := by rw [ev]
        exact sn_plain e1 (both (w_ciof (call_of c hF) h1 (by rw [show F.np - 1 = es.len by omega]; exact nos_len h3) (by omega) h4 (sF c m h5) (sEs c es h6)) fun _ _ => rfl) rfl
      · cases h
    · cases h
  | .pop i, e, h => by
    unfold ckE at h
    split at h
    · simp only [Bool.and_eq_true] at h
      obtain ⟨⟨h1, h2⟩, h3⟩ := h
      have e0 := eq_of_beq h1
      subst e0
      refine sn_plain ?_ (both (s_pop (var_of c h3) h2) fun _ _ => rfl) rfl
      rw [ev]
      all_goals (
        refine congrArg (chgV i) (funext fun o => ?_)
        cases o with
        | lst l =>
          dsimp only
          generalize l.getLast? = z
          cases z <;> rfl
        | dic ks vs => rfl)
    · cases h
  | .popAt _ _, _, h => by
    unfold ckE at h
    cases h
theorem sEs {Γ : Ga} {S : Su} {X : Cx} (c : CtxOk Γ S X) : ∀ (es : Es) {xs : List Expr}, ckEs Γ es xs = true → PA X xs (tAr X.K (evs S es))
  | .nil, xs, h => by
    unfold ckEs at h
    rw [evs]
    cases xs with
    | nil => exact a_nil
    | cons _ _ => cases h
  | .cons x r, xs, h => by
    unfold ckEs at h
    rw [evs]
    split at h
    · simp only [Bool.and_eq_true] at h
      exact a_cons h.1.1 (sE c x h.1.2).1 (sEs c r h.2)
    · cases h
  | .star x r, xs, h => by
    unfold ckEs at h
    rw [evs]
    split at h
    · simp only [Bool.and_eq_true] at h
      exact a_star (hd_pe c h.1 (sE c x h.1).1) (sEs c r h.2)
    · cases h
theorem sKs {Γ : Ga} {S : Su} {X : Cx} (c : CtxOk Γ S X) : ∀ (es : Es) {kws : List Keyword}, es.nos = true → ckEs Γ es (kwE kws) = true → PK X kws (tAr X.K (evs S es))
  | .nil, kws, _, h => by
    unfold ckEs at h
    rw [evs]
    cases kws with
    | nil => exact k_nil
    | cons k _ => cases k; cases h
  | .cons x r, kws, hn, h => by
    unfold ckEs at h
    rw [evs]
    cases kws with
    | nil => cases h
    | cons k ks =>
      obtain ⟨nm, e, p⟩ := k
      have h' : (nst e && ckE Γ x e && ckEs Γ r (kwE ks)) = true := h
      simp only [Bool.and_eq_true] at h'
      exact k_cons (sE c x h'.1.2).1 (sKs c r (show r.nos = true from hn) h'.2)
  | .star x r, kws, hn, h => by cases hn
theorem sF {Γ : Ga} {S : Su} {X : Cx} (c : CtxOk Γ S X) : ∀ (f : Fx) {e : Expr}, ckF Γ f e = true → PE X e (tFr X.K (evF S f))
  | .disp es, e, h => by
    unfold ckF at h
    rw [evF]
    split at h
    · exact n_disp (sEs c es h)
    · cases h
  | .q1 o a, e, h => by
    unfold ckF ckQ1 at h
    rw [evF]
    split at h
    · simp only [Bool.and_eq_true] at h
      obtain ⟨⟨h1, h2⟩, h3⟩ := h
      exact n_f1 (bi_of c h1 (by decide +kernel) (.inr ⟨_, rfl⟩) boot_tab.2.2.2.2.2.2.2.2.2.1) (crD_list c.hh) h2 (hd_pe c h3 (sE c a h3).1)
    · exact PEimp (pe_revN (hd_pe c h (sE c a h).1)) fun σ H Q q => q1_imp wn1 σ H Q q
    · cases h
  | .q2 o a b, e, h => by
    unfold ckF ckQ2 at h
    rw [evF]
    split at h
    · rw [Bool.and_eq_true] at h
      exact w_opN opN_cat (hd_pe c h.1 (sE c a h.1).1) (hd_pe c h.2 (sE c b h.2).1)
    · rw [Bool.and_eq_true] at h
      exact w_opN opN_mul (hd_pe c h.1 (sE c a h.1).1) (hd_pe c h.2 (sE c b h.2).1)
    · rw [Bool.and_eq_true] at h
      exact n_slHi (hd_pe c h.1 (sE c a h.1).1) (hd_pe c h.2 (sE c b h.2).1)
    · rw [Bool.and_eq_true] at h
      exact n_slLo (hd_pe c h.1 (sE c a h.1).1) (hd_pe c h.2 (sE c b h.2).1)
    · cases h
  | .q3 o a b d, e, h => by
    unfold ckF ckQ3 at h
    rw [evF]
    split at h
    · rw [Bool.and_eq_true, Bool.and_eq_true] at h
      exact n_slBo (hd_pe c h.1.1 (sE c a h.1.1).1) (sE c b h.1.2).1 (sE c d h.2).1
    · cases h
  | .orf a b, e, h => by
    unfold ckF at h
    rw [evF]
    split at h
    · rw [Bool.and_eq_true] at h
      exact n_or (sF c a h.1) (sF c b h.2)
    · cases h
  | .call f es, e, h => by
    unfold ckF at h
    have e1 : evF S (.call f es) = (do let l ← evs S es; let d ← callR S.cf f l; lstOf d) := by rw [evF]; rfl
    rw [e1]
    split at h
    · split at h
      · rename_i F hF
        simp only [Bool.and_eq_true] at h
        obtain ⟨⟨⟨⟨⟨h1, h6⟩, h2⟩, h3⟩, h4⟩, h5⟩ := h
        exact fx_call c hF (by simpa using h1) h6 (eq_of_beq h2) h3 h4 (ckEs_len h3 h5) (sEs c es h5)
      · cases h
    · cases h
  | .comp own tg it cs x, e, h => by
    unfold ckF at h
    rw [evF_comp]
    split at h
    · rename_i y iter ifs scope hlc
      obtain ⟨t, pos, rfl, ⟨⟨⟨h1, h2⟩, h3⟩, h4⟩, h6⟩ := lc1Ck_ok hlc
      simp only [Bool.and_eq_true] at h
      obtain ⟨⟨h5, h7⟩, h8⟩ := h
      have key := n_comp (X := X) (elt := y) (tg := t) (iter := iter) (ifs := ifs) (scope := scope) (own := own.map fun i => (Γ.N.getD i ⟨#[]⟩, i)) (js := tg.slots) (pos := pos) (put := tg.put)
        (test := tsM S cs) (em := ev S x) (mI := evI S it) c.calm c.nd (sI c it h5 h2 h6) (si_itM S it) (blk_of c h1) (fun j hj => by
          rw [map_own]
          have := List.all_eq_true.mp h3 j hj
          exact List.contains_iff_mem.mp this) (fun s H C cl fp => tg_ok (c.blk scope s H C cl fp) h6) (fun s H C cl fp => by
          cases cs with
          | none =>
            cases ifs with
            | nil => exact ts_nil
            | cons _ _ => cases h8
          | some q =>
            match ifs, h8 with
            | [z], h8 =>
              rw [Bool.and_eq_true] at h8
              exact pts_one (hd_pt (c.blk scope s H C cl fp) h8.1 ((sE (c.blk scope s H C cl fp) q h8.1).2 h8.2).1)
            | [], h8 => cases h8
            | _ :: _ :: _, h8 => cases h8) (fun s H C cl fp => (sE (c.blk scope s H C cl fp) x h7).1) (nset_ok h4)
      rw [map_own] at key
      exact key
    · cases h
  | .comp2 own own2 tg it tg2 it2 cs x, e, h => by
    unfold ckF at h
    rw [evF_comp2]
    split at h
    · rename_i y iter iter2 ifs scope hlc
      obtain ⟨t, t2, pos, rfl, ⟨⟨⟨⟨⟨⟨⟨⟨h1, h2⟩, h3⟩, h4⟩, h6⟩, g1⟩, g2⟩, g3⟩, g4⟩, g6⟩ := lc2Ck_ok hlc
      simp only [Bool.and_eq_true] at h
      obtain ⟨⟨⟨h5, g5⟩, h7⟩, h8⟩ := h
      have key := n_comp2 (X := X) (elt := y) (tg := t) (iter := iter) (tg1 := t2) (iter1 := iter2) (ifs1 := ifs) (scope := scope) (own := own.map fun i => (Γ.N.getD i ⟨#[]⟩, i)) (own2 := own2) (js := tg.slots) (js2 := tg2.slots) (pos := pos) (put := tg.put) (put2 := tg2.put)
        (test := tsM S cs) (em := ev S x) (mI := evI S it) (mI2 := evI S it2) c.calm c.nd (sI c it h5 h2 h6) (si_itM S it) (si_itM S it2) (blk_of c h1) (fun j hj => by
          rw [map_own]
          have := List.all_eq_true.mp h3 j hj
          exact List.contains_iff_mem.mp this) (fun j hj => List.contains_iff_mem.mp (List.all_eq_true.mp g3 j hj)) (fun j hj => by
          rw [map_own]
          have := List.all_eq_true.mp g2 j hj
          exact List.contains_iff_mem.mp this) (fun s H C cl fp => tg_ok (c.blk scope s H C cl fp) h6) (fun s H C cl fp => sI (c.blk scope s H C cl fp) it2 g5 g1 g6) (fun s H C cl fp => tg_ok (c.blk scope s H C cl fp) g6) (fun s H C cl fp => ts_nil) (fun s H C cl fp => by
          cases cs with
          | none =>
            cases ifs with
            | nil => exact ts_nil
            | cons _ _ => cases h8
          | some q =>
            match ifs, h8 with
            | [z], h8 =>
              rw [Bool.and_eq_true] at h8
              exact pts_one (hd_pt (c.blk scope s H C cl fp) h8.1 ((sE (c.blk scope s H C cl fp) q h8.1).2 h8.2).1)
            | [], h8 => cases h8
            | _ :: _ :: _, h8 => cases h8) (fun s H C cl fp => (sE (c.blk scope s H C cl fp) x h7).1) (nset_ok h4) (fun env => nset_ok g4)
      rw [map_own] at key
      exact key
    · cases h
theorem sI {Γ Γ' : Ga} {S : Su} {X : Cx} (c : CtxOk Γ S X) : ∀ (it : It) {tg : Tg} {e te : Expr}, ckI Γ it e = true → okTg it tg = true → ckTg Γ' tg te = true → PI X te e (tIt X.K (evI S it))
  | .src a, tg, e, te, h, _, _ => by
    unfold ckI at h
    exact si_src c h (sE c a h)
  | .rng1 a, tg, e, te, h, _, _ => by
    unfold ckI at h
    have e1 : evI S (.rng1 a) = rng1M (ev S a) := by rw [evI]; rfl
    rw [e1]
    split at h
    · simp only [Bool.and_eq_true] at h
      obtain ⟨rfl, h2, h3⟩ := rng_bl c h.1.1 (by decide +kernel)
      exact pi_rng1 h2 h3 h.1.2 (sE c a h.2).1
    · cases h
  | .rng2 a b, tg, e, te, h, _, _ => by
    unfold ckI at h
    have e1 : evI S (.rng2 a b) = rng2M (ev S a) (ev S b) := by rw [evI]; rfl
    rw [e1]
    split at h
    · simp only [Bool.and_eq_true] at h
      obtain ⟨rfl, h2, h3⟩ := rng_bl c h.1.1.1.1 (by decide +kernel)
      exact pi_rng2 h2 h3 h.1.1.1.2 h.1.1.2 (sE c a h.1.2).1 (sE c b h.2).1
    · cases h
  | .rngdn a b, tg, e, te, h, _, _ => by
    unfold ckI at h
    have e1 : evI S (.rngdn a b) = rngdnM (ev S a) (ev S b) := by rw [evI]; rfl
    rw [e1]
    split at h
    · simp only [Bool.and_eq_true] at h
      obtain ⟨rfl, h2, h3⟩ := rng_bl c h.1.1.1.1 (by decide +kernel)
      exact pi_rngdn h2 h3 h.1.1.1.2 h.1.1.2 (sE c a h.1.2).1 (sE c b h.2).1
    · cases h
  | .zip a b, tg, e, te, h, ht, htg => by
    unfold ckI at h
    have e1 : evI S (.zip a b) = zipM (ev S a) (ev S b) := by rw [evI]; rfl
    rw [e1]
    split at h
    · simp only [Bool.and_eq_true] at h
      obtain ⟨rfl, h2, h3⟩ := rng_bl c h.1.1.1.1 (by decide +kernel)
      cases tg with
      | two p q =>
        cases te with
        | Tuple es k tp => exact pi_zipG h2 h3 h.1.1.1.2 h.1.1.2 (sE c a h.1.2).1 (sE c b h.2).1
        | _ => cases htg
      | _ => cases ht
    · cases h
  | .enum a, tg, e, te, h, ht, htg => by
    unfold ckI at h
    have e1 : evI S (.enum a) = enumM (ev S a) := by rw [evI]; rfl
    rw [e1]
    split at h
    · simp only [Bool.and_eq_true] at h
      obtain ⟨rfl, h2, h3⟩ := rng_bl c h.1.1 (by decide +kernel)
      cases tg with
      | two p q =>
        cases te with
        | Tuple es k tp => exact pi_enumG h2 h3 h.1.2 (sE c a h.2).1
        | _ => cases htg
      | _ => cases ht
    · cases h
end
end En

/-! En23: the check of statements is sound. -/
namespace En
open PySem PySem.Spec PyProof.Rows L2

section
variable {Γ : Ga} {S : Su} {X : Cx} {fr : Bool}
/-- a name's store, the value a comprehension or not -/
theorem s_fx (c : CtxOk Γ S X) {i : Nat} {f : Fx} {x : Str} {e : Expr} {pos pos' : Pos} (hw : ckW Γ i x = true) (h : ckF Γ f e = true) (hn : ncmp e = true ∨ (∃ own tg it cs z, f = .comp own tg it cs z) ∨ ∃ own own2 tg it tg2 it2 cs z, f = .comp2 own own2 tg it tg2 it2 cs z) :
    ∃ te, PS X (.Assign [.Name x pos'] e pos) (tAsg te (gName i)) ∧ ∀ σ H Q, tFr X.K (evF S f) σ H Q → te σ H Q := by
  have st := sto_of c hw
  by_cases hc : ncmp e = true
  · exact ⟨_, s_set st hc (sF c f h), fun σ H Q q => q⟩
  · have hn' := hn.resolve_left hc
    rcases hn' with ⟨own, tg, it, cs, z, rfl⟩ | ⟨own, own2, tg, it, tg2, it2, cs, z, rfl⟩
    case inr =>
      unfold ckF at h
      split at h
      · rename_i y iter iter2 ifs scope hlc
        obtain ⟨t, t2, pos2, rfl, ⟨⟨⟨⟨⟨⟨⟨⟨h1, h2⟩, h3⟩, h4⟩, h6⟩, g1⟩, g2⟩, g3⟩, g4⟩, g6⟩ := lc2Ck_ok hlc
        simp only [Bool.and_eq_true] at h
        obtain ⟨⟨⟨h5, g5⟩, h7⟩, h8⟩ := h
        obtain ⟨te, k1, k2⟩ := s_setLc2 (X := X) (elt := y) (tg := t) (iter := iter) (tg1 := t2) (iter1 := iter2) (ifs1 := ifs) (scope := scope) (own := own.map fun i => (Γ.N.getD i ⟨#[]⟩, i)) (own2 := own2) (js := tg.slots) (js2 := tg2.slots) (pos := pos2) (pos' := pos') (pos2 := pos) (put := tg.put) (put2 := tg2.put)
          (test := tsM S cs) (em := ev S z) (mI := evI S it) (mI2 := evI S it2) st c.calm (sI c it h5 h2 h6) (si_itM S it) (si_itM S it2) (blk_of c h1) (fun j hj => by
            rw [map_own]
            have := List.all_eq_true.mp h3 j hj
            exact List.contains_iff_mem.mp this) (fun j hj => List.contains_iff_mem.mp (List.all_eq_true.mp g3 j hj)) (fun j hj => by
            rw [map_own]
            have := List.all_eq_true.mp g2 j hj
            exact List.contains_iff_mem.mp this) (fun s H C cl fp => tg_ok (c.blk scope s H C cl fp) h6) (fun s H C cl fp => sI (c.blk scope s H C cl fp) it2 g5 g1 g6) (fun s H C cl fp => tg_ok (c.blk scope s H C cl fp) g6) (fun s H C cl fp => ts_nil) (fun s H C cl fp => by
            cases cs with
            | none =>
              cases ifs with
              | nil => exact ts_nil
              | cons _ _ => cases h8
            | some q =>
              match ifs, h8 with
              | [z], h8 =>
                rw [Bool.and_eq_true] at h8
                exact pts_one (hd_pt (c.blk scope s H C cl fp) h8.1 ((sE (c.blk scope s H C cl fp) q h8.1).2 h8.2).1)
              | [], h8 => cases h8
              | _ :: _ :: _, h8 => cases h8) (fun s H C cl fp => (sE (c.blk scope s H C cl fp) z h7).1) (nset_ok h4) (fun env => nset_ok g4)
        refine ⟨te, k1, fun σ H Q q => k2 σ H Q ?_⟩
        rw [map_own]
        rw [evF_comp2] at q
        exact q
      · cases h
    unfold ckF at h
    split at h
    · rename_i y iter ifs scope hlc
      obtain ⟨t, pos2, rfl, ⟨⟨⟨h1, h2⟩, h3⟩, h4⟩, h6⟩ := lc1Ck_ok hlc
      simp only [Bool.and_eq_true] at h
      obtain ⟨⟨h5, h7⟩, h8⟩ := h
      have hj : ∀ j ∈ tg.slots, j ∈ (own.map fun i => (Γ.N.getD i ⟨#[]⟩, i)).map (·.2) := fun j hj => by
        rw [map_own]
        exact List.contains_iff_mem.mp (List.all_eq_true.mp h3 j hj)
      have key := s_setLc (X := X) (elt := y) (tg := t) (iter := iter) (ifs := ifs) (scope := scope) (own := own.map fun i => (Γ.N.getD i ⟨#[]⟩, i)) (js := tg.slots) (pos := pos2) (pos' := pos') (pos2 := pos) (put := tg.put)
        (test := tsM S cs) (em := ev S z) (mI := evI S it) st c.calm (sI c it h5 h2 h6) (si_itM S it) (blk_of c h1) hj (fun s H C cl fp => tg_ok (c.blk scope s H C cl fp) h6) (fun s H C cl fp => by
          cases cs with
          | none =>
            cases ifs with
            | nil => exact ts_nil
            | cons _ _ => cases h8
          | some q =>
            match ifs, h8 with
            | [z], h8 =>
              rw [Bool.and_eq_true] at h8
              exact pts_one (hd_pt (c.blk scope s H C cl fp) h8.1 ((sE (c.blk scope s H C cl fp) q h8.1).2 h8.2).1)
            | [], h8 => cases h8
            | _ :: _ :: _, h8 => cases h8) (fun s H C cl fp => (sE (c.blk scope s H C cl fp) z h7).1) (nset_ok h4)
      refine ⟨_, key, fun σ H Q q => ?_⟩
      rw [evF_comp] at q
      have := comp_imp (put := tg.put) (test := tsM S cs) (elt := ev S z) hj (si_itM S it) σ H Q (by rw [map_own]; exact q)
      exact this
    · cases h
/-! ### several stores -/
theorem pv_slots (S : Su) : ∀ ps : Ps, PvM (evP S ps) ps.slots
  | .nil => fun e l e' h => by
    rw [evP] at h
    cases h
    rfl
  | .val i x r => fun e l e' h => by
    rw [evP] at h
    obtain ⟨d, e1, h1, h2⟩ := bind_ok h
    obtain ⟨k, e2, h3, h4⟩ := bind_ok h2
    cases h4
    show i :: k.map Pv.slot = i :: r.slots
    rw [pv_slots S r _ _ _ h3]
  | .cel i x r => fun e l e' h => by
    rw [evP] at h
    obtain ⟨d, e1, h1, h2⟩ := bind_ok h
    obtain ⟨k, e2, h3, h4⟩ := bind_ok h2
    cases h4
    show i :: k.map Pv.slot = i :: r.slots
    rw [pv_slots S r _ _ _ h3]
theorem ckP_ok (c : CtxOk Γ S X) : ∀ {ps : Ps} {ts vs : List Expr}, ckP Γ ps ts vs = true → PA X vs (tPv X.K (evP S ps)) ∧ Nms X ps.slots ts ∧ ts.length = vs.length
  | .nil, ts, vs, h => by
    unfold ckP at h
    rw [evP]
    rw [Bool.and_eq_true] at h
    cases ts with
    | nil =>
      cases vs with
      | nil => exact ⟨v_nil, .nil, rfl⟩
      | cons _ _ => simp at h
    | cons _ _ => simp at h
  | .val i x r, ts, vs, h => by
    unfold ckP at h
    rw [evP]
    split at h
    · simp only [Bool.and_eq_true] at h
      obtain ⟨h1, h2, h3⟩ := ckP_ok c h.2
      exact ⟨v_val h.1.1.2 (sE c x h.1.2).1 h1, .cons (sto_of c h.1.1.1) h2, by rw [List.length_cons, List.length_cons, h3]⟩
    · cases h
  | .cel i x r, ts, vs, h => by
    unfold ckP at h
    rw [evP]
    split at h
    · simp only [Bool.and_eq_true] at h
      obtain ⟨h1, h2, h3⟩ := ckP_ok c h.2
      exact ⟨v_cel h.1.1.2 (sF c x h.1.2) h1, .cons (sto_of c h.1.1.1) h2, by rw [List.length_cons, List.length_cons, h3]⟩
    · cases h
theorem nms_len : ∀ {js : List Nat} {es : List Expr}, Nms X js es → js.length = es.length
  | _, _, .nil => rfl
  | _, _, .cons _ r => by rw [List.length_cons, List.length_cons, nms_len r]
theorem s_par (c : CtxOk Γ S X) {ps : Ps} {ts vs : List Expr} {k1 k2 : Nat} {p1 p2 pos : Pos} (h : ckPar Γ ps ts vs = true) : PS X (.Assign [.Tuple ts k1 p1] (.Tuple vs k2 p2) pos) (tSt X.K fr (do let l ← evP S ps; putP l; pure .nx)) := by
  unfold ckPar at h
  simp only [Bool.and_eq_true] at h
  obtain ⟨⟨h1, h2⟩, h3⟩ := h
  obtain ⟨h4, h5, h6⟩ := ckP_ok c h1
  have hl := of_decide_eq_true h2
  split at h3
  · rename_i hs
    rw [← c.sc] at hs
    exact s_parT c.calm h5 hl hs (pv_slots S ps) h4
  · rename_i ns hs
    rw [← c.sc] at hs
    simp only [Bool.and_eq_true] at h3
    obtain ⟨⟨h7, h8⟩, h9⟩ := h3
    have e := eq_of_beq h7
    have hnd := of_decide_eq_true h8
    have hn := pv_slots S ps
    have hloc : ∀ x ∈ ns, X.env.scope.names.lookup x = some .local := fun x hx => by
      rw [c.sc]
      exact eq_of_beq (List.all_eq_true.mp h9 x hx)
    have h23 : ts.length = 2 ∨ ts.length = 3 := by
      unfold swC at hs
      split at hs
      · cases hs
      · rename_i hq
        simp only [Bool.or_eq_true, Bool.not_eq_true'] at hq
        by_cases q2 : ts.length = 2
        · exact .inl q2
        · by_cases q3 : ts.length = 3
          · exact .inr q3
          · exfalso
            apply hq
            left
            left
            simp [q2, q3]
    generalize ps.slots = js at h5 hn hnd
    rcases h23 with q | q
    · match ts, vs, js, h5, q, h6 with
      | [_, _], [a, b], _, .cons (i := i) (x := x) sx (.cons (i := j) (x := y) sy .nil), _, _ =>
        have e' : ns = [x, y] := e
        subst e'
        have hij : i ≠ j := by
          intro w
          subst w
          simp at hnd
        exact s_par2 c.calm sx sy hij (hloc _ (by simp)) (hloc _ (by simp)) hs hn h4
    · match ts, vs, js, h5, q, h6 with
      | [_, _, _], [a, b, d], _, .cons (i := i) (x := x) sx (.cons (i := j) (x := y) sy (.cons (i := m) (x := z) sz .nil)), _, _ =>
        have e' : ns = [x, y, z] := e
        subst e'
        simp at hnd
        exact s_par3 c.calm sx sy sz (fun w => hnd.1.1 w) (fun w => hnd.1.2 w) (fun w => hnd.2 w) (hloc _ (by simp)) (hloc _ (by simp)) (hloc _ (by simp)) hs hn h4
  · cases h3
theorem notTup_ok : ∀ {e : Expr}, notTup e = true → (match e with | .Tuple _ _ _ => false | _ => true) = true := fun {e} h => by
  cases e <;> first | rfl | cases h
theorem evT_hd (S : Su) (q : Ex) : evT S q = hdB (look q (ev S q)) := rfl
end
/-- try: .. except C as g: j = g -/
theorem sTry {Γ : Ga} {S : Su} {X : Cx} {fr : Bool} (c : CtxOk Γ S X) (z : TopOk X) {i f j g cl : Nat} {es : Es} {w : Option Es} {s : Stmt} (h : ckSt Γ fr (.tryX i f es w j g cl) s = true) : PS X s (tSt X.K fr (evS S (.tryX i f es w j g cl))) := by
  unfold ckSt at h
  have e1 : evS S (.tryX i f es w j g cl) = tryM S i f (evs S es) (w.map fun r => evs S r) j g cl := by rw [evS]
  rw [e1]
  split at h
  · rename_i told p1 v p2 x np n m p3 n' p4 p5 pos' pos
    simp only [Bool.and_eq_true, Bool.not_eq_true'] at h
    obtain ⟨⟨⟨⟨⟨⟨⟨⟨⟨h1, h2⟩, h3⟩, h4⟩, h5⟩, h6⟩, h7⟩, h8⟩, h9⟩, h10⟩ := h
    have en := eq_of_beq h4
    subst en
    obtain ⟨cc, hxc⟩ := c.xc x cl (eq_of_beq h8)
    obtain ⟨g1, g2, g3⟩ := gl_of c h9
    have hln : X.env.scope.names.lookup n' = some .local := by rw [c.sc]; exact eq_of_beq h5
    have hnm : Names X x (.ref cc) := ⟨g1, g3, .inl hxc.mg⟩
    unfold ckXv at h10
    have call : ∀ {y : Str} {xs : List Expr} {py pc : Pos}, ckXc Γ y f es xs = true → ∃ F : Fn, (∀ (W : WX) (pn : List (Addr × Obj)) (xe : Value → Shared → Prop), Takes (X.tr pn xe) W → PE (X.tr pn xe) (.Call (.Name y py) xs [] pc) (tXc X.K S.cf f F (evs S es) W)) ∧ lenIs (evs S es) F.np := fun {y xs py pc} hq => by
      unfold ckXc at hq
      split at hq
      · rename_i F hF
        simp only [Bool.and_eq_true, Bool.not_eq_true'] at hq
        obtain ⟨⟨⟨⟨⟨q1, q2⟩, q3⟩, q4⟩, q5⟩, q6⟩ := hq
        refine ⟨F, fun W pn xe tk => ?_, ?_⟩
        · have ha := sEs (c.tr pn xe) es q5
          cases xs with
          | nil => simp at q6
          | cons ex xs => exact w_callX (X := X.tr pn xe) tk (callX_of (c.tr pn xe) hF q1) q4 ha
        · rw [← eq_of_beq q2]
          exact nos_len q3
      · cases hq
    split at h10
    · obtain ⟨F, hF, hl⟩ := call h10
      exact s_tryX z.hs z.hf z.hex (by rw [c.N]; exact eq_of_beq h3) hln hln hnm hxc (sto_of c h1) (sto_of c h2) h6 h7 rfl hl fun W pn xe tk => hF W pn xe tk
    · rename_i r y py xs pc ys pl
      rw [Bool.and_eq_true] at h10
      obtain ⟨F, hF, hl⟩ := call h10.1
      refine s_tryX (w := some (evs S r)) z.hs z.hf z.hex (by rw [c.N]; exact eq_of_beq h3) hln hln hnm hxc (sto_of c h1) (sto_of c h2) h6 h7 rfl hl fun W pn xe tk => ?_
      exact pe_lst (pa_cons (hF W pn xe tk) (sEs (c.tr pn xe) r h10.2) rfl)
    · cases h10
  · cases h
theorem sTryE {Γ : Ga} {S : Su} {X : Cx} {fr : Bool} (c : CtxOk Γ S X) (z : TopOk X) {f j g cl : Nat} {es : Es} {s : Stmt} (h : ckSt Γ fr (.tryE f es j g cl) s = true) : PS X s (tSt X.K fr (evS S (.tryE f es j g cl))) := by
  unfold ckSt at h
  have e1 : evS S (.tryE f es j g cl) = tryEM S f (evs S es) j g cl := by rw [evS]
  rw [e1]
  split at h
  · rename_i y p1 xs pc p2 x np n m p3 n' p4 p5 pos' pos
    simp only [Bool.and_eq_true, Bool.not_eq_true'] at h
    obtain ⟨⟨⟨⟨⟨⟨⟨⟨h2, h3⟩, h4⟩, h5⟩, h6⟩, h7⟩, h8⟩, h9⟩, hq⟩ := h
    have en := eq_of_beq h4
    subst en
    obtain ⟨cc, hxc⟩ := c.xc x cl (eq_of_beq h8)
    obtain ⟨g1, g2, g3⟩ := gl_of c h9
    have hln : X.env.scope.names.lookup n' = some .local := by rw [c.sc]; exact eq_of_beq h5
    have hnm : Names X x (.ref cc) := ⟨g1, g3, .inl hxc.mg⟩
    unfold ckXc at hq
    split at hq
    · rename_i F hF
      simp only [Bool.and_eq_true, Bool.not_eq_true'] at hq
      obtain ⟨⟨⟨⟨⟨q1, q2⟩, q3⟩, q4⟩, q5⟩, q6⟩ := hq
      refine s_tryE (F := F) z.hs z.hf z.hex c.nd (by rw [c.N]; exact eq_of_beq h3) hln hln hnm hxc (sto_of c h2) h6 h7 rfl (by rw [← eq_of_beq q2]; exact nos_len q3) fun W pn xe tk => ?_
      have ha := sEs (c.tr pn xe) es q5
      cases xs with
      | nil => simp at q6
      | cons ex xs => exact w_callX (X := X.tr pn xe) tk (callX_of (c.tr pn xe) hF q1) q4 ha
    · cases hq
  · cases h
mutual
theorem sSt {Γ : Ga} {S : Su} {X : Cx} {fr : Bool} (c : CtxOk Γ S X) (z : TopOk X) (hx : PassesOwn (model X.prog X.w) X.A X.env X.xe) : ∀ (st : En.St) {s : Stmt}, ckSt Γ fr st s = true → PS X s (tSt X.K fr (evS S st))
  | .asg i e, s, h => by
    unfold ckSt at h
    have e1 : evS S (.asg i e) = (do let d ← ev S e; wr i (.val d); pure .nx) := by rw [evS]
    rw [e1]
    split at h
    · rename_i x p v pos
      simp only [Bool.and_eq_true, Bool.or_eq_true] at h
      obtain ⟨⟨h1, h2⟩, h3⟩ := h
      by_cases hc : ncmp v = true
      · exact PSimp (s_set (sto_of c h1) hc (sE c e h2).1) asg_imp
      · have h4 := h3.resolve_left hc
        split at h4
        · rename_i own tg it cs z
          unfold ckE at h2
          obtain ⟨te, h5, h6⟩ := s_fx (pos := pos) (pos' := p) c h1 h2 (.inr (.inl ⟨_, _, _, _, _, rfl⟩))
          have e2 : ev S (.fr (.comp own tg it cs z)) = (do let l ← evF S (.comp own tg it cs z); pure (.lst l)) := by rw [ev]
          exact PSimp h5 fun E σ H q => h6 σ H _ (fr_imp σ H _ (by rw [← e2]; exact asg_imp E σ H q))
        · rename_i own own2 tg it tg2 it2 cs z
          unfold ckE at h2
          obtain ⟨te, h5, h6⟩ := s_fx (pos := pos) (pos' := p) c h1 h2 (.inr (.inr ⟨_, _, _, _, _, _, _, _, rfl⟩))
          have e2 : ev S (.fr (.comp2 own own2 tg it tg2 it2 cs z)) = (do let l ← evF S (.comp2 own own2 tg it tg2 it2 cs z); pure (.lst l)) := by rw [ev]
          exact PSimp h5 fun E σ H q => h6 σ H _ (fr_imp σ H _ (by rw [← e2]; exact asg_imp E σ H q))
        · cases h4
    · cases h
  | .new i f, s, h => by
    unfold ckSt at h
    have e1 : evS S (.new i f) = (do let l ← evF S f; wr i (.cel .own (.lst l)); pure .nx) := by rw [evS]
    rw [e1]
    split at h
    · rename_i x p v pos
      simp only [Bool.and_eq_true, Bool.or_eq_true] at h
      obtain ⟨⟨h1, h2⟩, h3⟩ := h
      have hn : ncmp v = true ∨ (∃ own tg it cs z, f = .comp own tg it cs z) ∨ ∃ own own2 tg it tg2 it2 cs z, f = .comp2 own own2 tg it tg2 it2 cs z := by
        rcases h3 with h3 | h3
        · exact .inl h3
        · split at h3
          · exact .inr (.inl ⟨_, _, _, _, _, rfl⟩)
          · exact .inr (.inr ⟨_, _, _, _, _, _, _, _, rfl⟩)
          · cases h3
      obtain ⟨te, h5, h6⟩ := s_fx (pos := pos) (pos' := p) c h1 h2 hn
      exact PSimp h5 fun E σ H q => h6 σ H _ (new_imp E σ H q)
    · cases h
  | .unp tg e, s, h => by
    unfold ckSt at h
    have e1 : evS S (.unp tg e) = (do let d ← ev S e; tg.put d; pure .nx) := by rw [evS]
    rw [e1]
    split at h
    · simp only [Bool.and_eq_true] at h
      obtain ⟨⟨⟨h1, h2⟩, h3⟩, h4⟩ := h
      exact s_unp (notTup_ok h4) h3 (sE c e h2).1 (tg_ok c h1)
    · cases h
  | .par ps, s, h => by
    unfold ckSt at h
    have e1 : evS S (.par ps) = (do let l ← evP S ps; putP l; pure .nx) := by rw [evS]
    rw [e1]
    split at h
    · exact s_par c h
    · cases h
  | .setI i k e, s, h => by
    unfold ckSt at h
    have e1 : evS S (.setI i k e) = (do let d ← ev S e; isC i; let x ← ev S k; chg i (setOb x d); pure .nx) := by rw [evS]
    rw [e1]
    split at h
    · simp only [Bool.and_eq_true] at h
      obtain ⟨⟨⟨⟨h1, h2⟩, h3⟩, h4⟩, h5⟩ := h
      exact s_setI (var_of c h1) h3 h2 (sE c e h5).1 (sE c k h4).1
    · cases h
  | .set2 i k l d e, s, h => by
    unfold ckSt at h
    have e1 : evS S (.set2 i k l d e) = set2M i (ev S k) (ev S l) (ev S d) (ev S e) := by rw [evS]; rfl
    rw [e1]
    split at h
    · simp only [Bool.and_eq_true] at h
      obtain ⟨⟨⟨⟨⟨⟨⟨⟨⟨h0, h1⟩, h2⟩, h3⟩, h4⟩, h5⟩, h6⟩, h7⟩, h8⟩, h9⟩ := h
      have e2 := eq_of_beq h0
      subst e2
      exact s_set2 c.calm (var_of c h1) (var_of c h1) h2 h3 h4 h5 (sE c d h6).1 (sE c e h7).1 (sE c k h8).1 (sE c l h9).1
    · cases h
  | .aug i o e, s, h => by
    unfold ckSt at h
    have e1 : evS S (.aug i o e) = augM i o (ev S e) := by rw [evS]; rfl
    rw [e1]
    split at h
    · simp only [Bool.and_eq_true] at h
      obtain ⟨⟨h1, h2⟩, h3⟩ := h
      exact s_aug (sto_of c h2) (eq_of_beq h1) (sE c e h3).1
    · cases h
  | .app i e, s, h => by
    unfold ckSt at h
    have e1 : evS S (.app i e) = (do let _ ← (do isC i; let d ← ev S e; chg i (appOb d); pure D.non : M D); pure .nx) := by
      rw [evS]
      funext e0
      show R.bind (isC i e0) _ = R.bind (R.bind (isC i e0) _) _
      cases isC i e0 with
      | ok r =>
        show R.bind (ev S e r.2) _ = R.bind (R.bind (ev S e r.2) _) _
        cases ev S e r.2 with
        | ok r =>
          show R.bind (chg i (appOb r.1) r.2) _ = R.bind (R.bind (chg i (appOb r.1) r.2) _) _
          cases chg i (appOb r.1) r.2 <;> rfl
        | _ => rfl
      | _ => rfl
    rw [e1]
    split at h
    · simp only [Bool.and_eq_true] at h
      obtain ⟨⟨⟨⟨h1, h2⟩, h3⟩, h4⟩, h5⟩ := h
      have e2 := eq_of_beq h1
      subst e2
      exact PSimp (ps_expr (s_app (var_of c h3) h2 h4 (sE c e h5).1) rfl) expr_imp
    · cases h
  | .ext i e, s, h => by
    unfold ckSt at h
    have e1 : evS S (.ext i e) = (do let _ ← (do isC i; let h ← look e (ev S e); let x ← h.get; match x with | .lst l => (do chg i (extOb l); pure D.non) | _ => M.of .bad : M D); pure .nx) := by
      rw [evS]
      funext e0
      show R.bind (isC i e0) _ = R.bind (R.bind (isC i e0) _) _
      cases isC i e0 with
      | ok r =>
        show R.bind (look e (ev S e) r.2) _ = R.bind (R.bind (look e (ev S e) r.2) _) _
        cases look e (ev S e) r.2 with
        | ok r =>
          show R.bind (r.1.get r.2) _ = R.bind (R.bind (r.1.get r.2) _) _
          cases r.1.get r.2 with
          | ok r =>
            obtain ⟨x, e5⟩ := r
            cases x with
            | lst l =>
              show R.bind (chg i (extOb l) e5) _ = R.bind (R.bind (chg i (extOb l) e5) _) _
              cases chg i (extOb l) e5 <;> rfl
            | _ => rfl
          | _ => rfl
        | _ => rfl
      | _ => rfl
    rw [e1]
    split at h
    · simp only [Bool.and_eq_true] at h
      obtain ⟨⟨⟨⟨h1, h2⟩, h3⟩, h4⟩, h5⟩ := h
      have e2 := eq_of_beq h1
      subst e2
      exact PSimp (ps_expr (s_ext (var_of c h3) h2 h4 (hd_pe c h5 (sE c e h5).1)) rfl) expr_imp
    · cases h
  | .expr e, s, h => by
    unfold ckSt at h
    have e1 : evS S (.expr e) = (do let _ ← ev S e; pure .nx) := by rw [evS]
    rw [e1]
    split at h
    · rw [Bool.and_eq_true] at h
      exact PSimp (ps_expr (sE c e h.1).1 (swp h.2)) expr_imp
    · cases h
  | .ret e, s, h => by
    unfold ckSt at h
    have e1 : evS S (.ret e) = (do let d ← ev S e; pure (.ret d)) := by rw [evS]
    rw [e1]
    split at h
    · rw [Bool.and_eq_true] at h
      have : fr = false := by simpa using h.1
      subst this
      exact PSimp (ps_ret (sE c e h.2).1) ret_imp
    · cases h
  | .retF f, s, h => by
    unfold ckSt at h
    have e1 : evS S (.retF f) = (do let l ← evF S f; pure (.ret (.lst l))) := by rw [evS]
    rw [e1]
    split at h
    · cases fr with
      | true => exact PSimp (ps_ret (sF c f h)) retF_imp
      | false => exact PSimp (ps_ret (sF c f h)) retF_imp'
    · cases h
  | .retC i, s, h => by
    unfold ckSt at h
    have e1 : evS S (.retC i) = retCm i := by
      rw [evS]
      funext e0
      unfold retCm
      generalize e0[i]? = z
      cases z with
      | none => rfl
      | some t =>
        cases t with
        | cel k o => cases k <;> cases o <;> rfl
        | _ => rfl
    rw [e1]
    split at h
    · rw [Bool.and_eq_true] at h
      have e2 : fr = true := h.1
      subst e2
      exact PSimp (ps_ret (var_of c h.2)) retC_imp
    · cases h
  | .retN, s, h => by
    unfold ckSt at h
    have e1 : evS S .retN = pure (.ret .non) := by rw [evS]
    rw [e1]
    split at h
    · exact PSimp ps_retN retN_imp
    · cases h
  | .ite q a b, s, h => by
    unfold ckSt at h
    have e1 : evS S (.ite q a b) = (do let t ← hdB (look q (ev S q)); if t then evSs S a else evSs S b) := by rw [evS]; rfl
    rw [e1]
    split at h
    · simp only [Bool.and_eq_true] at h
      obtain ⟨⟨⟨h1, h2⟩, h3⟩, h4⟩ := h
      exact PSimp (ps_if (hd_pt c h1 ((sE c q h1).2 h2).1) (sSs c z hx a h3) (sSs c z hx b h4)) if_imp
    · cases h
  | .loop tg it b, s, h => by
    unfold ckSt at h
    have e1 : evS S (.loop tg it b) = (do let p ← evI S it; lockd p.1 (forL tg.put (evSs S b) p.2)) := by rw [evS]
    rw [e1]
    split at h
    · simp only [Bool.and_eq_true] at h
      obtain ⟨⟨⟨⟨h0, h1⟩, h2⟩, h3⟩, h4⟩ := h
      exact PSimp (ps_for hx c.calm (sI c it h3 h1 h2) (tg_ok c h2) (sSs c z hx b h4) (nset_ok h0)) (for_imp (si_itM S it))
    · cases h
  | .whl q b, s, h => by
    unfold ckSt at h
    have e1 : evS S (.whl q b) = whileL (hdB (look q (ev S q))) (evSs S b) S.wf := by rw [evS]; rfl
    rw [e1]
    split at h
    · simp only [Bool.and_eq_true] at h
      obtain ⟨⟨h1, h2⟩, h3⟩ := h
      exact PSimp (ps_while hx (hd_pt c h1 ((sE c q h1).2 h2).1) (sSs c z hx b h3)) while_imp
    · cases h
  | .brk, s, h => by
    unfold ckSt at h
    rw [evS]
    split at h
    · exact PSimp ps_break brk_imp
    · cases h
  | .cnt, s, h => by
    unfold ckSt at h
    rw [evS]
    split at h
    · exact PSimp ps_continue cnt_imp
    · cases h
  | .pass, s, h => by
    unfold ckSt at h
    rw [evS]
    split at h
    · exact PSimp ps_pass nil_imp
    · cases h
  | .rse _, _, h => by
    unfold ckSt at h
    cases h
  | .rif _ _ _, _, h => by
    unfold ckSt at h
    cases h
  | .rzb _, _, h => by
    unfold ckSt at h
    cases h
  | .tryX i f es w j g cl, s, h => sTry c z h
  | .tryE f es j g cl, s, h => sTryE c z h
theorem sSs {Γ : Ga} {S : Su} {X : Cx} {fr : Bool} (c : CtxOk Γ S X) (z : TopOk X) (hx : PassesOwn (model X.prog X.w) X.A X.env X.xe) : ∀ (st : Ss) {s : List Stmt}, ckSs Γ fr st s = true → PSs X s (tSt X.K fr (evSs S st))
  | .nil, s, h => by
    unfold ckSs at h
    rw [evSs]
    cases s with
    | nil => exact PSsimp pss_nil nil_imp
    | cons _ _ => cases h
  | .cons a r, s, h => by
    unfold ckSs at h
    have e1 : evSs S (.cons a r) = seqM (evS S a) (evSs S r) := by
      rw [evSs]
      rfl
    rw [e1]
    split at h
    · rw [Bool.and_eq_true] at h
      exact PSsimp (pss_cons (sSt c z hx a h.1) (sSs c z hx r h.2)) seq_imp
    · cases h
end
mutual
/-- statements that may raise -/
theorem sR {Γ : Ga} {S : Su} {X : Cx} {fr : Bool} {W : WX} (c : CtxOk Γ S X) (z : TopOk X) (hx : PassesOwn (model X.prog X.w) X.A X.env X.xe) (tk : Takes X W) : ∀ (st : En.St) {s : Stmt}, ckR Γ fr st s = true → PS X s (tSX X.K fr (dryU st.isR (evS S st)) W)
  | .rse cl, s, h => by
    unfold ckR at h
    have e1 : dryU (En.St.isR (.rse cl)) (evS S (.rse cl)) = fun _ => .exc cl [] := by
      show evS S (.rse cl) = _
      rw [evS]
    rw [e1]
    split at h
    · rw [Bool.and_eq_true] at h
      obtain ⟨g1, g2, g3⟩ := gl_of c h.2
      obtain ⟨cc, hxc⟩ := c.xc _ _ (eq_of_beq h.1)
      exact x_raise c.calm tk hxc g1 g3
    · cases h
  | .rif q a b, s, h => by
    unfold ckR at h
    have e1 : dryU (En.St.isR (.rif q a b)) (evS S (.rif q a b)) = (do let t ← dry (hdB (look q (ev S q))); if t then evXs S a else evXs S b) := by
      show evS S (.rif q a b) = _
      rw [evS]
      rfl
    rw [e1]
    split at h
    · simp only [Bool.and_eq_true] at h
      obtain ⟨⟨⟨h1, h2⟩, h3⟩, h4⟩ := h
      exact x_if (hd_pt c h1 ((sE c q h1).2 h2).1) (sXs c z hx tk a h3) (sXs c z hx tk b h4)
    · cases h
  | .asg i e, s, h => by
    unfold ckR at h
    cases h
  | .new i f, s, h => by
    unfold ckR at h
    cases h
  | .unp tg e, s, h => by
    unfold ckR at h
    cases h
  | .par ps, s, h => by
    unfold ckR at h
    cases h
  | .setI i k e, s, h => by
    unfold ckR at h
    cases h
  | .set2 i k l d e, s, h => by
    unfold ckR at h
    cases h
  | .aug i o e, s, h => by
    unfold ckR at h
    cases h
  | .app i e, s, h => by
    unfold ckR at h
    cases h
  | .ext i e, s, h => by
    unfold ckR at h
    cases h
  | .expr e, s, h => by
    unfold ckR at h
    cases h
  | .ret e, s, h => by
    unfold ckR at h
    cases h
  | .retF f, s, h => by
    unfold ckR at h
    cases h
  | .retC i, s, h => by
    unfold ckR at h
    cases h
  | .retN, s, h => by
    unfold ckR at h
    cases h
  | .ite q a b, s, h => by
    unfold ckR at h
    cases h
  | .loop tg it b, s, h => by
    unfold ckR at h
    cases h
  | .whl q b, s, h => by
    unfold ckR at h
    cases h
  | .brk, s, h => by
    unfold ckR at h
    cases h
  | .cnt, s, h => by
    unfold ckR at h
    cases h
  | .pass, s, h => by
    unfold ckR at h
    cases h
  | .rzb b, s, h => by
    unfold ckR at h
    cases h
  | .tryX i f es w j g cl, s, h => by
    unfold ckR at h
    cases h
  | .tryE f es j g cl, s, h => by
    unfold ckR at h
    cases h
theorem sXs {Γ : Ga} {S : Su} {X : Cx} {fr : Bool} {W : WX} (c : CtxOk Γ S X) (z : TopOk X) (hx : PassesOwn (model X.prog X.w) X.A X.env X.xe) (tk : Takes X W) : ∀ (st : Ss) {s : List Stmt}, ckXs Γ fr st s = true → PSs X s (tSX X.K fr (evXs S st) W)
  | .nil, s, h => by
    unfold ckXs at h
    rw [evXs]
    cases s with
    | nil => exact x_nil
    | cons _ _ => cases h
  | .cons s0 r, s, h => by
    unfold ckXs at h
    have e1 : evXs S (.cons s0 r) = seqM (dryU s0.isR (evS S s0)) (evXs S r) := by
      rw [evXs]
      rfl
    rw [e1]
    split at h
    · simp only [Bool.and_eq_true, Bool.or_eq_true, Bool.not_eq_true'] at h
      rcases h with ⟨h1 | ⟨h1, h2⟩, h3⟩
      · exact x_seq (sR c z hx tk s0 h1) (sXs c z hx tk r h3)
      · refine x_seq ?_ (sXs c z hx tk r h3)
        rw [h1]
        exact x_dry (sSt c z hx s0 h2)
    · cases h
end
end En

/-! En24: programs. -/
namespace En
open PySem PySem.Spec PyProof.Rows L2

section
variable {K : Fg} {G H : Hp}
theorem start_get {N : List Str} {vs : List V} {j : Nat} {v : Option V} (h : (L2.start N vs)[j]? = some v) (hj : j < vs.length) : ∃ x, vs[j]? = some x ∧ v = some x := by
  unfold L2.start at h
  rw [List.getElem?_append_left (by rw [List.length_map]; exact hj), List.getElem?_map, List.getElem?_eq_getElem hj] at h
  cases h
  exact ⟨vs[j], List.getElem?_eq_getElem hj, rfl⟩
theorem vals_get {l : List D} {n j : Nat} {s : Sl} (h : (l.map Sl.val ++ List.replicate n Sl.no)[j]? = some s) : s = .no ∨ ∃ d, l[j]? = some d ∧ s = .val d := by
  by_cases hj : j < l.length
  · rw [List.getElem?_append_left (by rw [List.length_map]; exact hj), List.getElem?_map, List.getElem?_eq_getElem hj] at h
    cases h
    exact .inr ⟨l[j], List.getElem?_eq_getElem hj, rfl⟩
  · rw [List.getElem?_append_right (by rw [List.length_map]; omega)] at h
    have := List.mem_of_getElem? h
    exact .inl (List.eq_of_mem_replicate this)
theorem start_ok {N : List Str} {F : Fn} {l : List D} {vs : List V} (hs : Same G H) (r : Reps K G l vs) (hio : F.io = false) (hl : l.length = F.np) (hn : N.length = F.ns) (hle : F.np ≤ F.ns) : StOk K ⟨G, H, no1, [], []⟩ (startE F none l) (L2.start N vs) G H := by
  have hv : vs.length = l.length := r.length
  have he : startE F none l = l.map Sl.val ++ List.replicate (F.ns - F.np) .no := rfl
  refine ⟨?_, fun i s v h1 h2 => ?_, fun i j k o k' o' a _ h1 => ?_, Grow.refl hs, fun p h => (by cases h), fun p h => (by cases h)⟩
  · rw [he]
    unfold L2.start
    simp only [List.length_append, List.length_map, List.length_replicate]
    omega
  · rw [he] at h1
    rcases vals_get h1 with rfl | ⟨d, hd, rfl⟩
    · trivial
    · obtain ⟨x, hx, hr⟩ := r.get hd
      obtain ⟨y, hy, e⟩ := start_get h2 ((List.getElem?_eq_some_iff.mp hx).1)
      rw [hx] at hy
      cases hy
      exact ⟨x, e, hr⟩
  · rw [he] at h1
    rcases vals_get h1 with w | ⟨d, hd, w⟩ <;> cases w
theorem start_okC {N : List Str} {F : Fn} {l : List D} {vs : List V} {a : Addr} {o : Ob} (hs : Same G H) (r : Reps K G l vs) (ga : G a = none) (ho : ObOk K G H a o) (hl : l.length + 1 = F.np) (hn : N.length = F.ns) (hle : F.np ≤ F.ns) :
    StOk K ⟨G, H, fun b => b = a, [(0, a, none)], []⟩ (startE F (some o) l) (L2.start N (.ref a :: vs)) G H := by
  have hv : vs.length = l.length := r.length
  have he : startE F (some o) l = Sl.cel .io o :: (l.map Sl.val ++ List.replicate (F.ns - F.np) .no) := rfl
  have hst : L2.start N (.ref a :: vs) = some (.ref a) :: (vs.map some ++ List.replicate (N.length - (vs.length + 1)) none) := rfl
  have nc : ∀ {i : Nat} {k : CK} {o' : Ob}, (startE F (some o) l)[i]? = some (.cel k o') → i = 0 ∧ k = .io ∧ o' = o := fun {i k o'} h => by
    rw [he] at h
    cases i with
    | zero => cases h; exact ⟨rfl, rfl, rfl⟩
    | succ i =>
      rw [List.getElem?_cons_succ] at h
      rcases vals_get h with w | ⟨d, hd, w⟩ <;> cases w
  refine ⟨?_, fun i s v h1 h2 => ?_, fun i j k o1 k' o2 b hne h1 h2 => ?_, Grow.refl hs, fun p h => ?_, fun p h => (by cases h)⟩
  · rw [he, hst]
    simp only [List.length_cons, List.length_append, List.length_map, List.length_replicate]
    omega
  · cases i with
    | zero =>
      rw [he] at h1
      rw [hst] at h2
      cases h1
      cases h2
      exact ⟨a, rfl, ga, ho, .inr ⟨rfl, fun z => nomatch z⟩⟩
    | succ i =>
      rw [he, List.getElem?_cons_succ] at h1
      rcases vals_get h1 with rfl | ⟨d, hd, rfl⟩
      · trivial
      · obtain ⟨x, hx, hr⟩ := r.get hd
        have hi := (List.getElem?_eq_some_iff.mp hx).1
        obtain ⟨y, hy, e⟩ := start_get h2 (by rw [List.length_cons]; omega)
        rw [List.getElem?_cons_succ, hx] at hy
        cases hy
        exact ⟨x, e, hr⟩
  · obtain ⟨rfl, _⟩ := nc h1
    obtain ⟨rfl, _⟩ := nc h2
    exact absurd rfl hne
  · rw [List.mem_singleton] at h
    subst h
    exact ⟨rfl, .io, o, rfl, (fun z => nomatch z), fun o' w => by cases w⟩
theorem retOf_ok {x : En.R (Fl × Ev)} {d : D} {e : Ev} (h : retOf x = .ok (d, e)) : x = .ok (.ret d, e) ∨ (x = .ok (.nx, e) ∧ d = .non) := by
  cases x with
  | ok p =>
    obtain ⟨f, e'⟩ := p
    cases f <;> first | (cases h; exact .inl rfl) | (cases h; exact .inr ⟨rfl, rfl⟩) | cases h
  | exc _ _ => cases h
  | bad => cases h
end

theorem run_val {S : Su} {F : Fn} {l : List D} {r : D × Option Ob} (hi : F.io = false) (h : runFn S F none l = .ok r) : l.length = F.np ∧ ∃ d e', retOf (evSs S F.body (startE F none l)) = .ok (d, e') ∧ r = (d, none) := by
  unfold runFn at h
  simp only [hi, Bool.false_eq_true, if_false] at h
  by_cases hc : (false == (none : Option Ob).isSome && l.length + 0 == F.np) = true
  · rw [if_pos hc] at h
    obtain ⟨⟨d, e'⟩, z1, z2⟩ := rbind_ok h
    cases z2
    rw [Bool.and_eq_true] at hc
    exact ⟨by have := eq_of_beq hc.2; omega, d, e', z1, rfl⟩
  · rw [if_neg hc] at h
    cases h
theorem run_io {S : Su} {F : Fn} {l : List D} {o : Ob} {r : D × Option Ob} (hi : F.io = true) (h : runFn S F (some o) l = .ok r) : l.length + 1 = F.np ∧ ∃ d e' o2, retOf (evSs S F.body (startE F (some o) l)) = .ok (d, e') ∧ e'[0]? = some (.cel .io o2) ∧ r = (d, some o2) := by
  unfold runFn at h
  simp only [hi, if_true] at h
  by_cases hc : (true == (some o).isSome && l.length + 1 == F.np) = true
  · rw [if_pos hc] at h
    obtain ⟨⟨d, e'⟩, z1, z2⟩ := rbind_ok h
    simp only [List.head?_eq_getElem?] at z2
    rw [Bool.and_eq_true] at hc
    split at z2
    · rename_i o2 hq
      cases z2
      exact ⟨eq_of_beq hc.2, d, e', o2, z1, hq, rfl⟩
    · cases z2
  · rw [if_neg hc] at h
    cases h

/-- a def's body -/
def ckBd (Γ : Ga) (F : Fn) (ss : List Stmt) : Bool := if F.rz then (match F.body with | .cons (.rzb b) .nil => ckXs Γ false b ss | _ => false) else ckSs Γ F.frr F.body ss
/-- a def of the program is that of the engine -/
structure DefOk (K : Fg) (mg : Str → Option Value) (Γ : Ga) (x : Str) (id : Nat) (F : Fn) : Prop where
  ex : ∃ (x' qual : Str) (st : Stmt) (f : Addr) (fd : FuncData) (N ps : List Str), mg x = some (.ref f) ∧ Fun K x' qual st f fd ∧ Binds K fd ps [] ∧ FnScope N ps (defScope st) ∧ ps.length = F.np ∧ N.length = F.ns ∧ ps = fd.params.args.map (fun a => a.arg) ∧
    ckBd ⟨N, defScope st, (defScope st).names, Γ.fn, Γ.fs, Γ.cs, Γ.kw, Γ.xc, Γ.xi⟩ F (defBody st) = true ∧ ∀ ks p, (id, ks, p) ∈ Γ.kw → KBinds K fd ps ks (gP p) (gVP p)
  le : F.np ≤ F.ns
  io : F.io = true → 0 < F.np

theorem rz_body {F : Fn} (h : F.rz = true) : ∃ b, F.body = .cons (.rzb b) .nil ∧ F.io = false ∧ F.fr = false := by
  unfold Fn.rz at h
  simp only [Bool.and_eq_true, Bool.not_eq_true'] at h
  obtain ⟨⟨h1, h2⟩, h3⟩ := h
  split at h1
  · rename_i b hb
    exact ⟨b, hb, h2, h3⟩
  · cases h1
theorem ckBd_rz {Γ : Ga} {F : Fn} {b : Ss} {ss : List Stmt} (h : F.rz = true) (hb : F.body = .cons (.rzb b) .nil) (hc : ckBd Γ F ss = true) : ckXs Γ false b ss = true := by
  unfold ckBd at hc
  rw [if_pos h, hb] at hc
  exact hc
theorem ckBd_no {Γ : Ga} {F : Fn} {ss : List Stmt} (h : F.rz = false) (hc : ckBd Γ F ss = true) : ckSs Γ F.frr F.body ss = true := by
  unfold ckBd at hc
  rw [h, if_neg Bool.false_ne_true] at hc
  exact hc
theorem evSs_rz (S : Su) (b : Ss) (e : Ev) : evSs S (.cons (.rzb b) .nil) e = evXs S b e := by
  rw [evSs, evS]
  show R.bind (evXs S b e) _ = _
  cases evXs S b e with
  | ok p =>
    obtain ⟨f, e'⟩ := p
    cases f with
    | nx =>
      show evSs S .nil e' = _
      rw [evSs]
      rfl
    | _ => rfl
  | _ => rfl
theorem run_rz {S : Su} {F : Fn} {l : List D} {b : Ss} (hi : F.io = false) (hb : F.body = .cons (.rzb b) .nil) (hl : l.length = F.np) : runFn S F none l = R.bind (retOf (evXs S b (startE F none l))) fun p => .ok (p.1, none) := by
  unfold runFn
  simp only [hi, hb, Bool.false_eq_true, if_false]
  rw [if_pos (by rw [Bool.and_eq_true]; exact ⟨rfl, beq_iff_eq.mpr (by omega)⟩), evSs_rz]
theorem retOf_exc {x : En.R (Fl × Ev)} {c : Nat} {l : List D} (h : retOf x = .exc c l) : x = .exc c l := by
  cases x with
  | ok p =>
    obtain ⟨f, e'⟩ := p
    cases f <;> cases h
  | exc _ _ => cases h; rfl
  | bad => cases h

theorem prog_ok {P : Program} {w : World} {K : Fg} {mg : Str → Option Value} {base : Heap} {pg : Pg} {Γ : Ga} (hfs : Γ.fs = pg.fn)
    (hd : ∀ x id F, Γ.fn.lookup x = some id → Γ.fs id = some F → DefOk K mg Γ x id F) (bl : ∀ x ∈ bns, mg x = none)
    (cs : ∀ x l, Γ.cs.lookup x = some l → (∃ u, mg x = some u ∧ L2.RelV l.v u) ∧ (∀ s, l = .str s → strOk s = true))
    (xc : ∀ x c, Γ.xc.lookup x = some c → ∃ cc, XcOk K mg x c cc) (xi : ∀ x t, Γ.xi.lookup x = some t → XiOk K mg x t) :
    ∀ (n : Nat) x id F, Γ.fn.lookup x = some id → Γ.fs id = some F → ∃ f fd ps, mg x = some (.ref f) ∧ PySem.W.keepIn K (.ref f) = true ∧ Binds K fd ps [] ∧ FnOk P w K mg base CX0 n f fd ps (spF K (pg.call n) id F) ∧ (∀ ks p, (id, ks, p) ∈ Γ.kw → KBinds K fd ps ks (gP p) (gVP p)) ∧ (∃ x' qual st, Fun K x' qual st f fd) ∧ ps = fd.params.args.map (fun a => a.arg) ∧
      (F.rz = true → FnOk P w K mg base (L2.CX P w) n f fd ps (spX K (pg.call n) id F)) := by
  intro n
  induction n with
  | zero =>
    intro x id F hx hF
    obtain ⟨x', qual, st, f, fd, N, ps, h1, h2, h3, h4, h5, h6, hps, h7, h8⟩ := (hd x id F hx hF).ex
    have no : ∀ vs H Q E, ¬ spF K (pg.call 0) id F vs H Q E := fun vs H Q E h => by
      obtain ⟨_, h⟩ := h
      split at h
      · obtain ⟨_, _, _, _, _, _, _, _, _, _, _, _, hc, _⟩ := h
        cases hc
      · obtain ⟨_, _, _, _, _, _, hc, _⟩ := h
        cases hc
    have noX : ∀ vs H Q E, ¬ spX K (pg.call 0) id F vs H Q E := fun vs H Q E h => by
      obtain ⟨_, _, _, _, _, h⟩ := h
      rcases h with ⟨_, _, hc, _⟩ | ⟨_, _, hc, _⟩ <;> cases hc
    exact ⟨f, fd, ps, h1, h2.kp, h3, ⟨fun vs H Q E h => (no vs H Q E h).elim, fun A outer s H args us vs Q E _ _ _ _ h => (no vs H Q E h).elim⟩, h8, ⟨_, _, _, h2⟩, hps,
      fun _ => ⟨fun vs H Q E h => (noX vs H Q E h).elim, fun A outer s H args us vs Q E _ _ _ _ h => (noX vs H Q E h).elim⟩⟩
  | succ n ih =>
    intro x id F hx hF
    obtain ⟨⟨x', qual, st, f, fd, N, ps, h1, h2, h3, h4, h5, h6, hps, h7, h8⟩, hle, hio⟩ := hd x id F hx hF
    have hcall : ∀ io l, pg.call (n + 1) id io l = runFn ⟨pg.call n, pg.gl, pg.wf⟩ F io l := fun io l => by
      rw [hfs] at hF
      have : pg.call (n + 1) id io l = match pg.fn id with
        | some F => runFn ⟨pg.call n, pg.gl, pg.wf⟩ F io l
        | none => .bad := rfl
      rw [this, hF]
    have ctx : ∀ (X : Cx), X.prog = P → X.w = w → X.K = K → X.mg = mg → X.base = base → X.N = N → X.env.scope = defScope st → X.calm = true → X.A.handled = none → Room n X.A → X.A.units + 100 < cLine → (∀ x, X.fn x = true) →
        CtxOk ⟨N, defScope st, (defScope st).names, Γ.fn, Γ.fs, Γ.cs, Γ.kw, Γ.xc, Γ.xi⟩ ⟨pg.call n, pg.gl, pg.wf⟩ X := fun X e1 e2 e3 e4 e5 e6 e7 e8 e9 hr e11 e12 => by
      subst e1 e2 e3 e4 e5
      exact {
          N := e6
          sc := e7
          calm := e8
          nd := by rw [e6]; exact h4.nd
          hh := e9
          un := e11
          st := fun x hx => ⟨by rw [e7]; exact hx, .inl (e12 x)⟩
          fn := fun x id F hx hF => by
            obtain ⟨f, fd, ps, z1, z2, z3, z4, z5, _⟩ := ih x id F hx hF
            exact ⟨f, fd, ps, n, z1, z2, z3, z4, hr, z5⟩
          bl := bl
          cs := cs
          fx := fun x id F hx hF hz => by
            obtain ⟨f, fd, ps, z1, z2, z3, z4, z5, _, _, z6⟩ := ih x id F hx hF
            exact ⟨f, fd, ps, n, z1, z2, z3, z6 hz, hr⟩
          xc := xc
          xi := xi }
    cases hz : F.rz with
    | true =>
      obtain ⟨b, hb, hi, hf⟩ := rz_body hz
      have key : FnOk P w K mg base (L2.CX P w) (n + 1) f fd ps (spX K (pg.call (n + 1)) id F) := h2.okX h4 (fun vs H Q E h => by rw [h.1, h5]) (fun cdv A outer s H vs Q E hr h => by
        have c := ctx (cxOf (L2.CX P w) P w K mg base N qual (defScope st) f cdv A outer s H E) rfl rfl rfl rfl rfl rfl rfl rfl hr.hd hr (by have := hr.un; show (A.deeper _).units + 100 < cLine; omega) (fun _ => rfl)
        have tk : Takes (cxOf (L2.CX P w) P w K mg base N qual (defScope st) f cdv A outer s H E) (fun cls d _ H => E cls d H) := takes_of (X := cxOf (L2.CX P w) P w K mg base N qual (defScope st) f cdv A outer s H E) rfl rfl rfl rfl
        have hx : PassesOwn (model P w) (cxOf (L2.CX P w) P w K mg base N qual (defScope st) f cdv A outer s H E).A (cxOf (L2.CX P w) P w K mg base N qual (defScope st) f cdv A outer s H E).env (cxOf (L2.CX P w) P w K mg base N qual (defScope st) f cdv A outer s H E).xe :=
          passes_of (X := cxOf (L2.CX P w) P w K mg base N qual (defScope st) f cdv A outer s H E) (K := fun e s'' => CX P w outer H s E e s'') rfl
        have hck := sXs (fr := false) c ⟨rfl, rfl, rfl⟩ hx tk b (ckBd_rz hz hb h7)
        refine ⟨_, hck, ?_⟩
        obtain ⟨hlen, G, l, hs, r, h⟩ := h
        have hl : l.length = F.np := by rw [← r.length]; exact hlen
        have S0 := start_ok (N := N) hs r hi hl h6 hle
        refine ⟨_, G, _, S0, ?_⟩
        rw [hcall, run_rz hi hb hl] at h
        rcases h with ⟨d, o', hc, q⟩ | ⟨c', cc, hc, t, q⟩
        · obtain ⟨⟨d', e'⟩, z1, z2⟩ := rbind_ok hc
          cases z2
          have q' : ∀ v G' H', Grow0 G H G' H' → Rep K G' d' v → Q v H' := by
            rw [hf] at q
            cases d' <;> exact q
          rcases retOf_ok z1 with z | ⟨z, rfl⟩
          · exact .inl ⟨.ret d', e', z, fun σ' G' H' S' s' v rv => q' v G' H' S'.gr rv⟩
          · exact .inl ⟨.nx, e', z, fun σ' G' H' S' s' => q' .non G' H' S'.gr rfl⟩
        · refine .inr ⟨c', cc, ?_, t, fun e' σ' G' H' S' s' => q G' H' S'.gr⟩
          cases hm : retOf (evXs ⟨pg.call n, pg.gl, pg.wf⟩ b (startE F none l)) with
          | ok p => rw [hm] at hc; cases hc
          | bad => rw [hm] at hc; cases hc
          | exc a b' =>
            rw [hm] at hc
            cases hc
            exact retOf_exc hm)
      exact ⟨f, fd, ps, h1, h2.kp, h3, calm_of hi key, h8, ⟨_, _, _, h2⟩, hps, fun _ => key⟩
    | false =>
    refine ⟨f, fd, ps, h1, h2.kp, h3, h2.ok h4 (fun vs H Q E h => ?_) (fun cdv A outer s H vs Q E hr h => ?_), h8, ⟨_, _, _, h2⟩, hps, fun w => nomatch w⟩
    · rw [h.1, h5]
    · have c := ctx (cxOf CX0 P w K mg base N qual (defScope st) f cdv A outer s H E).nox rfl rfl rfl rfl rfl rfl rfl rfl hr.hd hr (by have := hr.un; show (A.deeper _).units + 100 < cLine; omega) (fun _ => rfl)
      have hck := sSs (fr := F.frr) c ⟨rfl, rfl, rfl⟩ PassesOwn.never F.body (ckBd_no hz h7)
      refine ⟨_, hck, ?_⟩
      have hcall : ∀ io l r, pg.call (n + 1) id io l = .ok r → runFn ⟨pg.call n, pg.gl, pg.wf⟩ F io l = .ok r := fun io l r hc => by
        rw [hcall] at hc
        exact hc
      obtain ⟨hlen, h⟩ := h
      cases hi : F.io with
      | false =>
        rw [hi] at h
        obtain ⟨G, l, d, o', hs, r, hc, q⟩ := h
        obtain ⟨hl, d', e', z1, z2⟩ := run_val hi (hcall _ _ _ hc)
        · cases z2
          refine ⟨_, G, _, start_ok hs r hi hl h6 hle, ?_⟩
          have frr : F.frr = F.fr := by unfold Fn.frr; rw [hi]; simp
          rcases retOf_ok z1 with z | ⟨z, rfl⟩
          · refine ⟨.ret d, e', z, fun σ' G' H' S' s' => ?_⟩
            rw [frr]
            have gr : Grow0 G H G' H' := S'.gr
            cases hfr : F.fr with
            | false =>
              rw [hfr] at q
              intro v rv
              cases d <;> exact q v G' H' gr rv
            | true =>
              rw [hfr] at q
              cases d with
              | lst l' => exact fun p xs y1 y2 y3 y4 => q p xs G' H' gr y3 y1 y2 y4
              | _ => exact fun v rv => q v G' H' gr rv
          · refine ⟨.nx, e', z, fun σ' G' H' S' s' => ?_⟩
            have gr : Grow0 G H G' H' := S'.gr
            show Q .non H'
            cases hfr : F.fr with
            | false =>
              rw [hfr] at q
              exact q .non G' H' gr rfl
            | true =>
              rw [hfr] at q
              exact q .non G' H' gr rfl
      | true =>
        rw [hi] at h
        obtain ⟨G, a, vs', o, l, oo, d, rfl, hs, ga, ho, r, hc, q⟩ := h
        obtain ⟨hl, d', e', o2, z1, hq, z2⟩ := run_io hi (hcall _ _ _ hc)
        · cases z2
          have S0 := start_okC (N := N) (F := F) hs r ga ho hl h6 hle
          have frr : F.frr = false := by unfold Fn.frr; rw [hi]; simp
          have fin : ∀ σ' G' H', StOk K ⟨G, H, fun b => b = a, [(0, a, none)], []⟩ e' σ' G' H' → ∀ v, Rep K G' d v → Q v H' := fun σ' G' H' S' v rv => by
            refine q v G' H' S'.gr (fun o' w => ?_) rv
            cases w
            obtain ⟨p1, _⟩ := S'.pn _ (List.mem_singleton_self _)
            obtain ⟨a', y1, _, y3, _⟩ := S'.cel hq
            simp only at p1
            rw [p1] at y1
            cases y1
            exact y3
          refine ⟨_, G, _, S0, ?_⟩
          rcases retOf_ok z1 with z | ⟨z, rfl⟩
          · refine ⟨.ret d, e', z, fun σ' G' H' S' s' => ?_⟩
            rw [frr]
            intro v rv
            exact fin σ' G' H' S' v rv
          · exact ⟨.nx, e', z, fun σ' G' H' S' s' => fin σ' G' H' S' .non rfl⟩
end En

/-! En25: the end of a law. -/
namespace En
open PySem PySem.Spec PyProof.Rows L2

/-- a def of the row, as it stands in the written part -/
structure RowDef (K : Fg) (x : Str) (st : Stmt) : Prop where
  ex : ∃ (f : Addr) (oc : Value) (od an : Option Addr) (osl : Array (Option Value)) (kV doc pm cdv ct : Value), PySem.W.nsIn K mainGlobals x = some (some (.ref f)) ∧
    K.lookup f = some ⟨oc, od, .func (PySem.W.fnOf x x (defArgs st) (defBody st) (defScope st) .none kV doc pm an cdv ct), osl⟩ ∧ PySem.W.codeIn K cdv x = true ∧ PySem.W.keepIn K (.ref f) = true
theorem rowdef {K : Fg} {x : Str} {st : Stmt} {f : Addr} {oc : Value} {od an : Option Addr} {osl : Array (Option Value)} {kV doc pm cdv ct : Value} (a : PySem.W.nsIn K mainGlobals x = some (some (.ref f)))
    (l : K.lookup f = some ⟨oc, od, .func (PySem.W.fnOf x x (defArgs st) (defBody st) (defScope st) .none kV doc pm an cdv ct), osl⟩) (c : PySem.W.codeIn K cdv x = true) (k : PySem.W.keepIn K (.ref f) = true) : RowDef K x st :=
  ⟨f, oc, od, an, osl, kV, doc, pm, cdv, ct, a, l, c, k⟩
def scB (N P : List Str) (sc : Scope) : Bool := decide (sc.kind = .function) && !sc.isCoroutine && !sc.isGenerator && decide N.Nodup && decide (N.take P.length = P) && (P.all fun x => sc.names.lookup x == some .local || sc.names.lookup x == some .cell) && sc.names.all fun y => !(y.2 == .free)
theorem scB_ok {N P : List Str} {sc : Scope} (h : scB N P sc = true) : FnScope N P sc := by
  unfold scB at h
  simp only [Bool.and_eq_true] at h
  obtain ⟨⟨⟨⟨⟨⟨h1, h2⟩, h3⟩, h4⟩, h5⟩, h6⟩, h7⟩ := h
  refine ⟨of_decide_eq_true h1, by simpa using h2, by simpa using h3, of_decide_eq_true h4, of_decide_eq_true h5, fun x hx => ?_, fun y hy w => ?_⟩
  · have := List.all_eq_true.mp h6 x hx
    rw [Bool.or_eq_true] at this
    rcases this with w | w
    · exact .inl (eq_of_beq w)
    · exact .inr (eq_of_beq w)
  · have := List.all_eq_true.mp h7 y hy
    rw [w] at this
    cases this
def ckDef (Γ : Ga) (F : Fn) (st : Stmt) (N ps : List Str) : Bool := scB N ps (defScope st) && ps.length == F.np && N.length == F.ns && decide (F.np ≤ F.ns) && (!F.io || decide (0 < F.np)) && decide (ps = (defArgs st).args.map (fun a => a.arg)) &&
  ckBd ⟨N, defScope st, (defScope st).names, Γ.fn, Γ.fs, Γ.cs, Γ.kw, Γ.xc, Γ.xi⟩ F (defBody st)
def BindsR (x : Str) (st : Stmt) (ps : List Str) : Prop := ∀ (kV doc pm : Value) (an : Option Addr) (cdv ct : Value) (us : List Value), us.length = ps.length → bindArgs (PySem.W.fnOf x x (defArgs st) (defBody st) (defScope st) .none kV doc pm an cdv ct) ⟨us, []⟩ = pure (ps.zip us)
def KBindsR (x : Str) (st : Stmt) (ps ks : List Str) (p : List Nat) : Prop := ∀ (kV doc pm : Value) (an : Option Addr) (cdv ct : Value) (ws : List Value), ws.length = p.length →
  bindArgs (PySem.W.fnOf x x (defArgs st) (defBody st) (defScope st) .none kV doc pm an cdv ct) ⟨[], ks.zip ws⟩ = pure (ps.zip (p.map fun i => ws.getD i .none))
/-- a def's text is that of the engine -/
structure DefC (Γ : Ga) (x : Str) (id : Nat) (F : Fn) (st : Stmt) (ps : List Str) : Prop where
  ck : ∃ N, ckDef Γ F st N ps = true
  b : BindsR x st ps
  kb : ∀ ks p, (id, ks, p) ∈ Γ.kw → p.length = ps.length ∧ 0 < ps.length ∧ KBindsR x st ps ks p
section
variable {K : Fg} {h : Heap} {mg : Str → Option Value} {Γ : Ga} {x : Str} {id : Nat} {F : Fn} {st : Stmt} {ps : List Str}
theorem DefOk.of (X : K.In h) (G : h.Ns mainGlobals mg) (r : RowDef K x st) (c : DefC Γ x id F st ps) : DefOk K mg Γ x id F := by
  obtain ⟨f, oc, od, an, osl, kV, doc, pm, cdv, ct, a, l, cc, k⟩ := r.ex
  obtain ⟨N, hc⟩ := c.ck
  unfold ckDef at hc
  simp only [Bool.and_eq_true] at hc
  obtain ⟨⟨⟨⟨⟨⟨h1, h2⟩, h3⟩, h4⟩, h5⟩, hps⟩, h6⟩ := hc
  have FF := fun_mk (st := st) l cc k
  refine ⟨⟨x, x, st, f, _, N, ps, PySem.W.mg_of X G a, FF, FF.binds c.b, scB_ok h1, eq_of_beq h2, eq_of_beq h3, of_decide_eq_true hps, h6, fun ks p hp => ?_⟩, of_decide_eq_true h4, fun hio => ?_⟩
  · obtain ⟨z1, z2, z3⟩ := c.kb ks p hp
    exact kb_mk z2 z1 (z3 kV doc pm an cdv ct)
  · rw [hio] at h5
    simpa using h5
end
theorem lookup_mem {α β : Type} [BEq α] [LawfulBEq α] {x : α} {y : β} : ∀ {l : List (α × β)}, l.lookup x = some y → (x, y) ∈ l
  | [], h => by cases h
  | (a, b) :: l, h => by
    rw [List.lookup_cons] at h
    by_cases e : (x == a) = true
    · rw [e] at h
      cases h
      rw [eq_of_beq e]
      exact List.mem_cons_self
    · simp only [e] at h
      exact List.mem_cons_of_mem _ (lookup_mem h)
theorem fa_cons {α : Type} {p : α → Prop} {a : α} {l : List α} (h : p a) (t : ∀ x ∈ l, p x) : ∀ x ∈ a :: l, p x := fun x hx => by
  rcases List.mem_cons.mp hx with e | e
  · rw [e]; exact h
  · exact t x e
theorem fa_nil {α : Type} {p : α → Prop} : ∀ x ∈ ([] : List α), p x := fun x hx => nomatch hx
/-- what the head gives -/
structure Linked (K : Fg) (h : Heap) (mg : Str → Option Value) (Γ : Ga) (nm x : Str) : Prop where
  fn : ∀ p ∈ Γ.fn, ∃ F, Γ.fs p.2 = some F ∧ DefOk K mg Γ p.1 p.2 F
  bl : ∀ x ∈ bns, PySem.W.nsIn K mainGlobals x = some none
  cs : ∀ p ∈ Γ.cs, (∃ u, mg p.1 = some u ∧ L2.RelV p.2.v u) ∧ (∀ s, p.2 = .str s → strOk s = true)
  xc : ∀ p ∈ Γ.xc, ∃ cc, XcOk K mg p.1 p.2 cc
  xi : ∀ p ∈ Γ.xi, XiOk K mg p.1 p.2
  law : ∃ st, RowDef K nm st ∧ BindsR nm st [x] ∧ (defArgs st).args.map (fun a => a.arg) = [x]
/-- a class of exceptions without fields, as it stands in the written part -/
structure XcRow (K : Fg) (x : Str) (bm : List Value) (nw : String) (c : Addr) : Prop where
  a : PySem.W.nsIn K mainGlobals x = some (some (.ref c))
  k : PySem.W.keepIn K (.ref c) = true
  e : PySem.W.excIn K c bm nw = true
  s : PySem.W.subIn K (.ref c) (.type "BaseException") = some true
  t : PySem.W.typeIn K (.ref c) = some (.type "type")
  i : PySem.W.isClsIn K c = true
  m : PySem.W.subIn K (.ref c) (.ref c) = some true
theorem self_own {K : Fg} {c : Addr} (bas : PySem.W.subIn K (.ref c) (.type "BaseException") = some true) (isc : PySem.W.isClsIn K c = true) (ty : PySem.W.typeIn K (.ref c) = some (.type "type")) (own : PySem.W.subIn K (.ref c) (.ref c) = some true) :
    PySem.W.exmOne K (.ref c) (.ref c) = some true := by
  have isc' : (PySem.W.clsIn K c).isSome = true := isc
  unfold PySem.W.exmOne PySem.W.kitCls
  simp only [bas, isc', ty, own, beq_self_eq_true, Bool.and_self, if_true]
theorem kit_bi {K : Fg} {c : Addr} {nm : String} {b : Bool} (hm : PySem.W.kitMeta nm = true) (q : PySem.W.subIn K (.ref c) (.type nm) = some b) : PySem.W.kitOne K (.ref c) (.type nm) = some b := by
  unfold PySem.W.kitOne PySem.W.kitCls
  have e : ((Value.ref c == Value.type nm) = true) = False := by
    apply eq_false
    intro h
    cases eq_of_beq h
  simp only [e, if_false, hm, if_true, q]
theorem XcOk.of {K : Fg} {h : Heap} {mg : Str → Option Value} (X : K.In h) (G : h.Ns mainGlobals mg) {x : Str} {id : Nat} {c : Addr} {bm : List Value} {B nw ini : String} (F : ExcBaseFacts B nw ini bm) (hid : clsNm id = x) (r : XcRow K x bm nw c) : ∃ cc, XcOk K mg x id cc :=
  ⟨c, ⟨by unfold At; rw [hid]; exact r.a, PySem.W.mg_of X G r.a, r.k, ⟨bm, B, nw, ini, F, r.e⟩, r.s, r.t, self_own r.s r.i r.t r.m⟩⟩
theorem XiOk.of {K : Fg} {h : Heap} {mg : Str → Option Value} (X : K.In h) (G : h.Ns mainGlobals mg) {x : Str} {nm : String} {t : List (Nat × Bool)} (hb : bootBuiltins x = some (.type nm)) (hn : PySem.W.nsIn K mainGlobals x = some none)
    (r : ∀ p ∈ t, ∃ cc, At K p.1 cc ∧ PySem.W.kitOne K (.ref cc) (.type nm) = some p.2 ∧ ExcC K cc) : XiOk K mg x t :=
  ⟨PySem.W.mg_none_of X G hn, nm, hb, fun c b h => r (c, b) (lookup_mem h)⟩
theorem law_end {l : PySem.W.OpenLaw} {m : Nat} {q : Program} {loose : List Str} {XP : (Str → Option Value) → Heap → Prop} {YP : World → Heap → Prop} {d : DefRec} {K : Params → Fg} {x : Str} {pg : Pg} {Γ : Ga} {id : Nat} {F : Fn} {n : Nat}
    (hn : l.most = some m) (hn2 : m ≤ sizeLine) (hdf : d.params.defaults = []) (hr : Room n callerA) (hY : ∀ (w : World) (h : Heap), YP w h → (K w.params).In h)
    (hfs : Γ.fs = pg.fn) (hlk : Γ.fn.lookup d.name = some id) (hF : Γ.fs id = some F) (hio : F.io = false) (hfr : F.fr = false) (hnp : F.np = 1)
    (L : ∀ (w : World) (h : Heap) (mg : Str → Option Value), (K w.params).In h → h.Ns mainGlobals mg → Linked (K w.params) h mg Γ d.name x)
    (run : ∀ ns : List Int, ns.length ≤ m → ∃ o, pg.call n id none [.scr ns] = .ok (.bl true, o)) :
    PySem.W.WalkO q loose XP YP l.row.toRowW d [] (fun f vs => PySem.call f vs) := by
  refine L2.walk_of (l := l) (n := m) (k := n) (x := x) (CX := fun _ => CX0) (sp := fun w => spF (K w.params) (pg.call n) id F) hn hn2 hdf hr hY (fun w mg fa h KX G hmg => ?_) (fun w H a ns hl _ hS => ?_) (fun _ _ _ _ _ h => h)
  · have Z := L w h mg KX G
    obtain ⟨st, R, B, hx⟩ := Z.law
    obtain ⟨f, oc, od, an, osl, kV, doc, pm, cdv, ct, a, lk, cc, k⟩ := R.ex
    have e := hmg.symm.trans (PySem.W.mg_of KX G a)
    cases e
    refine ⟨_, fun s u => .of_eq (B kV doc pm an cdv ct [u] rfl), fun base Kb Gb => ?_⟩
    have P := prog_ok (P := l.prog) (w := w) (base := base) hfs (fun x id F hx hF => by
        obtain ⟨F', h1, h2⟩ := Z.fn _ (lookup_mem hx)
        have h1' : Γ.fs id = some F' := h1
        rw [hF] at h1'
        cases h1'
        exact h2) (fun x hx => PySem.W.mg_none_of KX G (Z.bl x hx)) (fun x l hx => Z.cs _ (lookup_mem hx)) (fun x c hx => Z.xc _ (lookup_mem hx)) (fun x t hx => Z.xi _ (lookup_mem hx)) n d.name id F hlk hF
    obtain ⟨f', fd, ps, z1, z2, z3, z4, z5, ⟨x', qual, st', FF⟩, hps, _⟩ := P
    rw [hmg] at z1
    cases z1
    obtain ⟨oc', od', kV', doc', pm', an', cdv', ct', osl', w1, w2, w3⟩ := FF.ex
    rw [lk] at w2
    cases w2
    have e : ps = [x] := hps.trans hx
    subst e
    exact z4
  · refine ⟨hnp.symm, ?_⟩
    rw [hio]
    obtain ⟨o, ho⟩ := run ns hl
    refine ⟨H, [.scr ns], .bl true, o, Same.refl _, ⟨_, [], rfl, ⟨a, rfl, hS⟩, rfl⟩, ho, ?_⟩
    rw [hfr]
    intro v G' H' _ r
    exact r
end En

namespace En
def fn_m_rows_is_word : Fn := ⟨1, 2, false, false, (.cons (.ret (.and_ (.p1 (.isi [.str]) (.var 0)) (.p1 .all (.fr (.comp [1] (.nm 1) (.src (.var 0)) none (.p2 .isIn (.var 1) (.lit (.str [97, 98, 99, 100, 101, 102, 103, 104])))))))) .nil)⟩
def fn_m_rows_is_row : Fn := ⟨1, 3, false, false, (.cons (.ret (.and_ (.call 0 none (.cons (.var 0) .nil)) (.p1 .all (.fr (.comp [1, 2] (.two (.nm 1) (.nm 2)) (.zip (.var 0) (.p2 .slcLo (.var 0) (.lit (.int 1)))) none (.p2 .ne (.var 1) (.var 2))))))) .nil)⟩
def fn_m_rows_is_way : Fn := ⟨1, 1, false, false, (.cons (.ret (.and_ (.call 1 none (.cons (.var 0) .nil)) (.p2 .gt (.p1 .len (.var 0)) (.lit (.int 0))))) .nil)⟩
def fn_l_box : Fn := ⟨2, 3, false, true, (.cons (.asg 2 (.ite (.p2 .lt (.var 1) (.p1 .len (.var 0))) (.p2 .idx (.var 0) (.var 1)) (.lit (.int 0)))) (.cons (.retF (.disp (.cons (.p2 .mul (.p1 .abs (.var 2)) (.p1 .int (.p2 .ge (.p1 .abs (.var 2)) (.p2 .pow (.lit (.int 10)) (.lit (.int 18)))))) (.cons (.p2 .add (.p2 .add (.p2 .mod (.p1 .int (.var 2)) (.lit (.int 2305843009213693951))) (.p2 .mul (.lit (.int 39373)) (.var 1))) (.lit (.int 42004))) (.cons (.lit (.int 0)) .nil))))) .nil))⟩
def fn_l_take : Fn := ⟨2, 6, true, false, (.cons (.ite (.p2 .gt (.p2 .idx (.var 0) (.lit (.int 0))) (.lit (.int 0))) (.cons (.asg 5 (.p2 .mod (.p1 .int (.p2 .idx (.var 0) (.lit (.int 0)))) (.var 1))) (.cons (.setI 0 (.lit (.int 0)) (.p2 .fdiv (.p2 .idx (.var 0) (.lit (.int 0))) (.var 1))) (.cons (.ret (.var 5)) .nil))) .nil) (.cons (.setI 0 (.lit (.int 2)) (.p2 .add (.p2 .idx (.var 0) (.lit (.int 2))) (.lit (.int 1)))) (.cons (.asg 2 (.p2 .mod (.p1 .int (.p2 .mul (.p2 .add (.p2 .idx (.var 0) (.lit (.int 1))) (.p2 .mul (.lit (.int 48271)) (.p2 .idx (.var 0) (.lit (.int 2))))) (.p2 .add (.lit (.int 39373)) (.p2 .idx (.var 0) (.lit (.int 2)))))) (.lit (.int 2147483647)))) (.cons (.asg 3 (.p2 .add (.p2 .mod (.p1 .int (.var 2)) (.lit (.int 40009))) (.lit (.int 7)))) (.cons (.asg 4 (.p2 .mod (.p1 .int (.p2 .mul (.p2 .add (.p2 .add (.var 2) (.p2 .idx (.var 0) (.lit (.int 2)))) (.p2 .fdiv (.p2 .idx (.var 0) (.lit (.int 1))) (.lit (.int 1000003)))) (.var 3))) (.lit (.int 2147483629)))) (.cons (.ret (.p2 .mod (.p1 .int (.p2 .fdiv (.p2 .mod (.p1 .int (.p2 .add (.p2 .mul (.var 4) (.lit (.int 48271))) (.var 2))) (.lit (.int 2147483587))) (.lit (.int 64)))) (.var 1))) .nil))))))⟩
def b1_l_cells : Ss := (.cons (.asg 5 (.p2 .mod (.p1 .int (.var 3)) (.var 1))) (.cons (.setI 2 (.var 5) (.p2 .add (.p2 .idx (.var 2) (.var 5)) (.p2 .mul (.var 4) (.p2 .add (.var 3) (.lit (.int 2)))))) .nil))
def fn_l_cells : Fn := ⟨2, 6, false, true, (.cons (.new 2 (.orf (.q1 .list (.p2 .slcHi (.var 0) (.var 1))) (.disp (.cons (.lit (.int 0)) .nil)))) (.cons (.loop (.two (.nm 3) (.nm 4)) (.enum (.p3 .slc (.var 0) (.var 1) (.lit (.int 63)))) b1_l_cells) (.cons (.retC 2) .nil)))⟩
def fn_l_of : Fn := ⟨2, 2, true, false, (.cons (.ret (.p2 .idx (.var 1) (.cio 4 0 (.cons (.p1 .len (.var 1)) .nil)))) .nil)⟩
def fn_l_same : Fn := ⟨2, 4, false, false, (.cons (.ite (.p1 (.isi [.list, .tuple]) (.var 1)) (.cons (.ite (.or_ (.p2 .ne (.p1 (.isi [.list]) (.var 0)) (.p1 (.isi [.list]) (.var 1))) (.p2 .ne (.p1 (.isi [.tuple]) (.var 0)) (.p1 (.isi [.tuple]) (.var 1)))) (.cons (.ret (.lit (.bl false))) .nil) .nil) (.cons (.ret (.and_ (.p2 .eq (.p1 .len (.var 0)) (.p1 .len (.var 1))) (.p1 .all (.fr (.comp [2, 3] (.two (.nm 2) (.nm 3)) (.zip (.var 0) (.var 1)) none (.call 7 none (.cons (.var 2) (.cons (.var 3) .nil)))))))) .nil)) .nil) (.cons (.ite (.or_ (.p1 .isN (.var 1)) (.p1 (.isi [.bool, .str]) (.var 1))) (.cons (.ret (.and_ (.p2 .eq (.var 0) (.var 1)) (.and_ (.p2 .eq (.p1 (.isi [.bool]) (.var 0)) (.p1 (.isi [.bool]) (.var 1))) (.p2 .eq (.p1 .isN (.var 0)) (.p1 .isN (.var 1)))))) .nil) .nil) (.cons (.ret (.and_ (.p1 (.isi [.int]) (.var 0)) (.and_ (.not_ (.p1 (.isi [.bool]) (.var 0))) (.p2 .eq (.var 0) (.var 1))))) .nil)))⟩
def fn_l_word : Fn := ⟨3, 4, true, false, (.cons (.ret (.p2 .join (.lit (.str [])) (.fr (.comp [3] (.nm 3) (.rng1 (.cio 4 0 (.cons (.p2 .add (.var 2) (.lit (.int 1))) .nil))) none (.cio 6 0 (.cons (.p2 .slcHi (.lit (.str [97, 98, 99, 100, 101, 102, 103, 104])) (.var 1)) .nil)))))) .nil)⟩
def b1_l_row : Ss := (.cons (.asg 5 (.fr (.comp [6] (.nm 6) (.src (.p2 .slcHi (.lit (.str [97, 98, 99, 100, 101, 102, 103, 104])) (.var 1))) (some (.p2 .ne (.var 6) (.p2 .slcLo (.var 3) (.p1 .neg (.lit (.int 1)))))) (.var 6)))) (.cons (.asg 3 (.p2 .add (.var 3) (.cio 6 0 (.cons (.var 5) .nil)))) .nil))
def fn_l_row : Fn := ⟨3, 7, true, false, (.cons (.asg 3 (.lit (.str []))) (.cons (.loop (.nm 4) (.rng1 (.cio 4 0 (.cons (.p2 .add (.var 2) (.lit (.int 1))) .nil))) b1_l_row) (.cons (.ret (.var 3)) .nil)))⟩
def fn_l_kinds : Fn := ⟨1, 4, false, true, (.cons (.ite (.or_ (.not_ (.p1 (.isi [.str]) (.var 0))) (.p2 .ne (.fr (.comp [3] (.nm 3) (.src (.var 0)) (some (.p2 .notIn (.var 3) (.lit (.str [97, 98, 99, 100, 101, 102, 103, 104])))) (.var 3))) (.fr (.disp .nil)))) (.cons (.retF (.disp (.cons (.lit (.bl false)) (.cons (.lit (.bl false)) (.cons (.lit (.bl false)) .nil))))) .nil) .nil) (.cons (.asg 1 (.p2 .eq (.fr (.comp [2] (.nm 2) (.rng2 (.lit (.int 1)) (.p1 .len (.var 0))) (some (.p2 .eq (.p2 .idx (.var 0) (.var 2)) (.p2 .idx (.var 0) (.p2 .sub (.var 2) (.lit (.int 1)))))) (.var 2))) (.fr (.disp .nil)))) (.cons (.retF (.disp (.cons (.lit (.bl true)) (.cons (.var 1) (.cons (.and_ (.var 1) (.p2 .ne (.var 0) (.lit (.str [])))) .nil))))) .nil)))⟩
def fn_l_case_right : Fn := ⟨2, 3, false, false, (.cons (.asg 2 (.fr (.disp (.cons (.call 0 none (.cons (.var 0) .nil)) (.cons (.call 1 none (.cons (.var 0) .nil)) (.cons (.call 2 none (.cons (.var 0) .nil)) .nil)))))) (.cons (.asg 2 (.p2 .add (.var 2) (.fr (.disp (.cons (.call 0 (some [0]) (.cons (.var 0) .nil)) (.cons (.call 1 (some [0]) (.cons (.var 0) .nil)) (.cons (.call 2 (some [0]) (.cons (.var 0) .nil)) .nil))))))) (.cons (.ret (.call 7 none (.cons (.var 2) (.cons (.p2 .add (.var 1) (.var 1)) .nil)))) .nil)))⟩
def b1_l_right : Ss := (.cons (.ite (.not_ (.call 11 none (.cons (.var 6) (.cons (.call 10 none (.cons (.var 6) .nil)) .nil)))) (.cons (.ret (.lit (.bl false))) .nil) .nil) .nil)
def b2_l_right : Ss := (.cons (.asg 2 (.p2 .add (.lit (.int 2)) (.cio 4 0 (.cons (.lit (.int 7)) .nil)))) (.cons (.asg 3 (.ite (.p2 .eq (.cio 4 0 (.cons (.lit (.int 2)) .nil)) (.lit (.int 0))) (.cio 9 0 (.cons (.var 2) (.cons (.lit (.int 30)) .nil))) (.cio 8 0 (.cons (.var 2) (.cons (.lit (.int 30)) .nil))))) (.cons (.asg 4 (.cio 4 0 (.cons (.p2 .add (.p1 .len (.var 3)) (.lit (.int 1))) .nil))) (.cons (.asg 5 (.p2 .add (.p2 .add (.p2 .slcHi (.var 3) (.var 4)) (.cio 6 0 (.cons (.fr (.disp (.cons (.lit (.str [97])) (.cons (.lit (.str [98])) (.cons (.lit (.str [104])) (.cons (.lit (.str [105])) (.cons (.lit (.str [72])) (.cons (.lit (.str [32])) (.cons (.lit (.str [])) (.cons (.lit (.str [55])) .nil)))))))))) .nil))) (.p2 .slcLo (.var 3) (.p2 .add (.var 4) (.lit (.int 1)))))) (.cons (.loop (.nm 6) (.src (.tup (.cons (.var 3) (.cons (.var 5) (.cons (.p2 .add (.var 3) (.var 3)) (.cons (.p2 .add (.var 3) (.p2 .slcLo (.var 3) (.p1 .neg (.lit (.int 1))))) (.cons (.fr (.q1 .list (.var 3))) (.cons (.tup (.cons (.var 3) .nil)) .nil)))))))) b1_l_right) .nil)))))
def fn_l_right : Fn := ⟨1, 7, true, false, (.cons (.loop (.nm 1) (.rng1 (.lit (.int 12))) b2_l_right) (.cons (.ret (.lit (.bl true))) .nil))⟩
def fn_law : Fn := ⟨1, 3, false, false, (.cons (.asg 1 (.call 5 none (.cons (.var 0) (.cons (.lit (.int 3)) .nil)))) (.cons (.ite (.not_ (.call 12 none .nil)) (.cons (.ret (.lit (.bl false))) .nil) .nil) (.cons (.ret (.p1 .all (.fr (.comp [2] (.nm 2) (.rng1 (.p1 .len (.var 1))) none (.ciof 13 (.call 3 (.cons (.var 1) (.cons (.var 2) .nil))) .nil))))) .nil)))⟩
def b1_m_rows_reduced : Ss := (.cons (.ite (.and_ (.p2 .gt (.p1 .len (.var 1)) (.lit (.int 0))) (.p2 .eq (.p2 .idx (.var 1) (.p1 .neg (.lit (.int 1)))) (.var 2))) (.cons (.expr (.pop 1)) .nil) (.cons (.app 1 (.var 2)) .nil)) .nil)
def fn_m_rows_reduced : Fn := ⟨1, 3, false, false, (.cons (.new 1 (.disp .nil)) (.cons (.loop (.nm 2) (.src (.var 0)) b1_m_rows_reduced) (.cons (.ret (.p2 .join (.lit (.str [])) (.var 1))) .nil)))⟩
def fn_m_rows_back : Fn := ⟨1, 1, false, false, (.cons (.ret (.p1 .rev (.var 0))) .nil)⟩
def b1_m_rows_shared : Ss := (.cons (.aug 2 .add (.lit (.int 1))) .nil)
def fn_m_rows_shared : Fn := ⟨2, 4, false, false, (.cons (.asg 2 (.lit (.int 0))) (.cons (.asg 3 (.p2 .min2 (.p1 .len (.var 0)) (.p1 .len (.var 1)))) (.cons (.whl (.and_ (.p2 .lt (.var 2) (.var 3)) (.p2 .eq (.p2 .idx (.var 0) (.var 2)) (.p2 .idx (.var 1) (.var 2)))) b1_m_rows_shared) (.cons (.ret (.var 2)) .nil))))⟩
def fn_m_rows_joined : Fn := ⟨2, 3, false, false, (.cons (.asg 2 (.call 17 none (.cons (.call 16 none (.cons (.var 0) .nil)) (.cons (.var 1) .nil)))) (.cons (.ret (.p2 .add (.p2 .slcHi (.var 0) (.p2 .sub (.p1 .len (.var 0)) (.var 2))) (.p2 .slcLo (.var 1) (.var 2)))) .nil))⟩
def fn_m_rows_path : Fn := ⟨2, 3, false, false, (.cons (.asg 2 (.call 17 none (.cons (.var 0) (.cons (.var 1) .nil)))) (.cons (.ret (.p2 .add (.call 16 none (.cons (.p2 .slcLo (.var 0) (.var 2)) .nil)) (.p2 .slcLo (.var 1) (.var 2)))) .nil))⟩
def fn_m_rows_distance : Fn := ⟨2, 2, false, false, (.cons (.ret (.p1 .len (.call 24 none (.cons (.var 0) (.cons (.var 1) .nil))))) .nil)⟩
def fn_m_rows_doors_on : Fn := ⟨2, 5, false, false, (.cons (.asg 2 (.call 17 none (.cons (.var 0) (.cons (.var 1) .nil)))) (.cons (.asg 3 (.fr (.comp [4] (.nm 4) (.rngdn (.p1 .len (.var 0)) (.var 2)) none (.p2 .slcHi (.var 0) (.var 4))))) (.cons (.ret (.p1 .tuple (.p2 .add (.var 3) (.fr (.comp [4] (.nm 4) (.rng2 (.p2 .add (.var 2) (.lit (.int 1))) (.p2 .add (.p1 .len (.var 1)) (.lit (.int 1)))) none (.p2 .slcHi (.var 1) (.var 4))))))) .nil)))⟩
def fn_m_rows_meeting : Fn := ⟨3, 4, false, false, (.cons (.asg 3 (.p3 .max3 (.call 17 none (.cons (.var 0) (.cons (.var 1) .nil))) (.call 17 none (.cons (.var 0) (.cons (.var 2) .nil))) (.call 17 none (.cons (.var 1) (.cons (.var 2) .nil))))) (.cons (.ret (.ite (.p2 .eq (.call 17 none (.cons (.var 1) (.cons (.var 2) .nil))) (.var 3)) (.p2 .slcHi (.var 1) (.var 3)) (.p2 .slcHi (.var 0) (.var 3)))) .nil))⟩
def fn_m_rows_next_rooms : Fn := ⟨2, 3, false, false, (.cons (.ret (.p1 .tuple (.fr (.comp [2] (.nm 2) (.src (.p2 .slcHi (.lit (.str [97, 98, 99, 100, 101, 102, 103, 104])) (.var 1))) none (.call 18 none (.cons (.var 0) (.cons (.var 2) .nil))))))) .nil)⟩
def fn_m_rows_begins : Fn := ⟨2, 2, false, false, (.cons (.ret (.p2 .eq (.p2 .slcHi (.var 1) (.p1 .len (.var 0))) (.var 0))) .nil)⟩
def fn_m_rows_rooms_of : Fn := ⟨1, 1, false, false, (.cons (.ret (.tup (.cons (.p2 .slcHi (.var 0) (.p1 .neg (.lit (.int 1)))) (.cons (.var 0) .nil)))) .nil)⟩
def fn_l_way : Fn := ⟨3, 4, true, false, (.cons (.asg 3 (.cio 9 0 (.cons (.var 1) (.cons (.var 2) .nil)))) (.cons (.ret (.ite (.p2 .ne (.var 3) (.lit (.str []))) (.var 3) (.cio 6 0 (.cons (.p2 .slcHi (.lit (.str [97, 98, 99, 100, 101, 102, 103, 104])) (.var 1)) .nil)))) .nil))⟩
def b1_l_next : Ss := (.cons (.app 2 (.ite (.p2 .eq (.p2 .slcLo (.var 0) (.p1 .neg (.lit (.int 1)))) (.var 3)) (.p2 .slcHi (.var 0) (.p1 .neg (.lit (.int 1)))) (.p2 .add (.var 0) (.var 3)))) .nil)
def fn_l_next : Fn := ⟨2, 4, false, false, (.cons (.new 2 (.disp .nil)) (.cons (.loop (.nm 3) (.src (.p2 .slcHi (.lit (.str [97, 98, 99, 100, 101, 102, 103, 104])) (.var 1))) b1_l_next) (.cons (.ret (.p1 .tuple (.var 2))) .nil)))⟩
def fn_l_begins : Fn := ⟨2, 3, false, false, (.cons (.ite (.p2 .gt (.p1 .len (.var 0)) (.p1 .len (.var 1))) (.cons (.ret (.lit (.bl false))) .nil) .nil) (.cons (.ret (.p2 .eq (.fr (.comp [2] (.nm 2) (.rng1 (.p1 .len (.var 0))) (some (.p2 .ne (.p2 .idx (.var 0) (.var 2)) (.p2 .idx (.var 1) (.var 2)))) (.var 2))) (.fr (.disp .nil)))) .nil))⟩
def b1_l_right_4 : Ss := (.cons (.asg 4 (.p2 .add (.var 4) (.fr (.disp (.cons (.call 37 none (.cons (.var 6) (.cons (.var 10) .nil))) (.cons (.call 37 (some [1, 0]) (.cons (.var 10) (.cons (.var 6) .nil))) .nil)))))) (.cons (.asg 5 (.p2 .add (.var 5) (.p2 .mul (.fr (.disp (.cons (.call 42 none (.cons (.var 6) (.cons (.var 10) .nil))) .nil))) (.lit (.int 2))))) .nil))
def b2_l_right_4 : Ss := (.cons (.loop (.nm 10) (.src (.tup (.cons (.var 3) (.cons (.var 8) (.cons (.var 7) .nil))))) b1_l_right_4) .nil)
def b3_l_right_4 : Ss := (.cons (.asg 2 (.p2 .add (.lit (.int 2)) (.cio 4 0 (.cons (.lit (.int 7)) .nil)))) (.cons (.par (.val 7 (.cio 9 0 (.cons (.var 2) (.cons (.lit (.int 30)) .nil))) (.val 8 (.cio 9 0 (.cons (.lit (.int 2)) (.cons (.lit (.int 6)) .nil))) (.val 9 (.cio 40 0 (.cons (.var 2) (.cons (.lit (.int 30)) .nil))) .nil)))) (.cons (.asg 3 (.p2 .slcHi (.var 7) (.cio 4 0 (.cons (.p2 .add (.p1 .len (.var 7)) (.lit (.int 1))) .nil)))) (.cons (.asg 4 (.fr (.disp (.cons (.call 36 none (.cons (.var 7) (.cons (.var 2) .nil))) (.cons (.call 36 (some [1, 0]) (.cons (.var 2) (.cons (.var 7) .nil))) (.cons (.call 38 none (.cons (.var 9) .nil)) .nil)))))) (.cons (.asg 5 (.p2 .add (.p2 .mul (.fr (.disp (.cons (.call 41 none (.cons (.var 7) (.cons (.var 2) .nil))) .nil))) (.lit (.int 2))) (.fr (.disp (.cons (.tup (.cons (.p2 .slcHi (.var 9) (.p1 .neg (.lit (.int 1)))) (.cons (.var 9) .nil))) .nil))))) (.cons (.loop (.nm 6) (.src (.tup (.cons (.var 3) (.cons (.var 8) (.cons (.var 7) .nil))))) b2_l_right_4) (.cons (.ite (.not_ (.call 7 none (.cons (.var 4) (.cons (.var 5) .nil)))) (.cons (.ret (.lit (.bl false))) .nil) .nil) .nil)))))))
def fn_l_right_4 : Fn := ⟨1, 11, true, false, (.cons (.loop (.nm 1) (.rng1 (.lit (.int 10))) b3_l_right_4) (.cons (.ret (.lit (.bl true))) .nil))⟩
def fn_m_rows_palindrome : Fn := ⟨1, 1, false, false, (.cons (.ret (.p2 .add (.var 0) (.call 16 none (.cons (.p2 .slcHi (.var 0) (.p1 .neg (.lit (.int 1)))) .nil)))) .nil)⟩
def fn_m_rows_turned : Fn := ⟨2, 2, false, false, (.cons (.ret (.call 18 none (.cons (.call 46 none (.cons (.var 0) .nil)) (.cons (.var 1) .nil)))) .nil)⟩
def b1_l_reduced : Ss := (.cons (.asg 1 (.ite (.p2 .eq (.p2 .slcLo (.var 1) (.p1 .neg (.lit (.int 1)))) (.var 2)) (.p2 .slcHi (.var 1) (.p1 .neg (.lit (.int 1)))) (.p2 .add (.var 1) (.var 2)))) .nil)
def fn_l_reduced : Fn := ⟨1, 3, false, false, (.cons (.asg 1 (.lit (.str []))) (.cons (.loop (.nm 2) (.src (.var 0)) b1_l_reduced) (.cons (.ret (.var 1)) .nil)))⟩
def fn_l_pal : Fn := ⟨1, 1, false, false, (.cons (.ret (.p2 .add (.var 0) (.p1 .rev (.p2 .slcHi (.var 0) (.p1 .neg (.lit (.int 1))))))) .nil)⟩
def fn_l_seen : Fn := ⟨2, 3, false, false, (.cons (.asg 2 (.call 51 none (.cons (.p2 .add (.p2 .add (.call 52 none (.cons (.var 1) .nil)) (.call 52 none (.cons (.var 0) .nil))) (.call 52 none (.cons (.var 1) .nil))) .nil))) (.cons (.ret (.p2 .slcHi (.var 2) (.p2 .add (.p2 .fdiv (.p1 .len (.var 2)) (.lit (.int 2))) (.lit (.int 1))))) .nil))⟩
def fn_l_size : Fn := ⟨1, 1, true, false, (.cons (.ret (.cio 6 0 (.cons (.fr (.disp (.cons (.tup (.cons (.lit (.int 2)) (.cons (.lit (.int 5)) .nil))) (.cons (.tup (.cons (.lit (.int 2)) (.cons (.lit (.int 6)) .nil))) (.cons (.tup (.cons (.lit (.int 3)) (.cons (.lit (.int 3)) .nil))) (.cons (.tup (.cons (.lit (.int 3)) (.cons (.lit (.int 4)) .nil))) (.cons (.tup (.cons (.lit (.int 4)) (.cons (.lit (.int 2)) .nil))) .nil))))))) .nil))) .nil)⟩
def b1_l_all : Ss := (.cons (.asg 5 (.p2 .add (.var 5) (.fr (.comp [7] (.nm 7) (.src (.p2 .slcHi (.lit (.str [97, 98, 99, 100, 101, 102, 103, 104])) (.var 0))) (some (.p2 .ne (.var 7) (.p2 .slcLo (.var 6) (.p1 .neg (.lit (.int 1)))))) (.p2 .add (.var 6) (.var 7)))))) .nil)
def b2_l_all : Ss := (.cons (.asg 5 (.fr (.disp .nil))) (.cons (.loop (.nm 6) (.src (.var 4)) b1_l_all) (.cons (.par (.val 3 (.p2 .add (.var 3) (.var 5)) (.val 4 (.var 5) .nil))) .nil)))
def fn_l_all : Fn := ⟨2, 8, false, false, (.cons (.par (.val 3 (.fr (.disp .nil)) (.val 4 (.fr (.disp (.cons (.lit (.str [])) .nil))) .nil))) (.cons (.loop (.nm 2) (.rng1 (.var 1)) b2_l_all) (.cons (.ret (.var 3)) .nil)))⟩
def fn_m_between_can_become : Fn := ⟨2, 2, false, false, (.cons (.ret (.p2 .eq (.p2 .idx (.var 0) (.p1 .neg (.lit (.int 1)))) (.p2 .idx (.var 1) (.p1 .neg (.lit (.int 1)))))) .nil)⟩
def b1_m_looks_room_after : Ss := (.cons (.asg 2 (.call 47 none (.cons (.var 3) (.cons (.var 2) .nil)))) .nil)
def fn_m_looks_room_after : Fn := ⟨2, 4, false, false, (.cons (.asg 2 (.var 0)) (.cons (.loop (.nm 3) (.src (.var 1)) b1_m_looks_room_after) (.cons (.ret (.var 2)) .nil)))⟩
def fn_m_looks_same_motion : Fn := ⟨2, 2, false, false, (.cons (.ret (.p2 .eq (.call 200 none (.cons (.lit (.str [])) (.cons (.var 0) .nil))) (.call 200 none (.cons (.lit (.str [])) (.cons (.var 1) .nil))))) .nil)⟩
def b1_l_after : Ss := (.cons (.asg 2 (.call 51 none (.cons (.p2 .add (.call 52 none (.cons (.var 3) .nil)) (.var 2)) .nil))) .nil)
def fn_l_after : Fn := ⟨2, 4, false, false, (.cons (.asg 2 (.var 0)) (.cons (.loop (.nm 3) (.src (.var 1)) b1_l_after) (.cons (.ret (.var 2)) .nil)))⟩
def fn_m_between_middle : Fn := ⟨2, 4, false, false, (.cons (.asg 2 (.call 24 none (.cons (.var 0) (.cons (.var 1) .nil)))) (.cons (.asg 3 (.p2 .fdiv (.p1 .len (.var 2)) (.lit (.int 2)))) (.cons (.ite (.p2 .eq (.p2 .mod (.p1 .len (.var 2)) (.lit (.int 2))) (.lit (.int 0))) (.cons (.ret (.tup (.cons (.lit (.str [114, 111, 111, 109])) (.cons (.call 15 none (.cons (.p2 .add (.var 0) (.p2 .slcHi (.var 2) (.var 3))) .nil)) .nil)))) .nil) .nil) (.cons (.ret (.tup (.cons (.lit (.str [100, 111, 111, 114])) (.cons (.p2 .idx (.call 26 none (.cons (.var 0) (.cons (.var 1) .nil))) (.var 3)) .nil)))) .nil))))⟩
def fn_l_box_46 : Fn := ⟨2, 3, false, true, (.cons (.asg 2 (.ite (.p2 .lt (.var 1) (.p1 .len (.var 0))) (.p2 .idx (.var 0) (.var 1)) (.lit (.int 0)))) (.cons (.retF (.disp (.cons (.p2 .mul (.p1 .abs (.var 2)) (.p1 .int (.p2 .ge (.p1 .abs (.var 2)) (.p2 .pow (.lit (.int 10)) (.lit (.int 18)))))) (.cons (.p2 .add (.p2 .add (.p2 .mod (.p1 .int (.var 2)) (.lit (.int 2305843009213693951))) (.p2 .mul (.lit (.int 39373)) (.var 1))) (.lit (.int 45046))) (.cons (.lit (.int 0)) .nil))))) .nil))⟩
def b1_l_rooms : Ss := (.cons (.asg 2 (.p2 .add (.var 2) (.lit (.int 1)))) .nil)
def fn_l_rooms : Fn := ⟨2, 5, false, true, (.cons (.asg 2 (.lit (.int 0))) (.cons (.whl (.and_ (.p2 .lt (.var 2) (.p2 .min2 (.p1 .len (.var 0)) (.p1 .len (.var 1)))) (.p2 .eq (.p2 .idx (.var 0) (.var 2)) (.p2 .idx (.var 1) (.var 2)))) b1_l_rooms) (.cons (.asg 3 (.fr (.comp [4] (.nm 4) (.rng1 (.p2 .add (.p2 .sub (.p1 .len (.var 0)) (.var 2)) (.lit (.int 1)))) none (.p2 .slcHi (.var 0) (.p2 .sub (.p1 .len (.var 0)) (.var 4)))))) (.cons (.retF (.q2 .cat (.var 3) (.fr (.comp [4] (.nm 4) (.rng2 (.p2 .add (.var 2) (.lit (.int 1))) (.p2 .add (.p1 .len (.var 1)) (.lit (.int 1)))) none (.p2 .slcHi (.var 1) (.var 4)))))) .nil))))⟩
def fn_l_led_2 : Fn := ⟨3, 4, false, false, (.cons (.asg 3 (.call 51 none (.cons (.p2 .add (.p2 .add (.call 52 none (.cons (.var 1) .nil)) (.call 52 none (.cons (.var 0) .nil))) (.var 2)) .nil))) (.cons (.ret (.p1 .len (.call 51 none (.cons (.p2 .add (.p1 .rev (.var 2)) (.var 3)) .nil)))) .nil))⟩
def fn_m_between_doors_from_2 : Fn := ⟨2, 5, false, false, (.cons (.asg 2 (.fr (.comp2 [3, 4] [4] (.nm 3) (.src (.call 38 none (.cons (.var 0) .nil))) (.nm 4) (.src (.call 38 none (.cons (.var 1) .nil))) none (.call 26 none (.cons (.var 3) (.cons (.var 4) .nil)))))) (.cons (.ret (.p1 .maxlenT (.var 2))) .nil))⟩
def fn_m_between_letters_from_2 : Fn := ⟨2, 3, false, false, (.cons (.ret (.p2 .join (.lit (.str [])) (.fr (.comp [2] (.nm 2) (.src (.call 435 none (.cons (.var 0) (.cons (.var 1) .nil)))) none (.p2 .idx (.var 2) (.p1 .neg (.lit (.int 1)))))))) .nil)⟩
def fn_m_between_mirror_2 : Fn := ⟨2, 3, false, false, (.cons (.asg 2 (.call 436 none (.cons (.var 0) (.cons (.var 1) .nil)))) (.cons (.ret (.ite (.p2 .eq (.var 2) (.p1 .rev (.var 2))) (.p2 .idx (.call 435 none (.cons (.var 0) (.cons (.var 1) .nil))) (.p2 .fdiv (.p1 .len (.var 2)) (.lit (.int 2)))) (.lit .non))) .nil))⟩
def fn_m_between_is_2 : Fn := ⟨3, 3, false, false, (.cons (.ret (.and_ (.p1 (.isi [.str]) (.var 2)) (.p2 .eq (.var 2) (.call 437 none (.cons (.var 0) (.cons (.var 1) .nil)))))) .nil)⟩
def fn_l_pair_right_4 : Fn := ⟨3, 9, false, false, (.cons (.asg 3 (.fr (.comp [8] (.nm 8) (.src (.var 2)) (some (.p2 .eq (.call 53 none (.cons (.var 0) (.cons (.var 8) .nil))) (.var 1))) (.var 8)))) (.cons (.ite (.p2 .gt (.p1 .len (.var 3)) (.lit (.int 1))) (.cons (.ret (.lit (.bl false))) .nil) .nil) (.cons (.asg 4 (.ite (.p2 .ne (.var 3) (.fr (.disp .nil))) (.p2 .idx (.var 3) (.lit (.int 0))) (.lit .non))) (.cons (.asg 5 (.p2 .add (.var 2) (.fr (.disp (.cons (.lit .non) (.cons (.var 4) (.cons (.fr (.disp (.cons (.var 4) .nil))) (.cons (.tup (.cons (.var 4) .nil)) (.cons (.lit (.str [])) (.cons (.lit (.int 0)) (.cons (.lit (.bl true)) (.cons (.lit (.str [97, 97])) (.cons (.p2 .add (.var 0) (.var 1)) .nil))))))))))))) (.cons (.asg 6 (.fr (.comp [8] (.nm 8) (.src (.var 5)) none (.and_ (.p1 .notN (.var 4)) (.p2 .eq (.var 8) (.var 4)))))) (.cons (.asg 7 (.fr (.disp (.cons (.call 437 none (.cons (.var 0) (.cons (.var 1) .nil))) (.cons (.call 437 (some [1, 0]) (.cons (.var 0) (.cons (.var 1) .nil))) .nil))))) (.cons (.asg 7 (.p2 .add (.var 7) (.fr (.disp (.cons (.fr (.comp [8] (.nm 8) (.src (.var 5)) none (.call 438 none (.cons (.var 0) (.cons (.var 1) (.cons (.var 8) .nil)))))) (.cons (.call 438 (some [2, 1, 0]) (.cons (.var 4) (.cons (.var 1) (.cons (.var 0) .nil)))) .nil)))))) (.cons (.ret (.call 7 none (.cons (.var 7) (.cons (.fr (.disp (.cons (.var 4) (.cons (.var 4) (.cons (.var 6) (.cons (.p1 .notN (.var 4)) .nil)))))) .nil)))) .nil))))))))⟩
def b1_l_right_20 : Ss := (.cons (.unp (.two (.nm 4) (.nm 5)) (.cio 126 0 .nil)) (.cons (.asg 2 (.call 160 none (.cons (.var 4) (.cons (.var 5) .nil)))) (.cons (.par (.val 6 (.cio 40 0 (.cons (.var 4) (.cons (.var 5) .nil))) (.val 7 (.cio 40 0 (.cons (.var 4) (.cons (.var 5) .nil))) .nil))) (.cons (.asg 3 (.call 53 none (.cons (.var 6) (.cons (.cio 40 0 (.cons (.var 4) (.cons (.var 5) .nil))) .nil)))) (.cons (.ite (.and_ (.p2 .eq (.cio 4 0 (.cons (.lit (.int 2)) .nil)) (.lit (.int 0))) (.p2 .le (.p1 .len (.var 3)) (.var 5))) (.cons (.asg 7 (.var 3)) .nil) .nil) (.cons (.ite (.not_ (.call 439 none (.cons (.var 6) (.cons (.var 7) (.cons (.var 2) .nil))))) (.cons (.ret (.lit (.bl false))) .nil) .nil) .nil))))))
def fn_l_right_20 : Fn := ⟨1, 8, true, false, (.cons (.loop (.nm 1) (.rng1 (.lit (.int 10))) b1_l_right_20) (.cons (.ret (.lit (.bl true))) .nil))⟩
def fn_m_between_pace_2 : Fn := ⟨2, 2, false, false, (.cons (.ret (.p2 .sub (.p2 .mul (.lit (.int 2)) (.p1 .len (.call 435 none (.cons (.var 0) (.cons (.var 1) .nil))))) (.lit (.int 2)))) .nil)⟩
def fn_l_doors_5 : Fn := ⟨1, 3, false, false, (.cons (.ret (.p1 .tuple (.fr (.comp [1, 2] (.two (.nm 1) (.nm 2)) (.zip (.var 0) (.p2 .slcLo (.var 0) (.lit (.int 1)))) none (.p2 .mxl2 (.var 1) (.var 2)))))) .nil)⟩
def b1_l_from : Ss := (.cons (.asg 5 (.call 449 none (.cons (.call 364 none (.cons (.var 3) (.cons (.var 4) .nil))) .nil))) (.cons (.asg 2 (.ite (.p2 .gt (.p1 .len (.var 5)) (.p1 .len (.var 2))) (.var 5) (.var 2))) .nil))
def b2_l_from : Ss := (.cons (.loop (.nm 4) (.src (.tup (.cons (.p2 .slcHi (.var 1) (.p1 .neg (.lit (.int 1)))) (.cons (.var 1) .nil)))) b1_l_from) .nil)
def fn_l_from : Fn := ⟨2, 6, false, false, (.cons (.asg 2 (.tup .nil)) (.cons (.loop (.nm 3) (.src (.tup (.cons (.p2 .slcHi (.var 0) (.p1 .neg (.lit (.int 1)))) (.cons (.var 0) .nil)))) b2_l_from) (.cons (.ret (.var 2)) .nil)))⟩
def b1_l_pair_right_5 : Ss := (.cons (.asg 7 (.call 53 none (.cons (.var 7) (.cons (.p2 .idx (.var 7) (.lit (.int 0))) .nil)))) .nil)
def fn_l_pair_right_5 : Fn := ⟨3, 10, false, false, (.cons (.asg 3 (.call 450 none (.cons (.var 0) (.cons (.var 1) .nil)))) (.cons (.asg 4 (.p1 .min (.fr (.comp [9] (.nm 9) (.src (.p2 .add (.fr (.disp (.cons (.lit (.str [])) .nil))) (.var 2))) none (.call 365 none (.cons (.var 0) (.cons (.var 1) (.cons (.var 9) .nil)))))))) (.cons (.asg 5 (.fr (.disp (.cons (.call 435 none (.cons (.var 0) (.cons (.var 1) .nil))) (.cons (.call 435 (some [1, 0]) (.cons (.var 0) (.cons (.var 1) .nil))) (.cons (.call 448 none (.cons (.var 0) (.cons (.var 1) .nil))) .nil)))))) (.cons (.asg 5 (.p2 .add (.var 5) (.fr (.disp (.cons (.call 448 (some [1, 0]) (.cons (.var 0) (.cons (.var 1) .nil))) (.cons (.call 188 none (.cons (.var 0) (.cons (.var 1) .nil))) (.cons (.call 188 (some [1, 0]) (.cons (.var 0) (.cons (.var 1) .nil))) .nil))))))) (.cons (.asg 6 (.p2 .eq (.p2 .idx (.var 0) (.p1 .neg (.lit (.int 1)))) (.p2 .idx (.var 1) (.p1 .neg (.lit (.int 1)))))) (.cons (.ite (.or_ (.not_ (.call 7 none (.cons (.var 5) (.cons (.fr (.disp (.cons (.var 3) (.cons (.p1 .rev (.var 3)) (.cons (.var 4) (.cons (.var 4) (.cons (.var 6) (.cons (.var 6) .nil)))))))) .nil)))) (.p2 .ne (.var 4) (.p2 .sub (.p2 .mul (.lit (.int 2)) (.p1 .len (.var 3))) (.lit (.int 2))))) (.cons (.ret (.lit (.bl false))) .nil) .nil) (.cons (.asg 7 (.var 0)) (.cons (.loop (.nm 8) (.rng1 (.p2 .sub (.p1 .len (.var 0)) (.lit (.int 1)))) b1_l_pair_right_5) (.cons (.ret (.and_ (.p2 .eq (.var 7) (.p2 .idx (.var 0) (.p1 .neg (.lit (.int 1))))) (.p2 .eq (.p2 .idx (.call 53 none (.cons (.var 0) (.cons (.var 1) .nil))) (.p1 .neg (.lit (.int 1)))) (.p2 .idx (.var 0) (.p1 .neg (.lit (.int 1))))))) .nil)))))))))⟩
def fn_l_middle_right : Fn := ⟨2, 5, false, false, (.cons (.asg 2 (.call 364 none (.cons (.var 0) (.cons (.var 1) .nil)))) (.cons (.asg 3 (.p2 .fdiv (.p2 .sub (.p1 .len (.var 2)) (.lit (.int 1))) (.lit (.int 2)))) (.cons (.asg 4 (.ite (.p2 .eq (.p2 .mod (.p1 .int (.p1 .len (.var 2))) (.lit (.int 2))) (.lit (.int 1))) (.tup (.cons (.lit (.str [114, 111, 111, 109])) (.cons (.p2 .idx (.var 2) (.var 3)) .nil))) (.tup (.cons (.lit (.str [100, 111, 111, 114])) (.cons (.p2 .idx (.call 449 none (.cons (.var 2) .nil)) (.var 3)) .nil))))) (.cons (.ret (.call 7 none (.cons (.fr (.disp (.cons (.call 362 none (.cons (.var 0) (.cons (.var 1) .nil))) (.cons (.call 362 (some [1, 0]) (.cons (.var 0) (.cons (.var 1) .nil))) .nil)))) (.cons (.fr (.disp (.cons (.var 4) (.cons (.var 4) .nil)))) .nil)))) .nil))))⟩
def fn_l_by_hand_right_29 : Fn := ⟨0, 2, false, false, (.cons (.asg 0 (.fr (.disp (.cons (.call 435 none (.cons (.lit (.str [97])) (.cons (.lit (.str [97, 98, 97])) .nil))) (.cons (.call 435 none (.cons (.lit (.str [97])) (.cons (.lit (.str [98, 97])) .nil))) (.cons (.call 435 none (.cons (.lit (.str [97, 98, 97])) (.cons (.lit (.str [98])) .nil))) (.cons (.call 435 none (.cons (.lit (.str [97, 98, 99])) (.cons (.lit (.str [97, 98, 100])) .nil))) .nil))))))) (.cons (.asg 1 (.fr (.disp (.cons (.tup (.cons (.lit (.str [97])) (.cons (.lit (.str [97, 98])) (.cons (.lit (.str [97, 98, 97])) .nil)))) (.cons (.tup (.cons (.lit (.str [97])) (.cons (.lit (.str [98])) (.cons (.lit (.str [98, 97])) .nil)))) (.cons (.tup (.cons (.lit (.str [97, 98, 97])) (.cons (.lit (.str [97, 98])) (.cons (.lit (.str [97])) (.cons (.lit (.str [98])) .nil))))) (.cons (.tup (.cons (.lit (.str [97, 98, 99])) (.cons (.lit (.str [97, 98, 100])) .nil))) .nil))))))) (.cons (.asg 0 (.p2 .add (.var 0) (.fr (.disp (.cons (.call 435 none (.cons (.lit (.str [97, 98])) (.cons (.lit (.str [97, 98])) .nil))) (.cons (.call 435 none (.cons (.lit (.str [97, 98, 97])) (.cons (.lit (.str [97])) .nil))) (.cons (.call 188 none (.cons (.lit (.str [97])) (.cons (.lit (.str [98, 99, 97])) .nil))) (.cons (.call 188 none (.cons (.lit (.str [97])) (.cons (.lit (.str [98])) .nil))) .nil)))))))) (.cons (.asg 1 (.p2 .add (.var 1) (.fr (.disp (.cons (.tup (.cons (.lit (.str [97, 98])) .nil)) (.cons (.tup (.cons (.lit (.str [97, 98, 97])) (.cons (.lit (.str [97, 98])) (.cons (.lit (.str [97])) .nil)))) (.cons (.lit (.bl true)) (.cons (.lit (.bl false)) .nil)))))))) (.cons (.asg 0 (.p2 .add (.var 0) (.fr (.disp (.cons (.call 188 none (.cons (.lit (.str [97, 98])) (.cons (.lit (.str [98])) .nil))) (.cons (.call 362 none (.cons (.lit (.str [97, 98])) (.cons (.lit (.str [98])) .nil))) (.cons (.call 362 none (.cons (.lit (.str [97, 98])) (.cons (.lit (.str [])) .nil))) (.cons (.call 362 none (.cons (.lit (.str [])) (.cons (.lit (.str [])) .nil))) (.cons (.call 362 none (.cons (.lit (.str [97, 98, 99])) (.cons (.lit (.str [97, 98, 100])) .nil))) .nil))))))))) (.cons (.asg 1 (.p2 .add (.var 1) (.fr (.disp (.cons (.lit (.bl true)) (.cons (.tup (.cons (.lit (.str [100, 111, 111, 114])) (.cons (.lit (.str [97])) .nil))) (.cons (.tup (.cons (.lit (.str [114, 111, 111, 109])) (.cons (.lit (.str [97])) .nil))) (.cons (.tup (.cons (.lit (.str [114, 111, 111, 109])) (.cons (.lit (.str [])) .nil))) (.cons (.tup (.cons (.lit (.str [114, 111, 111, 109])) (.cons (.lit (.str [97, 98])) .nil))) .nil))))))))) (.cons (.asg 0 (.p2 .add (.var 0) (.fr (.disp (.cons (.call 362 none (.cons (.lit (.str [])) (.cons (.lit (.str [97])) .nil))) (.cons (.call 362 none (.cons (.lit (.str [97, 98, 99])) (.cons (.lit (.str [97, 100])) .nil))) (.cons (.call 448 none (.cons (.lit (.str [97])) (.cons (.lit (.str [98])) .nil))) (.cons (.call 448 none (.cons (.lit (.str [97])) (.cons (.lit (.str [97, 98, 97])) .nil))) (.cons (.call 448 none (.cons (.lit (.str [97])) (.cons (.lit (.str [97])) .nil))) .nil))))))))) (.cons (.asg 0 (.p2 .add (.var 0) (.fr (.disp (.cons (.call 448 none (.cons (.lit (.str [97, 98, 97])) (.cons (.lit (.str [98])) .nil))) .nil))))) (.cons (.asg 1 (.p2 .add (.var 1) (.fr (.disp (.cons (.tup (.cons (.lit (.str [100, 111, 111, 114])) (.cons (.lit (.str [97])) .nil))) (.cons (.tup (.cons (.lit (.str [100, 111, 111, 114])) (.cons (.lit (.str [97, 98])) .nil))) (.cons (.lit (.int 2)) (.cons (.lit (.int 4)) (.cons (.lit (.int 0)) (.cons (.lit (.int 6)) .nil)))))))))) (.cons (.asg 0 (.p2 .add (.var 0) (.fr (.disp (.cons (.call 448 none (.cons (.lit (.str [97, 98, 99])) (.cons (.lit (.str [97, 98, 100])) .nil))) (.cons (.call 448 none (.cons (.p2 .mul (.lit (.str [97, 98])) (.lit (.int 100))) (.cons (.p2 .mul (.lit (.str [98, 97])) (.lit (.int 100))) .nil))) (.cons (.p1 .len (.call 435 none (.cons (.p2 .mul (.lit (.str [97, 98])) (.lit (.int 100))) (.cons (.p2 .mul (.lit (.str [98, 97])) (.lit (.int 100))) .nil)))) .nil))))))) (.cons (.asg 1 (.p2 .add (.var 1) (.fr (.disp (.cons (.lit (.int 2)) (.cons (.lit (.int 798)) (.cons (.lit (.int 400)) .nil))))))) (.cons (.asg 0 (.p2 .add (.var 0) (.fr (.disp (.cons (.call 362 none (.cons (.p2 .mul (.lit (.str [97, 98])) (.lit (.int 100))) (.cons (.p2 .mul (.lit (.str [98, 97])) (.lit (.int 100))) .nil))) (.cons (.call 362 none (.cons (.p2 .mul (.lit (.str [97, 98])) (.lit (.int 100))) (.cons (.p2 .mul (.lit (.str [98, 97])) (.lit (.int 99))) .nil))) (.cons (.call 362 none (.cons (.p2 .mul (.lit (.str [97, 98])) (.lit (.int 100))) (.cons (.p2 .add (.p2 .mul (.lit (.str [98, 97])) (.lit (.int 99))) (.lit (.str [98]))) .nil))) .nil))))))) (.cons (.ret (.call 7 none (.cons (.var 0) (.cons (.p2 .add (.var 1) (.fr (.disp (.cons (.tup (.cons (.lit (.str [114, 111, 111, 109])) (.cons (.lit (.str [])) .nil))) (.cons (.tup (.cons (.lit (.str [114, 111, 111, 109])) (.cons (.lit (.str [97])) .nil))) (.cons (.tup (.cons (.lit (.str [100, 111, 111, 114])) (.cons (.lit (.str [97])) .nil))) .nil)))))) .nil)))) .nil)))))))))))))⟩
def b1_l_right_22 : Ss := (.cons (.unp (.two (.nm 2) (.nm 3)) (.cio 126 0 .nil)) (.cons (.par (.val 4 (.cio 40 0 (.cons (.var 2) (.cons (.var 3) .nil))) (.val 5 (.cio 40 0 (.cons (.var 2) (.cons (.var 3) .nil))) .nil))) (.cons (.ite (.not_ (.call 451 none (.cons (.var 4) (.cons (.var 5) (.cons (.call 160 none (.cons (.var 2) (.cons (.var 3) .nil))) .nil))))) (.cons (.ret (.lit (.bl false))) .nil) .nil) (.cons (.ite (.not_ (.call 452 none (.cons (.cio 9 0 (.cons (.var 2) (.cons (.lit (.int 9)) .nil))) (.cons (.cio 9 0 (.cons (.var 2) (.cons (.lit (.int 9)) .nil))) .nil)))) (.cons (.ret (.lit (.bl false))) .nil) .nil) .nil))))
def fn_l_right_22 : Fn := ⟨1, 6, true, false, (.cons (.loop (.nm 1) (.rng1 (.lit (.int 8))) b1_l_right_22) (.cons (.ret (.lit (.bl true))) .nil))⟩
def fn_law_22 : Fn := ⟨1, 3, false, false, (.cons (.ite (.not_ (.call 453 none .nil)) (.cons (.ret (.lit (.bl false))) .nil) .nil) (.cons (.asg 1 (.call 5 none (.cons (.var 0) (.cons (.lit (.int 3)) .nil)))) (.cons (.ret (.p1 .all (.fr (.comp [2] (.nm 2) (.rng1 (.p1 .len (.var 1))) none (.ciof 454 (.call 363 (.cons (.var 1) (.cons (.var 2) .nil))) .nil))))) .nil)))⟩
def fnl : List (Nat × Fn) := [(0, fn_m_rows_is_word), (1, fn_m_rows_is_row), (2, fn_m_rows_is_way), (3, fn_l_box), (4, fn_l_take), (5, fn_l_cells), (6, fn_l_of), (7, fn_l_same), (8, fn_l_word), (9, fn_l_row), (10, fn_l_kinds), (11, fn_l_case_right), (13, fn_l_right), (14, fn_law), (15, fn_m_rows_reduced), (16, fn_m_rows_back), (17, fn_m_rows_shared), (18, fn_m_rows_joined), (24, fn_m_rows_path), (25, fn_m_rows_distance), (26, fn_m_rows_doors_on), (27, fn_m_rows_meeting), (36, fn_m_rows_next_rooms), (37, fn_m_rows_begins), (38, fn_m_rows_rooms_of), (40, fn_l_way), (41, fn_l_next), (42, fn_l_begins), (44, fn_l_right_4), (46, fn_m_rows_palindrome), (47, fn_m_rows_turned), (51, fn_l_reduced), (52, fn_l_pal), (53, fn_l_seen), (126, fn_l_size), (160, fn_l_all), (188, fn_m_between_can_become), (200, fn_m_looks_room_after), (201, fn_m_looks_same_motion), (203, fn_l_after), (362, fn_m_between_middle), (363, fn_l_box_46), (364, fn_l_rooms), (365, fn_l_led_2), (435, fn_m_between_doors_from_2), (436, fn_m_between_letters_from_2), (437, fn_m_between_mirror_2), (438, fn_m_between_is_2), (439, fn_l_pair_right_4), (441, fn_l_right_20), (448, fn_m_between_pace_2), (449, fn_l_doors_5), (450, fn_l_from), (451, fn_l_pair_right_5), (452, fn_l_middle_right), (453, fn_l_by_hand_right_29), (454, fn_l_right_22), (455, fn_law_22)]
def pg : Pg := ⟨fun i => fnl.lookup i, [], 100000⟩
end En
/-! Ev1: the evaluator, step by step (no machine in here). -/
namespace En.V
theorem R.bind_cg {α β : Type} {x y : R α} {f : α → R β} (h : x = y) : R.bind x f = R.bind y f := by rw [h]
theorem R.bind_assoc {α β γ : Type} (x : R α) (f : α → R β) (g : β → R γ) : R.bind (R.bind x f) g = R.bind x fun a => R.bind (f a) g := by cases x <;> rfl
theorem ite_cg {α : Sort _} {c d : Prop} [Decidable c] [Decidable d] {x y : α} (h : c = d) : (if c then x else y) = if d then x else y := by
  by_cases hc : c
  · rw [if_pos hc, if_pos (h ▸ hc)]
  · rw [if_neg hc, if_neg (h ▸ hc)]
theorem ite_ap {α : Type} (b : Bool) (m n : M α) (e : Ev) : (if b = true then m else n) e = if b = true then m e else n e := by cases b <;> rfl
section
variable (S : Su) (e : Ev)
/-! ### names -/
def rdS : Option Sl → Nat → Ev → R (D × Ev)
  | some (.val d), _, e => .ok (d, e)
  | some (.cel .own o), i, e => .ok (o.val, e.set i (.val o.val))
  | _, _, _ => .bad
theorem rdVar_ap (i : Nat) : rdVar i e = rdS e[i]? i e := by
  unfold rdVar rdS
  cases e[i]? with
  | none => rfl
  | some s =>
    cases s with
    | no => rfl
    | val d => rfl
    | cel k o => cases k <;> rfl
    | exn c => rfl
@[simp] theorem rdS_val (d : D) (i : Nat) (e : Ev) : rdS (some (.val d)) i e = .ok (d, e) := rfl
@[simp] theorem rdS_cel (o : Ob) (i : Nat) (e : Ev) : rdS (some (.cel .own o)) i e = .ok (o.val, e.set i (.val o.val)) := rfl
def hdS : Option Sl → Nat → Ev → R (Hd × Ev)
  | some (.val d), _, e => .ok (.hv d, e)
  | some (.cel _ _), i, e => .ok (.hc i, e)
  | _, _, _ => .bad
theorem rdHd_ap (i : Nat) : rdHd i e = hdS e[i]? i e := by
  unfold rdHd hdS
  cases e[i]? with
  | none => rfl
  | some s => cases s <;> rfl
@[simp] theorem hdS_val (d : D) (i : Nat) (e : Ev) : hdS (some (.val d)) i e = .ok (.hv d, e) := rfl
@[simp] theorem hdS_cel (k : CK) (o : Ob) (i : Nat) (e : Ev) : hdS (some (.cel k o)) i e = .ok (.hc i, e) := rfl
def gtS : Option Sl → Ev → R (D × Ev)
  | some (.val d), e => .ok (d, e)
  | some (.cel _ o), e => .ok (o.val, e)
  | _, _ => .bad
@[simp] theorem get_hv (d : D) : (Hd.hv d).get e = .ok (d, e) := rfl
@[simp] theorem get_hc (i : Nat) : (Hd.hc i).get e = gtS e[i]? e := by
  show (match e[i]? with | some (.val d) => R.ok (d, e) | some (.cel _ o) => .ok (o.val, e) | _ => .bad) = _
  unfold gtS
  cases e[i]? with
  | none => rfl
  | some s => cases s <;> rfl
@[simp] theorem gtS_val (d : D) (e : Ev) : gtS (some (.val d)) e = .ok (d, e) := rfl
@[simp] theorem gtS_cel (k : CK) (o : Ob) (e : Ev) : gtS (some (.cel k o)) e = .ok (o.val, e) := rfl
def wrS : Option Sl → Nat → Sl → Ev → R (Unit × Ev)
  | some .no, i, s, e => .ok ((), e.set i s)
  | some (.val _), i, s, e => .ok ((), e.set i s)
  | some (.cel .own _), i, s, e => .ok ((), e.set i s)
  | _, _, _, _ => .bad
theorem wr_ap (i : Nat) (s : Sl) : wr i s e = wrS e[i]? i s e := by
  unfold wr wrS
  cases e[i]? with
  | none => rfl
  | some s =>
    cases s with
    | no => rfl
    | val d => rfl
    | cel k o => cases k <;> rfl
    | exn c => rfl
@[simp] theorem wrS_no (i : Nat) (s : Sl) (e : Ev) : wrS (some .no) i s e = .ok ((), e.set i s) := rfl
@[simp] theorem wrS_val (d : D) (i : Nat) (s : Sl) (e : Ev) : wrS (some (.val d)) i s e = .ok ((), e.set i s) := rfl
@[simp] theorem wrS_cel (o : Ob) (i : Nat) (s : Sl) (e : Ev) : wrS (some (.cel .own o)) i s e = .ok ((), e.set i s) := rfl
def chS {α : Type} : Option Sl → Nat → (Ob → R (α × Ob)) → Ev → R (α × Ev)
  | some (.cel .own o), i, f, e => R.bind (f o) fun p => .ok (p.1, e.set i (.cel .own p.2))
  | some (.cel .io o), i, f, e => R.bind (f o) fun p => .ok (p.1, e.set i (.cel .io p.2))
  | _, _, _, _ => .bad
theorem chgV_ap {α : Type} (i : Nat) (f : Ob → R (α × Ob)) : chgV i f e = chS e[i]? i f e := by
  unfold chgV chS
  cases e[i]? with
  | none => rfl
  | some s =>
    cases s with
    | no => rfl
    | val d => rfl
    | cel k o => cases k <;> rfl
    | exn c => rfl
theorem chg_ap (i : Nat) (f : Ob → R Ob) : chg i f e = chS e[i]? i (fun o => R.bind (f o) fun p => .ok ((), p)) e := by
  unfold chg chS
  cases e[i]? with
  | none => rfl
  | some s =>
    cases s with
    | no => rfl
    | val d => rfl
    | cel k o => cases k <;> first | rfl | (show R.bind (f o) _ = R.bind (R.bind (f o) _) _; cases f o <;> rfl)
    | exn c => rfl
@[simp] theorem chS_own {α : Type} (o : Ob) (i : Nat) (f : Ob → R (α × Ob)) (e : Ev) : chS (some (.cel .own o)) i f e = R.bind (f o) fun p => .ok (p.1, e.set i (.cel .own p.2)) := rfl
@[simp] theorem chS_io {α : Type} (o : Ob) (i : Nat) (f : Ob → R (α × Ob)) (e : Ev) : chS (some (.cel .io o)) i f e = R.bind (f o) fun p => .ok (p.1, e.set i (.cel .io p.2)) := rfl
def icS : Option Sl → Ev → R (Unit × Ev)
  | some (.cel _ _), e => .ok ((), e)
  | _, _ => .bad
@[simp] theorem icS_cel (k : CK) (o : Ob) (e : Ev) : icS (some (.cel k o)) e = .ok ((), e) := rfl
@[simp] theorem isC_ap (i : Nat) : isC i e = icS e[i]? e := by
  unfold isC icS
  cases e[i]? with
  | none => rfl
  | some s => cases s <;> rfl
def riS : Option Sl → Ev → R (Int × Ev)
  | some (.val (.int n)), e => .ok (n, e)
  | _, _ => .bad
@[simp] theorem riS_int (n : Int) (e : Ev) : riS (some (.val (.int n))) e = .ok (n, e) := rfl
theorem rdI_ap (i : Nat) : rdI i e = riS e[i]? e := by
  unfold rdI riS
  cases e[i]? with
  | none => rfl
  | some s =>
    cases s with
    | no => rfl
    | val d => cases d <;> rfl
    | cel k o => rfl
    | exn c => rfl
@[simp] theorem augI_add (i j : Int) : augI .add i j = .ok (i + j) := rfl
@[simp] theorem augI_sub (i j : Int) : augI .sub i j = .ok (i - j) := rfl
@[simp] theorem put_nm (i : Nat) (d : D) : (Tg.nm i).put d e = wrS e[i]? i (.val d) e := wr_ap e i _
@[simp] theorem put_two (a b : Tg) (x y : D) : (Tg.two a b).put (.tup [x, y]) e = R.bind (a.put x e) fun p => b.put y p.2 := rfl
@[simp] theorem put_twoL (a b : Tg) (x y : D) : (Tg.two a b).put (.lst [x, y]) e = R.bind (a.put x e) fun p => b.put y p.2 := rfl
@[simp] theorem put_threeL (a b c : Tg) (x y z : D) : (Tg.three a b c).put (.lst [x, y, z]) e = R.bind (a.put x e) fun p => R.bind (b.put y p.2) fun q => c.put z q.2 := rfl
@[simp] theorem put_three (a b c : Tg) (x y z : D) : (Tg.three a b c).put (.tup [x, y, z]) e = R.bind (a.put x e) fun p => R.bind (b.put y p.2) fun q => c.put z q.2 := rfl

/-! ### expressions -/
def lookS : Ex → Ev → R (Hd × Ev)
  | .var i, e => hdS e[i]? i e
  | a, e => R.bind (ev S a e) fun p => .ok (.hv p.1, p.2)
theorem look_ap (a : Ex) : look a (ev S a) e = lookS S a e := by
  cases a <;> first | exact rdHd_ap e _ | rfl
@[simp] theorem lookS_var (i : Nat) : lookS S (.var i) e = hdS e[i]? i e := rfl
@[simp] theorem lookS_lit (l : Lit) : lookS S (.lit l) e = R.bind (ev S (.lit l) e) fun p => .ok (.hv p.1, p.2) := rfl
@[simp] theorem lookS_glb (g : Nat) : lookS S (.glb g) e = R.bind (ev S (.glb g) e) fun p => .ok (.hv p.1, p.2) := rfl
@[simp] theorem lookS_p1 (f : P1) (a : Ex) : lookS S (.p1 f a) e = R.bind (ev S (.p1 f a) e) fun p => .ok (.hv p.1, p.2) := rfl
@[simp] theorem lookS_p2 (f : P2) (a b : Ex) : lookS S (.p2 f a b) e = R.bind (ev S (.p2 f a b) e) fun p => .ok (.hv p.1, p.2) := rfl
@[simp] theorem lookS_p3 (f : P3) (a b c : Ex) : lookS S (.p3 f a b c) e = R.bind (ev S (.p3 f a b c) e) fun p => .ok (.hv p.1, p.2) := rfl
@[simp] theorem lookS_and (a b : Ex) : lookS S (.and_ a b) e = R.bind (ev S (.and_ a b) e) fun p => .ok (.hv p.1, p.2) := rfl
@[simp] theorem lookS_or (a b : Ex) : lookS S (.or_ a b) e = R.bind (ev S (.or_ a b) e) fun p => .ok (.hv p.1, p.2) := rfl
@[simp] theorem lookS_not (a : Ex) : lookS S (.not_ a) e = R.bind (ev S (.not_ a) e) fun p => .ok (.hv p.1, p.2) := rfl
@[simp] theorem lookS_ite (c a b : Ex) : lookS S (.ite c a b) e = R.bind (ev S (.ite c a b) e) fun p => .ok (.hv p.1, p.2) := rfl
@[simp] theorem lookS_tup (es : Es) : lookS S (.tup es) e = R.bind (ev S (.tup es) e) fun p => .ok (.hv p.1, p.2) := rfl
@[simp] theorem lookS_fr (f : Fx) : lookS S (.fr f) e = R.bind (ev S (.fr f) e) fun p => .ok (.hv p.1, p.2) := rfl
@[simp] theorem lookS_call (f : Nat) (k : Option (List Nat)) (es : Es) : lookS S (.call f k es) e = R.bind (ev S (.call f k es) e) fun p => .ok (.hv p.1, p.2) := rfl
@[simp] theorem lookS_cio (f i : Nat) (es : Es) : lookS S (.cio f i es) e = R.bind (ev S (.cio f i es) e) fun p => .ok (.hv p.1, p.2) := rfl
@[simp] theorem lookS_ciof (f : Nat) (x : Fx) (es : Es) : lookS S (.ciof f x es) e = R.bind (ev S (.ciof f x es) e) fun p => .ok (.hv p.1, p.2) := rfl
@[simp] theorem lookS_pop (i : Nat) : lookS S (.pop i) e = R.bind (ev S (.pop i) e) fun p => .ok (.hv p.1, p.2) := rfl
@[simp] theorem lookS_popAt (i : Nat) (x : Ex) : lookS S (.popAt i x) e = R.bind (ev S (.popAt i x) e) fun p => .ok (.hv p.1, p.2) := rfl
/-- an operand that is no bare name -/
def nv : Ex → Bool
  | .var _ => false
  | _ => true
theorem lookS_nv {a : Ex} (h : nv a = true) : lookS S a e = R.bind (ev S a e) fun p => .ok (.hv p.1, p.2) := by
  cases a <;> first | rfl | cases h
@[simp] theorem ev_var (i : Nat) : ev S (.var i) e = rdS e[i]? i e := by rw [ev]; exact rdVar_ap e i
@[simp] theorem ev_lit (l : Lit) : ev S (.lit l) e = .ok (l.val, e) := by rw [ev]; rfl
@[simp] theorem ev_p1 (f : P1) (a : Ex) : ev S (.p1 f a) e = R.bind (lookS S a e) fun h => R.bind (h.1.get h.2) fun x => R.bind (f.run x.1) fun z => .ok (z, x.2) := by
  rw [ev, ← look_ap]; rfl
@[simp] theorem ev_p2 (f : P2) (a b : Ex) : ev S (.p2 f a b) e = R.bind (lookS S a e) fun h => R.bind (lookS S b h.2) fun k => R.bind (h.1.get k.2) fun x => R.bind (k.1.get x.2) fun y => R.bind (f.run x.1 y.1) fun z => .ok (z, y.2) := by
  rw [ev, ← look_ap]
  show R.bind _ _ = R.bind _ _
  congr 1
  funext h
  rw [← look_ap]
  rfl
@[simp] theorem ev_p3 (f : P3) (a b c : Ex) : ev S (.p3 f a b c) e = R.bind (lookS S a e) fun h => R.bind (ev S b h.2) fun y => R.bind (ev S c y.2) fun z => R.bind (h.1.get z.2) fun x => R.bind (f.run x.1 y.1 z.1) fun w => .ok (w, x.2) := by
  rw [ev, ← look_ap]; rfl
def chnR (S : Su) (o' : P2) (y : D) (c : Ex) : D → Ev → R (D × Ev)
  | .bl true, e => R.bind (ev S c e) fun z => R.bind (o'.run y z.1) fun w => .ok (w, z.2)
  | .bl false, e => .ok (.bl false, e)
  | _, _ => .bad
@[simp] theorem chnR_bl (o' : P2) (y : D) (c : Ex) (b : Bool) : chnR S o' y c (.bl b) e = if b = true then R.bind (ev S c e) fun z => R.bind (o'.run y z.1) fun w => .ok (w, z.2) else .ok (.bl false, e) := by cases b <;> rfl
@[simp] theorem lookS_chn (o o' : P2) (a b c : Ex) : lookS S (.chn o o' a b c) e = R.bind (ev S (.chn o o' a b c) e) fun p => .ok (.hv p.1, p.2) := rfl
@[simp] theorem ev_chn (o o' : P2) (a b c : Ex) : ev S (.chn o o' a b c) e = R.bind (ev S a e) fun x => R.bind (ev S b x.2) fun y => R.bind (o.run x.1 y.1) fun r => chnR S o' y.1 c r y.2 := by
  rw [ev]
  show R.bind _ _ = R.bind _ _
  congr 1
  funext x
  show R.bind _ _ = R.bind _ _
  congr 1
  funext y
  show R.bind (R.bind (o.run x.1 y.1) _) _ = R.bind (o.run x.1 y.1) _
  cases o.run x.1 y.1 with
  | ok r =>
    cases r with
    | bl b => cases b <;> rfl
    | _ => rfl
  | exc _ _ => rfl
  | bad => rfl
@[simp] theorem ev_and (a b : Ex) : ev S (.and_ a b) e = R.bind (ev S a e) fun x => if x.1.truth = true then ev S b x.2 else .ok x := by
  rw [ev]
  show R.bind _ _ = R.bind _ _
  congr 1
  funext x
  exact ite_ap x.1.truth (ev S b) (pure x.1) x.2
@[simp] theorem ev_or (a b : Ex) : ev S (.or_ a b) e = R.bind (ev S a e) fun x => if x.1.truth = true then .ok x else ev S b x.2 := by
  rw [ev]
  show R.bind _ _ = R.bind _ _
  congr 1
  funext x
  exact ite_ap x.1.truth (pure x.1) (ev S b) x.2
@[simp] theorem ev_not (a : Ex) : ev S (.not_ a) e = R.bind (lookS S a e) fun h => R.bind (h.1.get h.2) fun x => .ok (.bl (!x.1.truth), x.2) := by
  rw [ev, ← look_ap]; rfl
@[simp] theorem ev_ite (c a b : Ex) : ev S (.ite c a b) e = R.bind (lookS S c e) fun h => R.bind (h.1.get h.2) fun x => if x.1.truth = true then ev S a x.2 else ev S b x.2 := by
  rw [ev, ← look_ap]
  show R.bind _ _ = R.bind _ _
  congr 1
  funext h
  show R.bind _ _ = R.bind _ _
  congr 1
  funext x
  exact ite_ap x.1.truth (ev S a) (ev S b) x.2
@[simp] theorem ev_tup (es : Es) : ev S (.tup es) e = R.bind (evs S es e) fun l => if l.1.length ≤ bigLine then .ok (.tup l.1, l.2) else .bad := by
  rw [ev]
  show R.bind _ _ = R.bind _ _
  congr 1
  funext x
  show (if x.1.length ≤ bigLine then _ else _ : M D) x.2 = _
  by_cases h : x.1.length ≤ bigLine
  · rw [if_pos h, if_pos h]; rfl
  · rw [if_neg h, if_neg h]; rfl
@[simp] theorem ev_fr (f : Fx) : ev S (.fr f) e = R.bind (evF S f e) fun l => .ok (.lst l.1, l.2) := by rw [ev]; rfl
@[simp] theorem ev_call (f : Nat) (es : Es) : ev S (.call f none es) e = R.bind (evs S es e) fun l => R.bind (S.cf f none l.1) fun p => .ok (p.1, l.2) := by
  rw [ev]
  show R.bind _ _ = R.bind _ _
  congr 1
  funext l
  show R.bind (R.bind (S.cf f none l.1) _) _ = _
  cases S.cf f none l.1 <;> rfl
@[simp] theorem ev_callK (f : Nat) (k : List Nat) (es : Es) : ev S (.call f (some k) es) e = R.bind (evs S es e) fun l => R.bind (S.cf f none (permD k l.1)) fun p => .ok (p.1, l.2) := by
  rw [ev]
  show R.bind _ _ = R.bind _ _
  congr 1
  funext l
  show R.bind (R.bind (S.cf f none (permD k l.1)) _) _ = _
  cases S.cf f none (permD k l.1) <;> rfl
def someOb : D × Option Ob → R (D × Ob)
  | (d, some o) => .ok (d, o)
  | _ => .bad
@[simp] theorem someOb_some (d : D) (o : Ob) : someOb (d, some o) = .ok (d, o) := rfl
@[simp] theorem ev_cio (f i : Nat) (es : Es) : ev S (.cio f i es) e = R.bind (isC i e) fun u => R.bind (evs S es u.2) fun l => chS l.2[i]? i (fun o => R.bind (S.cf f (some o) l.1) someOb) l.2 := by
  rw [ev]
  show R.bind _ _ = R.bind _ _
  congr 1
  funext u
  show R.bind _ _ = R.bind _ _
  congr 1
  funext l
  show callC S f i l.1 l.2 = _
  unfold callC
  rw [chgV_ap]
  congr 1
  funext o
  congr 1
  funext p
  obtain ⟨d, o⟩ := p
  cases o <;> rfl
@[simp] theorem ev_ciof (f : Nat) (x : Fx) (es : Es) : ev S (.ciof f x es) e = R.bind (evF S x e) fun c => R.bind (evs S es c.2) fun l => R.bind (S.cf f (some (.lst c.1)) l.1) fun p => .ok (p.1, l.2) := by
  rw [ev]
  show R.bind _ _ = R.bind _ _
  congr 1
  funext c
  show R.bind _ _ = R.bind _ _
  congr 1
  funext l
  show R.bind (R.bind (S.cf f (some (.lst c.1)) l.1) _) _ = _
  cases S.cf f (some (.lst c.1)) l.1 <;> rfl
def popOb : Ob → R (D × Ob)
  | .lst l => match l.getLast? with
    | some x => .ok (x, .lst l.dropLast)
    | none => .bad
  | _ => .bad
@[simp] theorem ev_pop (i : Nat) : ev S (.pop i) e = chS e[i]? i popOb e := by
  rw [ev]
  exact chgV_ap e i _
@[simp] theorem evs_nil : evs S .nil e = .ok ([], e) := by rw [evs]; rfl
@[simp] theorem evs_cons (a : Ex) (r : Es) : evs S (.cons a r) e = R.bind (ev S a e) fun x => R.bind (evs S r x.2) fun l => .ok (x.1 :: l.1, l.2) := by rw [evs]; rfl
@[simp] theorem evs_star (a : Ex) (r : Es) : evs S (.star a r) e = R.bind (lookS S a e) fun h => R.bind (h.1.get h.2) fun x => R.bind (D.seq? x.1) fun l => R.bind (evs S r x.2) fun k => .ok (l ++ k.1, k.2) := by
  rw [evs, ← look_ap]
  show R.bind _ _ = R.bind _ _
  congr 1
  funext h
  show R.bind _ _ = R.bind _ _
  congr 1
  funext x
  show R.bind (R.bind _ _) _ = _
  cases D.seq? x.1 <;> rfl
@[simp] theorem evF_disp (es : Es) : evF S (.disp es) e = R.bind (evs S es e) fun l => if l.1.length ≤ bigLine then .ok l else .bad := by
  rw [evF]
  show R.bind _ _ = R.bind _ _
  congr 1
  funext x
  show (if x.1.length ≤ bigLine then _ else _ : M (List D)) x.2 = _
  by_cases h : x.1.length ≤ bigLine
  · rw [if_pos h, if_pos h]; rfl
  · rw [if_neg h, if_neg h]; rfl
@[simp] theorem evF_q1 (f : Q1) (a : Ex) : evF S (.q1 f a) e = R.bind (lookS S a e) fun h => R.bind (h.1.get h.2) fun x => R.bind (f.run x.1) fun z => .ok (z, x.2) := by
  rw [evF, ← look_ap]; rfl
@[simp] theorem evF_q2 (f : Q2) (a b : Ex) : evF S (.q2 f a b) e = R.bind (lookS S a e) fun h => R.bind (lookS S b h.2) fun k => R.bind (h.1.get k.2) fun x => R.bind (k.1.get x.2) fun y => R.bind (f.run x.1 y.1) fun z => .ok (z, y.2) := by
  rw [evF, ← look_ap]
  show R.bind _ _ = R.bind _ _
  congr 1
  funext h
  rw [← look_ap]
  rfl
@[simp] theorem evF_q3 (f : Q3) (a b c : Ex) : evF S (.q3 f a b c) e = R.bind (lookS S a e) fun h => R.bind (ev S b h.2) fun y => R.bind (ev S c y.2) fun z => R.bind (h.1.get z.2) fun x => R.bind (f.run x.1 y.1 z.1) fun w => .ok (w, x.2) := by
  rw [evF, ← look_ap]; rfl
@[simp] theorem evF_orf (a b : Fx) : evF S (.orf a b) e = R.bind (evF S a e) fun l => if l.1.isEmpty = true then evF S b l.2 else .ok l := by
  rw [evF]
  show R.bind _ _ = R.bind _ _
  congr 1
  funext x
  exact ite_ap x.1.isEmpty (evF S b) (pure x.1) x.2
def lstD : D → R (List D)
  | .lst m => .ok m
  | _ => .bad
@[simp] theorem lstD_lst (l : List D) : lstD (.lst l) = .ok l := rfl
@[simp] theorem evF_call (f : Nat) (es : Es) : evF S (.call f es) e = R.bind (evs S es e) fun l => R.bind (S.cf f none l.1) fun p => R.bind (lstD p.1) fun m => .ok (m, l.2) := by
  rw [evF]
  show R.bind _ _ = R.bind _ _
  congr 1
  funext l
  show R.bind (R.bind (R.bind (S.cf f none l.1) _) _) _ = _
  cases S.cf f none l.1 with
  | ok p =>
    obtain ⟨d, o⟩ := p
    cases d <;> rfl
  | exc _ _ => rfl
  | bad => rfl
/-- the test of a block -/
def tstM : Option Ex → M Bool
  | none => pure true
  | some c => do let h ← look c (ev S c); let x ← h.get; pure x.truth
def cmpL (own : List Nat) (tg : Tg) (cs : Option Ex) (x : Ex) (l : List D) : M Acc := inBlk own (compL own tg.put (tstM S cs) (ev S x) l (0, []))
@[simp] theorem evF_comp (own : List Nat) (tg : Tg) (it : It) (cs : Option Ex) (x : Ex) : evF S (.comp own tg it cs x) e = R.bind (evI S it e) fun p => R.bind (lockd p.1.1 (cmpL S own tg cs x p.1.2) p.2) fun q => .ok (q.1.2.reverse, q.2) := by
  cases cs <;> (rw [evF]; rfl)
@[simp] theorem tstM_none : tstM S none e = .ok (true, e) := rfl
@[simp] theorem tstM_some (c : Ex) : tstM S (some c) e = R.bind (lookS S c e) fun h => R.bind (h.1.get h.2) fun x => .ok (x.1.truth, x.2) := by
  rw [← look_ap]; rfl
@[simp] theorem evI_src (a : Ex) : evI S (.src a) e = R.bind (lookS S a e) fun h => R.bind (h.1.get h.2) fun x => R.bind (D.items? x.1) fun l => .ok ((h.1, l), x.2) := by
  rw [evI, ← look_ap]
  show R.bind _ _ = R.bind _ _
  congr 1
  funext h
  show R.bind _ _ = R.bind _ _
  congr 1
  funext x
  show R.bind (R.bind _ _) _ = _
  cases D.items? x.1 <;> rfl
@[simp] theorem evI_rng1 (a : Ex) : evI S (.rng1 a) e = R.bind (ev S a e) fun x => R.bind (D.int? x.1) fun i => if rOk i = true then .ok ((.hv .non, rngD 0 i.toNat), x.2) else .bad := by
  rw [evI]
  show R.bind _ _ = R.bind _ _
  congr 1
  funext x
  show R.bind (R.bind _ _) _ = _
  cases D.int? x.1 with
  | ok i => exact ite_ap (rOk i) (pure (Hd.hv .non, rngD 0 i.toNat)) (M.of .bad) x.2
  | exc _ _ => rfl
  | bad => rfl
@[simp] theorem evI_rng2 (a b : Ex) : evI S (.rng2 a b) e = R.bind (ev S a e) fun x => R.bind (ev S b x.2) fun y => R.bind (D.int? x.1) fun i => R.bind (D.int? y.1) fun j => if (rOk i && rOk j) = true then .ok ((.hv .non, rngD i (j - i).toNat), y.2) else .bad := by
  rw [evI]
  show R.bind _ _ = R.bind _ _
  congr 1
  funext x
  show R.bind _ _ = R.bind _ _
  congr 1
  funext y
  show R.bind (R.bind _ _) _ = _
  cases D.int? x.1 with
  | ok i =>
    show R.bind (R.bind _ _) _ = R.bind _ _
    cases D.int? y.1 with
    | ok j => exact ite_ap (rOk i && rOk j) (pure (Hd.hv .non, rngD i (j - i).toNat)) (M.of .bad) y.2
    | exc _ _ => rfl
    | bad => rfl
  | exc _ _ => rfl
  | bad => rfl
@[simp] theorem evI_rngdn (a b : Ex) : evI S (.rngdn a b) e = R.bind (ev S a e) fun x => R.bind (ev S b x.2) fun y => R.bind (D.int? x.1) fun i => R.bind (D.int? y.1) fun j => if (rOk i && rOk j) = true then .ok ((.hv .non, rngDn i (i - j).toNat), y.2) else .bad := by
  rw [evI]
  show R.bind _ _ = R.bind _ _
  congr 1
  funext x
  show R.bind _ _ = R.bind _ _
  congr 1
  funext y
  show R.bind (R.bind _ _) _ = _
  cases D.int? x.1 with
  | ok i =>
    show R.bind (R.bind _ _) _ = R.bind _ _
    cases D.int? y.1 with
    | ok j => exact ite_ap (rOk i && rOk j) (pure (Hd.hv .non, rngDn i (i - j).toNat)) (M.of .bad) y.2
    | exc _ _ => rfl
    | bad => rfl
  | exc _ _ => rfl
  | bad => rfl
@[simp] theorem evI_zip (a b : Ex) : evI S (.zip a b) e = R.bind (ev S a e) fun x => R.bind (ev S b x.2) fun y => R.bind (D.items? x.1) fun l => R.bind (D.items? y.1) fun m => .ok ((.hv .non, zipD l m), y.2) := by
  rw [evI]
  show R.bind _ _ = R.bind _ _
  congr 1
  funext x
  show R.bind _ _ = R.bind _ _
  congr 1
  funext y
  show R.bind (R.bind _ _) _ = _
  cases D.items? x.1 with
  | ok i =>
    show R.bind (R.bind _ _) _ = R.bind _ _
    cases D.items? y.1 <;> rfl
  | exc _ _ => rfl
  | bad => rfl
@[simp] theorem evI_enum (a : Ex) : evI S (.enum a) e = R.bind (ev S a e) fun x => R.bind (D.items? x.1) fun l => .ok ((.hv .non, enumD 0 l), x.2) := by
  rw [evI]
  show R.bind _ _ = R.bind _ _
  congr 1
  funext x
  show R.bind (R.bind _ _) _ = _
  cases D.items? x.1 <;> rfl
@[simp] theorem lockd_hv {α : Type} (d : D) (m : M α) : lockd (.hv d) m e = m e := rfl

/-! ### statements -/
@[simp] theorem evS_asg (i : Nat) (x : Ex) : evS S (.asg i x) e = R.bind (ev S x e) fun d => R.bind (wrS d.2[i]? i (.val d.1) d.2) fun u => .ok (.nx, u.2) := by
  rw [evS]
  show R.bind _ _ = R.bind _ _
  congr 1
  funext d
  rw [← wr_ap]
  rfl
@[simp] theorem evS_new (i : Nat) (x : Fx) : evS S (.new i x) e = R.bind (evF S x e) fun d => R.bind (wrS d.2[i]? i (.cel .own (.lst d.1)) d.2) fun u => .ok (.nx, u.2) := by
  rw [evS]
  show R.bind _ _ = R.bind _ _
  congr 1
  funext d
  rw [← wr_ap]
  rfl
@[simp] theorem evS_unp (tg : Tg) (x : Ex) : evS S (.unp tg x) e = R.bind (ev S x e) fun d => R.bind (tg.put d.1 d.2) fun u => .ok (.nx, u.2) := by rw [evS]; rfl
@[simp] theorem evS_par (ps : Ps) : evS S (.par ps) e = R.bind (evP S ps e) fun l => R.bind (putP l.1 l.2) fun u => .ok (.nx, u.2) := by rw [evS]; rfl
@[simp] theorem evS_setI (i : Nat) (k x : Ex) : evS S (.setI i k x) e = R.bind (ev S x e) fun d => R.bind (isC i d.2) fun u => R.bind (ev S k u.2) fun y => R.bind (chS y.2[i]? i (fun o => R.bind (setOb y.1 d.1 o) fun p => .ok ((), p)) y.2) fun u => .ok (.nx, u.2) := by
  rw [evS]
  show R.bind _ _ = R.bind _ _
  congr 1
  funext d
  show R.bind _ _ = R.bind _ _
  congr 1
  funext u
  show R.bind _ _ = R.bind _ _
  congr 1
  funext y
  rw [← chg_ap]
  rfl
/-- i[y] = a -/
def setR (S : Su) (i : Nat) (k : Ex) (a : D) (e : Ev) : R (Unit × Ev) := R.bind (isC i e) fun u => R.bind (ev S k u.2) fun y => chS y.2[i]? i (fun o => R.bind (setOb y.1 a o) fun p => .ok ((), p)) y.2
@[simp] theorem setR_ap (i : Nat) (k : Ex) (a : D) : setR S i k a e = R.bind (icS e[i]? e) fun u => R.bind (ev S k u.2) fun y => chS y.2[i]? i (fun o => R.bind (setOb y.1 a o) fun p => .ok ((), p)) y.2 := by
  unfold setR
  rw [isC_ap]
@[simp] theorem evS_set2 (i : Nat) (k l d x : Ex) : evS S (.set2 i k l d x) e = R.bind (ev S d e) fun a => R.bind (ev S x a.2) fun b => R.bind (setR S i k a.1 b.2) fun u => R.bind (setR S i l b.1 u.2) fun u => .ok (.nx, u.2) := by
  rw [evS]
  have key : ∀ (k : Ex) (a : D) (e : Ev), (do isC i; let x ← ev S k; chg i (setOb x a) : M Unit) e = setR S i k a e := fun k a e => by
    show R.bind _ _ = R.bind _ _
    congr 1
    funext u
    show R.bind _ _ = R.bind _ _
    congr 1
    funext y
    rw [← chg_ap]
  show R.bind _ _ = R.bind _ _
  congr 1
  funext a
  show R.bind _ _ = R.bind _ _
  congr 1
  funext b
  rw [← key]
  show R.bind _ _ = R.bind _ _
  congr 1
  funext u
  rw [← key]
  rfl
@[simp] theorem evS_app (i : Nat) (x : Ex) : evS S (.app i x) e = R.bind (isC i e) fun u => R.bind (ev S x u.2) fun d => R.bind (chS d.2[i]? i (fun o => R.bind (appOb d.1 o) fun p => .ok ((), p)) d.2) fun u => .ok (.nx, u.2) := by
  rw [evS]
  show R.bind _ _ = R.bind _ _
  congr 1
  funext u
  show R.bind _ _ = R.bind _ _
  congr 1
  funext y
  rw [← chg_ap]
  rfl
@[simp] theorem evS_ext (i : Nat) (x : Ex) : evS S (.ext i x) e = R.bind (isC i e) fun u => R.bind (lookS S x u.2) fun h => R.bind (h.1.get h.2) fun d => R.bind (lstD d.1) fun l => R.bind (chS d.2[i]? i (fun o => R.bind (extOb l o) fun p => .ok ((), p)) d.2) fun u => .ok (.nx, u.2) := by
  rw [evS]
  show R.bind _ _ = R.bind _ _
  congr 1
  funext u
  show R.bind _ _ = R.bind _ _
  rw [← look_ap]
  congr 1
  funext h
  show R.bind _ _ = R.bind _ _
  congr 1
  funext d
  obtain ⟨d, e1⟩ := d
  cases d with
  | lst l => show R.bind (chg i (extOb l) e1) _ = R.bind (chS e1[i]? i _ e1) _; rw [chg_ap]; rfl
  | _ => rfl
@[simp] theorem evS_aug (i : Nat) (o : P2) (x : Ex) : evS S (.aug i o x) e = R.bind (riS e[i]? e) fun a => R.bind (ev S x a.2) fun d => R.bind (D.int? d.1) fun b => R.bind (augI o a.1 b) fun z => R.bind (wrS d.2[i]? i (.val (.int z)) d.2) fun u => .ok (.nx, u.2) := by
  rw [evS, ← rdI_ap]
  show R.bind _ _ = R.bind _ _
  congr 1
  funext a
  show R.bind _ _ = R.bind _ _
  congr 1
  funext d
  show R.bind (R.bind (D.int? d.1) _) _ = _
  cases D.int? d.1 with
  | ok b =>
    show R.bind (R.bind (augI o a.1 b) _) _ = R.bind (augI o a.1 b) _
    cases augI o a.1 b with
    | ok z =>
      show R.bind (wr i (.val (.int z)) d.2) _ = _
      rw [wr_ap]
      rfl
    | exc _ _ => rfl
    | bad => rfl
  | exc _ _ => rfl
  | bad => rfl
@[simp] theorem evS_expr (x : Ex) : evS S (.expr x) e = R.bind (ev S x e) fun d => .ok (.nx, d.2) := by rw [evS]; rfl
@[simp] theorem evS_ret (x : Ex) : evS S (.ret x) e = R.bind (ev S x e) fun d => .ok (.ret d.1, d.2) := by rw [evS]; rfl
@[simp] theorem evS_retF (x : Fx) : evS S (.retF x) e = R.bind (evF S x e) fun d => .ok (.ret (.lst d.1), d.2) := by rw [evS]; rfl
def rcS : Option Sl → Ev → R (Fl × Ev)
  | some (.cel .own (.lst l)), e => .ok (.ret (.lst l), e)
  | _, _ => .bad
@[simp] theorem rcS_own (l : List D) (e : Ev) : rcS (some (.cel .own (.lst l))) e = .ok (.ret (.lst l), e) := rfl
@[simp] theorem evS_retC (i : Nat) : evS S (.retC i) e = rcS e[i]? e := by
  rw [evS]
  show (match e[i]? with | some (.cel .own (.lst l)) => R.ok (Fl.ret (.lst l), e) | _ => .bad) = _
  unfold rcS
  cases e[i]? with
  | none => rfl
  | some s =>
    cases s with
    | no => rfl
    | val d => rfl
    | cel k o => cases k <;> first | rfl | (cases o <;> rfl)
    | exn c => rfl
@[simp] theorem evS_retN : evS S .retN e = .ok (.ret .non, e) := by rw [evS]; rfl
@[simp] theorem evS_ite (c : Ex) (a b : Ss) : evS S (.ite c a b) e = R.bind (lookS S c e) fun h => R.bind (h.1.get h.2) fun x => if x.1.truth = true then evSs S a x.2 else evSs S b x.2 := by
  rw [evS, ← look_ap]
  show R.bind (R.bind (look c (ev S c) e) _) _ = _
  cases look c (ev S c) e with
  | ok h =>
    show R.bind (R.bind (h.1.get h.2) _) _ = R.bind (h.1.get h.2) _
    cases h.1.get h.2 with
    | ok x =>
      show (if x.1.truth = true then evSs S a else evSs S b : M Fl) x.2 = _
      exact ite_ap x.1.truth _ _ _
    | exc _ _ => rfl
    | bad => rfl
  | exc _ _ => rfl
  | bad => rfl
@[simp] theorem evS_loop (tg : Tg) (it : It) (b : Ss) : evS S (.loop tg it b) e = R.bind (evI S it e) fun p => lockd p.1.1 (forL tg.put (evSs S b) p.1.2) p.2 := by rw [evS]; rfl
@[simp] theorem evS_whl (c : Ex) (b : Ss) : evS S (.whl c b) e = whileL (evT S c) (evSs S b) S.wf e := by rw [evS]
@[simp] theorem evT_ap (c : Ex) : evT S c e = R.bind (lookS S c e) fun h => R.bind (h.1.get h.2) fun x => .ok (x.1.truth, x.2) := by rw [← look_ap]; rfl
@[simp] theorem evS_brk : evS S .brk e = .ok (.brk, e) := by rw [evS]; rfl
@[simp] theorem evS_cnt : evS S .cnt e = .ok (.cnt, e) := by rw [evS]; rfl
@[simp] theorem evS_pass : evS S .pass e = .ok (.nx, e) := by rw [evS]; rfl
@[simp] theorem evSs_nil : evSs S .nil e = .ok (.nx, e) := by rw [evSs]; rfl
/-- on with the next statement -/
def nxt (m : M Fl) : Fl × Ev → R (Fl × Ev)
  | (.nx, e) => m e
  | p => .ok p
@[simp] theorem nxt_nx (m : M Fl) (e : Ev) : nxt m (.nx, e) = m e := rfl
@[simp] theorem nxt_ret (m : M Fl) (d : D) (e : Ev) : nxt m (.ret d, e) = .ok (.ret d, e) := rfl
@[simp] theorem nxt_brk (m : M Fl) (e : Ev) : nxt m (.brk, e) = .ok (.brk, e) := rfl
@[simp] theorem nxt_cnt (m : M Fl) (e : Ev) : nxt m (.cnt, e) = .ok (.cnt, e) := rfl
@[simp] theorem evSs_cons (s : St) (r : Ss) : evSs S (.cons s r) e = R.bind (evS S s e) (nxt (evSs S r)) := by
  rw [evSs]
  show R.bind _ _ = R.bind _ _
  congr 1
  funext p
  obtain ⟨f, e⟩ := p
  cases f <;> rfl
@[simp] theorem evP_nil : evP S .nil e = .ok ([], e) := by rw [evP]; rfl
@[simp] theorem evP_val (i : Nat) (x : Ex) (r : Ps) : evP S (.val i x r) e = R.bind (ev S x e) fun d => R.bind (evP S r d.2) fun l => .ok (.val i d.1 :: l.1, l.2) := by rw [evP]; rfl
@[simp] theorem evP_cel (i : Nat) (x : Fx) (r : Ps) : evP S (.cel i x r) e = R.bind (evF S x e) fun d => R.bind (evP S r d.2) fun l => .ok (.cel i d.1 :: l.1, l.2) := by rw [evP]; rfl
@[simp] theorem putP_nil : putP [] e = .ok ((), e) := rfl
@[simp] theorem putP_val (i : Nat) (d : D) (r : List Pv) : putP (.val i d :: r) e = R.bind (wrS e[i]? i (.val d) e) fun u => putP r u.2 := by rw [← wr_ap]; rfl
@[simp] theorem putP_cel (i : Nat) (d : List D) (r : List Pv) : putP (.cel i d :: r) e = R.bind (wrS e[i]? i (.cel .own (.lst d)) e) fun u => putP r u.2 := by rw [← wr_ap]; rfl
end
/-! ### calls -/
theorem call_fn {P : Pg} {f : Nat} {F : Fn} (h : P.fn f = some F) (n : Nat) (io : Option Ob) (l : List D) : P.call (n + 1) f io l = runFn ⟨P.call n, P.gl, P.wf⟩ F io l := by
  show (match P.fn f with | some F => runFn ⟨P.call n, P.gl, P.wf⟩ F io l | none => .bad) = _
  rw [h]
theorem run_v (S : Su) (np ns : Nat) (fr : Bool) (b : Ss) (l : List D) (h : l.length = np) : runFn S ⟨np, ns, false, fr, b⟩ none l = R.bind (evSs S b (l.map Sl.val ++ List.replicate (ns - np) .no)) fun p => R.bind (retOf (.ok p)) fun q => .ok (q.1, none) := by
  unfold runFn
  simp only [h, Option.isSome_none, beq_self_eq_true, Bool.false_eq_true, if_false, Nat.add_zero, Bool.and_self, if_true]
  show R.bind (retOf (evSs S b _)) _ = _
  have e : startE ⟨np, ns, false, fr, b⟩ none l = l.map Sl.val ++ List.replicate (ns - np) .no := rfl
  rw [e]
  cases evSs S b _ with
  | ok p => rfl
  | exc _ _ => rfl
  | bad => rfl
def ioEnd : D × Ev → R (D × Option Ob)
  | (d, .cel .io o :: _) => .ok (d, some o)
  | _ => .bad
@[simp] theorem ioEnd_ok (d : D) (o : Ob) (e : Ev) : ioEnd (d, .cel .io o :: e) = .ok (d, some o) := rfl
theorem run_c (S : Su) (np ns : Nat) (fr : Bool) (b : Ss) (o : Ob) (l : List D) (h : l.length + 1 = np) : runFn S ⟨np, ns, true, fr, b⟩ (some o) l = R.bind (evSs S b (Sl.cel .io o :: (l.map Sl.val ++ List.replicate (ns - np) .no))) fun p => R.bind (retOf (.ok p)) ioEnd := by
  unfold runFn
  simp only [h, Option.isSome_some, beq_self_eq_true, if_true, Bool.and_self]
  show R.bind (retOf (evSs S b _)) _ = _
  have e : startE ⟨np, ns, true, fr, b⟩ (some o) l = Sl.cel .io o :: (l.map Sl.val ++ List.replicate (ns - np) .no) := rfl
  rw [e]
  cases evSs S b _ with
  | ok p =>
    show R.bind (retOf (.ok p)) _ = R.bind (retOf (.ok p)) _
    congr 1
    funext q
    obtain ⟨d, e⟩ := q
    cases e with
    | nil => rfl
    | cons s r =>
      cases s with
      | no => rfl
      | val _ => rfl
      | cel k o => cases k <;> rfl
      | exn c => rfl
  | exc _ _ => rfl
  | bad => rfl
@[simp] theorem retOf_ret (d : D) (e : Ev) : retOf (.ok (.ret d, e)) = .ok (d, e) := rfl
@[simp] theorem retOf_nx (e : Ev) : retOf (.ok (.nx, e)) = .ok (.non, e) := rfl
end En.V

/-! Ev2: blocks, loops, data. -/
namespace En.V
/-! ### blocks -/
theorem wipe_len : ∀ (own : List Nat) (e : Ev), (wipeE own e).length = e.length
  | [], _ => rfl
  | i :: r, e => by rw [wipeE, List.length_set, wipe_len r e]
theorem wipe_get : ∀ (own : List Nat) (e : Ev) (j : Nat), j < e.length → (wipeE own e)[j]? = if j ∈ own then some .no else e[j]?
  | [], e, j, _ => by simp [wipeE]
  | i :: r, e, j, h => by
    rw [wipeE]
    by_cases hj : i = j
    · subst hj
      rw [List.getElem?_set_self (by rw [wipe_len]; exact h)]
      simp
    · rw [List.getElem?_set_ne hj, wipe_get r e j h]
      have : (j ∈ i :: r) = (j ∈ r) := by simp [Ne.symm hj]
      simp only [this]
theorem rest_len : ∀ (own : List Nat) (e₀ e : Ev), (restE own e₀ e).length = e.length
  | [], _, _ => rfl
  | i :: r, e₀, e => by
    rw [restE]
    cases e₀[i]? with
    | none => exact rest_len r e₀ e
    | some s => show ((restE r e₀ e).set i s).length = _; rw [List.length_set, rest_len r e₀ e]
theorem rest_get : ∀ (own : List Nat) (e₀ e : Ev) (j : Nat), e₀.length = e.length → j < e.length → (restE own e₀ e)[j]? = if j ∈ own then e₀[j]? else e[j]?
  | [], e₀, e, j, _, _ => by simp [restE]
  | i :: r, e₀, e, j, hl, h => by
    rw [restE]
    by_cases hj : i = j
    · subst hj
      rw [List.getElem?_eq_getElem (by omega : i < e₀.length)]
      show ((restE r e₀ e).set i _)[i]? = _
      rw [List.getElem?_set_self (by rw [rest_len]; exact h)]
      simp
    · have h2 : (j ∈ i :: r) = (j ∈ r) := by simp [Ne.symm hj]
      simp only [h2]
      cases e₀[i]? with
      | none => exact rest_get r e₀ e j hl h
      | some s =>
        show ((restE r e₀ e).set i s)[j]? = _
        rw [List.getElem?_set_ne hj]
        exact rest_get r e₀ e j hl h
theorem rest_wipe {own : List Nat} {e e' : Ev} (h : wipeE own e' = wipeE own e) : restE own e e' = e := by
  have hl : e'.length = e.length := by rw [← wipe_len own e', h, wipe_len]
  refine List.ext_getElem? fun j => ?_
  by_cases hj : j < e.length
  · rw [rest_get own e e' j hl.symm (by omega)]
    by_cases hm : j ∈ own
    · rw [if_pos hm]
    · rw [if_neg hm]
      have h1 := wipe_get own e' j (by omega)
      have h2 := wipe_get own e j hj
      rw [if_neg hm] at h1 h2
      rw [← h1, ← h2, h]
  · rw [List.getElem?_eq_none (by rw [rest_len]; omega), List.getElem?_eq_none (by omega)]
theorem wipe_wipe (own : List Nat) (e : Ev) : wipeE own (wipeE own e) = wipeE own e := by
  refine List.ext_getElem? fun j => ?_
  by_cases hj : j < e.length
  · rw [wipe_get own _ j (by rw [wipe_len]; exact hj), wipe_get own e j hj]
    split <;> rfl
  · rw [List.getElem?_eq_none (by rw [wipe_len, wipe_len]; omega), List.getElem?_eq_none (by rw [wipe_len]; omega)]
def cleanB (own : List Nat) (e : Ev) : Bool := own.all fun i => match e[i]? with | some (.cel _ _) => false | some _ => true | none => false
theorem clean_ap (own : List Nat) (e : Ev) : clean own e = if cleanB own e = true then .ok ((), e) else .bad := rfl
theorem compL_nil (own : List Nat) (put : D → M Unit) (test : M Bool) (elt : M D) (acc : Acc) (e : Ev) : compL own put test elt [] acc e = .ok (acc, e) := rfl
theorem compL_cons (own : List Nat) (put : D → M Unit) (test : M Bool) (elt : M D) (x : D) (r : List D) (acc : Acc) (e : Ev) : compL own put test elt (x :: r) acc e =
    R.bind (put x (wipeE own e)) fun p => R.bind (test p.2) fun b => if b.1 = true then R.bind (elt b.2) fun y => if acc.1 < bigLine then compL own put test elt r (acc.1 + 1, y.1 :: acc.2) y.2 else .bad else compL own put test elt r acc b.2 := by
  rw [compL]
  show R.bind (put x (wipeE own e)) _ = R.bind (put x (wipeE own e)) _
  congr 1
  funext p
  show R.bind _ _ = R.bind _ _
  congr 1
  funext b
  refine (ite_ap b.1 _ _ b.2).trans ?_
  refine congrArg (fun z => if b.1 = true then z else _) ?_
  show R.bind _ _ = R.bind _ _
  congr 1
  funext y
  by_cases h : acc.1 < bigLine
  · show (if acc.1 < bigLine then _ else _ : M Acc) y.2 = _
    rw [if_pos h, if_pos h]
  · show (if acc.1 < bigLine then _ else _ : M Acc) y.2 = _
    rw [if_neg h, if_neg h]
    rfl
/-- one item of a block -/
def oneB (own : List Nat) (put : D → M Unit) (test : M Bool) (elt : M D) (w : Ev) (d : D) : R (Option D × Ev) :=
  R.bind (put d w) fun p => R.bind (test p.2) fun b => if b.1 = true then R.bind (elt b.2) fun y => .ok (some y.1, wipeE own y.2) else .ok (none, wipeE own b.2)
/-- a block that reckons each item by itself -/
theorem compL_map {α : Type} {own : List Nat} {put : D → M Unit} {test : M Bool} {elt : M D} {g : α → D} {f : α → Option D} {w : Ev} : ∀ (xs : List α) (acc : Acc) (e : Ev), wipeE own e = w → acc.1 + xs.length ≤ bigLine →
    (∀ x ∈ xs, oneB own put test elt w (g x) = .ok (f x, w)) →
    ∃ e', compL own put test elt (xs.map g) acc e = .ok ((acc.1 + (xs.filterMap f).length, (xs.filterMap f).reverse ++ acc.2), e') ∧ wipeE own e' = w
  | [], acc, e, hw, _, _ => ⟨e, rfl, hw⟩
  | x :: xs, acc, e, hw, hl, h => by
    have h1 := h x List.mem_cons_self
    rw [List.length_cons] at hl
    rw [List.map_cons, compL_cons, hw]
    unfold oneB at h1
    cases q1 : put (g x) w with
    | exc c l => rw [q1] at h1; cases h1
    | bad => rw [q1] at h1; cases h1
    | ok p =>
      rw [q1, R.bind_ok] at h1
      rw [R.bind_ok]
      cases q2 : test p.2 with
      | exc c l => rw [q2] at h1; cases h1
      | bad => rw [q2] at h1; cases h1
      | ok b =>
        rw [q2, R.bind_ok] at h1
        rw [R.bind_ok]
        by_cases hb : b.1 = true
        · rw [if_pos hb] at h1 ⊢
          cases q3 : elt b.2 with
          | exc c l => rw [q3] at h1; cases h1
          | bad => rw [q3] at h1; cases h1
          | ok y =>
            rw [q3, R.bind_ok] at h1
            rw [R.bind_ok, if_pos (by omega)]
            have h2 := R.ok.inj h1
            have h3 : f x = some y.1 := (congrArg Prod.fst h2).symm
            have h4 : wipeE own y.2 = w := congrArg Prod.snd h2
            obtain ⟨e', h7, h8⟩ := compL_map (own := own) (put := put) (test := test) (elt := elt) (g := g) (f := f) xs (acc.1 + 1, y.1 :: acc.2) y.2 h4 (by show acc.1 + 1 + xs.length ≤ bigLine; omega) fun z hz => h z (List.mem_cons_of_mem _ hz)
            refine ⟨e', ?_, h8⟩
            rw [h7, List.filterMap_cons_some h3, List.length_cons, List.reverse_cons, List.append_assoc]
            simp only [List.singleton_append]
            congr 3
            omega
        · rw [if_neg hb] at h1 ⊢
          have h2 := R.ok.inj h1
          have h3 : f x = none := (congrArg Prod.fst h2).symm
          have h4 : wipeE own b.2 = w := congrArg Prod.snd h2
          obtain ⟨e', h7, h8⟩ := compL_map (own := own) (put := put) (test := test) (elt := elt) (g := g) (f := f) xs acc b.2 h4 (by omega) fun z hz => h z (List.mem_cons_of_mem _ hz)
          exact ⟨e', by rw [h7, List.filterMap_cons_none h3], h8⟩
theorem cmp_map {α : Type} {S : Su} {own : List Nat} {tg : Tg} {cs : Option Ex} {x : Ex} (xs : List α) (g : α → D) (f : α → Option D) (e : Ev) (hc : cleanB own e = true) (hl : xs.length ≤ bigLine)
    (h : ∀ a ∈ xs, oneB own tg.put (tstM S cs) (ev S x) (wipeE own e) (g a) = .ok (f a, wipeE own e)) :
    cmpL S own tg cs x (xs.map g) e = .ok (((xs.filterMap f).length, (xs.filterMap f).reverse), e) := by
  obtain ⟨e', h1, h2⟩ := compL_map xs (0, []) (wipeE own e) (wipe_wipe own e) (by simpa using hl) h
  unfold cmpL inBlk
  rw [clean_ap, if_pos hc]
  simp only [R.bind_ok, h1, rest_wipe h2, Nat.zero_add, List.append_nil]
theorem filterMap_some {α β : Type} (f : α → β) : ∀ xs : List α, xs.filterMap (fun a => some (f a)) = xs.map f
  | [] => rfl
  | x :: xs => by rw [List.filterMap_cons_some (f := fun a => some (f a)) (b := f x) rfl, filterMap_some f xs, List.map_cons]
/-- .. without a test -/
theorem cmp_all {α : Type} {S : Su} {own : List Nat} {tg : Tg} {x : Ex} (xs : List α) (g f : α → D) (e : Ev) (hc : cleanB own e = true) (hl : xs.length ≤ bigLine)
    (h : ∀ a ∈ xs, R.bind (tg.put (g a) (wipeE own e)) (fun p => R.bind (ev S x p.2) fun y => .ok (y.1, wipeE own y.2)) = .ok (f a, wipeE own e)) :
    cmpL S own tg none x (xs.map g) e = .ok ((xs.length, (xs.map f).reverse), e) := by
  have := cmp_map (S := S) (tg := tg) (cs := none) (x := x) xs g (fun a => some (f a)) e hc hl fun a ha => by
    have h1 := h a ha
    unfold oneB
    cases q1 : tg.put (g a) (wipeE own e) with
    | exc c l => rw [q1] at h1; cases h1
    | bad => rw [q1] at h1; cases h1
    | ok p =>
      rw [q1, R.bind_ok] at h1
      rw [R.bind_ok, tstM_none, R.bind_ok, if_pos rfl]
      show R.bind (ev S x p.2) _ = _
      cases q2 : ev S x p.2 with
      | exc c l => rw [q2] at h1; cases h1
      | bad => rw [q2] at h1; cases h1
      | ok y =>
        rw [q2, R.bind_ok] at h1
        have h2 := R.ok.inj h1
        rw [R.bind_ok, show y.1 = f a from congrArg Prod.fst h2, show wipeE own y.2 = wipeE own e from congrArg Prod.snd h2]
  rw [this, filterMap_some, List.length_map]
/-- .. whose items are kept or not -/
theorem cmp_fil {α : Type} {S : Su} {own : List Nat} {tg : Tg} {c x : Ex} (xs : List α) (g f : α → D) (t : α → Bool) (e : Ev) (hc : cleanB own e = true) (hl : xs.length ≤ bigLine)
    (h : ∀ a ∈ xs, oneB own tg.put (tstM S (some c)) (ev S x) (wipeE own e) (g a) = .ok (if t a = true then some (f a) else none, wipeE own e)) :
    cmpL S own tg (some c) x (xs.map g) e = .ok ((((xs.filter t).map f).length, ((xs.filter t).map f).reverse), e) := by
  have := cmp_map (S := S) (tg := tg) (cs := some c) (x := x) xs g (fun a => if t a = true then some (f a) else none) e hc hl h
  have e2 : ∀ xs : List α, xs.filterMap (fun a => if t a = true then some (f a) else none) = (xs.filter t).map f := fun xs => by
    induction xs with
    | nil => rfl
    | cons y ys ih =>
      by_cases hy : t y = true
      · rw [List.filterMap_cons_some (b := f y) (by rw [if_pos hy]), ih, List.filter_cons, if_pos hy, List.map_cons]
      · rw [List.filterMap_cons_none (by rw [if_neg hy]), ih, List.filter_cons, if_neg hy]
  rw [this, e2]
/-! ### calls by their bodies -/
theorem call_v {P : Pg} {f np ns : Nat} {fr : Bool} {b : Ss} (h : P.fn f = some ⟨np, ns, false, fr, b⟩) {n : Nat} (hn : 0 < n) (l : List D) (hl : l.length = np) :
    P.call n f none l = R.bind (evSs ⟨P.call (n - 1), P.gl, P.wf⟩ b (l.map Sl.val ++ List.replicate (ns - np) .no)) fun p => R.bind (retOf (.ok p)) fun q => .ok (q.1, none) := by
  have := call_fn h (n - 1) none l
  rw [Nat.sub_add_cancel hn] at this
  rw [this, run_v _ _ _ _ _ _ hl]
theorem call_c {P : Pg} {f np ns : Nat} {fr : Bool} {b : Ss} (h : P.fn f = some ⟨np, ns, true, fr, b⟩) {n : Nat} (hn : 0 < n) (o : Ob) (l : List D) (hl : l.length + 1 = np) :
    P.call n f (some o) l = R.bind (evSs ⟨P.call (n - 1), P.gl, P.wf⟩ b (Sl.cel .io o :: (l.map Sl.val ++ List.replicate (ns - np) .no))) fun p => R.bind (retOf (.ok p)) ioEnd := by
  have := call_fn h (n - 1) (some o) l
  rw [Nat.sub_add_cancel hn] at this
  rw [this, run_c _ _ _ _ _ _ _ hl]
/-! ### primitives -/
@[simp] theorem bind_R {α β : Type} (x : R α) (f : α → R β) : (x >>= f) = R.bind x f := rfl
@[simp] theorem run_neg (i : Int) : P1.run .neg (.int i) = .ok (.int (-i)) := rfl
@[simp] theorem run_len (s : List Nat) : P1.run .len (.str s) = .ok (.int s.length) := rfl
@[simp] theorem run_len_2 (l : List D) : P1.run .len (.lst l) = .ok (.int l.length) := rfl
@[simp] theorem run_len_3 (l : List D) : P1.run .len (.tup l) = .ok (.int l.length) := rfl
@[simp] theorem run_len_4 (ks vs : List D) : P1.run .len (.dic ks vs) = .ok (.int ks.length) := rfl
@[simp] theorem run_int (i : Int) : P1.run .int (.int i) = .ok (.int i) := rfl
@[simp] theorem run_int_2 (b : Bool) : P1.run .int (.bl b) = .ok (.int (b2i b)) := rfl
@[simp] theorem run_abs (i : Int) : P1.run .abs (.int i) = .ok (.int (if i < 0 then -i else i)) := rfl
@[simp] theorem run_tuple (l : List D) : P1.run .tuple (.lst l) = .ok (.tup l) := rfl
@[simp] theorem run_tuple_2 (l : List D) : P1.run .tuple (.tup l) = .ok (.tup l) := rfl
@[simp] theorem run_all (l : List D) : P1.run .all (.lst l) = R.bind (boolsD l) fun bs => .ok (.bl (bs.all id)) := rfl
@[simp] theorem run_any (l : List D) : P1.run .any (.lst l) = R.bind (boolsD l) fun bs => .ok (.bl (bs.any id)) := rfl
@[simp] theorem run_sum (l : List D) : P1.run .sum (.lst l) = R.bind (sumD l 0) fun z => .ok (.int z) := rfl
@[simp] theorem run_isi (ts : List Ty) (d : D) : P1.run (.isi ts) d = if d.isiOk then .ok (.bl (ts.any fun t => t.has d)) else .bad := rfl
@[simp] theorem run_rev (s : List Nat) : P1.run .rev (.str s) = .ok (.str s.reverse) := rfl
@[simp] theorem run_rev_2 (l : List D) : P1.run .rev (.lst l) = .ok (.lst l.reverse) := rfl
@[simp] theorem run_rev_3 (l : List D) : P1.run .rev (.tup l) = .ok (.tup l.reverse) := rfl
@[simp] theorem run_str (i : Int) : P1.run .str (.int i) = .ok (.str (intText i)) := rfl
@[simp] theorem run_lenset (l : List D) : P1.run .lenset (.lst l) = R.bind (setD l) fun z => .ok (.int z.length) := rfl
@[simp] theorem run_lenset_2 (l : List D) : P1.run .lenset (.tup l) = R.bind (setD l) fun z => .ok (.int z.length) := rfl
@[simp] theorem run_maxlen (l : List D) : P1.run .maxlen (.lst l) = R.bind (textsD l) longest := rfl
@[simp] theorem longest_cons (y : List Nat) (r : List (List Nat)) : longest (y :: r) = .ok (.str (maxLenS y r)) := rfl
@[simp] theorem run_min (l : List D) : P1.run .min (.lst l) = R.bind (intsD l) leastI := rfl
@[simp] theorem run_max (l : List D) : P1.run .max (.lst l) = R.bind (intsD l) mostI := rfl
@[simp] theorem run_mxl2 (x y : List Nat) : P2.run .mxl2 (.str x) (.str y) = .ok (.str (if x.length < y.length then y else x)) := rfl
@[simp] theorem run_add (i : Int) (j : Int) : P2.run .add (.int i) (.int j) = .ok (.int (i + j)) := rfl
@[simp] theorem run_add_2 (x : List Nat) (y : List Nat) : P2.run .add (.str x) (.str y) = if x.length + y.length ≤ bigLine then .ok (.str (x ++ y)) else .bad := rfl
@[simp] theorem run_add_3 (x : List D) (y : List D) : P2.run .add (.lst x) (.lst y) = if x.length + y.length ≤ bigLine then .ok (.lst (x ++ y)) else .bad := rfl
@[simp] theorem run_add_4 (x : List D) (y : List D) : P2.run .add (.tup x) (.tup y) = if x.length + y.length ≤ bigLine then .ok (.tup (x ++ y)) else .bad := rfl
@[simp] theorem run_sub (i : Int) (j : Int) : P2.run .sub (.int i) (.int j) = .ok (.int (i - j)) := rfl
@[simp] theorem run_mul (i : Int) (j : Int) : P2.run .mul (.int i) (.int j) = if mulOk i j then .ok (.int (i * j)) else .bad := rfl
@[simp] theorem run_mul_2 (x : List Nat) (j : Int) : P2.run .mul (.str x) (.int j) = if x.length * j.toNat ≤ bigLine ∧ jOk j = true then .ok (.str (List.replicate j.toNat x).flatten) else .bad := rfl
@[simp] theorem run_mul_3 (x : List D) (j : Int) : P2.run .mul (.lst x) (.int j) = if x.length * j.toNat ≤ bigLine ∧ jOk j = true then .ok (.lst (List.replicate j.toNat x).flatten) else .bad := rfl
@[simp] theorem run_mul_4 (x : List D) (j : Int) : P2.run .mul (.tup x) (.int j) = if (jOk j && decide (j ≤ 1)) = true then .ok (.tup (if (x.isEmpty || j == 1) = true then x else [])) else if (!x.isEmpty && (decide (2 ≤ j) && (decide (j ≤ 1000) && decide (x.length ≤ 1000)))) = true then .ok (.tup (List.replicate j.toNat x).flatten) else .bad := rfl
@[simp] theorem run_fdiv (i : Int) (j : Int) : P2.run .fdiv (.int i) (.int j) = if divOk j then .ok (.int (i.fdiv j)) else .bad := rfl
@[simp] theorem run_mod (i : Int) (j : Int) : P2.run .mod (.int i) (.int j) = if j ≠ 0 then .ok (.int (i.fmod j)) else .bad := rfl
@[simp] theorem run_pow (i : Int) (j : Int) : P2.run .pow (.int i) (.int j) = if 0 ≤ j ∧ pOk i j = true then .ok (.int (i ^ j.toNat)) else .bad := rfl
@[simp] theorem run_eq (x : D) (y : D) : P2.run .eq x y = if x.okc && y.okc then .ok (.bl (x.eqv y)) else .bad := rfl
@[simp] theorem run_ne (x : D) (y : D) : P2.run .ne x y = if x.okc && y.okc then .ok (.bl (!x.eqv y)) else .bad := rfl
@[simp] theorem run_lt (i : Int) (j : Int) : P2.run .lt (.int i) (.int j) = .ok (.bl (decide (i < j))) := rfl
@[simp] theorem run_le (i : Int) (j : Int) : P2.run .le (.int i) (.int j) = .ok (.bl (decide (i ≤ j))) := rfl
@[simp] theorem run_gt (i : Int) (j : Int) : P2.run .gt (.int i) (.int j) = .ok (.bl (decide (j < i))) := rfl
@[simp] theorem run_ge (i : Int) (j : Int) : P2.run .ge (.int i) (.int j) = .ok (.bl (decide (j ≤ i))) := rfl
@[simp] theorem run_lt_2 (x : List Nat) (y : List Nat) : P2.run .lt (.str x) (.str y) = .ok (.bl (strLt x y)) := rfl
@[simp] theorem run_le_2 (x : List Nat) (y : List Nat) : P2.run .le (.str x) (.str y) = .ok (.bl (!strLt y x)) := rfl
@[simp] theorem run_gt_2 (x : List Nat) (y : List Nat) : P2.run .gt (.str x) (.str y) = .ok (.bl (strLt y x)) := rfl
@[simp] theorem run_ge_2 (x : List Nat) (y : List Nat) : P2.run .ge (.str x) (.str y) = .ok (.bl (!strLt x y)) := rfl
@[simp] theorem run_isIn (x : List Nat) (y : List Nat) : P2.run .isIn (.str x) (.str y) = inStr x y id := rfl
@[simp] theorem run_isIn_2 (x : D) (l : List D) : P2.run .isIn x (.lst l) = if x.okc && (D.lst l).okc then .ok (.bl (l.any fun z => D.eqv z x)) else .bad := by cases x <;> rfl
@[simp] theorem run_isIn_3 (x : D) (l : List D) : P2.run .isIn x (.tup l) = if x.okc && (D.tup l).okc then .ok (.bl (l.any fun z => D.eqv z x)) else .bad := by cases x <;> rfl
@[simp] theorem run_isIn_4 (x : D) (ks vs : List D) : P2.run .isIn x (.dic ks vs) = .ok (.bl (ks.any fun z => D.eqv z x)) := by cases x <;> rfl
@[simp] theorem run_notIn (x : List Nat) (y : List Nat) : P2.run .notIn (.str x) (.str y) = inStr x y not := rfl
@[simp] theorem run_notIn_2 (x : D) (l : List D) : P2.run .notIn x (.lst l) = if x.okc && (D.lst l).okc then .ok (.bl (!l.any fun z => D.eqv z x)) else .bad := by cases x <;> rfl
@[simp] theorem run_notIn_3 (x : D) (l : List D) : P2.run .notIn x (.tup l) = if x.okc && (D.tup l).okc then .ok (.bl (!l.any fun z => D.eqv z x)) else .bad := by cases x <;> rfl
@[simp] theorem run_notIn_4 (x : D) (ks vs : List D) : P2.run .notIn x (.dic ks vs) = .ok (.bl (!ks.any fun z => D.eqv z x)) := by cases x <;> rfl
@[simp] theorem run_idx (s : List Nat) (i : Int) : P2.run .idx (.str s) (.int i) = R.bind (optR (atIx s i)) fun c => .ok (.str [c]) := rfl
@[simp] theorem run_idx_2 (l : List D) (i : Int) : P2.run .idx (.lst l) (.int i) = optR (atIx l i) := rfl
@[simp] theorem run_idx_3 (l : List D) (i : Int) : P2.run .idx (.tup l) (.int i) = optR (atIx l i) := rfl
@[simp] theorem run_slcHi (x : D) (i : Int) : P2.run .slcHi x (.int i) = slcD x none (some i) := rfl
@[simp] theorem run_slcLo (x : D) (i : Int) : P2.run .slcLo x (.int i) = slcD x (some i) none := rfl
@[simp] theorem run_min2 (i : Int) (j : Int) : P2.run .min2 (.int i) (.int j) = .ok (.int (if j < i then j else i)) := rfl
@[simp] theorem run_max2 (i : Int) (j : Int) : P2.run .max2 (.int i) (.int j) = .ok (.int (if j > i then j else i)) := rfl
@[simp] theorem run_join (x : List Nat) (l : List D) : P2.run .join (.str x) (.lst l) = R.bind (textsD l) fun ys => joinD x ys := rfl
@[simp] theorem run_join_2 (x : List Nat) (l : List D) : P2.run .join (.str x) (.tup l) = R.bind (textsD l) fun ys => joinD x ys := rfl
@[simp] theorem run_index (s : List Nat) (x : List Nat) : P2.run .index (.str s) (.str x) = if findS x s 0 < 0 then .bad else .ok (.int (findS x s 0)) := rfl
@[simp] theorem run_index_2 (l : List D) (x : D) : P2.run .index (.lst l) x = indexD x l 0 := rfl
@[simp] theorem run_find (s : List Nat) (x : List Nat) : P2.run .find (.str s) (.str x) = .ok (.int (findS x s 0)) := rfl
@[simp] theorem run_slc (x : D) (i : Int) (j : Int) : P3.run .slc x (.int i) (.int j) = slcD x (some i) (some j) := rfl
@[simp] theorem run_min3 (i : Int) (j : Int) (k : Int) : P3.run .min3 (.int i) (.int j) (.int k) = .ok (.int (let m := if j < i then j else i; if k < m then k else m)) := rfl
@[simp] theorem run_max3 (i : Int) (j : Int) (k : Int) : P3.run .max3 (.int i) (.int j) (.int k) = .ok (.int (let m := if j > i then j else i; if k > m then k else m)) := rfl
@[simp] theorem run_q_list (d : D) : Q1.run .list d = D.items? d := rfl
@[simp] theorem run_q_sorted (l : List D) : Q1.run .sorted (.lst l) = sortD l := rfl
@[simp] theorem run_q_sorted_2 (l : List D) : Q1.run .sorted (.tup l) = sortD l := rfl
@[simp] theorem run_q_sorted_3 (ks vs : List D) : Q1.run .sorted (.dic ks vs) = sortD ks := rfl
@[simp] theorem run_q_sortedset (l : List D) : Q1.run .sortedset (.lst l) = setD l := rfl
@[simp] theorem run_q_sortedset_2 (l : List D) : Q1.run .sortedset (.tup l) = setD l := rfl
@[simp] theorem run_q_sortedset_3 (s : List Nat) : Q1.run .sortedset (.str s) = setD (s.map fun c => .str [c]) := rfl
@[simp] theorem run_q_listrng (i : Int) : Q1.run .listrng (.int i) = if rOk i && decide (i.toNat ≤ bigLine) then .ok (rngD 0 i.toNat) else .bad := rfl
@[simp] theorem run_q_rev (l : List D) : Q1.run .rev (.lst l) = .ok l.reverse := rfl
@[simp] theorem run_q_cat (x : List D) (y : List D) : Q2.run .cat (.lst x) (.lst y) = if x.length + y.length ≤ bigLine then .ok (x ++ y) else .bad := rfl
@[simp] theorem run_q_mul (x : List D) (j : Int) : Q2.run .mul (.lst x) (.int j) = if x.length * j.toNat ≤ bigLine ∧ jOk j = true then .ok (List.replicate j.toNat x).flatten else .bad := rfl
@[simp] theorem run_q_slcHi (x : D) (i : Int) : Q2.run .slcHi x (.int i) = slcN x none (some i) := rfl
@[simp] theorem run_q_slcLo (x : D) (i : Int) : Q2.run .slcLo x (.int i) = slcN x (some i) none := rfl
@[simp] theorem run_q_split (s : List Nat) (sep : List Nat) : Q2.run .split (.str s) (.str sep) = if sep.isEmpty then .bad else .ok ((splitS sep 0 [] s).map .str) := rfl
@[simp] theorem run_q_listzip (x : D) (y : D) : Q2.run .listzip x y = R.bind (D.items? x) fun a => R.bind (D.items? y) fun b => .ok (zipD a b) := rfl
@[simp] theorem run_q_slc (x : D) (i : Int) (j : Int) : Q3.run .slc x (.int i) (.int j) = slcN x (some i) (some j) := rfl
@[simp] theorem run_isN (d : D) : P1.run .isN d = .ok (.bl (match d with | .non => true | _ => false)) := by cases d <;> rfl
@[simp] theorem run_notN (d : D) : P1.run .notN d = .ok (.bl (match d with | .non => false | _ => true)) := by cases d <;> rfl
@[simp] theorem isiOk_non : D.non.isiOk = true := rfl
@[simp] theorem isiOk_bl (b : Bool) : (D.bl b).isiOk = true := rfl
@[simp] theorem isiOk_int (b : Int) : (D.int b).isiOk = true := rfl
@[simp] theorem isiOk_str (b : List Nat) : (D.str b).isiOk = true := rfl
@[simp] theorem isiOk_tup (b : List D) : (D.tup b).isiOk = true := rfl
@[simp] theorem isiOk_lst (b : List D) : (D.lst b).isiOk = true := rfl
@[simp] theorem optR_some {α : Type} (a : α) : optR (some a) = .ok a := rfl
@[simp] theorem truth_bl (b : Bool) : (D.bl b).truth = b := rfl
@[simp] theorem truth_non : D.non.truth = false := rfl
@[simp] theorem truth_int (i : Int) : (D.int i).truth = (i != 0) := rfl
@[simp] theorem truth_str (s : List Nat) : (D.str s).truth = !s.isEmpty := rfl
@[simp] theorem truth_tup (s : List D) : (D.tup s).truth = !s.isEmpty := rfl
@[simp] theorem truth_lst (s : List D) : (D.lst s).truth = !s.isEmpty := rfl
@[simp] theorem items_lst (l : List D) : D.items? (.lst l) = .ok l := rfl
@[simp] theorem items_tup (l : List D) : D.items? (.tup l) = .ok l := rfl
@[simp] theorem items_str (s : List Nat) : D.items? (.str s) = .ok (s.map fun c => .str [c]) := rfl
@[simp] theorem seq_lst (l : List D) : D.seq? (.lst l) = .ok l := rfl
@[simp] theorem seq_tup (l : List D) : D.seq? (.tup l) = .ok l := rfl
@[simp] theorem int_int (i : Int) : D.int? (.int i) = .ok i := rfl
@[simp] theorem inStr_one (c : Nat) (y : List Nat) (f : Bool → Bool) : inStr [c] y f = .ok (.bl (f (decide (c ∈ y)))) := rfl
@[simp] theorem okc_non : D.non.okc = true := rfl
@[simp] theorem okc_bl (b : Bool) : (D.bl b).okc = true := rfl
@[simp] theorem okc_int (b : Int) : (D.int b).okc = true := rfl
@[simp] theorem okc_str (b : List Nat) : (D.str b).okc = true := rfl
@[simp] theorem okc_nil : (D.lst []).okc = true := rfl
@[simp] theorem okc_nilT : (D.tup []).okc = true := rfl
@[simp] theorem eqv_nn : D.eqv .non .non = true := by rw [D.eqv]
@[simp] theorem eqv_int (i j : Int) : D.eqv (.int i) (.int j) = (i == j) := by rw [D.eqv]
@[simp] theorem eqv_str (i j : List Nat) : D.eqv (.str i) (.str j) = (i == j) := by rw [D.eqv]
@[simp] theorem eqv_bl (i j : Bool) : D.eqv (.bl i) (.bl j) = (i == j) := by rw [D.eqv]
@[simp] theorem eqv_lst (i j : List D) : D.eqv (.lst i) (.lst j) = D.eqvs i j := by rw [D.eqv]
@[simp] theorem eqv_tup (i j : List D) : D.eqv (.tup i) (.tup j) = D.eqvs i j := by rw [D.eqv]
@[simp] theorem eqvs_nil : D.eqvs [] [] = true := by rw [D.eqvs]
@[simp] theorem eqvs_cons (x y : D) (r s : List D) : D.eqvs (x :: r) (y :: s) = (D.eqv x y && D.eqvs r s) := by rw [D.eqvs]
@[simp] theorem eqvs_nc (x : D) (r : List D) : D.eqvs [] (x :: r) = false := by rw [D.eqvs] <;> simp
@[simp] theorem eqvs_cn (x : D) (r : List D) : D.eqvs (x :: r) [] = false := by rw [D.eqvs] <;> simp
@[simp] theorem litv_non : Lit.val .non = .non := rfl
@[simp] theorem litv_bl (b : Bool) : Lit.val (.bl b) = .bl b := rfl
@[simp] theorem litv_int (b : Int) : Lit.val (.int b) = .int b := rfl
@[simp] theorem litv_str (b : List Nat) : Lit.val (.str b) = .str b := rfl
/-! ### data -/
@[simp] theorem boolsD_map {α : Type} (p : α → Bool) : ∀ xs : List α, boolsD (xs.map fun x => D.bl (p x)) = .ok (xs.map p)
  | [] => rfl
  | x :: xs => by
    show R.bind (boolsD (xs.map fun x => D.bl (p x))) _ = _
    rw [boolsD_map p xs]
    rfl
theorem run_allM {α : Type} (p : α → Bool) (xs : List α) : P1.run .all (.lst (xs.map fun x => D.bl (p x))) = .ok (.bl (xs.all p)) := by
  show R.bind (boolsD (xs.map fun x => D.bl (p x))) _ = _
  rw [boolsD_map]
  show R.ok (D.bl ((xs.map p).all id)) = _
  rw [List.all_map]
  rfl
end En.V

/-! Ev3: cuts, texts, draws, loops. -/
namespace En.V
/-! ### cuts -/
@[simp] theorem cutL_lo {α : Type} (xs : List α) (i : Int) (h : 0 ≤ i) : cutL xs (some i) none = xs.drop i.toNat := by
  unfold cutL cutIx
  simp only [show ¬ i < 0 by omega, if_false]
  rw [List.take_of_length_le (by rw [List.length_drop]; omega)]
  by_cases hi : i.toNat ≤ xs.length
  · rw [Nat.min_eq_left hi]
  · rw [Nat.min_eq_right (by omega), List.drop_eq_nil_of_le (by omega), List.drop_eq_nil_of_le (by omega)]
@[simp] theorem cutL_hi {α : Type} (xs : List α) (i : Int) (h : 0 ≤ i) : cutL xs none (some i) = xs.take i.toNat := by
  unfold cutL cutIx
  simp only [show ¬ i < 0 by omega, if_false, List.drop_zero, Nat.sub_zero]
  by_cases hi : i.toNat ≤ xs.length
  · rw [Nat.min_eq_left hi]
  · rw [Nat.min_eq_right (by omega), List.take_of_length_le (by omega), List.take_of_length_le (by omega)]
@[simp] theorem cutL_lohi {α : Type} (xs : List α) (i j : Int) (h : 0 ≤ i) (h2 : 0 ≤ j) : cutL xs (some i) (some j) = (xs.drop i.toNat).take (j.toNat - i.toNat) := by
  unfold cutL cutIx
  simp only [show ¬ i < 0 by omega, show ¬ j < 0 by omega, if_false]
  by_cases hi : i.toNat ≤ xs.length
  · rw [Nat.min_eq_left hi]
    by_cases hj : j.toNat ≤ xs.length
    · rw [Nat.min_eq_left hj]
    · rw [Nat.min_eq_right (by omega), List.take_of_length_le (by rw [List.length_drop]; omega), List.take_of_length_le (by rw [List.length_drop]; omega)]
  · rw [show min i.toNat xs.length = xs.length by omega, List.drop_eq_nil_of_le (Nat.le_refl _), List.drop_eq_nil_of_le (show xs.length ≤ i.toNat by omega)]
    simp
@[simp] theorem cutL_hi1 {α : Type} (xs : List α) : cutL xs none (some (-1)) = xs.dropLast := by
  unfold cutL cutIx
  simp only [show (-1 : Int) < 0 by decide, if_true, List.drop_zero, Nat.sub_zero]
  rw [List.dropLast_eq_take]
  congr 1
  omega
@[simp] theorem cutL_lo1 {α : Type} (xs : List α) : cutL xs (some (-1)) none = xs.drop (xs.length - 1) := by
  unfold cutL cutIx
  simp only [show (-1 : Int) < 0 by decide, if_true]
  rw [List.take_of_length_le (by rw [List.length_drop]; omega)]
  congr 1
  omega
@[simp] theorem slcD_str (s : List Nat) (a b : Option Int) : slcD (.str s) a b = .ok (.str (cutL s a b)) := rfl
@[simp] theorem slcD_lst (s : List D) (a b : Option Int) : slcD (.lst s) a b = .ok (.lst (cutL s a b)) := rfl
@[simp] theorem slcD_tup (s : List D) (a b : Option Int) : slcD (.tup s) a b = .ok (.tup (cutL s a b)) := rfl
@[simp] theorem slcD_scr (s : List Int) (a b : Option Int) : slcD (.scr s) a b = .ok (.lst ((cutL s a b).map .int)) := rfl
@[simp] theorem slcN_lst (s : List D) (a b : Option Int) : slcN (.lst s) a b = .ok (cutL s a b) := rfl
@[simp] theorem slcN_scr (s : List Int) (a b : Option Int) : slcN (.scr s) a b = .ok ((cutL s a b).map .int) := rfl
theorem zipD_map {α β : Type} (f : α → D) (g : β → D) : ∀ (xs : List α) (ys : List β), zipD (xs.map f) (ys.map g) = (xs.zip ys).map fun p => .tup [f p.1, g p.2]
  | [], _ => by simp [zipD]
  | _ :: _, [] => by simp [zipD]
  | x :: xs, y :: ys => by simp [zipD, zipD_map f g xs ys]
theorem enumD_map {α : Type} (f : α → D) : ∀ (xs : List α) (n : Nat), enumD n (xs.map f) = (xs.zipIdx n).map fun p => .tup [.int p.2, f p.1]
  | [], _ => rfl
  | x :: xs, n => by simp [enumD, enumD_map f xs (n + 1), List.zipIdx]
theorem atIx_nat {α : Type} (xs : List α) (i : Nat) : atIx xs (i : Int) = xs[i]? := by
  unfold atIx ixNat
  by_cases h : i < xs.length
  · simp [h]
  · simp [h]
theorem atIx_pos {α : Type} (xs : List α) (i : Int) (h : 0 ≤ i) : atIx xs i = xs[i.toNat]? := by
  have := atIx_nat xs i.toNat
  rw [Int.toNat_of_nonneg h] at this
  exact this
/-- texts of single signs joined -/
theorem textsD_map {α : Type} (f : α → List Nat) : ∀ xs : List α, textsD (xs.map fun x => .str (f x)) = .ok (xs.map f)
  | [] => rfl
  | x :: xs => by
    show R.bind (textsD (xs.map fun x => .str (f x))) _ = _
    rw [textsD_map f xs]
    rfl
theorem joinL_nil : ∀ ys : List (List Nat), joinL [] ys = ys.flatten
  | [] => rfl
  | [x] => by simp [joinL]
  | x :: y :: r => by rw [joinL, joinL_nil (y :: r)]; simp
theorem sumLen_flat : ∀ ys : List (List Nat), sumLen ys = ys.flatten.length
  | [] => rfl
  | x :: r => by rw [sumLen, sumLen_flat r]; simp
theorem joinD_nil (ys : List (List Nat)) (h : ys.flatten.length ≤ bigLine) : joinD [] ys = .ok (.str ys.flatten) := by
  unfold joinD
  rw [if_pos (by rw [sumLen_flat]; simpa using h), joinL_nil]
theorem flat_one : ∀ xs : List Nat, (xs.map fun c => [c]).flatten = xs
  | [] => rfl
  | x :: xs => by simp [flat_one xs]
/-! ### loops -/
theorem forL_nil (put : D → M Unit) (body : M Fl) (e : Ev) : forL put body [] e = .ok (.nx, e) := rfl
def nxl (m : M Fl) : Fl × Ev → R (Fl × Ev)
  | (.nx, e) => m e
  | (.cnt, e) => m e
  | (.brk, e) => .ok (.nx, e)
  | (.ret d, e) => .ok (.ret d, e)
@[simp] theorem nxl_nx (m : M Fl) (e : Ev) : nxl m (.nx, e) = m e := rfl
@[simp] theorem nxl_cnt (m : M Fl) (e : Ev) : nxl m (.cnt, e) = m e := rfl
@[simp] theorem nxl_brk (m : M Fl) (e : Ev) : nxl m (.brk, e) = .ok (.nx, e) := rfl
@[simp] theorem nxl_ret (m : M Fl) (d : D) (e : Ev) : nxl m (.ret d, e) = .ok (.ret d, e) := rfl
theorem forL_cons (put : D → M Unit) (body : M Fl) (x : D) (r : List D) (e : Ev) : forL put body (x :: r) e = R.bind (put x e) fun p => R.bind (body p.2) (nxl (forL put body r)) := by
  rw [forL]
  show R.bind _ _ = R.bind _ _
  congr 1
  funext p
  show R.bind _ _ = R.bind _ _
  congr 1
  funext q
  obtain ⟨f, e⟩ := q
  cases f <;> rfl
/-- one turn -/
def turnL (put : D → M Unit) (body : M Fl) (x : D) (e : Ev) : R (Fl × Ev) := R.bind (put x e) fun p => body p.2
/-- a loop that goes through: what holds of the part taken and the names -/
theorem forL_inv {α : Type} {put : D → M Unit} {body : M Fl} (g : α → D) (xs : List α) (I : List α → Ev → Prop)
    (step : ∀ pre x post e, xs = pre ++ x :: post → I pre e → ∃ e', (turnL put body (g x) e = .ok (.nx, e') ∨ turnL put body (g x) e = .ok (.cnt, e')) ∧ I (pre ++ [x]) e') :
    ∀ (pre post : List α) (e : Ev), xs = pre ++ post → I pre e → ∃ e', forL put body (post.map g) e = .ok (.nx, e') ∧ I xs e'
  | pre, [], e, h, hI => ⟨e, rfl, by rw [h, List.append_nil]; exact hI⟩
  | pre, x :: post, e, h, hI => by
    obtain ⟨e1, h1, h2⟩ := step pre x post e h hI
    obtain ⟨e', h3, h4⟩ := forL_inv g xs I step (pre ++ [x]) post e1 (by rw [h, List.append_assoc]; rfl) h2
    refine ⟨e', ?_, h4⟩
    rw [List.map_cons, forL_cons]
    unfold turnL at h1
    cases q : put (g x) e with
    | exc c l => rw [q] at h1; rcases h1 with h1 | h1 <;> cases h1
    | bad => rw [q] at h1; rcases h1 with h1 | h1 <;> cases h1
    | ok p =>
      rw [q, R.bind_ok] at h1
      rw [R.bind_ok]
      rcases h1 with h1 | h1
      · rw [h1, R.bind_ok, nxl_nx, h3]
      · rw [h1, R.bind_ok, nxl_cnt, h3]
theorem for_inv {α : Type} {put : D → M Unit} {body : M Fl} {xs : List α} {g : α → D} {e : Ev} (I : List α → Ev → Prop) (h0 : I [] e)
    (step : ∀ pre x post e, xs = pre ++ x :: post → I pre e → ∃ e', (turnL put body (g x) e = .ok (.nx, e') ∨ turnL put body (g x) e = .ok (.cnt, e')) ∧ I (pre ++ [x]) e') :
    ∃ e', forL put body (xs.map g) e = .ok (.nx, e') ∧ I xs e' := forL_inv g xs I step [] xs e rfl h0
/-- range(n): its numbers -/
theorem rngD_map : ∀ (n : Nat) (a : Int), rngD a n = (List.range n).map fun i => .int (a + i)
  | 0, _ => rfl
  | n + 1, a => by
    rw [rngD, rngD_map n (a + 1), List.range_succ_eq_map, List.map_cons, List.map_map]
    congr 1
    · simp
    · refine List.map_congr_left fun i _ => ?_
      simp only [Function.comp]
      congr 1
      push_cast
      omega
theorem rngD0 (n : Nat) : rngD 0 n = (List.range n).map fun (i : Nat) => D.int (i : Int) := by
  rw [rngD_map]
  simp
theorem rOk_small {i : Int} (h : -4611686018427387904 < i) (h2 : i < 4611686018427387904) : rOk i = true := decide_eq_true (show i.natAbs < 4611686018427387904 by omega)
theorem rOk_nn {i : Int} (h : 0 ≤ i) (h2 : i ≤ 1000000000000) : rOk i = true := rOk_small (by omega) (by omega)
/-- no cell -/
def pl : Sl → Bool
  | .cel _ _ => false
  | .exn _ => false
  | _ => true
@[simp] theorem pl_no : pl .no = true := rfl
@[simp] theorem pl_val (d : D) : pl (.val d) = true := rfl
@[simp] theorem wrS_pl {a : Sl} (h : pl a = true) (i : Nat) (s : Sl) (e : Ev) : wrS (some a) i s e = .ok ((), e.set i s) := by
  cases a with
  | no => rfl
  | val d => rfl
  | cel k o => cases h
  | exn c => cases h
theorem atIx_map {α β : Type} (f : α → β) (xs : List α) (i : Int) : atIx (xs.map f) i = (atIx xs i).map f := by
  unfold atIx
  rw [List.length_map]
  cases ixNat xs.length i with
  | none => rfl
  | some j => simp
theorem ixNat_in {n : Nat} {i : Int} (h : 0 ≤ i) (h2 : i < n) : ixNat n i = some i.toNat := by
  unfold ixNat
  rw [if_pos h, if_pos h2]
theorem isTrue_ok {r : R (D × Option Ob)} (h : isTrue r = true) : ∃ o, r = .ok (.bl true, o) := by
  unfold isTrue at h
  split at h
  · exact ⟨_, rfl⟩
  · cases h
@[simp] theorem boolsD_nil : boolsD [] = .ok [] := rfl
@[simp] theorem boolsD_cons (b : Bool) (r : List D) : boolsD (.bl b :: r) = R.bind (boolsD r) fun z => .ok (b :: z) := rfl
@[simp] theorem textsD_nil : textsD [] = .ok [] := rfl
@[simp] theorem textsD_cons (b : List Nat) (r : List D) : textsD (.str b :: r) = R.bind (textsD r) fun z => .ok (b :: z) := rfl
@[simp] theorem atIx_last {α : Type} (l : List α) (a : α) : atIx (l ++ [a]) (-1) = some a := by
  have : ixNat (l.length + 1) (-1) = some l.length := by
    unfold ixNat
    rw [if_neg (by omega), if_pos (by omega)]
    congr 1
    omega
  unfold atIx
  rw [List.length_append, List.length_singleton, this]
  simp
theorem bigLine_val : bigLine = 16777216 := rfl
end En.V

/-! Memo: calls that are worked out by themselves, for by-hand parts that are too great to be worked out at one go. -/
namespace En
mutual
def D.seq : D → D → Bool
  | .non, .non => true
  | .bl a, .bl b => a == b
  | .int a, .int b => a == b
  | .str a, .str b => a == b
  | .tup a, .tup b => D.seqs a b
  | .lst a, .lst b => D.seqs a b
  | .dic a b, .dic c d => D.seqs a c && D.seqs b d
  | .scr a, .scr b => a == b
  | _, _ => false
def D.seqs : List D → List D → Bool
  | [], [] => true
  | x :: xs, y :: ys => D.seq x y && D.seqs xs ys
  | _, _ => false
end
mutual
theorem D.seq_ok : ∀ (a b : D), D.seq a b = true → a = b
  | .non, b, h => by cases b <;> simp_all [D.seq]
  | .bl a, b, h => by cases b <;> simp_all [D.seq]
  | .int a, b, h => by cases b <;> simp_all [D.seq]
  | .str a, b, h => by cases b <;> simp_all [D.seq]
  | .tup a, b, h => by
    cases b <;> simp only [D.seq, Bool.false_eq_true] at h
    rw [D.seqs_ok a _ h]
  | .lst a, b, h => by
    cases b <;> simp only [D.seq, Bool.false_eq_true] at h
    rw [D.seqs_ok a _ h]
  | .dic a c, b, h => by
    cases b <;> simp only [D.seq, Bool.false_eq_true, Bool.and_eq_true] at h
    rw [D.seqs_ok a _ h.1, D.seqs_ok c _ h.2]
  | .scr a, b, h => by cases b <;> simp_all [D.seq]
theorem D.seqs_ok : ∀ (a b : List D), D.seqs a b = true → a = b
  | [], b, h => by cases b <;> simp_all [D.seqs]
  | x :: xs, b, h => by
    cases b with
    | nil => simp [D.seqs] at h
    | cons y ys =>
      simp only [D.seqs, Bool.and_eq_true] at h
      rw [D.seq_ok x y h.1, D.seqs_ok xs ys h.2]
end
structure Ent where
  f : Nat
  l : List D
  v : D
def Ent.ok (cf : CF) (t : Ent) : Bool := match cf t.f none t.l with
  | .ok (d, none) => D.seq d t.v
  | _ => false
def memoF (cf : CF) (tb : List Ent) : CF := fun f c l => match c with
  | some o => cf f (some o) l
  | none => match tb.find? (fun t => t.f == f && D.seqs t.l l) with
    | some t => .ok (t.v, none)
    | none => cf f none l
theorem memo_ok (cf : CF) (tb : List Ent) (h : ∀ t ∈ tb, t.ok cf = true) : memoF cf tb = cf := by
  funext f c l
  unfold memoF
  cases c with
  | some o => rfl
  | none =>
    cases hf : tb.find? (fun t => t.f == f && D.seqs t.l l) with
    | none => rfl
    | some t =>
      have h1 := List.find?_some hf
      have h2 := h t (List.mem_of_find?_eq_some hf)
      simp only [Bool.and_eq_true, beq_iff_eq] at h1
      have h3 := D.seqs_ok _ _ h1.2
      unfold Ent.ok at h2
      rw [h1.1, h3] at h2
      show R.ok (t.v, none) = cf f none l
      cases hr : cf f none l with
      | exc a b => rw [hr] at h2; cases h2
      | bad => rw [hr] at h2; cases h2
      | ok p =>
        obtain ⟨d, o⟩ := p
        rw [hr] at h2
        cases o with
        | some o => cases h2
        | none => rw [D.seq_ok d t.v h2]
end En

namespace En.V
def h46ab (n : Nat) : List Nat := (List.replicate n [97, 98]).flatten
def h46ba (n : Nat) : List Nat := (List.replicate n [98, 97]).flatten
def h46t1 : Ent := ⟨448, [.str (h46ab 100), .str (h46ba 100)], .int 798⟩
def h46t2 : Ent := ⟨435, [.str (h46ab 100), .str (h46ba 100)], .tup ((List.range 200).map (fun i => .str ((h46ab 100).take (200 - i))) ++ (List.range 200).map (fun i => .str ((h46ba 100).take (i + 1))))⟩
def h46t3 : Ent := ⟨362, [.str (h46ab 100), .str (h46ba 100)], .tup [.str [114, 111, 111, 109], .str []]⟩
def h46t4 : Ent := ⟨362, [.str (h46ab 100), .str (h46ba 99)], .tup [.str [114, 111, 111, 109], .str [97]]⟩
def h46t5 : Ent := ⟨362, [.str (h46ab 100), .str (h46ba 99 ++ [98])], .tup [.str [100, 111, 111, 114], .str [97]]⟩
theorem h46t1_ok : h46t1.ok (pg.call 58) = true := by decide +kernel
theorem h46t2_ok : h46t2.ok (pg.call 58) = true := by decide +kernel
theorem h46t3_ok : h46t3.ok (pg.call 58) = true := by decide +kernel
theorem h46t4_ok : h46t4.ok (pg.call 58) = true := by decide +kernel
theorem h46t5_ok : h46t5.ok (pg.call 58) = true := by decide +kernel
theorem hand46 : isTrue (pg.call 59 453 none []) = true := by
  rw [call_v (show pg.fn 453 = some ⟨_, _, _, _, _⟩ from rfl) (by omega) _ rfl]
  rw [show (59 : Nat) - 1 = 58 from rfl, ← memo_ok (pg.call 58) [h46t1, h46t2, h46t3, h46t4, h46t5] (fun t ht => by
    simp only [List.mem_cons, List.not_mem_nil, or_false] at ht
    rcases ht with rfl | rfl | rfl | rfl | rfl
    · exact h46t1_ok
    · exact h46t2_ok
    · exact h46t3_ok
    · exact h46t4_ok
    · exact h46t5_ok)]
  decide +kernel
end En.V

/-! C0: draws. -/
namespace En.V
abbrev pS (n : Nat) : Su := ⟨pg.call n, pg.gl, pg.wf⟩
/-- the source of draws, so many draws on -/
def BoxOk (c : Nat) (b : List D) : Prop := ∃ x y z : Int, b = [.int x, .int y, .int z] ∧ 0 ≤ x ∧ 0 ≤ z ∧ z ≤ c
theorem BoxOk.mono {c c' : Nat} {b : List D} (h : BoxOk c b) (hc : c ≤ c') : BoxOk c' b := by
  obtain ⟨x, y, z, h1, h2, h3, h4⟩ := h
  exact ⟨x, y, z, h1, h2, h3, by omega⟩
theorem mulOk_r (i : Int) {j : Int} (h : j.natAbs < 18446744073709551616) : mulOk i j = true := by
  unfold mulOk
  have : (2 : Nat) ^ 64 = 18446744073709551616 := by decide
  simp [this, h]
theorem mulOk_l {i : Int} (j : Int) (h : i.natAbs < 18446744073709551616) : mulOk i j = true := by
  unfold mulOk
  have : (2 : Nat) ^ 64 = 18446744073709551616 := by decide
  simp [this, h]
theorem fmod_nn {a m : Int} (hm : 0 < m) : 0 ≤ a.fmod m ∧ a.fmod m < m := ⟨Int.fmod_nonneg_of_pos a hm, Int.fmod_lt_of_pos a hm⟩
theorem log2_le {n k : Nat} (h : n < 2 ^ k) (hk : 0 < k) : n.log2 < k := by
  by_cases h0 : n = 0
  · subst h0
    simpa using hk
  · exact (Nat.log2_lt h0).mpr h
def smallM (m : Int) : Prop := 0 < m ∧ m.natAbs.log2 < 9000
theorem smallM.of {m : Int} (h : 0 < m) (h2 : m < 18446744073709551616) : smallM m := ⟨h, Nat.lt_of_lt_of_le (log2_le (k := 64) (by
  have : (2 : Nat) ^ 64 = 18446744073709551616 := by decide
  omega) (by decide)) (by decide)⟩
theorem divOk_of {m : Int} (h : smallM m) : divOk m = true := by
  unfold divOk
  simp [h.1, h.2]
theorem divOk_lit {m : Int} (h : m ≠ 0) (h2 : m.natAbs < 1073741824) : divOk m = true := by
  unfold divOk
  simp [h, h2]
theorem c_l_take {n c : Nat} (hn : 1 ≤ n) {b : List D} (hb : BoxOk c b) (hc : c < 1152921504606846976) {m : Int} (hm : smallM m) :
    ∃ r b', pg.call n 4 (some (.lst b)) [.int m] = .ok (.int r, some (.lst b')) ∧ 0 ≤ r ∧ r < m ∧ BoxOk (c + 1) b' := by
  obtain ⟨x, y, z, rfl, hx, hz, hzc⟩ := hb
  have hm0 : m ≠ 0 := by have := hm.1; omega
  by_cases h : 0 < x
  · refine ⟨x.fmod m, [.int (x.fdiv m), .int y, .int z], ?_, (fmod_nn hm.1).1, (fmod_nn hm.1).2, _, _, _, rfl, Int.fdiv_nonneg hx (Int.le_of_lt hm.1), hz, by omega⟩
    rw [call_c (show pg.fn 4 = some ⟨_, _, _, _, _⟩ from rfl) (by omega) _ _ rfl]
    simp [Ob.val, atIx, ixNat, h, hm0, setOb, divOk_of hm]
  · have key : ∀ o f t : Int, o = ((y + 48271 * (z + 1)) * (39373 + (z + 1))).fmod 2147483647 → f = o.fmod 40009 + 7 → t = ((o + (z + 1) + y.fdiv 1000003) * f).fmod 2147483629 →
        pg.call n 4 (some (.lst [.int x, .int y, .int z])) [.int m] = .ok (.int ((((t * 48271 + o).fmod 2147483587).fdiv 64).fmod m), some (.lst [.int x, .int y, .int (z + 1)])) := fun o f t eo ef et => by
      rw [call_c (show pg.fn 4 = some ⟨_, _, _, _, _⟩ from rfl) (by omega) _ _ rfl]
      have f1 : ∀ a : Int, 0 ≤ a.fmod 40009 ∧ a.fmod 40009 < 40009 := fun a => fmod_nn (by decide)
      have m1 : mulOk 48271 (z + 1) = true := mulOk_l _ (by decide)
      have m2 : ∀ a, mulOk a (39373 + (z + 1)) = true := fun a => mulOk_r _ (by omega)
      have m3 : ∀ a : Int, mulOk a f = true := fun a => mulOk_r _ (by have := f1 o; omega)
      have m4 : ∀ a : Int, mulOk a 48271 = true := fun a => mulOk_r _ (by decide)
      have d1 : divOk 1000003 = true := by decide
      have d2 : divOk 64 = true := by decide
      simp [Ob.val, atIx, ixNat, h, hm0, setOb, m1, m2, m3, m4, d1, d2, ← eo, ← ef, ← et]
    exact ⟨_, _, key _ _ _ rfl rfl rfl, (fmod_nn hm.1).1, (fmod_nn hm.1).2, _, _, _, rfl, hx, by omega, by omega⟩
theorem get_of {α : Type} {xs : List α} {r : Int} (h0 : 0 ≤ r) (h : r < xs.length) : ∃ a, a ∈ xs ∧ xs[r.toNat]? = some a ∧ atIx xs r = some a := by
  have hl : r.toNat < xs.length := by omega
  exact ⟨xs[r.toNat], List.getElem_mem hl, List.getElem?_eq_getElem hl, by rw [atIx_pos xs r h0, List.getElem?_eq_getElem hl]⟩
theorem c_l_of_str {n c : Nat} (hn : 2 ≤ n) {b : List D} (hb : BoxOk c b) (hc : c < 1152921504606846976) (s : List Nat) (hs : s ≠ []) (hl : s.length ≤ bigLine) :
    ∃ k b', pg.call n 6 (some (.lst b)) [.str s] = .ok (.str [k], some (.lst b')) ∧ k ∈ s ∧ BoxOk (c + 1) b' := by
  have h0 : 0 < s.length := List.length_pos_iff.mpr hs
  have hb2 : s.length ≤ 16777216 := hl
  obtain ⟨r, b', h1, h2, h3, h4⟩ := c_l_take (n := n - 1) (by omega) hb hc (smallM.of (m := (s.length : Int)) (by omega) (by omega))
  obtain ⟨k, h5, h6, h7⟩ := get_of (xs := s) h2 h3
  refine ⟨k, b', ?_, h5, h4⟩
  rw [call_c (show pg.fn 6 = some ⟨_, _, _, _, _⟩ from rfl) (by omega) _ _ rfl]
  simp [h1, h7]
theorem c_l_of_lst {n c : Nat} (hn : 2 ≤ n) {b : List D} (hb : BoxOk c b) (hc : c < 1152921504606846976) (s : List D) (hs : s ≠ []) (hl : s.length ≤ bigLine) :
    ∃ k b', pg.call n 6 (some (.lst b)) [.lst s] = .ok (k, some (.lst b')) ∧ k ∈ s ∧ BoxOk (c + 1) b' := by
  have h0 : 0 < s.length := List.length_pos_iff.mpr hs
  have hb2 : s.length ≤ 16777216 := hl
  obtain ⟨r, b', h1, h2, h3, h4⟩ := c_l_take (n := n - 1) (by omega) hb hc (smallM.of (m := (s.length : Int)) (by omega) (by omega))
  obtain ⟨k, h5, h6, h7⟩ := get_of (xs := s) h2 h3
  refine ⟨k, b', ?_, h5, h4⟩
  rw [call_c (show pg.fn 6 = some ⟨_, _, _, _, _⟩ from rfl) (by omega) _ _ rfl]
  simp [h1, h7]
/-! ### the cells -/
theorem c_l_cells {n : Nat} (hv : 1 ≤ n) (ns : List Int) (hn : ns.length ≤ 63) (m : Nat) (hm : 0 < m) (hm2 : m < 64) : ∃ zs : List Int, pg.call n 5 none [.scr ns, .int m] = .ok (.lst (zs.map .int), none) ∧ 0 < zs.length ∧ zs.length ≤ m := by
  rw [call_v (show pg.fn 5 = some ⟨_, _, _, _, _⟩ from rfl) (by omega) _ rfl]
  have hm0 : ¬ m = 0 := by omega
  have hz : ∃ zs : List Int, evF (pS (n - 1)) (.orf (.q1 .list (.p2 .slcHi (.var 0) (.var 1))) (.disp (.cons (.lit (.int 0)) .nil))) [.val (.scr ns), .val (.int m), .no, .no, .no, .no] = .ok (zs.map .int, [.val (.scr ns), .val (.int m), .no, .no, .no, .no]) ∧ 0 < zs.length ∧ zs.length ≤ m ∧ (m < ns.length → zs.length = m) := by
    cases ns with
    | nil => exact ⟨[0], by simp [bigLine_val], by simp, by simp; omega, by simp⟩
    | cons x r => exact ⟨(x :: r).take m, by simp [hm0], by simp; omega, by simp; omega, by simp; omega⟩
  obtain ⟨zs, h1, h2, h3, h4⟩ := hz
  let xs := (((ns.drop m).take (63 - m)).zipIdx 0)
  let I : List (Int × Nat) → Ev → Prop := fun _ e => ∃ (ws : List Int) (a b c : Sl), e = [.val (.scr ns), .val (.int m), .cel .own (.lst (ws.map .int)), a, b, c] ∧ ws.length = zs.length ∧ pl a = true ∧ pl b = true ∧ pl c = true
  obtain ⟨e', h5, ws, a, b, c, rfl, h6, _⟩ := for_inv (put := (Tg.two (.nm 3) (.nm 4)).put) (body := evSs (pS (n - 1)) b1_l_cells)
    (xs := xs) (g := fun p => .tup [.int p.2, .int p.1]) (e := [.val (.scr ns), .val (.int m), .cel .own (.lst (zs.map .int)), .no, .no, .no]) I ⟨zs, _, _, _, rfl, rfl, rfl, rfl, rfl⟩ fun pre x post e hx hI => by
      obtain ⟨ws, a, b, c, rfl, h6, ha, hb, hc⟩ := hI
      have hlt : m < ns.length := by
        have h7 : xs.length = pre.length + (post.length + 1) := by rw [hx]; simp
        have h8 : xs.length = min (63 - m) (ns.length - m) := by simp [xs]
        omega
      have hk : x.2 < 64 := by
        have h7 : x ∈ xs := by rw [hx]; simp
        have h8 := List.snd_lt_of_mem_zipIdx h7
        simp at h8
        omega
      have f := fmod_nn (a := (x.2 : Int)) (m := (m : Int)) (by omega)
      obtain ⟨w, g1, g2, g3⟩ := get_of (xs := ws) (r := (x.2 : Int).fmod m) f.1 (by rw [h6, h4 hlt]; exact f.2)
      have g4 : atIx (ws.map D.int) ((x.2 : Int).fmod m) = some (.int w) := by rw [atIx_map, g3]; rfl
      have g5 : ixNat ws.length ((x.2 : Int).fmod m) = some ((x.2 : Int).fmod m).toNat := ixNat_in f.1 (by rw [h6, h4 hlt]; exact f.2)
      have g6 : mulOk x.1 ((x.2 : Int) + 2) = true := mulOk_r _ (by omega)
      have g7 : ¬ m = 0 := by omega
      refine ⟨[.val (.scr ns), .val (.int m), .cel .own (.lst ((ws.set ((x.2 : Int).fmod m).toNat (w + x.1 * (x.2 + 2))).map .int)), .val (.int x.2), .val (.int x.1), .val (.int ((x.2 : Int).fmod m))], .inl ?_, _, _, _, _, rfl, by rw [List.length_set, h6], rfl, rfl, rfl⟩
      simp [turnL, b1_l_cells, ha, hb, hc, g7, Ob.val, g4, g6, setOb, g5, List.map_set]
  refine ⟨ws, ?_, by rw [h6]; exact h2, by rw [h6]; exact h3⟩
  have e1 : enumD 0 (((ns.map D.int).drop m).take (63 - m)) = xs.map fun p => .tup [.int p.2, .int p.1] := by
    rw [← List.map_drop, ← List.map_take]
    exact enumD_map D.int _ 0
  show R.bind (evSs (pS (n - 1)) _ [.val (.scr ns), .val (.int m), .no, .no, .no, .no]) _ = _
  rw [evSs_cons, evS_new, h1]
  simp [e1, h5]
/-! ### blocks that draw -/
/-- two rows side by side -/
inductive All2 {α β : Type} (r : α → β → Prop) : List α → List β → Prop
  | nil : All2 r [] []
  | cons {a : α} {b : β} {l : List α} {m : List β} : r a b → All2 r l m → All2 r (a :: l) (b :: m)
theorem All2.len {α β : Type} {r : α → β → Prop} {l : List α} {m : List β} (h : All2 r l m) : m.length = l.length := by
  induction h with
  | nil => rfl
  | cons _ _ ih => rw [List.length_cons, List.length_cons, ih]
theorem All2.all {α β : Type} {r : α → β → Prop} {p : β → Prop} (i : ∀ a b, r a b → p b) {l : List α} {m : List β} (h : All2 r l m) : ∀ b ∈ m, p b := by
  induction h with
  | nil => exact fun b hb => nomatch hb
  | cons h1 _ ih => exact fun b hb => (List.mem_cons.mp hb).elim (fun e => e ▸ i _ _ h1) (ih b)
theorem rest_eq (own : List Nat) (e₀ e e' : Ev) (hl : e₀.length = e.length) (h : wipeE own e' = wipeE own e) : restE own e₀ e' = restE own e₀ (wipeE own e) := by
  have hl' : e'.length = e.length := by rw [← wipe_len own e', h, wipe_len]
  refine List.ext_getElem? fun j => ?_
  by_cases hj : j < e.length
  · rw [rest_get own e₀ e' j (by omega) (by omega), rest_get own e₀ _ j (by rw [wipe_len]; exact hl) (by rw [wipe_len]; exact hj)]
    by_cases hm : j ∈ own
    · rw [if_pos hm, if_pos hm]
    · rw [if_neg hm, if_neg hm, ← h, wipe_get own e' j (by omega), if_neg hm]
  · rw [List.getElem?_eq_none (by rw [rest_len]; omega), List.getElem?_eq_none (by rw [rest_len, wipe_len]; omega)]
theorem compL_st {α σ : Type} {own : List Nat} {put : D → M Unit} {elt : M D} {g : α → D} {Pr : α → D → Prop} (env : σ → Ev) (I : Nat → σ → Prop) (N : Nat) :
    ∀ (xs : List α) (k : Nat) (acc : Acc) (e : Ev) (st : σ), k + xs.length = N → wipeE own e = wipeE own (env st) → acc.1 + xs.length ≤ bigLine → I k st →
    (∀ a ∈ xs, ∀ k st, k < N → I k st → ∃ y st', R.bind (put (g a) (wipeE own (env st))) (fun p => R.bind (elt p.2) fun y => .ok (y.1, wipeE own y.2)) = .ok (y, wipeE own (env st')) ∧ Pr a y ∧ I (k + 1) st') →
    ∃ ys e' st', compL own put (pure true) elt (xs.map g) acc e = .ok ((acc.1 + ys.length, ys.reverse ++ acc.2), e') ∧ wipeE own e' = wipeE own (env st') ∧ All2 Pr xs ys ∧ I N st'
  | [], k, acc, e, st, hN, hw, _, hI, _ => ⟨[], e, st, rfl, hw, .nil, by rw [← hN]; exact hI⟩
  | x :: xs, k, acc, e, st, hN, hw, hl, hI, h => by
    rw [List.length_cons] at hl hN
    obtain ⟨y, st1, h1, h2, h3⟩ := h x List.mem_cons_self k st (by omega) hI
    rw [List.map_cons, compL_cons, hw]
    cases q1 : put (g x) (wipeE own (env st)) with
    | exc c l => rw [q1] at h1; cases h1
    | bad => rw [q1] at h1; cases h1
    | ok p =>
      rw [q1, R.bind_ok] at h1
      rw [R.bind_ok]
      show ∃ ys e' st', R.bind (R.ok (true, p.2)) _ = _ ∧ _
      rw [R.bind_ok, if_pos rfl]
      cases q3 : elt p.2 with
      | exc c l => rw [q3] at h1; cases h1
      | bad => rw [q3] at h1; cases h1
      | ok z =>
        rw [q3, R.bind_ok] at h1
        have h4 := R.ok.inj h1
        have h5 : z.1 = y := congrArg Prod.fst h4
        have h6 : wipeE own z.2 = wipeE own (env st1) := congrArg Prod.snd h4
        obtain ⟨ys, e', st', h7, h8, h9, h10⟩ := compL_st (own := own) (put := put) (elt := elt) (g := g) (Pr := Pr) env I N xs (k + 1) (acc.1 + 1, y :: acc.2) z.2 st1 (by omega) h6 (by show acc.1 + 1 + xs.length ≤ bigLine; omega) h3 fun a ha => h a (List.mem_cons_of_mem _ ha)
        refine ⟨y :: ys, e', st', ?_, h8, .cons h2 h9, h10⟩
        rw [R.bind_ok, if_pos (by omega), h5, h7, List.length_cons, List.reverse_cons, List.append_assoc]
        simp only [List.singleton_append]
        congr 3
        omega
theorem cmp_st {α σ : Type} {S : Su} {own : List Nat} {tg : Tg} {x : Ex} {xs : List α} {g : α → D} (Pr : α → D → Prop) (env : σ → Ev) (I : Nat → σ → Prop) (st : σ) (h0 : I 0 st) (hc : cleanB own (env st) = true) (hl : xs.length ≤ bigLine)
    (hle : ∀ s s', (env s).length = (env s').length) (hr : ∀ s', restE own (env st) (wipeE own (env s')) = env s')
    (h : ∀ a ∈ xs, ∀ k st, k < xs.length → I k st → ∃ y st', R.bind (tg.put (g a) (wipeE own (env st))) (fun p => R.bind (ev S x p.2) fun y => .ok (y.1, wipeE own y.2)) = .ok (y, wipeE own (env st')) ∧ Pr a y ∧ I (k + 1) st') :
    ∃ ys st', cmpL S own tg none x (xs.map g) (env st) = .ok ((ys.length, ys.reverse), env st') ∧ All2 Pr xs ys ∧ I xs.length st' := by
  obtain ⟨ys, e', st', h1, h2, h3, h4⟩ := compL_st env I xs.length xs 0 (0, []) (wipeE own (env st)) st (Nat.zero_add _) (wipe_wipe own _) (by simpa using hl) h0 h
  refine ⟨ys, st', ?_, h3, h4⟩
  unfold cmpL inBlk
  rw [clean_ap, if_pos hc, R.bind_ok]
  show R.bind (compL own tg.put (pure true) (ev S x) (xs.map g) (0, []) (wipeE own (env st))) _ = _
  rw [h1, R.bind_ok]
  simp only [Nat.zero_add, List.append_nil]
  rw [rest_eq own (env st) (env st') e' (hle _ _) h2, hr]
/-! ### drawn words -/
def letters : List Nat := [97, 98, 99, 100, 101, 102, 103, 104]
theorem letters_take {m : Nat} (hm : 0 < m) (hm2 : m ≤ 8) : letters.take m ≠ [] ∧ (letters.take m).length = m := by
  have h : (letters.take m).length = m := by rw [List.length_take]; show min m 8 = m; omega
  refine ⟨fun e => ?_, h⟩
  rw [e] at h
  exact absurd h (by simp; omega)
theorem chars_of {ys : List D} {q : Nat → Prop} (h : ∀ y ∈ ys, ∃ k, y = .str [k] ∧ q k) : ∃ w : List Nat, ys = w.map (fun k => .str [k]) ∧ ∀ k ∈ w, q k := by
  induction ys with
  | nil => exact ⟨[], rfl, fun k hk => nomatch hk⟩
  | cons y ys ih =>
    obtain ⟨k, e, hk⟩ := h y List.mem_cons_self
    obtain ⟨w, e2, hw⟩ := ih fun z hz => h z (List.mem_cons_of_mem _ hz)
    exact ⟨k :: w, by rw [e, e2]; rfl, fun j hj => (List.mem_cons.mp hj).elim (fun e => e ▸ hk) (hw j)⟩
theorem c_l_word {n c : Nat} (hn : 3 ≤ n) {b : List D} (hb : BoxOk c b) (m l : Nat) (hm : 0 < m) (hm2 : m ≤ 8) (hl : l ≤ 1000000) (hc : c + (l + 1) < 1152921504606846976) :
    ∃ (w : List Nat) (b' : List D), pg.call n 8 (some (.lst b)) [.int m, .int l] = .ok (.str w, some (.lst b')) ∧ (∀ k ∈ w, k ∈ letters.take m) ∧ w.length ≤ l ∧ BoxOk (c + (l + 1)) b' := by
  obtain ⟨r, b1, h1, h2, h3, h4⟩ := c_l_take (n := n - 1) (by omega) hb (by omega) (smallM.of (m := (l : Int) + 1) (by omega) (by omega))
  obtain ⟨hne, hln⟩ := letters_take hm hm2
  obtain ⟨ys, b2, h5, h6, h7⟩ := cmp_st (S := pS (n - 1)) (own := [3]) (tg := .nm 3) (x := .cio 6 0 (.cons (.p2 .slcHi (.lit (.str [97, 98, 99, 100, 101, 102, 103, 104])) (.var 1)) .nil)) (xs := List.range r.toNat) (g := fun i => .int i)
    (fun _ y => ∃ k, y = .str [k] ∧ k ∈ letters.take m) (fun b => [.cel .io (.lst b), .val (.int m), .val (.int l), .no]) (fun k b => BoxOk (c + 1 + k) b) b1 h4 rfl (by rw [List.length_range, bigLine_val]; omega) (fun _ _ => rfl) (fun _ => rfl) fun i hi k b hk hI => by
      rw [List.length_range] at hk
      obtain ⟨j, b', g1, g2, g3⟩ := c_l_of_str (n := n - 1) (by omega) hI (by omega) (letters.take m) hne (by rw [hln, bigLine_val]; omega)
      refine ⟨.str [j], b', ?_, ⟨j, rfl, g2⟩, g3⟩
      simp [wipeE]
      simp [letters] at g1
      simp [g1]
  obtain ⟨w, rfl, hw⟩ := chars_of (q := fun k => k ∈ letters.take m) (All2.all (p := fun y => ∃ k, y = D.str [k] ∧ k ∈ letters.take m) (fun _ _ h => h) h6)
  have hwl : w.length = r.toNat := by have := h6.len; rw [List.length_map, List.length_range] at this; exact this
  refine ⟨w, b2, ?_, hw, by omega, ?_⟩
  · rw [call_c (show pg.fn 8 = some ⟨_, _, _, _, _⟩ from rfl) (by omega) _ _ rfl]
    have hr : rOk r = true := rOk_nn (by omega) (by omega)
    have hj : joinD [] (w.map fun k => [k]) = .ok (.str w) := by
      rw [joinD_nil _ (by rw [flat_one, bigLine_val]; omega), flat_one]
    simp [h1, hr, rngD0, h5, textsD_map, hj]
    trace_state
  · rw [List.length_range] at h7
    exact h7.mono (by omega)
/-! ### drawn rows -/
/-- no two neighbours are the same -/
def rowB (s : List Nat) : Bool := (s.zip (s.drop 1)).all fun p => p.1 != p.2
theorem rowB_cons2 (a b : Nat) (r : List Nat) : rowB (a :: b :: r) = (a != b && rowB (b :: r)) := by
  unfold rowB
  simp
theorem rowB_snoc : ∀ (w : List Nat) (k : Nat), rowB w = true → [k] ≠ w.drop (w.length - 1) → rowB (w ++ [k]) = true
  | [], k, _, _ => rfl
  | [a], k, _, h => by
    have : a ≠ k := fun e => h (by rw [e]; rfl)
    simp [rowB, this]
  | a :: b :: r, k, h, h2 => by
    rw [rowB_cons2, Bool.and_eq_true] at h
    have ih := rowB_snoc (b :: r) k h.2 (by simpa using h2)
    show rowB (a :: b :: (r ++ [k])) = true
    rw [rowB_cons2, h.1]
    exact ih
theorem two_letters {m : Nat} (hm : 2 ≤ m) (v : List Nat) : (letters.take m).filter (fun k => [k] != v) ≠ [] := by
  have h1 : 97 ∈ letters.take m ∧ 98 ∈ letters.take m := by
    rw [show letters = 97 :: 98 :: [99, 100, 101, 102, 103, 104] from rfl]
    obtain ⟨k, rfl⟩ : ∃ k, m = k + 2 := ⟨m - 2, by omega⟩
    simp
  intro e
  by_cases h : [97] = v
  · have := List.filter_eq_nil_iff.mp e 98 h1.2
    subst h
    simp at this
  · have := List.filter_eq_nil_iff.mp e 97 h1.1
    simp [h] at this
theorem c_l_row {n c : Nat} (hn : 3 ≤ n) {b : List D} (hb : BoxOk c b) (m l : Nat) (hm : 2 ≤ m) (hm2 : m ≤ 8) (hl : l ≤ 1000000) (hc : c + (l + 1) < 1152921504606846976) :
    ∃ (w : List Nat) (b' : List D), pg.call n 9 (some (.lst b)) [.int m, .int l] = .ok (.str w, some (.lst b')) ∧ rowB w = true ∧ (∀ k ∈ w, k ∈ letters.take m) ∧ w.length ≤ l ∧ BoxOk (c + (l + 1)) b' := by
  obtain ⟨r, b1, h1, h2, h3, h4⟩ := c_l_take (n := n - 1) (by omega) hb (by omega) (smallM.of (m := (l : Int) + 1) (by omega) (by omega))
  have hln := (letters_take (m := m) (by omega) hm2).2
  let I : List Nat → Ev → Prop := fun pre e => ∃ (b : List D) (w : List Nat) (s4 s5 : Sl), e = [.cel .io (.lst b), .val (.int m), .val (.int l), .val (.str w), s4, s5, .no] ∧ pl s4 = true ∧ pl s5 = true ∧ BoxOk (c + 1 + pre.length) b ∧ rowB w = true ∧ (∀ k ∈ w, k ∈ letters.take m) ∧ w.length ≤ pre.length
  obtain ⟨e', h5, b2, w, s4, s5, rfl, _, _, h6, h7, h8, h9⟩ := for_inv (put := (Tg.nm 4).put) (body := evSs (pS (n - 1)) b1_l_row)
    (xs := List.range r.toNat) (g := fun i => .int i) (e := [.cel .io (.lst b1), .val (.int m), .val (.int l), .val (.str []), .no, .no, .no]) I ⟨b1, [], _, _, rfl, rfl, rfl, h4, rfl, by simp, by simp⟩ fun pre x post e hx hI => by
      obtain ⟨b, w, s4, s5, rfl, p4, p5, q1, q2, q3, q4⟩ := hI
      have hpl : pre.length < r.toNat := by
        have := congrArg List.length hx
        simp at this
        omega
      let rest := (letters.take m).filter fun k => [k] != w.drop (w.length - 1)
      have hcomp : cmpL (pS (n - 1)) [6] (.nm 6) (some (.p2 .ne (.var 6) (.p2 .slcLo (.var 3) (.p1 .neg (.lit (.int 1)))))) (.var 6) ((letters.take m).map fun k => .str [k]) [.cel .io (.lst b), .val (.int m), .val (.int l), .val (.str w), .val (.int x), s5, .no] =
          .ok (((rest.map fun k => D.str [k]).length, (rest.map fun k => D.str [k]).reverse), [.cel .io (.lst b), .val (.int m), .val (.int l), .val (.str w), .val (.int x), s5, .no]) :=
        cmp_fil (letters.take m) (fun k => .str [k]) (fun k => .str [k]) (fun k => [k] != w.drop (w.length - 1)) _ rfl (by rw [hln, bigLine_val]; omega) fun k hk => by
          by_cases ht : [k] = w.drop (w.length - 1)
          · simp [oneB, wipeE, ht]
          · simp [oneB, wipeE, ht]
      obtain ⟨y, b', g1, g2, g3⟩ := c_l_of_lst (n := n - 1) (by omega) q1 (by omega) (rest.map fun k => D.str [k]) (fun e => two_letters hm _ (List.map_eq_nil_iff.mp e)) (by
        rw [List.length_map, bigLine_val]
        have : rest.length ≤ (letters.take m).length := List.length_filter_le _ _
        omega)
      obtain ⟨k, hk, rfl⟩ := List.mem_map.mp g2
      have hk2 := List.mem_filter.mp hk
      refine ⟨[.cel .io (.lst b'), .val (.int m), .val (.int l), .val (.str (w ++ [k])), .val (.int x), .val (.lst (rest.map fun k => D.str [k])), .no], .inl ?_, b', w ++ [k], _, _, rfl, rfl, rfl, ?_, rowB_snoc w k q2 (by simpa using hk2.2), ?_, ?_⟩
      · simp only [letters] at hcomp
        have hw : w.length + 1 ≤ bigLine := by rw [bigLine_val]; omega
        simp [-List.map_take, b1_l_row, turnL, p4, p5, hcomp, g1, hw]
      · rw [List.length_append, List.length_singleton]; exact g3.mono (by omega)
      · intro j hj
        rcases List.mem_append.mp hj with z | z
        · exact q3 j z
        · rw [List.mem_singleton.mp z]; exact hk2.1
      · simp; omega
  refine ⟨w, b2, ?_, h7, h8, by simp at h9; omega, h6.mono (by simp; omega)⟩
  rw [call_c (show pg.fn 9 = some ⟨_, _, _, _, _⟩ from rfl) (by omega) _ _ rfl]
  have hr : rOk r = true := rOk_nn (by omega) (by omega)
  simp [h1, hr, rngD0, h5]
end En.V

/-! C1: _law_same; rows. -/
namespace En.V
mutual
/-- plain data of allowed sizes -/
def goodD : D → Bool
  | .tup l => decide (l.length ≤ bigLine) && goodDs l
  | .lst l => decide (l.length ≤ bigLine) && goodDs l
  | .dic _ _ => false
  | .scr _ => false
  | .non => true
  | .bl _ => true
  | .int _ => true
  | .str _ => true
def goodDs : List D → Bool
  | [] => true
  | d :: l => goodD d && goodDs l
end
theorem goods_mem {l : List D} (h : goodDs l = true) : ∀ d ∈ l, goodD d = true := by
  induction l with
  | nil => exact fun d hd => nomatch hd
  | cons x l ih =>
    rw [goodDs, Bool.and_eq_true] at h
    exact fun d hd => (List.mem_cons.mp hd).elim (fun e => e ▸ h.1) (ih h.2 d)
theorem goods_of {l : List D} (h : ∀ d ∈ l, goodD d = true) : goodDs l = true := by
  induction l with
  | nil => rfl
  | cons x l ih =>
    rw [goodDs, h x List.mem_cons_self, ih fun d hd => h d (List.mem_cons_of_mem _ hd)]
    rfl
theorem depths_mem {l : List D} : ∀ d ∈ l, d.depth ≤ D.depths l := by
  induction l with
  | nil => exact fun d hd => nomatch hd
  | cons x l ih =>
    rw [D.depths]
    exact fun d hd => (List.mem_cons.mp hd).elim (fun e => e ▸ Nat.le_max_left _ _) fun z => Nat.le_trans (ih d z) (Nat.le_max_right _ _)
theorem depths_of {l : List D} {k : Nat} (h : ∀ d ∈ l, d.depth ≤ k) : D.depths l ≤ k := by
  induction l with
  | nil => exact Nat.zero_le _
  | cons x l ih =>
    rw [D.depths]
    exact Nat.max_le.mpr ⟨h x List.mem_cons_self, ih fun d hd => h d (List.mem_cons_of_mem _ hd)⟩
theorem zipD_self : ∀ l : List D, zipD l l = l.map fun x => .tup [x, x]
  | [] => rfl
  | x :: l => by rw [zipD, zipD_self l, List.map_cons]
theorem same_list {n k : Nat} (ih : ∀ d : D, goodD d = true → d.depth ≤ k → pg.call n 7 none [d, d] = .ok (.bl true, none)) {l : List D} (hl : l.length ≤ bigLine) (hg : goodDs l = true) (hd : D.depths l ≤ k) (e0 : Ev) (a b : Sl) (h2 : e0 = [a, b, .no, .no]) :
    cmpL (pS n) [2, 3] (.two (.nm 2) (.nm 3)) none (.call 7 none (.cons (.var 2) (.cons (.var 3) .nil))) (l.map fun x => .tup [x, x]) e0 = .ok ((l.length, (l.map fun _ => D.bl true).reverse), e0) := by
  subst h2
  refine cmp_all l (fun x => .tup [x, x]) (fun _ => .bl true) _ ?_ hl fun x hx => ?_
  · simp [cleanB]
  · have := ih x (goods_mem hg x hx) (Nat.le_trans (depths_mem x hx) hd)
    simp [wipeE, this]
theorem c_l_same_refl : ∀ (k : Nat) (d : D), goodD d = true → d.depth ≤ k → ∀ n, k + 1 ≤ n → pg.call n 7 none [d, d] = .ok (.bl true, none) := by
  intro k
  induction k with
  | zero =>
    intro d hg hd n hn
    rw [call_v (show pg.fn 7 = some ⟨_, _, _, _, _⟩ from rfl) (by omega) _ rfl]
    cases d with
    | tup l => rw [D.depth] at hd; omega
    | lst l => rw [D.depth] at hd; omega
    | dic _ _ => cases hg
    | scr _ => cases hg
    | non => simp [Ty.has]
    | bl b => simp [Ty.has]
    | int i => simp [Ty.has]
    | str s => simp [Ty.has]
  | succ k ih =>
    intro d hg hd n hn
    rw [call_v (show pg.fn 7 = some ⟨_, _, _, _, _⟩ from rfl) (by omega) _ rfl]
    cases d with
    | tup l =>
      rw [D.depth] at hd
      rw [goodD, Bool.and_eq_true] at hg
      have h := same_list (n := n - 1) (fun d h1 h2 => ih d h1 h2 (n - 1) (by omega)) (of_decide_eq_true hg.1) hg.2 (by omega) _ (.val (.tup l)) (.val (.tup l)) rfl
      simp [Ty.has, zipD_self, h, Function.comp_def]
    | lst l =>
      rw [D.depth] at hd
      rw [goodD, Bool.and_eq_true] at hg
      have h := same_list (n := n - 1) (fun d h1 h2 => ih d h1 h2 (n - 1) (by omega)) (of_decide_eq_true hg.1) hg.2 (by omega) _ (.val (.lst l)) (.val (.lst l)) rfl
      simp [Ty.has, zipD_self, h, Function.comp_def]
    | dic _ _ => cases hg
    | scr _ => cases hg
    | non => simp [Ty.has]
    | bl b => simp [Ty.has]
    | int i => simp [Ty.has]
    | str s => simp [Ty.has]
/-! ### is_word, is_row, is_way -/
def wordB (s : List Nat) : Bool := s.all fun c => decide (c ∈ letters)
theorem c_m_rows_is_word {n : Nat} (hn : 1 ≤ n) (s : List Nat) (hs : s.length ≤ bigLine) : pg.call n 0 none [.str s] = .ok (.bl (wordB s), none) := by
  rw [call_v (show pg.fn 0 = some ⟨_, _, _, _, _⟩ from rfl) (by omega) _ rfl]
  have h := cmp_all (S := pS (n - 1)) (own := [1]) (tg := .nm 1) (x := .p2 .isIn (.var 1) (.lit (.str [97, 98, 99, 100, 101, 102, 103, 104]))) s (fun c => .str [c]) (fun c => .bl (decide (c ∈ letters))) [.val (.str s), .no] rfl hs fun c hc => by simp [wipeE, letters]
  simp [Ty.has, h, wordB]
theorem c_m_rows_is_row {n : Nat} (hn : 2 ≤ n) (s : List Nat) (hs : s.length ≤ bigLine) : pg.call n 1 none [.str s] = .ok (.bl (wordB s && rowB s), none) := by
  rw [call_v (show pg.fn 1 = some ⟨_, _, _, _, _⟩ from rfl) (by omega) _ rfl]
  have h := cmp_all (S := pS (n - 1)) (own := [1, 2]) (tg := .two (.nm 1) (.nm 2)) (x := .p2 .ne (.var 1) (.var 2)) (s.zip (s.drop 1)) (fun p => .tup [.str [p.1], .str [p.2]]) (fun p => .bl (p.1 != p.2)) [.val (.str s), .no, .no] rfl (by rw [List.length_zip]; omega) fun p hp => by
    simp [wipeE, bne]
  have hw := c_m_rows_is_word (n := n - 1) (by omega) s hs
  have hz : zipD (s.map fun c => D.str [c]) ((s.drop 1).map fun c => D.str [c]) = (s.zip (s.drop 1)).map fun p => .tup [.str [p.1], .str [p.2]] := zipD_map _ _ _ _
  cases hb : wordB s with
  | false => simp [hw, hb]
  | true => simp [-List.map_drop, hw, hb, hz, h, rowB, -List.drop_one]
theorem c_m_rows_is_way {n : Nat} (hn : 3 ≤ n) (s : List Nat) (hs : s.length ≤ bigLine) : pg.call n 2 none [.str s] = .ok (.bl (wordB s && rowB s && !s.isEmpty), none) := by
  rw [call_v (show pg.fn 2 = some ⟨_, _, _, _, _⟩ from rfl) (by omega) _ rfl]
  have hw := c_m_rows_is_row (n := n - 1) (by omega) s hs
  cases hb : wordB s && rowB s with
  | false => simp [hw, hb]
  | true =>
    have : decide (0 < s.length) = !s.isEmpty := by cases s <;> simp
    simp [hw, hb, this]
/-- no text: False -/
theorem c_is_non {d : D} (hk : d.isiOk = true) (hn : ∀ s, d ≠ .str s) : (∀ n, 1 ≤ n → pg.call n 0 none [d] = .ok (.bl false, none)) ∧ (∀ n, 2 ≤ n → pg.call n 1 none [d] = .ok (.bl false, none)) ∧ ∀ n, 3 ≤ n → pg.call n 2 none [d] = .ok (.bl false, none) := by
  have h0 : ∀ n, 1 ≤ n → pg.call n 0 none [d] = .ok (.bl false, none) := fun n hv => by
    rw [call_v (show pg.fn 0 = some ⟨_, _, _, _, _⟩ from rfl) (by omega) _ rfl]
    have : Ty.has .str d = false := by
      cases d <;> first | rfl | exact absurd rfl (hn _)
    simp [hk, this]
  have h1 : ∀ n, 2 ≤ n → pg.call n 1 none [d] = .ok (.bl false, none) := fun n hv => by
    rw [call_v (show pg.fn 1 = some ⟨_, _, _, _, _⟩ from rfl) (by omega) _ rfl]
    simp [h0 (n - 1) (by omega)]
  refine ⟨h0, h1, fun n hv => ?_⟩
  rw [call_v (show pg.fn 2 = some ⟨_, _, _, _, _⟩ from rfl) (by omega) _ rfl]
  simp [h1 (n - 1) (by omega)]
end En.V

/-! K04: the plain law. -/
namespace En.V
theorem okc_of {d : D} (h : d.depth ≤ 64) : d.okc = true := decide_eq_true h
@[simp] theorem okc_strs {α : Type} (f : α → List Nat) (xs : List α) : (D.lst (xs.map fun x => D.str (f x))).okc = true := okc_of (by
  have : D.depths (xs.map fun x => D.str (f x)) ≤ 0 := depths_of fun d hd => by obtain ⟨x, _, rfl⟩ := List.mem_map.mp hd; exact Nat.le_refl _
  rw [D.depth]
  omega)
@[simp] theorem okc_ints {α : Type} (f : α → Int) (xs : List α) : (D.lst (xs.map fun x => D.int (f x))).okc = true := okc_of (by
  have : D.depths (xs.map fun x => D.int (f x)) ≤ 0 := depths_of fun d hd => by obtain ⟨x, _, rfl⟩ := List.mem_map.mp hd; exact Nat.le_refl _
  rw [D.depth]
  omega)
@[simp] theorem eqvs_r (xs : List D) : D.eqvs xs [] = xs.isEmpty := by cases xs <;> simp
theorem rowB_iff (s : List Nat) : rowB s = true ↔ ∀ i, i + 1 < s.length → s[i + 1]? ≠ s[i]? := by
  unfold rowB
  rw [List.all_eq_true]
  refine ⟨fun h i hi e => ?_, fun h p hp => ?_⟩
  · have h1 : (s[i], s[i + 1]) ∈ s.zip (s.drop 1) := List.mem_iff_getElem?.mpr ⟨i, by
      rw [List.getElem?_zip_eq_some]
      exact ⟨List.getElem?_eq_getElem (by omega), by rw [List.getElem?_drop, Nat.add_comm]; exact List.getElem?_eq_getElem hi⟩⟩
    have h2 := h _ h1
    rw [List.getElem?_eq_getElem (by omega), List.getElem?_eq_getElem (by omega)] at e
    have e' := Option.some.inj e
    simp [e'] at h2
  · obtain ⟨i, hi⟩ := List.mem_iff_getElem?.mp hp
    rw [List.getElem?_zip_eq_some, List.getElem?_drop] at hi
    obtain ⟨h1, h2⟩ := hi
    have h3 : i + 1 < s.length := by have := (List.getElem?_eq_some_iff.mp h2).1; omega
    have h4 := h i h3
    rw [h1, show i + 1 = 1 + i by omega, h2] at h4
    have h5 : p.1 ≠ p.2 := fun e => h4 (by rw [e])
    simp [h5]
def kinds3 (s : List Nat) : List D := [.bl (wordB s), .bl (wordB s && rowB s), .bl (wordB s && rowB s && !s.isEmpty)]
theorem c_l_kinds_str {n : Nat} (hn : 1 ≤ n) (s : List Nat) (hs : s.length ≤ bigLine) : pg.call n 10 none [.str s] = .ok (.lst (kinds3 s), none) := by
  rw [call_v (show pg.fn 10 = some ⟨_, _, _, _, _⟩ from rfl) (by omega) _ rfl]
  have hb : s.length ≤ 16777216 := hs
  have h1 : ∀ e : Ev, e = [.val (.str s), .no, .no, .no] → cmpL (pS (n - 1)) [3] (.nm 3) (some (.p2 .notIn (.var 3) (.lit (.str [97, 98, 99, 100, 101, 102, 103, 104])))) (.var 3) (s.map fun c => .str [c]) e =
      .ok ((((s.filter fun c => !decide (c ∈ letters)).map fun c => D.str [c]).length, ((s.filter fun c => !decide (c ∈ letters)).map fun c => D.str [c]).reverse), e) := fun e he => by
    subst he
    refine cmp_fil s (fun c => .str [c]) (fun c => .str [c]) (fun c => !decide (c ∈ letters)) _ rfl hs fun c hc => ?_
    by_cases h : c ∈ letters
    · simp only [letters] at h
      simp [oneB, wipeE, letters, h]
    · simp only [letters] at h
      simp [oneB, wipeE, letters, h]
  have hf : (s.filter fun c => !decide (c ∈ letters)).isEmpty = wordB s := by
    unfold wordB
    rw [Bool.eq_iff_iff, List.isEmpty_iff, List.filter_eq_nil_iff, List.all_eq_true]
    simp
  have h2 : ∀ e : Ev, e = [.val (.str s), .no, .no, .no] → cmpL (pS (n - 1)) [2] (.nm 2) (some (.p2 .eq (.p2 .idx (.var 0) (.var 2)) (.p2 .idx (.var 0) (.p2 .sub (.var 2) (.lit (.int 1)))))) (.var 2) ((List.range (s.length - 1)).map fun (i : Nat) => .int (1 + i)) e =
      .ok (((((List.range (s.length - 1)).filter fun i => s[i + 1]? == s[i]?).map fun (i : Nat) => D.int (1 + i)).length, (((List.range (s.length - 1)).filter fun i => s[i + 1]? == s[i]?).map fun (i : Nat) => D.int (1 + i)).reverse), e) := fun e he => by
    subst he
    refine cmp_fil (List.range (s.length - 1)) (fun (i : Nat) => .int (1 + i)) (fun (i : Nat) => .int (1 + i)) (fun i => s[i + 1]? == s[i]?) _ rfl (by rw [List.length_range]; omega) fun i hi => ?_
    have hi' := List.mem_range.mp hi
    have e1 : atIx s (1 + (i : Int)) = some s[i + 1] := by
      rw [show (1 : Int) + i = ((i + 1 : Nat) : Int) by omega, atIx_nat, List.getElem?_eq_getElem (by omega)]
    have e2 : atIx s (1 + (i : Int) - 1) = some s[i] := by
      rw [show (1 : Int) + i - 1 = (i : Int) by omega, atIx_nat, List.getElem?_eq_getElem (by omega)]
    rw [List.getElem?_eq_getElem (by omega : i + 1 < s.length), List.getElem?_eq_getElem (by omega : i < s.length)]
    by_cases h : s[i + 1] = s[i]
    · simp [oneB, wipeE, e1, e2, h]
    · simp [oneB, wipeE, e1, e2, h]
  have hr : ((List.range (s.length - 1)).filter fun i => s[i + 1]? == s[i]?).isEmpty = rowB s := by
    rw [Bool.eq_iff_iff, List.isEmpty_iff, List.filter_eq_nil_iff, rowB_iff]
    refine ⟨fun h i hi => ?_, fun h i hi => ?_⟩
    · have := h i (List.mem_range.mpr (by omega))
      simpa using this
    · have := h i (by have := List.mem_range.mp hi; omega)
      simpa using this
  have hr1 : rOk 1 = true := rOk_nn (by omega) (by omega)
  have hr2 : rOk (s.length : Int) = true := rOk_nn (by omega) (by omega)
  have e3 : ((s.length : Int) - 1).toNat = s.length - 1 := by omega
  cases hw : wordB s with
  | false =>
    rw [hw] at hf
    simp [Ty.has, h1, kinds3, hw, hf, bigLine_val]
  | true =>
    rw [hw] at hf
    cases hrb : rowB s with
    | false =>
      rw [hrb] at hr
      simp [Ty.has, h1, h2, kinds3, hw, hf, bigLine_val, hr1, hr2, e3, rngD_map, hr, hrb]
    | true =>
      rw [hrb] at hr
      simp [Ty.has, h1, h2, kinds3, hw, hf, bigLine_val, hr1, hr2, e3, rngD_map, hr, hrb]
theorem c_l_kinds_non {n : Nat} (hv : 1 ≤ n) {d : D} (hk : d.isiOk = true) (hn : ∀ s, d ≠ .str s) : pg.call n 10 none [d] = .ok (.lst [.bl false, .bl false, .bl false], none) := by
  rw [call_v (show pg.fn 10 = some ⟨_, _, _, _, _⟩ from rfl) (by omega) _ rfl]
  have : Ty.has .str d = false := by
    cases d <;> first | rfl | exact absurd rfl (hn _)
  simp [hk, this, bigLine_val]
theorem c_l_case_right {n : Nat} (hn : 4 ≤ n) {d : D} {a b c : Bool} (h0 : ∀ n, 1 ≤ n → pg.call n 0 none [d] = .ok (.bl a, none)) (h1 : ∀ n, 2 ≤ n → pg.call n 1 none [d] = .ok (.bl b, none)) (h2 : ∀ n, 3 ≤ n → pg.call n 2 none [d] = .ok (.bl c, none)) :
    pg.call n 11 none [d, .lst [.bl a, .bl b, .bl c]] = .ok (.bl true, none) := by
  rw [call_v (show pg.fn 11 = some ⟨_, _, _, _, _⟩ from rfl) (by omega) _ rfl]
  have hs := c_l_same_refl 1 (.lst [.bl a, .bl b, .bl c, .bl a, .bl b, .bl c]) (by simp [goodD, goodDs, bigLine_val]) (by simp [D.depth, D.depths]) (n - 1) (by omega)
  simp [h0 (n - 1) (by omega), h1 (n - 1) (by omega), h2 (n - 1) (by omega), bigLine_val, permD, hs]
/-- every matter of the law -/
theorem c_case {n : Nat} (hn : 4 ≤ n) {d : D} (h : (∃ s : List Nat, d = .str s ∧ s.length ≤ bigLine) ∨ (d.isiOk = true ∧ ∀ s, d ≠ .str s)) : ∃ k, pg.call n 10 none [d] = .ok (k, none) ∧ pg.call n 11 none [d, k] = .ok (.bl true, none) := by
  rcases h with ⟨s, rfl, hs⟩ | ⟨h1, h2⟩
  · exact ⟨_, c_l_kinds_str (by omega) s hs, c_l_case_right hn (fun n hv => c_m_rows_is_word hv s hs) (fun n hv => c_m_rows_is_row hv s hs) (fun n hv => c_m_rows_is_way hv s hs)⟩
  · exact ⟨_, c_l_kinds_non (by omega) h1 h2, c_l_case_right hn (c_is_non h1 h2).1 (c_is_non h1 h2).2.1 (c_is_non h1 h2).2.2⟩
/-! ### the drawn part -/
theorem letters_lt {m : Nat} {w : List Nat} (h : ∀ k ∈ w, k ∈ letters.take m) : ∀ k ∈ w, k ∈ letters := fun k hk => List.mem_of_mem_take (h k hk)
/-- six matters, one by one -/
theorem six {n : Nat} (hn : 4 ≤ n) {own bent : List Nat} (h1 : own.length ≤ 1000) (h2 : bent.length ≤ 3000) (e0 : Ev) (b : List D) (a1 a2 a3 a4 a5 : Sl) (s6 : Sl) (he : e0 = [.cel .io (.lst b), a1, a2, a3, a4, a5, s6]) (p6 : pl s6 = true) :
    ∃ s6', pl s6' = true ∧ forL (Tg.nm 6).put (evSs (pS n) b1_l_right)
      [.str own, .str bent, .str (own ++ own), .str (own ++ own.drop (own.length - 1)), .lst (own.map fun c => .str [c]), .tup [.str own]] e0 = .ok (.nx, [.cel .io (.lst b), a1, a2, a3, a4, a5, s6']) := by
  subst he
  have all : ∀ d ∈ [D.str own, .str bent, .str (own ++ own), .str (own ++ own.drop (own.length - 1)), .lst (own.map fun c => D.str [c]), .tup [.str own]], (∃ s : List Nat, d = .str s ∧ s.length ≤ bigLine) ∨ (d.isiOk = true ∧ ∀ s, d ≠ .str s) := by
    intro d hd
    simp only [List.mem_cons, List.not_mem_nil, or_false] at hd
    rcases hd with rfl | rfl | rfl | rfl | rfl | rfl
    · exact .inl ⟨_, rfl, by rw [bigLine_val]; omega⟩
    · exact .inl ⟨_, rfl, by rw [bigLine_val]; omega⟩
    · exact .inl ⟨_, rfl, by rw [List.length_append, bigLine_val]; omega⟩
    · exact .inl ⟨_, rfl, by rw [List.length_append, List.length_drop, bigLine_val]; omega⟩
    · exact .inr ⟨rfl, fun s e => nomatch e⟩
    · exact .inr ⟨rfl, fun s e => nomatch e⟩
  obtain ⟨e', h3, s6', rfl, h4⟩ := for_inv (put := (Tg.nm 6).put) (body := evSs (pS n) b1_l_right)
    (xs := [D.str own, .str bent, .str (own ++ own), .str (own ++ own.drop (own.length - 1)), .lst (own.map fun c => D.str [c]), .tup [.str own]]) (g := fun d => d) (fun _ e => ∃ s6', e = [.cel .io (.lst b), a1, a2, a3, a4, a5, s6'] ∧ pl s6' = true) ⟨s6, rfl, p6⟩ fun pre d post e hx hI => by
      obtain ⟨s6', rfl, hp⟩ := hI
      obtain ⟨k, g1, g2⟩ := c_case hn (all d (by rw [hx]; simp))
      exact ⟨[.cel .io (.lst b), a1, a2, a3, a4, a5, .val d], .inl (by simp [turnL, b1_l_right, hp, g1, g2]), _, rfl, rfl⟩
  rw [List.map_id'] at h3
  exact ⟨s6', h4, h3⟩
theorem c_l_right {n c : Nat} (hn : 5 ≤ n) {b : List D} (hb : BoxOk c b) (hc : c < 1000) : ∃ b', pg.call n 13 (some (.lst b)) [] = .ok (.bl true, some (.lst b')) := by
  let I : List Nat → Ev → Prop := fun pre e => ∃ (b : List D) (a1 a2 a3 a4 a5 a6 : Sl), e = [.cel .io (.lst b), a1, a2, a3, a4, a5, a6] ∧ BoxOk (c + 100 * pre.length) b ∧ pl a1 = true ∧ pl a2 = true ∧ pl a3 = true ∧ pl a4 = true ∧ pl a5 = true ∧ pl a6 = true
  obtain ⟨e', h1, b', a1, a2, a3, a4, a5, a6, rfl, _⟩ := for_inv (put := (Tg.nm 1).put) (body := evSs (pS (n - 1)) b2_l_right) (xs := List.range 12) (g := fun i => .int i) (e := [.cel .io (.lst b), .no, .no, .no, .no, .no, .no]) I ⟨b, _, _, _, _, _, _, rfl, hb, rfl, rfl, rfl, rfl, rfl, rfl⟩ fun pre x post e hx hI => by
    obtain ⟨b, a1, a2, a3, a4, a5, a6, rfl, hb, p1, p2, p3, p4, p5, p6⟩ := hI
    have hpl : pre.length < 12 := by
      have := congrArg List.length hx
      simp at this
      omega
    obtain ⟨r1, b1, t1, t2, t3, hb1⟩ := c_l_take (n := n - 1) (by omega) hb (by omega) (smallM.of (m := 7) (by decide) (by decide))
    obtain ⟨r2, b2, t4, t5, t6, hb2⟩ := c_l_take (n := n - 1) (by omega) hb1 (by omega) (smallM.of (m := 2) (by decide) (by decide))
    obtain ⟨m, hm⟩ : ∃ m : Nat, 2 + r1 = m := ⟨(2 + r1).toNat, by omega⟩
    -- the word
    have hw : ∃ (w : List Nat) (b3 : List D), ev (pS (n - 1)) (.ite (.p2 .eq (.cio 4 0 (.cons (.lit (.int 2)) .nil)) (.lit (.int 0))) (.cio 9 0 (.cons (.var 2) (.cons (.lit (.int 30)) .nil))) (.cio 8 0 (.cons (.var 2) (.cons (.lit (.int 30)) .nil)))) [.cel .io (.lst b1), .val (.int x), .val (.int m), a3, a4, a5, a6] =
        .ok (.str w, [.cel .io (.lst b3), .val (.int x), .val (.int m), a3, a4, a5, a6]) ∧ w.length ≤ 30 ∧ BoxOk (c + 100 * pre.length + 1 + 1 + 31) b3 := by
      by_cases hr : r2 = 0
      · obtain ⟨w, b3, g1, _, _, g4, g5⟩ := c_l_row (n := n - 1) (by omega) hb2 m 30 (by omega) (by omega) (by omega) (by omega)
        rw [show ((30 : Nat) : Int) = 30 from rfl] at g1
        exact ⟨w, b3, by simp [t4, hr, g1], g4, g5⟩
      · obtain ⟨w, b3, g1, _, g4, g5⟩ := c_l_word (n := n - 1) (by omega) hb2 m 30 (by omega) (by omega) (by omega) (by omega)
        rw [show ((30 : Nat) : Int) = 30 from rfl] at g1
        exact ⟨w, b3, by simp [t4, hr, g1], g4, g5⟩
    obtain ⟨w, b3, hw1, hw2, hb3⟩ := hw
    obtain ⟨r3, b4, t7, t8, t9, hb4⟩ := c_l_take (n := n - 1) (by omega) hb3 (by omega) (smallM.of (m := (w.length : Int) + 1) (by omega) (by omega))
    obtain ⟨k, b5, g1, g2, hb5⟩ := c_l_of_lst (n := n - 1) (by omega) hb4 (by omega) ([[97], [98], [104], [105], [72], [32], [], [55]].map D.str) (by simp) (by simp [bigLine_val])
    obtain ⟨v, hv, rfl⟩ := List.mem_map.mp g2
    have hv2 : v.length ≤ 1 := by
      simp only [List.mem_cons, List.not_mem_nil, or_false] at hv
      rcases hv with rfl | rfl | rfl | rfl | rfl | rfl | rfl | rfl <;> simp
    obtain ⟨s6, hs6, h6⟩ := six (n := n - 1) (by omega) (own := w) (bent := w.take r3.toNat ++ (v ++ w.drop (r3 + 1).toNat)) (by omega) (by
      simp only [List.length_append, List.length_take, List.length_drop]; omega) [.cel .io (.lst b5), .val (.int x), .val (.int m), .val (.str w), .val (.int r3), .val (.str (w.take r3.toNat ++ (v ++ w.drop (r3 + 1).toNat))), a6] b5 _ _ _ _ _ a6 rfl p6
    have q1 : w.length + w.length ≤ bigLine := by rw [bigLine_val]; omega
    refine ⟨[.cel .io (.lst b5), .val (.int x), .val (.int m), .val (.str w), .val (.int r3), .val (.str (w.take r3.toNat ++ (v ++ w.drop (r3 + 1).toNat))), s6], .inl ?_, b5, _, _, _, _, _, _, rfl, ?_, rfl, rfl, rfl, rfl, rfl, hs6⟩
    · unfold b2_l_right
      have q2 : w.length + (w.length - (w.length - 1)) ≤ bigLine := by rw [bigLine_val]; omega
      have q3 : (6 : Nat) ≤ bigLine := by rw [bigLine_val]; omega
      have q4 : (8 : Nat) ≤ bigLine := by rw [bigLine_val]; omega
      have q5 : (1 : Nat) ≤ bigLine := by rw [bigLine_val]; omega
      have q6 : (0 : Int) ≤ r3 + 1 := by omega
      have q7 : min r3.toNat w.length + v.length ≤ bigLine := by rw [bigLine_val]; omega
      have q8 : min r3.toNat w.length + v.length + (w.length - (r3 + 1).toNat) ≤ bigLine := by rw [bigLine_val]; omega
      simp only [List.map_cons, List.map_nil] at g1
      simp [-List.map_take, -List.map_drop, turnL, p1, p2, p3, p4, p5, p6, t1, hm, hw1, t7, t8, g1, q1, q2, q3, q4, q5, q6, q7, q8, h6, Ob.val]
    · rw [List.length_append, List.length_singleton]
      exact hb5.mono (by omega)
  refine ⟨b', ?_⟩
  rw [call_c (show pg.fn 13 = some ⟨_, _, _, _, _⟩ from rfl) (by omega) _ _ rfl]
  have hr : rOk 12 = true := rOk_nn (by omega) (by omega)
  simp [hr, rngD0, h1]
theorem c_l_box {n : Nat} (hn : 1 ≤ n) (zs : List Int) (k : Nat) (hk : k < zs.length) (hk2 : k < 1000) : ∃ b, pg.call n 3 none [.lst (zs.map .int), .int k] = .ok (.lst b, none) ∧ BoxOk 0 b := by
  have e1 : atIx (zs.map D.int) (k : Int) = some (.int zs[k]) := by
    rw [atIx_map, atIx_nat, List.getElem?_eq_getElem hk]
    rfl
  generalize zs[k] = z at e1
  refine ⟨[.int ((if z < 0 then -z else z) * b2i (decide (10 ^ 18 ≤ if z < 0 then -z else z))), .int (z.fmod 2305843009213693951 + 39373 * k + 42004), .int 0], ?_, _, _, _, rfl, ?_, by omega, by omega⟩
  · have m1 : ∀ a b, mulOk a (b2i b) = true := fun a b => mulOk_r _ (by cases b <;> decide)
    have m2 : ∀ a : Int, mulOk 39373 a = true := fun a => mulOk_l _ (by decide)
    have p1 : pOk 10 18 = true := by decide
    rw [call_v (show pg.fn 3 = some ⟨_, _, _, _, _⟩ from rfl) (by omega) _ rfl]
    simp [hk, e1, m1, m2, p1, bigLine_val]
  · refine Int.mul_nonneg (by split <;> omega) ?_
    cases decide (10 ^ 18 ≤ if z < 0 then -z else z) <;> decide
theorem law_run {n : Nat} (hv : 10 ≤ n) (hand : ∃ o, pg.call (n - 1) 12 none [] = .ok (.bl true, o)) (ns : List Int) (hn : ns.length ≤ 63) : ∃ o, pg.call n 14 none [.scr ns] = .ok (.bl true, o) := by
  obtain ⟨o, hand⟩ := hand
  obtain ⟨zs, h1, h2, h3⟩ := c_l_cells (n := n - 1) (by omega) ns hn 3 (by omega) (by omega)
  have hc : ∀ e : Ev, e = [.val (.scr ns), .val (.lst (zs.map .int)), .no] → cmpL (pS (n - 1)) [2] (.nm 2) none (.ciof 13 (.call 3 (.cons (.var 1) (.cons (.var 2) .nil))) .nil) ((List.range zs.length).map fun (i : Nat) => .int i) e = .ok (((List.range zs.length).length, ((List.range zs.length).map fun _ => D.bl true).reverse), e) := fun e he => by
    subst he
    refine cmp_all (List.range zs.length) (fun (i : Nat) => .int i) (fun _ => .bl true) _ rfl (by rw [List.length_range, bigLine_val]; omega) fun k hk => ?_
    have hk' := List.mem_range.mp hk
    obtain ⟨b, g1, g2⟩ := c_l_box (n := n - 1) (by omega) zs k hk' (by omega)
    obtain ⟨b', g3⟩ := c_l_right (n := n - 1) (by omega) g2 (by omega)
    simp [wipeE, g1, g3]
  have hr : rOk (zs.length : Int) = true := rOk_nn (by omega) (by omega)
  have h1' : pg.call (n - 1) 5 none [D.scr ns, D.int 3] = R.ok (D.lst (zs.map D.int), none) := h1
  rw [call_v (show pg.fn 14 = some ⟨_, _, _, _, _⟩ from rfl) (by omega) _ rfl]
  simp [h1', hand, hr, rngD0, hc]
end En.V

/-! K00: what the laws have in common: the box, the end. -/
namespace En.V
def boxB (c : Int) : Ss := (.cons (.asg 2 (.ite (.p2 .lt (.var 1) (.p1 .len (.var 0))) (.p2 .idx (.var 0) (.var 1)) (.lit (.int 0)))) (.cons (.retF (.disp (.cons (.p2 .mul (.p1 .abs (.var 2)) (.p1 .int (.p2 .ge (.p1 .abs (.var 2)) (.p2 .pow (.lit (.int 10)) (.lit (.int 18)))))) (.cons (.p2 .add (.p2 .add (.p2 .mod (.p1 .int (.var 2)) (.lit (.int 2305843009213693951))) (.p2 .mul (.lit (.int 39373)) (.var 1))) (.lit (.int c))) (.cons (.lit (.int 0)) .nil))))) .nil))
def lawB (m : Int) (fh fr fb : Nat) : Ss := (.cons (.asg 1 (.call 5 none (.cons (.var 0) (.cons (.lit (.int m)) .nil)))) (.cons (.ite (.not_ (.call fh none .nil)) (.cons (.ret (.lit (.bl false))) .nil) .nil) (.cons (.ret (.p1 .all (.fr (.comp [2] (.nm 2) (.rng1 (.p1 .len (.var 1))) none (.ciof fr (.call fb (.cons (.var 1) (.cons (.var 2) .nil))) .nil))))) .nil)))
theorem c_box {n f : Nat} {c : Int} (hf : pg.fn f = some ⟨2, 3, false, true, boxB c⟩) (hn : 1 ≤ n) (zs : List Int) (k : Nat) (hk : k < zs.length) (hk2 : k < 1000) : ∃ b, pg.call n f none [.lst (zs.map .int), .int k] = .ok (.lst b, none) ∧ BoxOk 0 b := by
  have e1 : atIx (zs.map D.int) (k : Int) = some (.int zs[k]) := by
    rw [atIx_map, atIx_nat, List.getElem?_eq_getElem hk]
    rfl
  generalize zs[k] = z at e1
  refine ⟨[.int ((if z < 0 then -z else z) * b2i (decide (10 ^ 18 ≤ if z < 0 then -z else z))), .int (z.fmod 2305843009213693951 + 39373 * k + c), .int 0], ?_, _, _, _, rfl, ?_, by omega, by omega⟩
  · have m1 : ∀ a b, mulOk a (b2i b) = true := fun a b => mulOk_r _ (by cases b <;> decide)
    have m2 : ∀ a : Int, mulOk 39373 a = true := fun a => mulOk_l _ (by decide)
    have p1 : pOk 10 18 = true := by decide
    rw [call_v hf (by omega) _ rfl]
    simp [boxB, hk, e1, m1, m2, p1, bigLine_val]
  · refine Int.mul_nonneg (by split <;> omega) ?_
    cases decide (10 ^ 18 ≤ if z < 0 then -z else z) <;> decide
theorem law_any {n fl fh fr fb m : Nat} {c : Int} (hl : pg.fn fl = some ⟨1, 3, false, false, lawB m fh fr fb⟩) (hb : pg.fn fb = some ⟨2, 3, false, true, boxB c⟩) (hv : 3 ≤ n) (hm : 0 < m) (hm2 : m < 64)
    (hand : ∃ o, pg.call (n - 1) fh none [] = .ok (.bl true, o)) (right : ∀ b, BoxOk 0 b → ∃ b', pg.call (n - 1) fr (some (.lst b)) [] = .ok (.bl true, some (.lst b'))) (ns : List Int) (hn : ns.length ≤ 63) : ∃ o, pg.call n fl none [.scr ns] = .ok (.bl true, o) := by
  obtain ⟨o, hand⟩ := hand
  obtain ⟨zs, h1, h2, h3⟩ := c_l_cells (n := n - 1) (by omega) ns hn m hm hm2
  have hc : ∀ e : Ev, e = [.val (.scr ns), .val (.lst (zs.map .int)), .no] → cmpL (pS (n - 1)) [2] (.nm 2) none (.ciof fr (.call fb (.cons (.var 1) (.cons (.var 2) .nil))) .nil) ((List.range zs.length).map fun (i : Nat) => .int i) e = .ok (((List.range zs.length).length, ((List.range zs.length).map fun _ => D.bl true).reverse), e) := fun e he => by
    subst he
    refine cmp_all (List.range zs.length) (fun (i : Nat) => .int i) (fun _ => .bl true) _ rfl (by rw [List.length_range, bigLine_val]; omega) fun k hk => ?_
    have hk' := List.mem_range.mp hk
    obtain ⟨b, g1, g2⟩ := c_box (n := n - 1) hb (by omega) zs k hk' (by omega)
    obtain ⟨b', g3⟩ := right b g2
    simp [wipeE, g1, g3]
  have hr : rOk (zs.length : Int) = true := rOk_nn (by omega) (by omega)
  have h1' : pg.call (n - 1) 5 none [D.scr ns, D.int m] = R.ok (D.lst (zs.map D.int), none) := h1
  rw [call_v hl (by omega) _ rfl]
  simp [lawB, h1', hand, hr, rngD0, hc]
end En.V

/-! M1: rows, reduced words (no program in here). -/
namespace En.V
theorem rowB_nil : rowB [] = true := rfl
theorem rowB_one (a : Nat) : rowB [a] = true := rfl
theorem rowB_tail {a : Nat} {r : List Nat} (h : rowB (a :: r) = true) : rowB r = true := by
  cases r with
  | nil => rfl
  | cons b r => rw [rowB_cons2, Bool.and_eq_true] at h; exact h.2
theorem rowB_ne {a b : Nat} {r : List Nat} (h : rowB (a :: b :: r) = true) : a ≠ b := by
  rw [rowB_cons2, Bool.and_eq_true] at h
  simpa using h.1
theorem rowB_mk {a b : Nat} {r : List Nat} (h : a ≠ b) (h2 : rowB (b :: r) = true) : rowB (a :: b :: r) = true := by
  rw [rowB_cons2, Bool.and_eq_true]
  exact ⟨by simpa using h, h2⟩
theorem rowB_drop {w : List Nat} : ∀ k, rowB w = true → rowB (w.drop k) = true := by
  induction w with
  | nil => intro k _; simp [rowB_nil]
  | cons a r ih =>
    intro k h
    cases k with
    | zero => exact h
    | succ k => exact ih k (rowB_tail h)
theorem rowB_take {w : List Nat} : ∀ k, rowB w = true → rowB (w.take k) = true := by
  induction w with
  | nil => intro k _; simp [rowB_nil]
  | cons a r ih =>
    intro k h
    cases k with
    | zero => rfl
    | succ k =>
      rw [List.take_succ_cons]
      cases r with
      | nil => simp [rowB_one]
      | cons b r =>
        cases k with
        | zero => rfl
        | succ k =>
          have := ih (k + 1) (rowB_tail h)
          rw [List.take_succ_cons] at this ⊢
          exact rowB_mk (rowB_ne h) this
theorem rowB_snoc' {w : List Nat} {a b : Nat} (h : rowB (w ++ [a]) = true) (hn : a ≠ b) : rowB (w ++ [a] ++ [b]) = true := by
  induction w with
  | nil => exact rowB_mk hn (rowB_one b)
  | cons x w ih =>
    cases w with
    | nil => exact rowB_mk (rowB_ne h) (rowB_mk hn (rowB_one b))
    | cons y w => exact rowB_mk (rowB_ne h) (ih (rowB_tail h))
theorem rowB_rev : ∀ {w : List Nat}, rowB w = true → rowB w.reverse = true
  | [], _ => rfl
  | [a], _ => rfl
  | a :: b :: r, h => by
    have ih := rowB_rev (rowB_tail h)
    rw [List.reverse_cons] at ih
    rw [List.reverse_cons, List.reverse_cons]
    exact rowB_snoc' ih (rowB_ne h).symm
/-! ### reducing -/
def stp (st : List Nat) (c : Nat) : List Nat := match st with
  | [] => [c]
  | x :: r => if x = c then r else c :: x :: r
def red (w : List Nat) : List Nat := (w.foldl stp []).reverse
theorem stp_row {st : List Nat} (h : rowB st = true) (c : Nat) : rowB (stp st c) = true := by
  cases st with
  | nil => rfl
  | cons x r =>
    show rowB (if x = c then r else c :: x :: r) = true
    by_cases e : x = c
    · rw [if_pos e]; exact rowB_tail h
    · rw [if_neg e]; exact rowB_mk (Ne.symm e) h
theorem fold_row : ∀ (w : List Nat) {st : List Nat}, rowB st = true → rowB (w.foldl stp st) = true
  | [], _, h => h
  | c :: w, _, h => fold_row w (stp_row h c)
theorem stp_stp {st : List Nat} (h : rowB st = true) (a : Nat) : stp (stp st a) a = st := by
  cases st with
  | nil => simp [stp]
  | cons x r =>
    by_cases e : x = a
    · subst e
      rw [show stp (x :: r) x = r by simp [stp]]
      cases r with
      | nil => rfl
      | cons y r =>
        have := rowB_ne h
        simp [stp, Ne.symm this]
    · rw [show stp (x :: r) a = a :: x :: r by simp [stp, e]]
      simp [stp]
theorem red_drop (u v : List Nat) (a : Nat) : red (u ++ a :: a :: v) = red (u ++ v) := by
  unfold red
  rw [List.foldl_append, List.foldl_append, List.foldl_cons, List.foldl_cons, stp_stp (fold_row u rowB_nil)]
theorem push_row : ∀ (r : List Nat) (c : Nat) (st : List Nat), rowB (c :: r) = true → r.foldl stp (c :: st) = r.reverse ++ c :: st
  | [], c, st, _ => rfl
  | d :: r, c, st, h => by
    rw [List.foldl_cons, show stp (c :: st) d = d :: c :: st by simp [stp, rowB_ne h], push_row r d (c :: st) (rowB_tail h), List.reverse_cons, List.append_assoc]
    rfl
theorem fold_nil_row {w : List Nat} (h : rowB w = true) : w.foldl stp [] = w.reverse := by
  cases w with
  | nil => rfl
  | cons c r =>
    rw [List.foldl_cons, show stp [] c = [c] from rfl, push_row r c [] h, List.reverse_cons]
theorem red_row {w : List Nat} (h : rowB w = true) : red w = w := by
  unfold red
  rw [fold_nil_row h, List.reverse_reverse]
/-- with how many letters two rows begin alike -/
def lcp : List Nat → List Nat → Nat
  | a :: x, b :: y => if a = b then lcp x y + 1 else 0
  | _, _ => 0
theorem lcp_le : ∀ (x y : List Nat), lcp x y ≤ x.length ∧ lcp x y ≤ y.length
  | [], _ => by simp [lcp]
  | _ :: _, [] => by simp [lcp]
  | a :: x, b :: y => by
    have := lcp_le x y
    rw [lcp]
    split <;> simp <;> omega
theorem fold_join : ∀ (two st : List Nat), rowB st = true → rowB two = true → two.foldl stp st = (two.drop (lcp st two)).reverse ++ st.drop (lcp st two)
  | [], st, _, _ => by cases st <;> simp [lcp]
  | c :: r, [], _, h => by
    rw [fold_nil_row h]
    simp [lcp]
  | c :: r, x :: s, h1, h2 => by
    by_cases e : x = c
    · subst e
      rw [List.foldl_cons, show stp (x :: s) x = s by simp [stp], fold_join r s (rowB_tail h1) (rowB_tail h2)]
      simp [lcp]
    · rw [List.foldl_cons, show stp (x :: s) c = c :: x :: s by simp [stp, e], push_row r c (x :: s) h2]
      simp [lcp, e]
def jn (one two : List Nat) : List Nat := one.take (one.length - lcp one.reverse two) ++ two.drop (lcp one.reverse two)
theorem red_join {one two : List Nat} (h1 : rowB one = true) (h2 : rowB two = true) : red (one ++ two) = jn one two := by
  unfold red jn
  rw [List.foldl_append, fold_nil_row h1, fold_join two _ (rowB_rev h1) h2, List.reverse_append, List.reverse_reverse, List.drop_reverse, List.reverse_reverse]
theorem red_is_row (w : List Nat) : rowB (red w) = true := rowB_rev (fold_row w rowB_nil)
theorem lcp_self : ∀ x : List Nat, lcp x x = x.length
  | [] => rfl
  | a :: x => by simp [lcp, lcp_self x]
theorem jn_back (w : List Nat) : jn w w.reverse = [] := by
  unfold jn
  rw [lcp_self]
  simp
theorem jn_nil (w : List Nat) : jn w [] = w := by
  unfold jn
  cases h : w.reverse <;> simp [lcp]
theorem nil_jn (w : List Nat) : jn [] w = w := by
  unfold jn
  simp [lcp]
theorem red_len (w : List Nat) : (red w).length ≤ w.length := by
  unfold red
  rw [List.length_reverse]
  have : ∀ (w st : List Nat), (w.foldl stp st).length ≤ st.length + w.length := by
    intro w
    induction w with
    | nil => intro st; simp
    | cons c w ih =>
      intro st
      rw [List.foldl_cons]
      refine Nat.le_trans (ih _) ?_
      have : (stp st c).length ≤ st.length + 1 := by
        cases st with
        | nil => simp [stp]
        | cons x r => simp only [stp]; split <;> simp <;> omega
      simp
      omega
  simpa using this w []
end En.V

/-! K05a: rows: reduced, back, shared, joined. -/
namespace En.V
abbrev chr (c : Nat) : D := .str [c]
theorem popOb_snoc (l : List D) (x : D) : popOb (.lst (l ++ [x])) = .ok (x, .lst l) := by
  simp [popOb]
theorem c_m_rows_reduced {n : Nat} (hn : 1 ≤ n) (w : List Nat) (hw : w.length ≤ bigLine) : pg.call n 15 none [.str w] = .ok (.str (red w), none) := by
  have hb := hw
  rw [bigLine_val] at hb
  obtain ⟨e', h1, s2, rfl, p2⟩ := for_inv (put := (Tg.nm 2).put) (body := evSs (pS (n - 1)) b1_m_rows_reduced) (xs := w) (g := chr) (e := [.val (.str w), .cel .own (.lst []), .no])
    (fun pre e => ∃ s2, e = [.val (.str w), .cel .own (.lst ((pre.foldl stp []).reverse.map chr)), s2] ∧ pl s2 = true) ⟨_, rfl, rfl⟩ fun pre x post e hx ⟨s2, he, p2⟩ => by
      subst he
      have hl : (pre.foldl stp []).length ≤ pre.length := by have := red_len pre; unfold red at this; simpa using this
      have hpl : pre.length < w.length := by rw [hx]; simp
      refine ⟨[.val (.str w), .cel .own (.lst (((pre ++ [x]).foldl stp []).reverse.map chr)), .val (chr x)], .inl ?_, _, rfl, rfl⟩
      rw [List.foldl_append]
      generalize pre.foldl stp [] = st at hl
      cases st with
      | nil => simp [turnL, b1_m_rows_reduced, p2, stp, Ob.val, appOb, bigLine_val]
      | cons y r =>
        have hl2 : r.length + 1 < bigLine := by rw [bigLine_val]; simp at hl; omega
        have e4 : (0 : Int) < (r.length : Int) + 1 := by omega
        by_cases hyx : y = x
        · subst hyx
          simp [turnL, b1_m_rows_reduced, p2, stp, Ob.val, popOb_snoc, e4]
        · simp [turnL, b1_m_rows_reduced, p2, stp, Ob.val, appOb, hyx, hl2, e4]
  rw [call_v (show pg.fn 15 = some ⟨_, _, _, _, _⟩ from rfl) (by omega) _ rfl]
  have ht := textsD_map (fun c : Nat => [c]) (w.foldl stp []).reverse
  have hj : joinD [] (((w.foldl stp []).reverse.map fun c => [c])) = .ok (.str (red w)) := by
    rw [joinD_nil _ (by rw [flat_one]; exact Nat.le_trans (red_len w) hw), flat_one]
    rfl
  have ht2 : textsD ((w.foldl stp []).reverse.map chr) = _ := ht
  simp [-List.map_reverse, Ob.val, h1, ht2, hj]
theorem c_m_rows_back {n : Nat} (hn : 1 ≤ n) (w : List Nat) : pg.call n 16 none [.str w] = .ok (.str w.reverse, none) := by
  rw [call_v (show pg.fn 16 = some ⟨_, _, _, _, _⟩ from rfl) (by omega) _ rfl]
  simp
theorem whileL_run {test : M Bool} {body : M Fl} (f : Nat → Ev) (k : Nat) : ∀ (N j : Nat), j ≤ k → k - j < N → (∀ i, i < k → test (f i) = .ok (true, f i) ∧ body (f i) = .ok (.nx, f (i + 1))) → test (f k) = .ok (false, f k) → whileL test body N (f j) = .ok (.nx, f k)
  | 0, j, _, h, _, _ => by omega
  | N + 1, j, hj, h, hs, he => by
    show R.bind (test (f j)) _ = _
    by_cases hk : j = k
    · subst hk
      rw [he]
      rfl
    · obtain ⟨h1, h2⟩ := hs j (by omega)
      rw [h1]
      show R.bind (body (f j)) _ = _
      rw [h2]
      exact whileL_run f k N (j + 1) (by omega) (by omega) hs he
theorem lcp_get : ∀ (x y : List Nat) (i : Nat), i < lcp x y → x[i]? = y[i]?
  | [], y, i, h => by simp [lcp] at h
  | _ :: _, [], i, h => by simp [lcp] at h
  | a :: x, b :: y, i, h => by
    rw [lcp] at h
    split at h
    · rename_i e
      subst e
      cases i with
      | zero => rfl
      | succ i => simpa using lcp_get x y i (by omega)
    · omega
theorem lcp_end : ∀ (x y : List Nat), lcp x y < x.length → lcp x y < y.length → x[lcp x y]? ≠ y[lcp x y]?
  | [], y, h, _ => by simp at h
  | _ :: _, [], _, h => by simp at h
  | a :: x, b :: y, h1, h2 => by
    rw [lcp] at h1 h2 ⊢
    split
    · rename_i e
      rw [if_pos e] at h1 h2
      simpa using lcp_end x y (by simpa using h1) (by simpa using h2)
    · rename_i e
      simpa using e
theorem c_m_rows_shared {n : Nat} (hn : 1 ≤ n) (x y : List Nat) (hx : x.length < 100000) : pg.call n 17 none [.str x, .str y] = .ok (.int (lcp x y), none) := by
  rw [call_v (show pg.fn 17 = some ⟨_, _, _, _, _⟩ from rfl) (by omega) _ rfl]
  have hle := lcp_le x y
  let m : Int := if (y.length : Int) < x.length then y.length else x.length
  have h := whileL_run (test := evT (pS (n - 1)) (.and_ (.p2 .lt (.var 2) (.var 3)) (.p2 .eq (.p2 .idx (.var 0) (.var 2)) (.p2 .idx (.var 1) (.var 2))))) (body := evSs (pS (n - 1)) b1_m_rows_shared)
    (fun i => [.val (.str x), .val (.str y), .val (.int i), .val (.int m)]) (lcp x y) pg.wf 0 (Nat.zero_le _) (by show _ < 100000; omega) (fun i hi => by
      have e1 := lcp_get x y i hi
      rw [List.getElem?_eq_getElem (by omega), List.getElem?_eq_getElem (by omega)] at e1
      have e2 := Option.some.inj e1
      have hm : (i : Int) < m := by simp only [m]; split <;> omega
      refine ⟨?_, ?_⟩
      · simp [hm, atIx_nat, List.getElem?_eq_getElem (show i < x.length by omega), List.getElem?_eq_getElem (show i < y.length by omega), e2]
      · simp [b1_m_rows_shared]) (by
      by_cases hm : (lcp x y : Int) < m
      · have h3 : lcp x y < x.length ∧ lcp x y < y.length := by simp only [m] at hm; split at hm <;> omega
        have e1 := lcp_end x y h3.1 h3.2
        rw [List.getElem?_eq_getElem h3.1, List.getElem?_eq_getElem h3.2] at e1
        have e2 : ¬ x[lcp x y] = y[lcp x y] := fun e => e1 (by rw [e])
        simp [hm, atIx_nat, List.getElem?_eq_getElem h3.1, List.getElem?_eq_getElem h3.2, e2]
      · simp [hm])
  have h' : whileL (evT (pS (n - 1)) (.and_ (.p2 .lt (.var 2) (.var 3)) (.p2 .eq (.p2 .idx (.var 0) (.var 2)) (.p2 .idx (.var 1) (.var 2))))) (evSs (pS (n - 1)) b1_m_rows_shared) pg.wf [.val (.str x), .val (.str y), .val (.int 0), .val (.int m)] = .ok (.nx, [.val (.str x), .val (.str y), .val (.int (lcp x y)), .val (.int m)]) := h
  simp only [m, Int.ofNat_lt] at h'
  simp [-evT_ap, h']
theorem c_m_rows_joined {n : Nat} (hn : 2 ≤ n) (x y : List Nat) (hx : x.length < 100000) (hy : y.length < 100000) : pg.call n 18 none [.str x, .str y] = .ok (.str (jn x y), none) := by
  rw [call_v (show pg.fn 18 = some ⟨_, _, _, _, _⟩ from rfl) (by omega) _ rfl]
  have h1 := c_m_rows_back (n := n - 1) (by omega) x
  have h2 := c_m_rows_shared (n := n - 1) (by omega) x.reverse y (by simpa using hx)
  have hle := lcp_le x.reverse y
  rw [List.length_reverse] at hle
  have e4 : cutL x none (some ((x.length : Int) - (lcp x.reverse y : Int))) = x.take (x.length - lcp x.reverse y) := by
    rw [cutL_hi _ _ (by omega)]
    congr 1
    omega
  have e5 : cutL y (some (lcp x.reverse y : Int)) none = y.drop (lcp x.reverse y) := by
    rw [cutL_lo _ _ (by omega)]
    congr 1
  have e3 : x.length - lcp x.reverse y + (y.length - lcp x.reverse y) ≤ bigLine := by rw [bigLine_val]; omega
  simp [h1, h2, e4, e5, e3, jn]
theorem jn_len (x y : List Nat) : (jn x y).length ≤ x.length + y.length := by
  unfold jn
  simp
  omega
end En.V

/-! K07: rooms behind doors. -/
namespace En.V
/-- a letter more, or one less -/
def nx1 (w : List Nat) (c : Nat) : List Nat := if w.drop (w.length - 1) = [c] then w.dropLast else w ++ [c]
theorem jn_one (w : List Nat) (c : Nat) : jn w [c] = nx1 w c := by
  unfold jn nx1
  rcases List.eq_nil_or_concat w with rfl | ⟨u, x, rfl⟩
  · simp [lcp]
  · by_cases h : x = c
    · subst h
      have : lcp u.reverse [] = 0 := by cases u.reverse <;> rfl
      simp [lcp, this]
    · simp [lcp, h]
      rw [List.take_of_length_le (by simp)]
      simp
theorem nx1_len (w : List Nat) (c : Nat) : (nx1 w c).length ≤ w.length + 1 := by
  unfold nx1
  split <;> simp <;> omega
theorem c_m_rows_next_rooms {n : Nat} (hn : 3 ≤ n) (w : List Nat) (hw : w.length ≤ 1000) (m : Nat) (hm : 2 ≤ m) (hm2 : m ≤ 8) : pg.call n 36 none [.str w, .int m] = .ok (.tup ((letters.take m).map fun c => .str (nx1 w c)), none) := by
  rw [call_v (show pg.fn 36 = some ⟨_, _, _, _, _⟩ from rfl) (by omega) _ rfl]
  have hln := (letters_take (m := m) (by omega) hm2).2
  have h := cmp_all (S := pS (n - 1)) (own := [2]) (tg := .nm 2) (x := .call 18 none (.cons (.var 0) (.cons (.var 2) .nil))) (letters.take m) chr (fun c => .str (nx1 w c)) [.val (.str w), .val (.int m), .no] rfl (by rw [hln, bigLine_val]; omega) fun c hc => by
    have := c_m_rows_joined (n := n - 1) (by omega) w [c] (by omega) (by simp)
    rw [jn_one] at this
    simp [wipeE, this]
  simp only [letters] at h
  have h' : cmpL (pS (n - 1)) [2] (.nm 2) none (.call 18 none (.cons (.var 0) (.cons (.var 2) .nil))) (([97, 98, 99, 100, 101, 102, 103, 104].take m).map fun c => D.str [c]) [.val (.str w), .val (.int m), .no] = _ := h
  simp [-List.map_take, h', letters]
theorem c_l_next {n : Nat} (hn : 1 ≤ n) (w : List Nat) (hw : w.length ≤ 1000) (m : Nat) (hm : 2 ≤ m) (hm2 : m ≤ 8) : pg.call n 41 none [.str w, .int m] = .ok (.tup ((letters.take m).map fun c => .str (nx1 w c)), none) := by
  rw [call_v (show pg.fn 41 = some ⟨_, _, _, _, _⟩ from rfl) (by omega) _ rfl]
  have hln := (letters_take (m := m) (by omega) hm2).2
  obtain ⟨e', h1, s3, rfl, p3⟩ := for_inv (put := (Tg.nm 3).put) (body := evSs (pS (n - 1)) b1_l_next) (xs := letters.take m) (g := chr) (e := [.val (.str w), .val (.int m), .cel .own (.lst []), .no])
    (fun pre e => ∃ s3, e = [.val (.str w), .val (.int m), .cel .own (.lst (pre.map fun c => .str (nx1 w c))), s3] ∧ pl s3 = true) ⟨_, rfl, rfl⟩ fun pre x post e hx ⟨s3, he, p3⟩ => by
      subst he
      have hpl : pre.length < bigLine := by
        have := congrArg List.length hx
        rw [hln] at this
        rw [bigLine_val]
        simp at this
        omega
      have hw1 : w.length + 1 ≤ bigLine := by rw [bigLine_val]; omega
      refine ⟨[.val (.str w), .val (.int m), .cel .own (.lst ((pre ++ [x]).map fun c => .str (nx1 w c))), .val (chr x)], .inl ?_, _, rfl, rfl⟩
      by_cases h : w.drop (w.length - 1) = [x]
      · simp [turnL, b1_l_next, p3, Ob.val, appOb, hpl, nx1, h]
      · simp [turnL, b1_l_next, p3, Ob.val, appOb, hpl, nx1, h, hw1]
  simp only [letters] at h1
  have h1' : forL (Tg.nm 3).put (evSs (pS (n - 1)) b1_l_next) (([97, 98, 99, 100, 101, 102, 103, 104].take m).map fun c => D.str [c]) [.val (.str w), .val (.int m), .cel .own (.lst []), .no] = _ := h1
  simp [-List.map_take, h1', letters, bigLine_val, Ob.val]
theorem c_m_rows_begins {n : Nat} (hn : 1 ≤ n) (x y : List Nat) : pg.call n 37 none [.str x, .str y] = .ok (.bl (y.take x.length == x), none) := by
  rw [call_v (show pg.fn 37 = some ⟨_, _, _, _, _⟩ from rfl) (by omega) _ rfl]
  simp
theorem c_l_begins {n : Nat} (hn : 1 ≤ n) (x y : List Nat) (hx : x.length ≤ 1000) : pg.call n 42 none [.str x, .str y] = .ok (.bl (y.take x.length == x), none) := by
  rw [call_v (show pg.fn 42 = some ⟨_, _, _, _, _⟩ from rfl) (by omega) _ rfl]
  by_cases h : y.length < x.length
  · have : (y.take x.length == x) = false := by
      rw [beq_eq_false_iff_ne]
      intro e
      have := congrArg List.length e
      simp at this
      omega
    simp [h, this]
  · have hc := cmp_fil (S := pS (n - 1)) (own := [2]) (tg := .nm 2) (c := .p2 .ne (.p2 .idx (.var 0) (.var 2)) (.p2 .idx (.var 1) (.var 2))) (x := .var 2) (List.range x.length) (fun i => .int i) (fun i => .int i) (fun i => x[i]? != y[i]?) [.val (.str x), .val (.str y), .no] rfl (by rw [List.length_range, bigLine_val]; omega) fun i hi => by
      have hi' := List.mem_range.mp hi
      have h1 : i < y.length := by omega
      by_cases he : x[i] = y[i]
      · simp [oneB, wipeE, atIx_nat, List.getElem?_eq_getElem hi', List.getElem?_eq_getElem h1, he]
      · simp [oneB, wipeE, atIx_nat, List.getElem?_eq_getElem hi', List.getElem?_eq_getElem h1, he]
    have hr : rOk (x.length : Int) = true := rOk_nn (by omega) (by omega)
    have hf : ((List.range x.length).filter fun i => x[i]? != y[i]?).isEmpty = (y.take x.length == x) := by
      rw [Bool.eq_iff_iff, List.isEmpty_iff, List.filter_eq_nil_iff, beq_iff_eq]
      constructor
      · intro h2
        refine List.ext_getElem? fun i => ?_
        rw [List.getElem?_take]
        by_cases hi : i < x.length
        · have := h2 i (List.mem_range.mpr hi)
          rw [if_pos hi]
          simp only [bne_iff_ne, ne_eq, Classical.not_not] at this
          exact this.symm
        · rw [if_neg hi, List.getElem?_eq_none (by omega)]
      · intro h2 i hi
        have hi' := List.mem_range.mp hi
        have := congrArg (fun l : List Nat => l[i]?) h2
        simp only [List.getElem?_take, if_pos hi'] at this
        simp only [bne_iff_ne, ne_eq, Classical.not_not]
        exact this.symm
    simp [h, hr, rngD0, hc, hf, bigLine_val]
theorem c_m_rows_rooms_of {n : Nat} (hn : 1 ≤ n) (w : List Nat) : pg.call n 38 none [.str w] = .ok (.tup [.str w.dropLast, .str w], none) := by
  rw [call_v (show pg.fn 38 = some ⟨_, _, _, _, _⟩ from rfl) (by omega) _ rfl]
  simp [bigLine_val]
theorem c_l_way {n c : Nat} (hn : 4 ≤ n) {b : List D} (hb : BoxOk c b) (m l : Nat) (hm : 2 ≤ m) (hm2 : m ≤ 8) (hl : l ≤ 1000000) (hc : c + (l + 2) < 1152921504606846976) :
    ∃ (w : List Nat) (b' : List D), pg.call n 40 (some (.lst b)) [.int m, .int l] = .ok (.str w, some (.lst b')) ∧ rowB w = true ∧ (∀ k ∈ w, k ∈ letters.take m) ∧ w ≠ [] ∧ w.length ≤ l + 1 ∧ BoxOk (c + (l + 2)) b' := by
  obtain ⟨w, b1, h1, h2, h3, h4, h5⟩ := c_l_row (n := n - 1) (by omega) hb m l hm hm2 hl (by omega)
  obtain ⟨hne, hln⟩ := letters_take (m := m) (by omega) hm2
  by_cases hw : w = []
  · subst hw
    obtain ⟨k, b2, g1, g2, g3⟩ := c_l_of_str (n := n - 1) (by omega) h5 (by omega) (letters.take m) hne (by rw [hln, bigLine_val]; omega)
    refine ⟨[k], b2, ?_, rfl, fun j hj => by rw [List.mem_singleton.mp hj]; exact g2, by simp, by simp, g3.mono (by omega)⟩
    rw [call_c (show pg.fn 40 = some ⟨_, _, _, _, _⟩ from rfl) (by omega) _ _ rfl]
    simp only [letters] at g1
    simp [h1, g1]
  · refine ⟨w, b1, ?_, h2, h3, hw, by omega, h5.mono (by omega)⟩
    rw [call_c (show pg.fn 40 = some ⟨_, _, _, _, _⟩ from rfl) (by omega) _ _ rfl]
    simp [h1, hw]
/-- a row of plain answers -/
structure Rw (l : List D) (k : Nat) : Prop where
  len : l.length ≤ k
  good : goodDs l = true
  dep : D.depths l ≤ 1
theorem goods_append {l m : List D} (h : goodDs l = true) (h2 : goodDs m = true) : goodDs (l ++ m) = true := goods_of fun d hd => (List.mem_append.mp hd).elim (goods_mem h d) (goods_mem h2 d)
theorem depths_append {l m : List D} {k : Nat} (h : D.depths l ≤ k) (h2 : D.depths m ≤ k) : D.depths (l ++ m) ≤ k := depths_of fun d hd => (List.mem_append.mp hd).elim (fun z => Nat.le_trans (depths_mem d z) h) (fun z => Nat.le_trans (depths_mem d z) h2)
theorem Rw.add {l m : List D} {k j : Nat} (h : Rw l k) (h2 : Rw m j) : Rw (l ++ m) (k + j) := ⟨by rw [List.length_append]; have := h.len; have := h2.len; omega, goods_append h.good h2.good, depths_append h.dep h2.dep⟩
theorem Rw.same {l : List D} {k : Nat} (h : Rw l k) (hk : k ≤ 1000) {n : Nat} (hn : 3 ≤ n) : pg.call n 7 none [.lst l, .lst l] = .ok (.bl true, none) :=
  c_l_same_refl 2 (.lst l) (by rw [goodD, Bool.and_eq_true]; exact ⟨decide_eq_true (by have := h.len; rw [bigLine_val]; omega), h.good⟩) (by rw [D.depth]; have := h.dep; omega) n hn
theorem beg_in {n : Nat} (hn : 1 ≤ n) (b : List D) (s1 s2 s3 : Sl) (l : List D) (k : Nat) (hk : k ≤ 100) (hl : Rw l k) (x : List Nat) (hx : x.length ≤ 1000) (s7 s8 s9 s10 : Sl) (p10 : pl s10 = true) (ys : List (List Nat)) (hys : ys.length ≤ 3) :
    ∃ l' s10', forL (Tg.nm 10).put (evSs (pS n) b1_l_right_4) (ys.map D.str) [.cel .io (.lst b), s1, s2, s3, .val (.lst l), .val (.lst l), .val (.str x), s7, s8, s9, s10] = .ok (.nx, [.cel .io (.lst b), s1, s2, s3, .val (.lst l'), .val (.lst l'), .val (.str x), s7, s8, s9, s10']) ∧ pl s10' = true ∧ Rw l' (k + 6) := by
  obtain ⟨e', h1, l', s10', rfl, p, r⟩ := for_inv (put := (Tg.nm 10).put) (body := evSs (pS n) b1_l_right_4) (xs := ys) (g := D.str) (e := [.cel .io (.lst b), s1, s2, s3, .val (.lst l), .val (.lst l), .val (.str x), s7, s8, s9, s10])
    (fun pre e => ∃ l s10, e = [.cel .io (.lst b), s1, s2, s3, .val (.lst l), .val (.lst l), .val (.str x), s7, s8, s9, s10] ∧ pl s10 = true ∧ Rw l (k + 2 * pre.length)) ⟨l, s10, rfl, p10, hl⟩ fun pre y post e he ⟨l, s10, h2, p10, hl⟩ => by
      subst h2
      have hpl : pre.length < 3 := by have := congrArg List.length he; simp at this; omega
      have g1 := c_m_rows_begins hn x y
      have g2 := c_l_begins hn x y hx
      have e1 : l.length + 2 ≤ bigLine := by have := hl.len; rw [bigLine_val]; omega
      have e2 : (2 : Nat) ≤ bigLine := by decide
      have e3 : (1 : Nat) ≤ bigLine := by decide
      have j2 : jOk 2 = true := by decide
      have t2 : Int.toNat 2 = 2 := rfl
      have f2 : (List.replicate 2 [D.bl (y.take x.length == x)]).flatten = [.bl (y.take x.length == x), .bl (y.take x.length == x)] := rfl
      refine ⟨[.cel .io (.lst b), s1, s2, s3, .val (.lst (l ++ [.bl (y.take x.length == x), .bl (y.take x.length == x)])), .val (.lst (l ++ [.bl (y.take x.length == x), .bl (y.take x.length == x)])), .val (.str x), s7, s8, s9, .val (.str y)], .inl ?_, _, _, rfl, rfl, ?_⟩
      · simp [turnL, b1_l_right_4, p10, permD, g1, g2, e1, e2, e3, j2, t2, f2]
      · rw [List.length_append, List.length_singleton]
        exact hl.add (m := [.bl (y.take x.length == x), .bl (y.take x.length == x)]) (j := 2) ⟨by simp, by simp [goodDs, goodD], by simp [D.depths, D.depth]⟩
  exact ⟨l', s10', h1, p, ⟨by have := r.len; omega, r.good, r.dep⟩⟩
theorem beg_out {n : Nat} (hn : 1 ≤ n) (b : List D) (s1 s2 : Sl) (l : List D) (k : Nat) (hk : k ≤ 50) (hl : Rw l k) (x y z : List Nat) (hx : x.length ≤ 1000) (hy : y.length ≤ 1000) (hz : z.length ≤ 1000) (s6 s9 s10 : Sl) (p6 : pl s6 = true) (p10 : pl s10 = true) :
    ∃ l' s6' s10', forL (Tg.nm 6).put (evSs (pS n) b2_l_right_4) [.str x, .str y, .str z] [.cel .io (.lst b), s1, s2, .val (.str x), .val (.lst l), .val (.lst l), s6, .val (.str z), .val (.str y), s9, s10] = .ok (.nx, [.cel .io (.lst b), s1, s2, .val (.str x), .val (.lst l'), .val (.lst l'), s6', .val (.str z), .val (.str y), s9, s10']) ∧ pl s6' = true ∧ pl s10' = true ∧ Rw l' (k + 18) := by
  obtain ⟨e', h1, l', s6', s10', rfl, q6, p, r⟩ := for_inv (put := (Tg.nm 6).put) (body := evSs (pS n) b2_l_right_4) (xs := [x, y, z]) (g := D.str) (e := [.cel .io (.lst b), s1, s2, .val (.str x), .val (.lst l), .val (.lst l), s6, .val (.str z), .val (.str y), s9, s10])
    (fun pre e => ∃ l s6 s10, e = [.cel .io (.lst b), s1, s2, .val (.str x), .val (.lst l), .val (.lst l), s6, .val (.str z), .val (.str y), s9, s10] ∧ pl s6 = true ∧ pl s10 = true ∧ Rw l (k + 6 * pre.length)) ⟨l, s6, s10, rfl, p6, p10, hl⟩ fun pre u post e he ⟨l, s6, s10, h2, p6, p10, hl⟩ => by
      subst h2
      have hpl : pre.length < 3 := by have := congrArg List.length he; simp at this; omega
      have hu : u.length ≤ 1000 := by
        have : u ∈ [x, y, z] := by rw [he]; simp
        simp only [List.mem_cons, List.not_mem_nil, or_false] at this
        rcases this with rfl | rfl | rfl <;> assumption
      obtain ⟨l', s10', g1, g2, g3⟩ := beg_in hn b s1 s2 (.val (.str x)) l (k + 6 * pre.length) (by omega) hl u hu (.val (.str z)) (.val (.str y)) s9 s10 p10 [x, y, z] (by simp)
      refine ⟨[.cel .io (.lst b), s1, s2, .val (.str x), .val (.lst l'), .val (.lst l'), .val (.str u), .val (.str z), .val (.str y), s9, s10'], .inl ?_, l', _, _, rfl, rfl, g2, ?_⟩
      · simp only [List.map_cons, List.map_nil] at g1
        have e3 : (3 : Nat) ≤ bigLine := by decide
        simp [turnL, b2_l_right_4, p6, e3, g1]
      · rw [List.length_append, List.length_singleton]
        exact ⟨by have := g3.len; omega, g3.good, g3.dep⟩
  exact ⟨l', s6', s10', h1, q6, p, ⟨by have := r.len; simpa using this, r.good, r.dep⟩⟩
theorem goods_strs {α : Type} (f : α → List Nat) (xs : List α) : goodDs (xs.map fun x => D.str (f x)) = true := goods_of fun d hd => by obtain ⟨x, _, rfl⟩ := List.mem_map.mp hd; rfl
theorem depths_strs {α : Type} (f : α → List Nat) (xs : List α) : D.depths (xs.map fun x => D.str (f x)) ≤ 0 := depths_of fun d hd => by obtain ⟨x, _, rfl⟩ := List.mem_map.mp hd; exact Nat.le_refl _
theorem right07 {n : Nat} (hn : 6 ≤ n) {b : List D} (hb : BoxOk 0 b) : ∃ b', pg.call n 44 (some (.lst b)) [] = .ok (.bl true, some (.lst b')) := by
  let I : List Nat → Ev → Prop := fun pre e => ∃ (b : List D) (a1 a2 a3 a4 a5 a6 a7 a8 a9 a10 : Sl), e = [.cel .io (.lst b), a1, a2, a3, a4, a5, a6, a7, a8, a9, a10] ∧ BoxOk (1000 * pre.length) b ∧ pl a1 = true ∧ pl a2 = true ∧ pl a3 = true ∧ pl a4 = true ∧ pl a5 = true ∧ pl a6 = true ∧ pl a7 = true ∧ pl a8 = true ∧ pl a9 = true ∧ pl a10 = true
  obtain ⟨e', h1, b', a1, a2, a3, a4, a5, a6, a7, a8, a9, a10, rfl, _⟩ := for_inv (put := (Tg.nm 1).put) (body := evSs (pS (n - 1)) b3_l_right_4) (xs := List.range 10) (g := fun i => .int i) (e := [.cel .io (.lst b), .no, .no, .no, .no, .no, .no, .no, .no, .no, .no]) I ⟨b, _, _, _, _, _, _, _, _, _, _, rfl, hb, rfl, rfl, rfl, rfl, rfl, rfl, rfl, rfl, rfl, rfl⟩ fun pre x post e hx hI => by
    obtain ⟨b, a1, a2, a3, a4, a5, a6, a7, a8, a9, a10, rfl, hb, p1, p2, p3, p4, p5, p6, p7, p8, p9, p10⟩ := hI
    have hpl : pre.length < 10 := by
      have := congrArg List.length hx
      simp at this
      omega
    obtain ⟨r1, b1, t1, t2, t3, hb1⟩ := c_l_take (n := n - 1) (by omega) hb (by omega) (smallM.of (m := 7) (by decide) (by decide))
    obtain ⟨m, hm⟩ : ∃ m : Nat, 2 + r1 = m := ⟨(2 + r1).toNat, by omega⟩
    obtain ⟨w, b2, g1, g2, g3, g4, hb2⟩ := c_l_row (n := n - 1) (by omega) hb1 m 30 (by omega) (by omega) (by omega) (by omega)
    obtain ⟨f, b3, g5, g6, g7, g8, hb3⟩ := c_l_row (n := n - 1) (by omega) hb2 2 6 (by omega) (by omega) (by omega) (by omega)
    obtain ⟨y, b4, g9, g10, g11, g12, g13, hb4⟩ := c_l_way (n := n - 1) (by omega) hb3 m 30 (by omega) (by omega) (by omega) (by omega)
    obtain ⟨r2, b5, t4, t5, t6, hb5⟩ := c_l_take (n := n - 1) (by omega) hb4 (by omega) (smallM.of (m := (w.length : Int) + 1) (by omega) (by omega))
    have hln := (letters_take (m := m) (by omega) (by omega)).2
    let N : D := .tup ((letters.take m).map fun c => .str (nx1 w c))
    have hN : N = .tup ((letters.take m).map fun c => .str (nx1 w c)) := rfl
    have q1 : pg.call (n - 1) 36 none [.str w, .int m] = .ok (N, none) := c_m_rows_next_rooms (by omega) w (by omega) m (by omega) (by omega)
    have q2 : pg.call (n - 1) 41 none [.str w, .int m] = .ok (N, none) := c_l_next (by omega) w (by omega) m (by omega) (by omega)
    have q3 := c_m_rows_rooms_of (n := n - 1) (by omega) y
    have hRw : Rw [N, N, .tup [.str y.dropLast, .str y]] 3 := by
      have z1 : goodD N = true := by
        rw [hN, goodD, Bool.and_eq_true]
        exact ⟨decide_eq_true (by rw [List.length_map, hln, bigLine_val]; omega), goods_strs _ _⟩
      have z2 : N.depth ≤ 1 := by
        rw [hN, D.depth]
        have := depths_strs (nx1 w) (letters.take m)
        omega
      refine ⟨by simp, by simp [goodDs, goodD, z1, bigLine_val], ?_⟩
      simp [D.depths, D.depth]
      omega
    clear_value N
    obtain ⟨l', s6, s10, u1, u2, u3, u4⟩ := beg_out (n := n - 1) (by omega) b5 (.val (.int x)) (.val (.int m)) [N, N, .tup [.str y.dropLast, .str y]] 3 (by omega) hRw (w.take r2.toNat) f w (by rw [List.length_take]; omega) (by omega) (by omega) a6 (.val (.str y)) a10 p6 p10
    have hs := u4.same (by omega) (n := n - 1) (by omega)
    refine ⟨[.cel .io (.lst b5), .val (.int x), .val (.int m), .val (.str (w.take r2.toNat)), .val (.lst l'), .val (.lst l'), s6, .val (.str w), .val (.str f), .val (.str y), s10], .inl ?_, b5, _, _, _, _, _, _, _, _, _, _, rfl, ?_, rfl, rfl, rfl, rfl, rfl, u2, rfl, rfl, rfl, u3⟩
    · have e2 : (2 : Nat) ≤ bigLine := by decide
      have e1 : (1 : Nat) ≤ bigLine := by decide
      have e3 : (3 : Nat) ≤ bigLine := by decide
      have j2 : jOk 2 = true := by decide
      have k2 : Int.toNat 2 = 2 := rfl
      have f2 : (List.replicate 2 [N]).flatten = [N, N] := rfl
      rw [show ((30 : Nat) : Int) = 30 from rfl] at g1 g9
      rw [show ((6 : Nat) : Int) = 6 from rfl, show ((2 : Nat) : Int) = 2 from rfl] at g5
      simp [turnL, b3_l_right_4, p1, p2, p3, p4, p5, p6, p7, p8, p9, p10, t1, hm, g1, g5, g9, t4, t5, q1, q2, q3, permD, e1, e2, e3, j2, k2, f2, u1, hs]
    · rw [List.length_append, List.length_singleton]
      exact hb5.mono (by omega)
  refine ⟨b', ?_⟩
  rw [call_c (show pg.fn 44 = some ⟨_, _, _, _, _⟩ from rfl) (by omega) _ _ rfl]
  have hr : rOk 10 = true := rOk_nn (by omega) (by omega)
  simp [hr, rngD0, h1]
end En.V

/-! M2: from room to room (no program in here). -/
namespace En.V
theorem lcp_comm : ∀ x y : List Nat, lcp x y = lcp y x
  | [], [] => rfl
  | [], _ :: _ => rfl
  | _ :: _, [] => rfl
  | a :: x, b :: y => by
    rw [lcp, lcp, lcp_comm x y]
    by_cases h : a = b
    · rw [if_pos h, if_pos h.symm]
    · rw [if_neg h, if_neg (fun e => h e.symm)]
/-- like beginnings, by their lengths -/
theorem take_eq_iff : ∀ (x y : List Nat) (k : Nat), k ≤ x.length → (x.take k = y.take k ↔ k ≤ lcp x y)
  | x, y, 0, _ => by simp
  | [], y, k + 1, h => by simp at h
  | a :: x, [], k + 1, _ => by simp [lcp]
  | a :: x, b :: y, k + 1, h => by
    rw [lcp, List.take_succ_cons, List.take_succ_cons, List.cons.injEq, take_eq_iff x y k (by simpa using h)]
    by_cases e : a = b
    · simp [e]
    · simp [e]
/-- the two smallest are the same -/
theorem lcp_ultra (x y z : List Nat) : min (lcp x y) (lcp y z) ≤ lcp x z := by
  have h1 := lcp_le x y
  have h2 := lcp_le y z
  refine (take_eq_iff x z _ (by omega)).mp ?_
  rw [(take_eq_iff x y _ (by omega)).mpr (Nat.min_le_left _ _), (take_eq_iff y z _ (by omega)).mpr (Nat.min_le_right _ _)]
/-- the rooms from x to y, in order -/
def wlk (x y : List Nat) : List (List Nat) := (List.range (x.length - lcp x y + 1)).map (fun i => x.take (x.length - i)) ++ (List.range (y.length - lcp x y)).map fun i => y.take (lcp x y + 1 + i)
/-- the ways of the doors -/
def drs (x y : List Nat) : List (List Nat) := (List.range (x.length - lcp x y)).map (fun i => x.take (x.length - i)) ++ (List.range (y.length - lcp x y)).map fun i => y.take (lcp x y + 1 + i)
def pth (x y : List Nat) : List Nat := (x.drop (lcp x y)).reverse ++ y.drop (lcp x y)
def mtg (x y z : List Nat) : List Nat :=
  let s := max (max (lcp x y) (lcp x z)) (lcp y z)
  if lcp y z = s then y.take s else x.take s
theorem mem_wlk {x y w : List Nat} : w ∈ wlk x y ↔ ∃ k, lcp x y ≤ k ∧ ((k ≤ x.length ∧ w = x.take k) ∨ (k ≤ y.length ∧ w = y.take k)) := by
  have hl := lcp_le x y
  unfold wlk
  rw [List.mem_append, List.mem_map, List.mem_map]
  constructor
  · rintro (⟨i, hi, rfl⟩ | ⟨i, hi, rfl⟩)
    · have := List.mem_range.mp hi
      exact ⟨x.length - i, by omega, .inl ⟨by omega, rfl⟩⟩
    · have := List.mem_range.mp hi
      exact ⟨lcp x y + 1 + i, by omega, .inr ⟨by omega, rfl⟩⟩
  · rintro ⟨k, h1, ⟨h2, rfl⟩ | ⟨h2, rfl⟩⟩
    · exact .inl ⟨x.length - k, List.mem_range.mpr (by omega), by congr 1; omega⟩
    · by_cases h : k = lcp x y
      · subst h
        refine .inl ⟨x.length - lcp x y, List.mem_range.mpr (by omega), ?_⟩
        rw [show x.length - (x.length - lcp x y) = lcp x y by omega]
        exact (take_eq_iff x y _ hl.1).mpr (Nat.le_refl _)
      · exact .inr ⟨k - lcp x y - 1, List.mem_range.mpr (by omega), by congr 1; omega⟩
theorem nodup_map {α β : Type} (f : α → β) : ∀ l : List α, l.Nodup → (∀ a ∈ l, ∀ b ∈ l, f a = f b → a = b) → (l.map f).Nodup
  | [], _, _ => List.nodup_nil
  | a :: l, h, i => by
    rw [List.nodup_cons] at h
    rw [List.map_cons, List.nodup_cons]
    refine ⟨fun hm => ?_, nodup_map f l h.2 fun b hb c hc => i b (List.mem_cons_of_mem _ hb) c (List.mem_cons_of_mem _ hc)⟩
    obtain ⟨b, hb, e⟩ := List.mem_map.mp hm
    have := i b (List.mem_cons_of_mem _ hb) a List.mem_cons_self e
    subst this
    exact h.1 hb
theorem wlk_nodup (x y : List Nat) : (wlk x y).Nodup := by
  have hl := lcp_le x y
  unfold wlk
  rw [List.nodup_append]
  refine ⟨nodup_map _ _ List.nodup_range fun a ha b hb e => ?_, nodup_map _ _ List.nodup_range fun a ha b hb e => ?_, fun a ha b hb e => ?_⟩
  · have h1 := List.mem_range.mp ha
    have h2 := List.mem_range.mp hb
    have := congrArg List.length e
    simp at this
    omega
  · have h1 := List.mem_range.mp ha
    have h2 := List.mem_range.mp hb
    have := congrArg List.length e
    simp at this
    omega
  · subst e
    obtain ⟨i, hi, rfl⟩ := List.mem_map.mp ha
    obtain ⟨j, hj, e⟩ := List.mem_map.mp hb
    have h1 := List.mem_range.mp hi
    have h2 := List.mem_range.mp hj
    have h3 := congrArg List.length e
    simp at h3
    have h4 : lcp x y + 1 + j = x.length - i := by omega
    rw [← h4] at e
    have := (take_eq_iff x y _ (by omega)).mp e.symm
    omega
theorem pre_wlk {x y : List Nat} {k : Nat} (hk : k ≤ x.length) (w : List Nat) (hw : w = x.take k) (z : List Nat) : w ∈ wlk y z ↔ lcp y z ≤ k ∧ (k ≤ lcp x y ∨ k ≤ lcp x z) := by
  have hl := lcp_le x y
  have hl2 := lcp_le x z
  rw [mem_wlk]
  constructor
  · rintro ⟨j, h1, ⟨h2, h3⟩ | ⟨h2, h3⟩⟩
    · have h4 : k = j := by
        have := congrArg List.length (hw.symm.trans h3)
        simp at this
        omega
      subst h4
      exact ⟨h1, .inl ((take_eq_iff x y _ hk).mp (hw.symm.trans h3))⟩
    · have h4 : k = j := by
        have := congrArg List.length (hw.symm.trans h3)
        simp at this
        omega
      subst h4
      exact ⟨h1, .inr ((take_eq_iff x z _ hk).mp (hw.symm.trans h3))⟩
  · rintro ⟨h1, h2 | h2⟩
    · exact ⟨k, h1, .inl ⟨by omega, hw.trans ((take_eq_iff x y _ hk).mpr h2)⟩⟩
    · exact ⟨k, h1, .inr ⟨by omega, hw.trans ((take_eq_iff x z _ hk).mpr h2)⟩⟩
theorem lcp_self_le (x : List Nat) (k : Nat) (hk : k ≤ x.length) : k ≤ lcp x x := by rw [lcp_self]; exact hk
/-- the one room that lies between each two -/
theorem mtg_iff (x y z w : List Nat) : (w ∈ wlk x y ∧ w ∈ wlk x z ∧ w ∈ wlk z y) ↔ w = mtg x y z := by
  have hxy := lcp_le x y
  have hxz := lcp_le x z
  have hyz := lcp_le y z
  have u1 := lcp_ultra x y z
  have u2 := lcp_ultra y x z
  have u3 := lcp_ultra x z y
  rw [lcp_comm y x] at u2
  rw [lcp_comm z y] at u3
  have key1 : ∀ k, k ≤ x.length → ((x.take k ∈ wlk x y ∧ x.take k ∈ wlk x z ∧ x.take k ∈ wlk z y) ↔ k = max (lcp x y) (lcp x z) ∧ lcp y z ≤ k) := fun k hk => by
    rw [pre_wlk hk _ rfl, pre_wlk hk _ rfl, pre_wlk hk _ rfl, lcp_self, lcp_comm z y]
    omega
  have key2 : ∀ k, k ≤ y.length → lcp x y < k → ((y.take k ∈ wlk x y ∧ y.take k ∈ wlk x z ∧ y.take k ∈ wlk z y) ↔ k = lcp y z ∧ lcp x z ≤ k) := fun k hk hk2 => by
    rw [pre_wlk hk _ rfl, pre_wlk hk _ rfl, pre_wlk hk _ rfl, lcp_self, lcp_comm y x, lcp_comm z y]
    omega
  have hm : mtg x y z = if lcp y z = max (max (lcp x y) (lcp x z)) (lcp y z) then y.take (max (max (lcp x y) (lcp x z)) (lcp y z)) else x.take (max (max (lcp x y) (lcp x z)) (lcp y z)) := rfl
  constructor
  · rintro ⟨h1, h2, h3⟩
    obtain ⟨k, q1, ⟨q2, rfl⟩ | ⟨q2, rfl⟩⟩ := mem_wlk.mp h1
    · obtain ⟨e1, e2⟩ := (key1 k q2).mp ⟨h1, h2, h3⟩
      rw [hm]
      split
      · rename_i e
        rw [show max (max (lcp x y) (lcp x z)) (lcp y z) = k by omega]
        exact (take_eq_iff x y k q2).mpr (by omega)
      · congr 1
        omega
    · by_cases e : k = lcp x y
      · have e5 : x.take k = y.take k := (take_eq_iff x y k (by omega)).mpr (by omega)
        rw [← e5] at h1 h2 h3 ⊢
        obtain ⟨e1, e2⟩ := (key1 k (by omega)).mp ⟨h1, h2, h3⟩
        rw [hm]
        split
        · rw [show max (max (lcp x y) (lcp x z)) (lcp y z) = k by omega]
          exact e5
        · congr 1
          omega
      · obtain ⟨e1, e2⟩ := (key2 k q2 (by omega)).mp ⟨h1, h2, h3⟩
        rw [hm, if_pos (by omega)]
        congr 1
        omega
  · rintro rfl
    rw [hm]
    split
    · rename_i e
      by_cases h : lcp x y < lcp y z
      · exact (key2 _ (by omega) (by omega)).mpr ⟨e.symm, by omega⟩
      · have e6 : max (max (lcp x y) (lcp x z)) (lcp y z) = lcp x y := by omega
        rw [e6, ← (take_eq_iff x y _ hxy.1).mpr (Nat.le_refl _)]
        exact (key1 _ (by omega)).mpr ⟨by omega, by omega⟩
    · rename_i e
      exact (key1 _ (by omega)).mpr ⟨by omega, by omega⟩
theorem filter_one {α : Type} [DecidableEq α] (p : α → Bool) (m : α) : ∀ l : List α, l.Nodup → m ∈ l → (∀ a ∈ l, p a = true ↔ a = m) → l.filter p = [m]
  | [], _, h, _ => nomatch h
  | a :: l, hn, h, hp => by
    rw [List.nodup_cons] at hn
    by_cases e : a = m
    · subst e
      have h1 : l.filter p = [] := List.filter_eq_nil_iff.mpr fun b hb hc => hn.1 (((hp b (List.mem_cons_of_mem _ hb)).mp hc) ▸ hb)
      rw [List.filter_cons, if_pos ((hp a List.mem_cons_self).mpr rfl), h1]
    · have h2 : m ∈ l := (List.mem_cons.mp h).resolve_left (Ne.symm e)
      rw [List.filter_cons, if_neg (fun hc => e ((hp a List.mem_cons_self).mp hc))]
      exact filter_one p m l hn.2 h2 fun b hb => hp b (List.mem_cons_of_mem _ hb)
theorem wlk_mtg (x y z : List Nat) : ((wlk x y).filter (fun w => decide (w ∈ wlk x z))).filter (fun w => decide (w ∈ wlk z y)) = [mtg x y z] := by
  rw [List.filter_filter]
  refine filter_one _ _ _ (wlk_nodup x y) ((mtg_iff x y z _).mpr rfl).1 fun a ha => ?_
  have := mtg_iff x y z a
  simp only [Bool.and_eq_true, decide_eq_true_eq]
  constructor
  · rintro ⟨h1, h2⟩
    exact this.mp ⟨ha, h2, h1⟩
  · intro e
    have := this.mpr e
    exact ⟨this.2.2, this.2.1⟩
theorem mtg_perm1 (x y z : List Nat) : mtg z y x = mtg x y z := by
  refine ((mtg_iff x y z _).mp ?_)
  have := (mtg_iff z y x _).mpr rfl
  generalize mtg z y x = w at this
  obtain ⟨h1, h2, h3⟩ := this
  refine ⟨h3, ?_, h1⟩
  rw [mem_wlk] at h2 ⊢
  obtain ⟨k, a, b⟩ := h2
  exact ⟨k, by rw [lcp_comm]; exact a, b.symm⟩
theorem wlk_sym {x y w : List Nat} (h : w ∈ wlk x y) : w ∈ wlk y x := by
  rw [mem_wlk] at h ⊢
  obtain ⟨k, a, b⟩ := h
  exact ⟨k, by rw [lcp_comm]; exact a, b.symm⟩
theorem mtg_perm2 (x y z : List Nat) : mtg y z x = mtg x y z := by
  refine ((mtg_iff x y z _).mp ?_)
  have := (mtg_iff y z x _).mpr rfl
  generalize mtg y z x = w at this
  obtain ⟨h1, h2, h3⟩ := this
  exact ⟨wlk_sym h2, h3, wlk_sym h1⟩
end En.V

/-! M3: reflections (no program in here). -/
namespace En.V
theorem red_app (u v : List Nat) : red (red u ++ v) = red (u ++ v) := by
  have h : (red u).foldl stp [] = u.foldl stp [] := by
    rw [fold_nil_row (red_is_row u)]
    unfold red
    rw [List.reverse_reverse]
  unfold red at h ⊢
  rw [List.foldl_append, List.foldl_append, h]
theorem fold_red : ∀ (v : List Nat) {st : List Nat}, rowB st = true → (red v).foldl stp st = v.foldl stp st := fun v => by
  induction hn : v.length generalizing v with
  | zero =>
    intro st _
    rw [List.length_eq_zero_iff.mp hn]
    rfl
  | succ n ih =>
    intro st hst
    obtain ⟨u, c, rfl⟩ : ∃ u c, v = u ++ [c] := by
      rcases List.eq_nil_or_concat v with rfl | ⟨u, c, rfl⟩
      · simp at hn
      · exact ⟨u, c, List.concat_eq_append⟩
    have hu : u.length = n := by simpa using hn
    have h := ih u hu hst
    rw [List.foldl_append, ← h, List.foldl_cons, List.foldl_nil]
    have hr : red (u ++ [c]) = (stp (u.foldl stp []) c).reverse := by
      unfold red
      rw [List.foldl_append]
      rfl
    have hr2 : red u = (u.foldl stp []).reverse := rfl
    rw [hr, hr2]
    generalize u.foldl stp [] = s
    cases s with
    | nil => rfl
    | cons x r =>
      by_cases e : x = c
      · subst e
        rw [show stp (x :: r) x = r by simp [stp], List.reverse_cons, List.foldl_append, List.foldl_cons, List.foldl_nil]
        exact (stp_stp (fold_row _ hst) x).symm
      · rw [show stp (x :: r) c = c :: x :: r by simp [stp, e], List.reverse_cons, List.foldl_append]
        rfl
theorem red_app_r (u v : List Nat) : red (u ++ red v) = red (u ++ v) := by
  unfold red
  rw [List.foldl_append, List.foldl_append]
  exact congrArg List.reverse (fold_red v (fold_row u rowB_nil))
theorem red_red (u : List Nat) : red (red u) = red u := red_row (red_is_row u)
theorem red_rev (u : List Nat) : red u.reverse = (red u).reverse := by
  induction hn : u.length generalizing u with
  | zero =>
    rw [List.length_eq_zero_iff.mp hn]
    rfl
  | succ n ih =>
    obtain ⟨v, c, rfl⟩ : ∃ v c, u = v ++ [c] := by
      rcases List.eq_nil_or_concat u with rfl | ⟨v, c, rfl⟩
      · simp at hn
      · exact ⟨v, c, List.concat_eq_append⟩
    have hv : v.length = n := by simpa using hn
    have h := ih v hv
    rw [List.reverse_append, List.reverse_cons, List.reverse_nil, List.nil_append, ← red_app_r, h]
    have hr : red (v ++ [c]) = (stp (v.foldl stp []) c).reverse := by
      unfold red
      rw [List.foldl_append]
      rfl
    have hr2 : red v = (v.foldl stp []).reverse := rfl
    have hrow : rowB (v.foldl stp []) = true := fold_row v rowB_nil
    rw [hr, hr2, List.reverse_reverse, List.reverse_reverse]
    generalize v.foldl stp [] = s at hrow
    cases s with
    | nil => rfl
    | cons x r =>
      by_cases e : x = c
      · subst e
        rw [show stp (x :: r) x = r by simp [stp]]
        have := red_drop [] r x
        simp only [List.nil_append] at this
        rw [List.singleton_append, this]
        exact red_row (rowB_tail hrow)
      · rw [show stp (x :: r) c = c :: x :: r by simp [stp, e], List.singleton_append]
        exact red_row (rowB_mk (Ne.symm e) hrow)
theorem red_par (u : List Nat) : (red u).length % 2 = u.length % 2 := by
  have key : ∀ (w st : List Nat), (w.foldl stp st).length % 2 = (st.length + w.length) % 2 := by
    intro w
    induction w with
    | nil => intro st; rfl
    | cons c w ih =>
      intro st
      rw [List.foldl_cons, ih]
      have : (stp st c).length % 2 = (st.length + 1) % 2 := by
        cases st with
        | nil => rfl
        | cons x r => simp only [stp]; split <;> simp <;> omega
      simp only [List.length_cons]
      omega
  unfold red
  rw [List.length_reverse, key]
  simp
/-- there and back -/
def pal (w : List Nat) : List Nat := w ++ w.dropLast.reverse
def half (w : List Nat) : List Nat := w.take (w.length / 2 + 1)
theorem pal_snoc (u : List Nat) (c : Nat) : pal (u ++ [c]) = u ++ c :: u.reverse := by simp [pal]
theorem ne_snoc {w : List Nat} (h : w ≠ []) : ∃ u c, w = u ++ [c] := by
  rcases List.eq_nil_or_concat w with rfl | ⟨u, c, rfl⟩
  · exact absurd rfl h
  · exact ⟨u, c, List.concat_eq_append⟩
theorem pal_rev {w : List Nat} (h : w ≠ []) : (pal w).reverse = pal w := by
  obtain ⟨u, c, rfl⟩ := ne_snoc h
  rw [pal_snoc]
  simp
theorem pal_len {w : List Nat} (h : w ≠ []) : (pal w).length = 2 * w.length - 1 := by
  obtain ⟨u, c, rfl⟩ := ne_snoc h
  rw [pal_snoc]
  simp
  omega
theorem rowB_mid : ∀ (a : List Nat) (c : Nat) (b : List Nat), rowB (a ++ [c]) = true → rowB (c :: b) = true → rowB (a ++ c :: b) = true
  | [], c, b, _, h => h
  | [x], c, b, h, h2 => rowB_mk (rowB_ne h) h2
  | x :: y :: a, c, b, h, h2 => rowB_mk (rowB_ne h) (rowB_mid (y :: a) c b (rowB_tail h) h2)
theorem pal_row {w : List Nat} (h : w ≠ []) (hr : rowB w = true) : rowB (pal w) = true := by
  obtain ⟨u, c, rfl⟩ := ne_snoc h
  rw [pal_snoc]
  refine rowB_mid u c _ hr ?_
  have := rowB_rev hr
  rwa [List.reverse_append, List.reverse_cons, List.reverse_nil, List.nil_append, List.singleton_append] at this
theorem half_pal {w : List Nat} (h : w ≠ []) : half (pal w) = w := by
  unfold half
  rw [pal_len h]
  have hl : 0 < w.length := List.length_pos_iff.mpr h
  rw [show (2 * w.length - 1) / 2 + 1 = w.length by omega, pal, List.take_left']
  rfl
/-- an odd row that reads alike from both sides is a palindrome of a way -/
theorem pal_half {w : List Nat} (h : w.reverse = w) (ho : w.length % 2 = 1) : pal (half w) = w := by
  obtain ⟨k, hk⟩ : ∃ k, w.length = 2 * k + 1 := ⟨w.length / 2, by omega⟩
  unfold half pal
  rw [hk, show (2 * k + 1) / 2 + 1 = k + 1 by omega]
  have h1 : (w.take (k + 1)).dropLast = w.take k := by
    rw [List.dropLast_eq_take, List.take_take, List.length_take]
    congr 1
    omega
  have h2 : (w.take k).reverse = w.drop (k + 1) := by
    conv => rhs; rw [← h]
    rw [List.drop_reverse, hk, show 2 * k + 1 - (k + 1) = k by omega]
  rw [h1, h2, List.take_append_drop]
/-- one door seen in another one -/
def sn (one other : List Nat) : List Nat := half (red (pal other ++ pal one ++ pal other))
theorem sn_pal {one other : List Nat} (h1 : one ≠ []) (h2 : other ≠ []) : pal (sn one other) = red (pal other ++ pal one ++ pal other) := by
  refine pal_half ?_ ?_
  · rw [← red_rev, List.reverse_append, List.reverse_append, pal_rev h1, pal_rev h2, List.append_assoc]
  · rw [red_par, List.length_append, List.length_append, pal_len h1, pal_len h2]
    have a1 : 0 < one.length := List.length_pos_iff.mpr h1
    have a2 : 0 < other.length := List.length_pos_iff.mpr h2
    omega
theorem sn_ne {one other : List Nat} (h1 : one ≠ []) (h2 : other ≠ []) : sn one other ≠ [] := fun e => by
  have h := sn_pal h1 h2
  rw [e] at h
  have := red_par (pal other ++ pal one ++ pal other)
  rw [← h, List.length_append, List.length_append, pal_len h1, pal_len h2] at this
  have a1 : 0 < one.length := List.length_pos_iff.mpr h1
  have a2 : 0 < other.length := List.length_pos_iff.mpr h2
  simp [pal] at this
  omega
theorem sn_row (one other : List Nat) : rowB (sn one other) = true := rowB_take _ (red_is_row _)
theorem sn_len {one other : List Nat} (h1 : one ≠ []) (h2 : other ≠ []) : (sn one other).length ≤ one.length + 2 * other.length := by
  unfold sn half
  rw [List.length_take]
  have := red_len (pal other ++ pal one ++ pal other)
  rw [List.length_append, List.length_append, pal_len h1, pal_len h2] at this
  have a1 : 0 < one.length := List.length_pos_iff.mpr h1
  have a2 : 0 < other.length := List.length_pos_iff.mpr h2
  omega
theorem red_snoc (g : List Nat) (c : Nat) : red (g ++ [c]) = nx1 (red g) c := by
  rw [← red_app, red_join (red_is_row g) (rowB_one c), jn_one]
/-- the farther room of the door seen -/
theorem sn_max {one other : List Nat} (h1 : one ≠ []) (h2 : other ≠ []) : maxLenS (red (pal other ++ one.dropLast)) [red (pal other ++ one)] = sn one other := by
  obtain ⟨u, c, rfl⟩ := ne_snoc h1
  have e1 : pal other ++ pal (u ++ [c]) ++ pal other = (pal other ++ (u ++ [c])) ++ (pal other ++ u).reverse := by
    rw [List.reverse_append, pal_rev h2, pal_snoc]
    simp
  have e3 : red (pal other ++ (u ++ [c]) ++ (pal other ++ u).reverse) = red (red (pal other ++ u ++ [c]) ++ (red (pal other ++ u)).reverse) := by
    rw [← red_rev, red_app_r, red_app, List.append_assoc]
    simp
  unfold sn
  rw [e1, e3, List.dropLast_concat, ← List.append_assoc, red_snoc]
  have hg := red_is_row (pal other ++ u)
  generalize red (pal other ++ u) = g at hg
  unfold nx1
  by_cases h : g.drop (g.length - 1) = [c]
  · rw [if_pos h]
    have hgn : g ≠ [] := fun e => by rw [e] at h; simp at h
    obtain ⟨v, x, rfl⟩ := ne_snoc hgn
    have hx : x = c := by simpa using h
    subst hx
    rw [List.dropLast_concat]
    have e2 : v ++ (v ++ [x]).reverse = pal (v ++ [x]) := by rw [pal_snoc]; simp
    rw [e2, red_row (pal_row (by simp) hg), half_pal (by simp), maxLenS, if_neg (by simp)]
    rfl
  · rw [if_neg h]
    have hr : rowB (g ++ [c]) = true := rowB_snoc g c hg (fun e => h e.symm)
    have e2 : g ++ [c] ++ g.reverse = pal (g ++ [c]) := by rw [pal_snoc]; simp
    rw [e2, red_row (pal_row (by simp) hr), half_pal (by simp), maxLenS, if_pos (by simp)]
    rfl
end En.V

/-! K13a: palindromes, doors seen, rooms after. -/
namespace En.V
/-! ### plain -/
theorem red_cancel : ∀ (x u v : List Nat), red (u ++ x ++ x.reverse ++ v) = red (u ++ v) := fun x => by
  induction hn : x.length generalizing x with
  | zero =>
    intro u v
    rw [List.length_eq_zero_iff.mp hn]
    simp
  | succ n ih =>
    intro u v
    obtain ⟨y, c, rfl⟩ := ne_snoc (w := x) (fun e => by rw [e] at hn; simp at hn)
    have h := red_drop (u ++ y) (y.reverse ++ v) c
    have h2 := ih y (by simpa using hn) u v
    have e1 : u ++ (y ++ [c]) ++ (y ++ [c]).reverse ++ v = u ++ y ++ c :: c :: (y.reverse ++ v) := by simp
    rw [e1, h, ← h2]
    simp
theorem pal_cancel {w : List Nat} (hw : w ≠ []) (u v : List Nat) : red (u ++ pal w ++ pal w ++ v) = red (u ++ v) := by
  have := red_cancel (pal w) u v
  rwa [pal_rev hw] at this
/-- where a room goes -/
def aft (r : List Nat) (ws : List (List Nat)) : List Nat := ws.foldl (fun r w => red (pal w ++ r)) r
theorem aft_app (r : List Nat) (a b : List (List Nat)) : aft r (a ++ b) = aft (aft r a) b := List.foldl_append
theorem aft_cons (r w : List Nat) (b : List (List Nat)) : aft r (w :: b) = aft (red (pal w ++ r)) b := rfl
theorem aft_one (r w : List Nat) : aft r [w] = red (pal w ++ r) := rfl
theorem aft_row {r : List Nat} (h : rowB r = true) : ∀ ws, rowB (aft r ws) = true := fun ws => by
  induction ws generalizing r with
  | nil => exact h
  | cons w ws ih => exact ih (red_is_row _)
theorem aft_red : ∀ (ws : List (List Nat)) (r : List Nat), rowB r = true → aft r ws = red (aft [] ws ++ r) := fun ws => by
  have key : ∀ (ws : List (List Nat)) (p r : List Nat), rowB p = true → rowB r = true → aft (red (p ++ r)) ws = red (aft p ws ++ r) := by
    intro ws
    induction ws with
    | nil => intro p r _ _; rfl
    | cons w ws ih =>
      intro p r hp hr
      rw [aft_cons, aft_cons, red_app_r, ← List.append_assoc, ← red_app, ih _ _ (red_is_row _) hr]
  intro r hr
  have := key ws [] r rfl hr
  rwa [List.nil_append, red_row hr] at this
def wayOk (w : List Nat) : Prop := w ≠ [] ∧ rowB w = true ∧ w.length ≤ 100
theorem aft_back : ∀ (ws : List (List Nat)), (∀ w ∈ ws, w ≠ []) → ∀ r, rowB r = true → aft r (ws ++ ws.reverse) = r := fun ws => by
  induction ws with
  | nil => intro _ r _; rfl
  | cons w ws ih =>
    intro hw r hr
    rw [List.reverse_cons, List.cons_append, aft_cons, ← List.append_assoc, aft_app, ih (fun v hv => hw v (List.mem_cons_of_mem _ hv)) _ (red_is_row _), aft_cons]
    show red (pal w ++ red (pal w ++ r)) = r
    rw [red_app_r]
    have := pal_cancel (hw w List.mem_cons_self) [] r
    rw [List.nil_append, List.nil_append, List.append_assoc] at this
    rw [this, red_row hr]
theorem aft_len : ∀ (ws : List (List Nat)) (r : List Nat), (∀ w ∈ ws, wayOk w) → (aft r ws).length ≤ r.length + 200 * ws.length := fun ws => by
  induction ws with
  | nil => intro r _; simp [aft]
  | cons w ws ih =>
    intro r h
    rw [aft_cons]
    have h1 := ih (red (pal w ++ r)) fun v hv => h v (List.mem_cons_of_mem _ hv)
    have h2 := red_len (pal w ++ r)
    obtain ⟨h3, _, h5⟩ := h w List.mem_cons_self
    rw [List.length_append, pal_len h3] at h2
    simp
    omega
/-- two doors exchanged -/
theorem aft_swap1 {a b : List Nat} (ha : a ≠ []) (hb : b ≠ []) (r : List Nat) : aft r [b, sn a b] = aft r [a, b] := by
  show red (pal (sn a b) ++ red (pal b ++ r)) = red (pal b ++ red (pal a ++ r))
  rw [sn_pal ha hb, red_app_r, red_app_r, red_app]
  have := pal_cancel hb (pal b ++ pal a) r
  simp only [List.append_assoc] at this ⊢
  exact this
theorem aft_swap2 {a b : List Nat} (ha : a ≠ []) (hb : b ≠ []) (r : List Nat) : aft r [sn b a, a] = aft r [a, b] := by
  show red (pal a ++ red (pal (sn b a) ++ r)) = red (pal b ++ red (pal a ++ r))
  rw [sn_pal hb ha, red_app_r, red_app_r, ← List.append_assoc]
  have h1 : red (pal a ++ red (pal a ++ pal b ++ pal a) ++ r) = red (red (pal a ++ red (pal a ++ pal b ++ pal a)) ++ r) := (red_app _ _).symm
  rw [h1, red_app_r, red_app]
  have := pal_cancel ha [] (pal b ++ pal a ++ r)
  rw [List.nil_append, List.nil_append] at this
  rw [← List.append_assoc (pal b) (pal a) r, ← this]
  simp
theorem aft_two {w : List Nat} (hw : w ≠ []) {r : List Nat} (hr : rowB r = true) : aft r [w, w] = r := by
  show red (pal w ++ red (pal w ++ r)) = r
  rw [red_app_r]
  have := pal_cancel hw [] r
  rw [List.nil_append, List.nil_append, List.append_assoc] at this
  rw [this, red_row hr]
/-! ### the program's defs -/
theorem c_m_rows_palindrome {n : Nat} (hn : 2 ≤ n) (w : List Nat) (hw : w.length ≤ 100000) : pg.call n 46 none [.str w] = .ok (.str (pal w), none) := by
  rw [call_v (show pg.fn 46 = some ⟨_, _, _, _, _⟩ from rfl) (by omega) _ rfl]
  have h1 := c_m_rows_back (n := n - 1) (by omega) w.dropLast
  have e1 : w.length + (w.length - 1) ≤ bigLine := by rw [bigLine_val]; omega
  simp [h1, e1, pal]
theorem c_m_rows_turned {n : Nat} (hn : 3 ≤ n) (w r : List Nat) (hw : w ≠ []) (hr : rowB w = true) (hr2 : rowB r = true) (hl : w.length ≤ 40000) (hl2 : r.length < 100000) : pg.call n 47 none [.str w, .str r] = .ok (.str (red (pal w ++ r)), none) := by
  rw [call_v (show pg.fn 47 = some ⟨_, _, _, _, _⟩ from rfl) (by omega) _ rfl]
  have h1 := c_m_rows_palindrome (n := n - 1) (by omega) w (by omega)
  have h2 := c_m_rows_joined (n := n - 1) (by omega) (pal w) r (by rw [pal_len hw]; omega) hl2
  rw [← red_join (pal_row hw hr) hr2] at h2
  simp [h1, h2]
theorem c_l_pal {n : Nat} (hn : 1 ≤ n) (w : List Nat) (hw : w.length ≤ 100000) : pg.call n 52 none [.str w] = .ok (.str (pal w), none) := by
  rw [call_v (show pg.fn 52 = some ⟨_, _, _, _, _⟩ from rfl) (by omega) _ rfl]
  have e1 : w.length + (w.length - 1) ≤ bigLine := by rw [bigLine_val]; omega
  simp [e1, pal]
theorem c_l_reduced {n : Nat} (hn : 1 ≤ n) (w : List Nat) (hw : w.length < 1000000) : pg.call n 51 none [.str w] = .ok (.str (red w), none) := by
  obtain ⟨e', h1, s2, rfl, p2⟩ := for_inv (put := (Tg.nm 2).put) (body := evSs (pS (n - 1)) b1_l_reduced) (xs := w) (g := chr) (e := [.val (.str w), .val (.str []), .no])
    (fun pre e => ∃ s2, e = [.val (.str w), .val (.str (red pre)), s2] ∧ pl s2 = true) ⟨_, rfl, rfl⟩ fun pre x post e hx ⟨s2, he, p2⟩ => by
      subst he
      have hl := red_len pre
      have hpl : pre.length < w.length := by rw [hx]; simp
      refine ⟨[.val (.str w), .val (.str (red (pre ++ [x]))), .val (chr x)], .inl ?_, _, rfl, rfl⟩
      rw [red_snoc]
      have e1 : (red pre).length + 1 ≤ bigLine := by rw [bigLine_val]; omega
      generalize red pre = g at e1
      unfold nx1
      by_cases h : g.drop (g.length - 1) = [x]
      · simp [turnL, b1_l_reduced, p2, h]
      · simp [turnL, b1_l_reduced, p2, h, e1]
  rw [call_v (show pg.fn 51 = some ⟨_, _, _, _, _⟩ from rfl) (by omega) _ rfl]
  simp [h1]
theorem c_l_seen {n : Nat} (hn : 2 ≤ n) (a b : List Nat) (ha : a ≠ []) (hb : b ≠ []) (hl : a.length ≤ 10000) (hl2 : b.length ≤ 10000) : pg.call n 53 none [.str a, .str b] = .ok (.str (sn a b), none) := by
  rw [call_v (show pg.fn 53 = some ⟨_, _, _, _, _⟩ from rfl) (by omega) _ rfl]
  have h1 := c_l_pal (n := n - 1) (by omega) a (by omega)
  have h2 := c_l_pal (n := n - 1) (by omega) b (by omega)
  have l1 := pal_len ha
  have l2 := pal_len hb
  have h3 := c_l_reduced (n := n - 1) (by omega) (pal b ++ pal a ++ pal b) (by rw [List.length_append, List.length_append]; omega)
  have e1 : (pal b).length + (pal a).length ≤ bigLine := by rw [bigLine_val]; omega
  have e2 : (pal b).length + (pal a).length + (pal b).length ≤ bigLine := by rw [bigLine_val]; omega
  have d2 : divOk 2 = true := by decide
  have k : ∀ w : List Nat, cutL w none (some ((w.length : Int).fdiv 2 + 1)) = half w := fun w => by
    have : (w.length : Int).fdiv 2 = ((w.length / 2 : Nat) : Int) := by
      rw [Int.fdiv_eq_ediv_of_nonneg _ (by omega)]
      omega
    rw [this, cutL_hi _ _ (by omega)]
    unfold half
    congr 1
  simp only [List.append_assoc] at h3
  simp [-cutL_hi, h1, h2, h3, e1, e2, d2, k, sn]
theorem c_m_looks_room_after {n : Nat} (hn : 4 ≤ n) (r : List Nat) (d : D) (ws : List (List Nat)) (hd : D.items? d = .ok (ws.map D.str)) (hr : rowB r = true) (hl : r.length ≤ 100) (hw : ∀ w ∈ ws, wayOk w) (hk : ws.length ≤ 100) : pg.call n 200 none [.str r, d] = .ok (.str (aft r ws), none) := by
  obtain ⟨e', h1, s3, rfl, p3⟩ := for_inv (put := (Tg.nm 3).put) (body := evSs (pS (n - 1)) b1_m_looks_room_after) (xs := ws) (g := D.str) (e := [.val (.str r), .val d, .val (.str r), .no])
    (fun pre e => ∃ s3, e = [.val (.str r), .val d, .val (.str (aft r pre)), s3] ∧ pl s3 = true) ⟨_, rfl, rfl⟩ fun pre w post e hx ⟨s3, he, p3⟩ => by
      subst he
      have hpl : pre.length < ws.length := by rw [hx]; simp
      obtain ⟨g1, g2, g3⟩ := hw w (by rw [hx]; simp)
      have hal := aft_len pre r fun v hv => hw v (by rw [hx]; simp [hv])
      have ht := c_m_rows_turned (n := n - 1) (by omega) w (aft r pre) g1 g2 (aft_row hr pre) (by omega) (by omega)
      refine ⟨[.val (.str r), .val d, .val (.str (aft r (pre ++ [w]))), .val (.str w)], .inl ?_, _, rfl, rfl⟩
      rw [aft_app]
      simp [turnL, b1_m_looks_room_after, p3, ht, aft_one]
  rw [call_v (show pg.fn 200 = some ⟨_, _, _, _, _⟩ from rfl) (by omega) _ rfl]
  simp [hd, h1]
theorem c_l_after {n : Nat} (hn : 2 ≤ n) (r : List Nat) (ws : List (List Nat)) (hl : r.length ≤ 100) (hw : ∀ w ∈ ws, wayOk w) (hk : ws.length ≤ 100) : pg.call n 203 none [.str r, .tup (ws.map D.str)] = .ok (.str (aft r ws), none) := by
  obtain ⟨e', h1, s3, rfl, p3⟩ := for_inv (put := (Tg.nm 3).put) (body := evSs (pS (n - 1)) b1_l_after) (xs := ws) (g := D.str) (e := [.val (.str r), .val (.tup (ws.map D.str)), .val (.str r), .no])
    (fun pre e => ∃ s3, e = [.val (.str r), .val (.tup (ws.map D.str)), .val (.str (aft r pre)), s3] ∧ pl s3 = true) ⟨_, rfl, rfl⟩ fun pre w post e hx ⟨s3, he, p3⟩ => by
      subst he
      have hpl : pre.length < ws.length := by rw [hx]; simp
      obtain ⟨g1, g2, g3⟩ := hw w (by rw [hx]; simp)
      have hal := aft_len pre r fun v hv => hw v (by rw [hx]; simp [hv])
      have h1 := c_l_pal (n := n - 1) (by omega) w (by omega)
      have l1 := pal_len g1
      have h2 := c_l_reduced (n := n - 1) (by omega) (pal w ++ aft r pre) (by rw [List.length_append]; omega)
      have e1 : (pal w).length + (aft r pre).length ≤ bigLine := by rw [bigLine_val]; omega
      refine ⟨[.val (.str r), .val (.tup (ws.map D.str)), .val (.str (aft r (pre ++ [w]))), .val (.str w)], .inl ?_, _, rfl, rfl⟩
      rw [aft_app]
      simp [turnL, b1_l_after, p3, h1, e1, h2, aft_one]
  rw [call_v (show pg.fn 203 = some ⟨_, _, _, _, _⟩ from rfl) (by omega) _ rfl]
  simp [h1]
theorem c_m_looks_same_motion {n : Nat} (hn : 5 ≤ n) (d d2 : D) (ws vs : List (List Nat)) (hd : D.items? d = .ok (ws.map D.str)) (hd2 : D.items? d2 = .ok (vs.map D.str)) (hw : ∀ w ∈ ws, wayOk w) (hv : ∀ w ∈ vs, wayOk w) (hk : ws.length ≤ 100) (hk2 : vs.length ≤ 100) :
    pg.call n 201 none [d, d2] = .ok (.bl (aft [] ws == aft [] vs), none) := by
  have h1 := c_m_looks_room_after (n := n - 1) (by omega) [] d ws hd rfl (by simp) hw hk
  have h2 := c_m_looks_room_after (n := n - 1) (by omega) [] d2 vs hd2 rfl (by simp) hv hk2
  rw [call_v (show pg.fn 201 = some ⟨_, _, _, _, _⟩ from rfl) (by omega) _ rfl]
  simp [h1, h2]
end En.V

/-! M6: one door between two: the mirror in which one is seen as the other. -/
namespace En.V
theorem req_app {a a' b b' : List Nat} (h : red a = red a') (h2 : red b = red b') : red (a ++ b) = red (a' ++ b') := by
  rw [← red_app, ← red_app_r, h, h2, red_app_r, red_app]
theorem req_l {a a' : List Nat} (b : List Nat) (h : red a = red a') : red (a ++ b) = red (a' ++ b) := req_app h rfl
theorem req_r (a : List Nat) {b b' : List Nat} (h : red b = red b') : red (a ++ b) = red (a ++ b') := req_app rfl h
theorem cancel_l (x v : List Nat) : red (x ++ (x.reverse ++ v)) = red v := by
  have := red_cancel x [] v
  simpa using this
theorem cancel_r (x v : List Nat) : red (x.reverse ++ (x ++ v)) = red v := by
  have := red_cancel x.reverse [] v
  simpa using this
theorem can1 (u x v : List Nat) : red (u ++ (x ++ (x.reverse ++ v))) = red (u ++ v) := req_r u (cancel_l x v)
theorem can2 (u x v : List Nat) : red (u ++ (x.reverse ++ (x ++ v))) = red (u ++ v) := req_r u (cancel_r x v)
theorem can3 (u x : List Nat) : red (u ++ (x ++ x.reverse)) = red u := by have := can1 u x []; simpa using this
theorem can4 (u x : List Nat) : red (u ++ (x.reverse ++ x)) = red u := by have := can2 u x []; simpa using this
theorem red_mid (u v w : List Nat) : red (u ++ (red v ++ w)) = red (u ++ (v ++ w)) := req_r u (red_app v w)
theorem red_tl2 (u1 u2 z : List Nat) : red (u1 ++ (u2 ++ (red z))) = red (u1 ++ (u2 ++ (z))) := by have := red_app_r (u1 ++ u2) z; simpa only [List.append_assoc] using this
theorem red_md2 (u1 u2 z w : List Nat) : red (u1 ++ (u2 ++ (red z ++ w))) = red (u1 ++ (u2 ++ (z ++ w))) := by have := red_mid (u1 ++ u2) z w; simpa only [List.append_assoc] using this
theorem red_tl3 (u1 u2 u3 z : List Nat) : red (u1 ++ (u2 ++ (u3 ++ (red z)))) = red (u1 ++ (u2 ++ (u3 ++ (z)))) := by have := red_app_r (u1 ++ u2 ++ u3) z; simpa only [List.append_assoc] using this
theorem red_md3 (u1 u2 u3 z w : List Nat) : red (u1 ++ (u2 ++ (u3 ++ (red z ++ w)))) = red (u1 ++ (u2 ++ (u3 ++ (z ++ w)))) := by have := red_mid (u1 ++ u2 ++ u3) z w; simpa only [List.append_assoc] using this
theorem red_tl4 (u1 u2 u3 u4 z : List Nat) : red (u1 ++ (u2 ++ (u3 ++ (u4 ++ (red z))))) = red (u1 ++ (u2 ++ (u3 ++ (u4 ++ (z))))) := by have := red_app_r (u1 ++ u2 ++ u3 ++ u4) z; simpa only [List.append_assoc] using this
theorem red_md4 (u1 u2 u3 u4 z w : List Nat) : red (u1 ++ (u2 ++ (u3 ++ (u4 ++ (red z ++ w))))) = red (u1 ++ (u2 ++ (u3 ++ (u4 ++ (z ++ w))))) := by have := red_mid (u1 ++ u2 ++ u3 ++ u4) z w; simpa only [List.append_assoc] using this
theorem red_tl5 (u1 u2 u3 u4 u5 z : List Nat) : red (u1 ++ (u2 ++ (u3 ++ (u4 ++ (u5 ++ (red z)))))) = red (u1 ++ (u2 ++ (u3 ++ (u4 ++ (u5 ++ (z)))))) := by have := red_app_r (u1 ++ u2 ++ u3 ++ u4 ++ u5) z; simpa only [List.append_assoc] using this
theorem red_md5 (u1 u2 u3 u4 u5 z w : List Nat) : red (u1 ++ (u2 ++ (u3 ++ (u4 ++ (u5 ++ (red z ++ w)))))) = red (u1 ++ (u2 ++ (u3 ++ (u4 ++ (u5 ++ (z ++ w)))))) := by have := red_mid (u1 ++ u2 ++ u3 ++ u4 ++ u5) z w; simpa only [List.append_assoc] using this
theorem red_tl6 (u1 u2 u3 u4 u5 u6 z : List Nat) : red (u1 ++ (u2 ++ (u3 ++ (u4 ++ (u5 ++ (u6 ++ (red z))))))) = red (u1 ++ (u2 ++ (u3 ++ (u4 ++ (u5 ++ (u6 ++ (z))))))) := by have := red_app_r (u1 ++ u2 ++ u3 ++ u4 ++ u5 ++ u6) z; simpa only [List.append_assoc] using this
theorem red_md6 (u1 u2 u3 u4 u5 u6 z w : List Nat) : red (u1 ++ (u2 ++ (u3 ++ (u4 ++ (u5 ++ (u6 ++ (red z ++ w))))))) = red (u1 ++ (u2 ++ (u3 ++ (u4 ++ (u5 ++ (u6 ++ (z ++ w))))))) := by have := red_mid (u1 ++ u2 ++ u3 ++ u4 ++ u5 ++ u6) z w; simpa only [List.append_assoc] using this
theorem red_tl7 (u1 u2 u3 u4 u5 u6 u7 z : List Nat) : red (u1 ++ (u2 ++ (u3 ++ (u4 ++ (u5 ++ (u6 ++ (u7 ++ (red z)))))))) = red (u1 ++ (u2 ++ (u3 ++ (u4 ++ (u5 ++ (u6 ++ (u7 ++ (z)))))))) := by have := red_app_r (u1 ++ u2 ++ u3 ++ u4 ++ u5 ++ u6 ++ u7) z; simpa only [List.append_assoc] using this
theorem red_md7 (u1 u2 u3 u4 u5 u6 u7 z w : List Nat) : red (u1 ++ (u2 ++ (u3 ++ (u4 ++ (u5 ++ (u6 ++ (u7 ++ (red z ++ w)))))))) = red (u1 ++ (u2 ++ (u3 ++ (u4 ++ (u5 ++ (u6 ++ (u7 ++ (z ++ w)))))))) := by have := red_mid (u1 ++ u2 ++ u3 ++ u4 ++ u5 ++ u6 ++ u7) z w; simpa only [List.append_assoc] using this
theorem red_tl8 (u1 u2 u3 u4 u5 u6 u7 u8 z : List Nat) : red (u1 ++ (u2 ++ (u3 ++ (u4 ++ (u5 ++ (u6 ++ (u7 ++ (u8 ++ (red z))))))))) = red (u1 ++ (u2 ++ (u3 ++ (u4 ++ (u5 ++ (u6 ++ (u7 ++ (u8 ++ (z))))))))) := by have := red_app_r (u1 ++ u2 ++ u3 ++ u4 ++ u5 ++ u6 ++ u7 ++ u8) z; simpa only [List.append_assoc] using this
theorem red_md8 (u1 u2 u3 u4 u5 u6 u7 u8 z w : List Nat) : red (u1 ++ (u2 ++ (u3 ++ (u4 ++ (u5 ++ (u6 ++ (u7 ++ (u8 ++ (red z ++ w))))))))) = red (u1 ++ (u2 ++ (u3 ++ (u4 ++ (u5 ++ (u6 ++ (u7 ++ (u8 ++ (z ++ w))))))))) := by have := red_mid (u1 ++ u2 ++ u3 ++ u4 ++ u5 ++ u6 ++ u7 ++ u8) z w; simpa only [List.append_assoc] using this
theorem red_tl9 (u1 u2 u3 u4 u5 u6 u7 u8 u9 z : List Nat) : red (u1 ++ (u2 ++ (u3 ++ (u4 ++ (u5 ++ (u6 ++ (u7 ++ (u8 ++ (u9 ++ (red z)))))))))) = red (u1 ++ (u2 ++ (u3 ++ (u4 ++ (u5 ++ (u6 ++ (u7 ++ (u8 ++ (u9 ++ (z)))))))))) := by have := red_app_r (u1 ++ u2 ++ u3 ++ u4 ++ u5 ++ u6 ++ u7 ++ u8 ++ u9) z; simpa only [List.append_assoc] using this
theorem red_md9 (u1 u2 u3 u4 u5 u6 u7 u8 u9 z w : List Nat) : red (u1 ++ (u2 ++ (u3 ++ (u4 ++ (u5 ++ (u6 ++ (u7 ++ (u8 ++ (u9 ++ (red z ++ w)))))))))) = red (u1 ++ (u2 ++ (u3 ++ (u4 ++ (u5 ++ (u6 ++ (u7 ++ (u8 ++ (u9 ++ (z ++ w)))))))))) := by have := red_mid (u1 ++ u2 ++ u3 ++ u4 ++ u5 ++ u6 ++ u7 ++ u8 ++ u9) z w; simpa only [List.append_assoc] using this
theorem pth_red {x y : List Nat} (hx : rowB x = true) (hy : rowB y = true) : pth x y = red (x.reverse ++ y) := by
  rw [red_join (rowB_rev hx) hy]
  unfold pth jn
  rw [List.reverse_reverse, List.length_reverse, ← List.reverse_drop]
theorem red_one (c : Nat) : red [c] = [c] := rfl
/-- a letter put ahead of a row -/
theorem red_cons {c : Nat} {r : List Nat} (h : rowB r = true) : red ([c] ++ r) = match r with | [] => [c] | d :: t => if c = d then t else c :: d :: t := by
  cases r with
  | nil => rfl
  | cons d t =>
    dsimp only
    by_cases e : c = d
    · subst e
      rw [if_pos rfl]
      have := red_drop [] t c
      rw [show [c] ++ c :: t = [] ++ c :: c :: t from rfl, this, List.nil_append]
      exact red_row (rowB_tail h)
    · rw [if_neg e]
      exact red_row (rowB_mk e h)
theorem starts {c : Nat} {L : List Nat} (h : rowB L = true) (hl : (red ([c] ++ L)).length ≤ L.length) : ∃ t, L = c :: t := by
  rw [red_cons h] at hl
  cases L with
  | nil => simp at hl
  | cons d t =>
    dsimp only at hl
    by_cases e : c = d
    · exact ⟨t, by rw [e]⟩
    · rw [if_neg e] at hl
      simp at hl
      omega
theorem ends {d : Nat} {L : List Nat} (h : rowB L = true) (hl : (red (L ++ [d])).length ≤ L.length) : ∃ t, L = t ++ [d] := by
  have h1 : red (L ++ [d]).reverse = (red (L ++ [d])).reverse := red_rev _
  rw [List.reverse_append] at h1
  have h2 : (red ([d] ++ L.reverse)).length ≤ L.reverse.length := by
    rw [show [d] ++ L.reverse = [d].reverse ++ L.reverse from rfl, h1, List.length_reverse, List.length_reverse]
    exact hl
  obtain ⟨t, ht⟩ := starts (rowB_rev h) h2
  exact ⟨t.reverse, by rw [← List.reverse_reverse L, ht, List.reverse_cons]⟩
theorem pal_inj {a b : List Nat} (ha : a ≠ []) (hb : b ≠ []) (h : pal a = pal b) : a = b := by rw [← half_pal ha, ← half_pal hb, h]
/-- what turns a letter into a letter -/
theorem turns_letter {h : List Nat} {c d : Nat} (hr : rowB h = true) (he : red (h ++ ([c] ++ h.reverse)) = [d]) : c = d ∧ (h = [] ∨ h = [c]) := by
  by_cases hn : ∃ k, h = k ++ [c]
  · obtain ⟨k, rfl⟩ := hn
    have e1 : red (k ++ [c] ++ ([c] ++ (k ++ [c]).reverse)) = red (k ++ [c] ++ k.reverse) := by
      rw [List.reverse_append]
      have := red_drop k ([c].reverse ++ k.reverse) c
      rw [show k ++ [c] ++ ([c] ++ ([c].reverse ++ k.reverse)) = k ++ c :: c :: ([c].reverse ++ k.reverse) by simp, this]
      simp
    rw [e1] at he
    have e2 : k ++ [c] ++ k.reverse = pal (k ++ [c]) := by rw [pal_snoc]; simp
    rw [e2, red_row (pal_row (by simp) hr)] at he
    have e3 : pal (k ++ [c]) = pal [d] := he
    have e4 := pal_inj (by simp) (by simp) e3
    have hk : k = [] := by
      have := congrArg List.length e4
      simpa using this
    subst hk
    simp at e4
    exact ⟨e4, .inr rfl⟩
  · have hr2 : rowB (h ++ [c]) = true := by
      by_cases h0 : h = []
      · subst h0; rfl
      · obtain ⟨k, a, rfl⟩ := ne_snoc h0
        exact rowB_snoc' hr fun e => hn ⟨k, by rw [e]⟩
    have e2 : h ++ ([c] ++ h.reverse) = pal (h ++ [c]) := by rw [pal_snoc]; simp
    rw [e2, red_row (pal_row (by simp) hr2)] at he
    have e4 := pal_inj (by simp) (by simp) (show pal (h ++ [c]) = pal [d] from he)
    have hk : h = [] := by
      have := congrArg List.length e4
      simpa using this
    subst hk
    simp at e4
    exact ⟨e4, .inl rfl⟩
section
variable {x y pa pb : List Nat} {c d : Nat}
/-- the mirror's palindrome leads one door's to the other's -/
theorem mirror_leads {L : List Nat} (hL : red (x.reverse ++ y) = L) (hp : L.reverse = L) (ha : pa = red (x ++ ([c] ++ x.reverse))) (hb : pb = red (y ++ ([d] ++ y.reverse))) (h1 : ∃ t, L = c :: t) (h2 : ∃ t, L = t ++ [d]) :
    red (red (x ++ (L ++ x.reverse)) ++ pa ++ red (x ++ (L ++ x.reverse))) = pb := by
  have hcd : c = d := by
    obtain ⟨t, e1⟩ := h1
    obtain ⟨s, e2⟩ := h2
    rw [e2] at hp
    rw [List.reverse_append] at hp
    rw [e1] at e2
    have : (d :: s.reverse) = s ++ [d] := hp
    rw [← e2] at this
    cases this
    rfl
  subst hcd
  subst ha hb
  have hy : red y = red (x ++ L) := by
    rw [← hL, red_app_r]
    exact (cancel_l x y).symm
  have hyr : red y.reverse = red (L ++ x.reverse) := by
    rw [red_rev, hy, ← red_rev, List.reverse_append, hp]
  have e : red (y ++ ([c] ++ y.reverse)) = red ((x ++ L) ++ ([c] ++ (L ++ x.reverse))) := req_app hy (req_r _ hyr)
  rw [e]
  simp only [red_app, red_app_r, red_mid, List.append_assoc, red_tl2, red_md2, red_tl3, red_md3, red_tl4, red_md4, red_tl5, red_md5, red_tl6, red_md6, red_tl7, red_md7, red_tl8, red_md8, red_tl9, red_md9]
  have k1 := can2 (x ++ L) x ([c] ++ (x.reverse ++ (x ++ (L ++ x.reverse))))
  simp only [List.append_assoc] at k1
  rw [k1]
  have k2 := can2 (x ++ L ++ [c]) x (L ++ x.reverse)
  simp only [List.append_assoc] at k2
  rw [k2]
/-- what leads one door's palindrome to the other's is that mirror -/
theorem mirror_only {L pm : List Nat} (hx : rowB x = true) (hy : rowB y = true) (hL : red (x.reverse ++ y) = L) (ha : pa = red (x ++ ([c] ++ x.reverse))) (hb : pb = red (y ++ ([d] ++ y.reverse))) (h1 : ∃ t, L = c :: t) (h2 : ∃ t, L = t ++ [d])
    (hm : pm.reverse = pm) (hmr : rowB pm = true) (hm0 : pm ≠ []) (he : red (pm ++ pa ++ pm) = pb) : L.reverse = L ∧ pm = red (x ++ (L ++ x.reverse)) := by
  have hLr : rowB L = true := by rw [← hL]; exact red_is_row _
  have hy2 : red y = red (x ++ L) := by
    rw [← hL, red_app_r]
    exact (cancel_l x y).symm
  have hyr : red y.reverse = red (L.reverse ++ x.reverse) := by
    rw [red_rev, hy2, ← red_rev, List.reverse_append]
  have hpp : red (pm ++ pm) = [] := by
    have := cancel_l pm []
    rw [hm, List.append_nil] at this
    exact this
  -- the turn
  have hh : red (red (y.reverse ++ (pm ++ x)) ++ ([c] ++ (red (y.reverse ++ (pm ++ x))).reverse)) = [d] := by
    rw [← red_rev, List.reverse_append, List.reverse_append, List.reverse_reverse, hm]
    simp only [red_app, red_app_r, red_mid, List.append_assoc, red_tl2, red_md2, red_tl3, red_md3, red_tl4, red_md4, red_tl5, red_md5, red_tl6, red_md6, red_tl7, red_md7, red_tl8, red_md8, red_tl9, red_md9]
    have e2 : red (pm ++ (x ++ ([c] ++ (x.reverse ++ pm)))) = red (y ++ ([d] ++ y.reverse)) := by
      rw [← hb, ← he, ha]
      simp only [red_app, red_app_r, red_mid, List.append_assoc, red_tl2, red_md2, red_tl3, red_md3, red_tl4, red_md4, red_tl5, red_md5, red_tl6, red_md6, red_tl7, red_md7, red_tl8, red_md8, red_tl9, red_md9]
    have e3 : red (y.reverse ++ (pm ++ (x ++ ([c] ++ (x.reverse ++ (pm ++ y)))))) = red (y.reverse ++ ((y ++ ([d] ++ y.reverse)) ++ y)) := by
      have := req_r y.reverse (req_l y e2)
      simpa only [List.append_assoc] using this
    rw [e3]
    simp only [List.append_assoc]
    rw [cancel_r, can4]
    rfl
  obtain ⟨hcd, hk⟩ := turns_letter (red_is_row _) hh
  have hpx : ∀ k : List Nat, red (y.reverse ++ (pm ++ x)) = k → red pm = red (x ++ (L ++ (k ++ x.reverse))) := fun k hk => by
    have e1 : red (y ++ (red (y.reverse ++ (pm ++ x)) ++ x.reverse)) = red pm := by
      simp only [red_app, red_app_r, red_mid, List.append_assoc, red_tl2, red_md2, red_tl3, red_md3, red_tl4, red_md4, red_tl5, red_md5, red_tl6, red_md6, red_tl7, red_md7, red_tl8, red_md8, red_tl9, red_md9]
      rw [cancel_l, can3]
    rw [hk] at e1
    rw [← e1]
    have := req_l (k ++ x.reverse) hy2
    simpa only [List.append_assoc] using this
  have hsq : ∀ Z : List Nat, red pm = red (x ++ (Z ++ x.reverse)) → red (Z ++ Z) = [] := fun Z hz => by
    have e1 : red (x.reverse ++ ((pm ++ pm) ++ x)) = [] := by
      have := req_r x.reverse (req_l x (show red (pm ++ pm) = red [] by rw [hpp]; rfl))
      rw [this]
      have k := cancel_r x []
      rw [List.append_nil] at k
      exact k
    have e2 : red (x.reverse ++ ((pm ++ pm) ++ x)) = red (Z ++ Z) := by
      have k1 : red (pm ++ pm) = red ((x ++ (Z ++ x.reverse)) ++ (x ++ (Z ++ x.reverse))) := req_app hz hz
      have k2 := req_r x.reverse (req_l x k1)
      rw [k2]
      simp only [List.append_assoc]
      rw [cancel_r]
      have k3 := can2 Z x (Z ++ (x.reverse ++ x))
      rw [k3]
      have k4 := can4 (Z ++ Z) x
      simp only [List.append_assoc] at k4
      exact k4
    rw [← e2, e1]
  have hrev : ∀ Z : List Nat, rowB Z = true → red (Z ++ Z) = [] → Z.reverse = Z := fun Z hZ h => by
    have e1 : red (Z.reverse ++ (Z ++ Z)) = red Z := cancel_r Z Z
    have e2 : red (Z.reverse ++ (Z ++ Z)) = red Z.reverse := by
      have := req_r Z.reverse (show red (Z ++ Z) = red [] by rw [h]; rfl)
      rw [this, List.append_nil]
    rw [e1, red_row hZ, red_row (rowB_rev hZ)] at e2
    exact e2.symm
  rcases hk with hk | hk
  · have e1 := hpx [] hk
    rw [List.nil_append] at e1
    refine ⟨hrev L hLr (hsq L e1), ?_⟩
    rw [← e1, red_row hmr]
  · exfalso
    subst hcd
    have e1 := hpx [c] hk
    obtain ⟨L0, e2⟩ := h2
    have hL0 : rowB L0 = true := by
      have := rowB_take L0.length hLr
      rwa [e2, List.take_left] at this
    have e3 : red pm = red (x ++ (L0 ++ x.reverse)) := by
      rw [e1, e2]
      have := red_drop (x ++ L0) x.reverse c
      simp only [List.append_assoc] at this
      rw [← this]
      simp
    have e4 := hrev L0 hL0 (hsq L0 e3)
    by_cases h0 : L0 = []
    · subst h0
      rw [List.nil_append] at e3
      have := can3 [] x
      simp only [List.nil_append] at this
      rw [this, red_row hmr] at e3
      exact hm0 e3
    · obtain ⟨t, e5⟩ := h1
      obtain ⟨a, r, e6⟩ := List.exists_cons_of_ne_nil h0
      have e7 : a = c := by
        rw [e2, e6] at e5
        have : a :: (r ++ [c]) = c :: t := e5
        cases this
        rfl
      subst e7
      have e8 : L0 = r.reverse ++ [a] := by rw [← e4, e6, List.reverse_cons]
      rw [e2, e8] at hLr
      have e9 : rowB ([a, a] : List Nat) = true := by
        have := rowB_drop r.reverse.length hLr
        simpa using this
      simp [rowB] at e9
end
/-! ### which rooms -/
theorem maxLenG_mem {α : Type} : ∀ (r : List (List α)) (y : List α), maxLenG y r ∈ y :: r
  | [], y => List.mem_singleton.mpr rfl
  | z :: r, y => by
    rw [maxLenG]
    split
    · exact List.mem_cons_of_mem _ (maxLenG_mem r z)
    · rcases List.mem_cons.mp (maxLenG_mem r y) with h | h
      · rw [h]; exact List.mem_cons_self
      · exact List.mem_cons_of_mem _ (List.mem_cons_of_mem _ h)
theorem maxLenG_ge {α : Type} : ∀ (r : List (List α)) (y : List α), ∀ z ∈ y :: r, z.length ≤ (maxLenG y r).length
  | [], y, z, hz => by rw [List.mem_singleton.mp hz]; exact Nat.le_refl _
  | a :: r, y, z, hz => by
    rw [maxLenG]
    split
    · rename_i h
      have h1 := maxLenG_ge r a a List.mem_cons_self
      rcases List.mem_cons.mp hz with e | e
      · subst e; omega
      · exact maxLenG_ge r a z e
    · rename_i h
      have h1 := maxLenG_ge r y y List.mem_cons_self
      rcases List.mem_cons.mp hz with e | e
      · subst e; exact h1
      · rcases List.mem_cons.mp e with e | e
        · subst e; omega
        · exact maxLenG_ge r y z (List.mem_cons_of_mem _ e)
theorem maxLenG_map {α β : Type} (f : α → β) : ∀ (r : List (List α)) (y : List α), maxLenG (y.map f) (r.map (List.map f)) = (maxLenG y r).map f
  | [], y => rfl
  | z :: r, y => by
    rw [List.map_cons, maxLenG, maxLenG, List.length_map, List.length_map]
    split
    · exact maxLenG_map f r z
    · exact maxLenG_map f r y
/-- the doors from one door to another -/
def drsF (w v : List Nat) : List (List Nat) := maxLenG (drs w.dropLast v.dropLast) [drs w.dropLast v, drs w v.dropLast, drs w v]
theorem drs_lenR {x y : List Nat} (hx : rowB x = true) (hy : rowB y = true) : (drs x y).length = (red (x.reverse ++ y)).length := by
  rw [← pth_red hx hy]
  unfold drs pth
  simp
/-- what is known of the rooms that are taken -/
structure Ends2 (w v x y : List Nat) (c d : Nat) : Prop where
  rx : rowB x = true
  ry : rowB y = true
  pw : pal w = red (x ++ ([c] ++ x.reverse))
  pv : pal v = red (y ++ ([d] ++ y.reverse))
  s : ∃ t, red (x.reverse ++ y) = c :: t
  e : ∃ t, red (x.reverse ++ y) = t ++ [d]
  px : ∃ i, x = w.take i
  py : ∃ i, y = v.take i
theorem pal_near {u : List Nat} {c : Nat} (h : rowB (u ++ [c]) = true) : pal (u ++ [c]) = red (u ++ ([c] ++ u.reverse)) := by
  rw [show u ++ ([c] ++ u.reverse) = pal (u ++ [c]) by rw [pal_snoc]; simp, red_row (pal_row (by simp) h)]
theorem pal_far {u : List Nat} {c : Nat} (h : rowB (u ++ [c]) = true) : pal (u ++ [c]) = red ((u ++ [c]) ++ ([c] ++ (u ++ [c]).reverse)) := by
  rw [pal_near h, List.reverse_append]
  have := red_drop u ([c] ++ u.reverse) c
  rw [← this]
  congr 1
  simp
theorem drsF_ends {w v : List Nat} (hw : w ≠ []) (hv : v ≠ []) (rw_ : rowB w = true) (rv : rowB v = true) : ∃ x y c d, drsF w v = drs x y ∧ Ends2 w v x y c d := by
  obtain ⟨u, c, rfl⟩ := ne_snoc hw
  obtain ⟨z, d, rfl⟩ := ne_snoc hv
  have ru : rowB u = true := by
    have := rowB_take u.length rw_
    rwa [List.take_left] at this
  have rz : rowB z = true := by
    have := rowB_take z.length rv
    rwa [List.take_left] at this
  have hm := maxLenG_mem [drs u (z ++ [d]), drs (u ++ [c]) z, drs (u ++ [c]) (z ++ [d])] (drs u z)
  have hg := maxLenG_ge [drs u (z ++ [d]), drs (u ++ [c]) z, drs (u ++ [c]) (z ++ [d])] (drs u z)
  have e0 : drsF (u ++ [c]) (z ++ [d]) = maxLenG (drs u z) [drs u (z ++ [d]), drs (u ++ [c]) z, drs (u ++ [c]) (z ++ [d])] := by unfold drsF; simp
  rw [← e0] at hm hg
  have g1 := hg (drs u z) (by simp)
  have g2 := hg (drs u (z ++ [d])) (by simp)
  have g3 := hg (drs (u ++ [c]) z) (by simp)
  have g4 := hg (drs (u ++ [c]) (z ++ [d])) (by simp)
  rw [drs_lenR ru rz] at g1
  rw [drs_lenR ru rv] at g2
  rw [drs_lenR rw_ rz] at g3
  rw [drs_lenR rw_ rv] at g4
  -- the neighbours' ways
  have n1 : ∀ t : List Nat, red ((u ++ [c]).reverse ++ t) = red ([c] ++ red (u.reverse ++ t)) := fun t => by
    rw [red_app_r, List.reverse_append]; simp
  have n2 : ∀ t : List Nat, red (u.reverse ++ t) = red ([c] ++ red ((u ++ [c]).reverse ++ t)) := fun t => by
    rw [red_app_r, List.reverse_append]
    have := red_drop [] (u.reverse ++ t) c
    rw [List.nil_append, List.nil_append] at this
    rw [← this]
    rfl
  have n3 : ∀ t : List Nat, red (t ++ (z ++ [d])) = red (red (t ++ z) ++ [d]) := fun t => by
    rw [red_app, List.append_assoc]
  have n4 : ∀ t : List Nat, red (t ++ z) = red (red (t ++ (z ++ [d])) ++ [d]) := fun t => by
    rw [red_app]
    have := red_drop (t ++ z) [] d
    rw [List.append_nil] at this
    rw [← this]
    simp
  rcases List.mem_cons.mp hm with q | hm
  · rw [q, drs_lenR ru rz] at g2 g3
    exact ⟨u, z, c, d, q, ru, rz, pal_near rw_, pal_near rv, starts (red_is_row _) (by rw [← n1]; exact g3), ends (red_is_row _) (by rw [← n3]; exact g2), ⟨u.length, by simp⟩, ⟨z.length, by simp⟩⟩
  rcases List.mem_cons.mp hm with q | hm
  · rw [q, drs_lenR ru rv] at g1 g4
    exact ⟨u, z ++ [d], c, d, q, ru, rv, pal_near rw_, pal_far rv, starts (red_is_row _) (by rw [← n1]; exact g4), ends (red_is_row _) (by rw [← n4]; exact g1), ⟨u.length, by simp⟩, ⟨(z ++ [d]).length, by rw [List.take_length]⟩⟩
  rcases List.mem_cons.mp hm with q | hm
  · rw [q, drs_lenR rw_ rz] at g1 g4
    exact ⟨u ++ [c], z, c, d, q, rw_, rz, pal_far rw_, pal_near rv, starts (red_is_row _) (by rw [← n2]; exact g1), ends (red_is_row _) (by rw [← n3]; exact g4), ⟨(u ++ [c]).length, by rw [List.take_length]⟩, ⟨z.length, by simp⟩⟩
  rcases List.mem_cons.mp hm with q | hm
  · rw [q, drs_lenR rw_ rv] at g2 g3
    exact ⟨u ++ [c], z ++ [d], c, d, q, rw_, rv, pal_far rw_, pal_far rv, starts (red_is_row _) (by rw [← n2]; exact g2), ends (red_is_row _) (by rw [← n4]; exact g3), ⟨(u ++ [c]).length, by rw [List.take_length]⟩, ⟨(z ++ [d]).length, by rw [List.take_length]⟩⟩
  · cases hm
/-! ### the door in the middle -/
theorem fold2 (p D T : List Nat) (e : Nat) : red (p ++ D ++ (D.reverse ++ T ++ ([e] ++ ((D.reverse ++ T).reverse ++ (p ++ D).reverse)))) = red (p ++ (T ++ ([e] ++ (T.reverse ++ p.reverse)))) := by
  rw [List.reverse_append, List.reverse_append, List.reverse_reverse]
  simp only [List.append_assoc]
  rw [can1]
  have := can1 (p ++ (T ++ ([e] ++ T.reverse))) D p.reverse
  simp only [List.append_assoc] at this
  exact this
theorem snoc_take {l : List Nat} {k e : Nat} (h : l[k]? = some e) : l.take (k + 1) = l.take k ++ [e] := by
  rw [List.take_succ, h]
  rfl
theorem drs_at {x y : List Nat} (hx : rowB x = true) (hy : rowB y = true) {k : Nat} (hk : k < (drs x y).length) : ∃ e, (pth x y)[k]? = some e ∧ ∃ m, (drs x y)[k]? = some m ∧ m ≠ [] ∧ rowB m = true ∧ (∃ j, m = x.take j ∨ m = y.take j) ∧ pal m = red (x ++ ((pth x y).take k ++ ([e] ++ (((pth x y).take k).reverse ++ x.reverse)))) ∧ m.getLast? = some e := by
  have hl := lcp_le x y
  have hkk : k < (x.length - lcp x y) + (y.length - lcp x y) := by
    unfold drs at hk
    simpa using hk
  by_cases h : k < x.length - lcp x y
  · have he : x[x.length - 1 - k]? = some x[x.length - 1 - k] := List.getElem?_eq_getElem (by omega)
    generalize x[x.length - 1 - k] = e at he
    have e1 : x.take (x.length - k) = x.take (x.length - 1 - k) ++ [e] := by
      have := snoc_take he
      rw [show x.length - 1 - k + 1 = x.length - k by omega] at this
      exact this
    have e2 : (pth x y).take k = (x.drop (x.length - k)).reverse := by
      unfold pth
      rw [List.take_append_of_le_length (by simp; omega), List.take_reverse, List.drop_drop]
      congr 2
      simp
      omega
    have e3 : (pth x y)[k]? = some e := by
      unfold pth
      rw [List.getElem?_append_left (by simp; omega), List.getElem?_reverse (by simp; omega), List.getElem?_drop, List.length_drop]
      rw [← he]
      congr 1
      omega
    have hr : rowB (x.take (x.length - 1 - k) ++ [e]) = true := by rw [← e1]; exact rowB_take _ hx
    refine ⟨e, e3, x.take (x.length - k), ?_, ?_, rowB_take _ hx, ⟨_, .inl rfl⟩, ?_, by rw [e1]; simp⟩
    · unfold drs
      rw [List.getElem?_append_left (by simpa using h), List.getElem?_map, List.getElem?_range h]
      rfl
    · intro z
      have := congrArg List.length z
      rw [List.length_take] at this
      simp at this
      omega
    · rw [e2, e1, pal_far hr, ← e1]
      have hxx : x = x.take (x.length - k) ++ x.drop (x.length - k) := (List.take_append_drop _ _).symm
      have key := fold2 (x.take (x.length - k)) (x.drop (x.length - k)) [] e
      rw [← hxx] at key
      simp only [List.append_nil, List.nil_append, List.reverse_nil] at key
      rw [key]
  · have hj : k - (x.length - lcp x y) < y.length - lcp x y := by omega
    obtain ⟨j, hjk⟩ : ∃ j, k = x.length - lcp x y + j := ⟨k - (x.length - lcp x y), by omega⟩
    have hjl : lcp x y + j < y.length := by omega
    have he : y[lcp x y + j]? = some y[lcp x y + j] := List.getElem?_eq_getElem hjl
    generalize y[lcp x y + j] = e at he
    have e1 : y.take (lcp x y + 1 + j) = y.take (lcp x y + j) ++ [e] := by
      have := snoc_take he
      rw [show lcp x y + j + 1 = lcp x y + 1 + j by omega] at this
      exact this
    have hlen : (x.drop (lcp x y)).reverse.length = x.length - lcp x y := by simp
    have e2 : (pth x y).take k = (x.drop (lcp x y)).reverse ++ (y.drop (lcp x y)).take j := by
      unfold pth
      rw [hjk, List.take_append, List.take_of_length_le (by rw [hlen]; omega), hlen, Nat.add_sub_cancel_left]
    have e3 : (pth x y)[k]? = some e := by
      unfold pth
      rw [hjk, ← hlen, List.getElem?_append_right (by omega), Nat.add_sub_cancel_left, List.getElem?_drop]
      exact he
    have hr : rowB (y.take (lcp x y + j) ++ [e]) = true := by rw [← e1]; exact rowB_take _ hy
    have hp : x.take (lcp x y) = y.take (lcp x y) := (take_eq_iff x y _ hl.1).mpr (Nat.le_refl _)
    have hq : y.take (lcp x y + j) = x.take (lcp x y) ++ (y.drop (lcp x y)).take j := by rw [hp, List.take_add]
    refine ⟨e, e3, y.take (lcp x y + 1 + j), ?_, ?_, rowB_take _ hy, ⟨_, .inr rfl⟩, ?_, by rw [e1]; simp⟩
    · unfold drs
      rw [List.getElem?_append_right (by simp; omega)]
      simp only [List.length_map, List.length_range]
      rw [hjk, Nat.add_sub_cancel_left, List.getElem?_map, List.getElem?_range (by omega)]
      rfl
    · intro z
      rw [e1] at z
      simp at z
    · rw [e2, e1, pal_near hr, hq]
      have hxx : x = x.take (lcp x y) ++ x.drop (lcp x y) := (List.take_append_drop _ _).symm
      have key := fold2 (x.take (lcp x y)) (x.drop (lcp x y)) ((y.drop (lcp x y)).take j) e
      rw [← hxx] at key
      rw [key, List.reverse_append]
      simp only [List.append_assoc]
theorem pth_len6 (x y : List Nat) : (pth x y).length = (drs x y).length := by
  unfold pth drs
  simp
/-- the letters of the doors -/
theorem drs_last {x y : List Nat} (hx : rowB x = true) (hy : rowB y = true) : (drs x y).map (fun m => m.getLast?) = (pth x y).map some := by
  refine List.ext_getElem? fun k => ?_
  rw [List.getElem?_map, List.getElem?_map]
  by_cases hk : k < (drs x y).length
  · obtain ⟨e, h1, m, h2, _, _, _, _, h3⟩ := drs_at hx hy hk
    rw [h1, h2]
    exact congrArg some h3
  · rw [List.getElem?_eq_none (by omega), List.getElem?_eq_none (by rw [pth_len6]; omega)]
    rfl
def ltr (m : List Nat) : Nat := m.getLastD 0
/-- the mirror between two doors -/
def mbw (w v : List Nat) : Option (List Nat) :=
  let l := (drsF w v).map fun m => ltr m
  if l.reverse = l then (drsF w v)[l.length / 2]? else none
theorem pal_odd {L : List Nat} (h : L.reverse = L) (hr : rowB L = true) (h0 : L ≠ []) : L.length % 2 = 1 := by
  by_cases hp : L.length % 2 = 1
  · exact hp
  · exfalso
    have hlen := List.length_pos_iff.mpr h0
    have e1 : L = L.take (L.length / 2) ++ L.drop (L.length / 2) := (List.take_append_drop _ _).symm
    have e2 : (L.drop (L.length / 2)).reverse = L.take (L.length / 2) := by
      rw [List.reverse_drop, h]
      congr 1
      omega
    have h1 : L.take (L.length / 2) ≠ [] := fun z => by
      have := congrArg List.length z
      rw [List.length_take, List.length_nil] at this
      omega
    obtain ⟨T, a, e3⟩ := ne_snoc h1
    have e4 : L.drop (L.length / 2) = a :: T.reverse := by
      rw [← List.reverse_reverse (L.drop (L.length / 2)), e2, e3]
      simp
    rw [e3, e4] at e1
    rw [e1] at hr
    have := rowB_drop T.length hr
    simp [rowB] at this
theorem mid_pal {L : List Nat} {e : Nat} (h : L.reverse = L) (ho : L.length % 2 = 1) (he : L[L.length / 2]? = some e) : L.take (L.length / 2) ++ ([e] ++ (L.take (L.length / 2)).reverse) = L := by
  have h1 := pal_half h ho
  unfold half at h1
  rw [snoc_take he, pal_snoc] at h1
  exact h1
theorem mbw_spec {w v : List Nat} (hw : w ≠ []) (hv : v ≠ []) (rw_ : rowB w = true) (rv : rowB v = true) (m : List Nat) (hm : m ≠ []) (hmr : rowB m = true) : sn w m = v ↔ mbw w v = some m := by
  obtain ⟨x, y, c, d, hq, E⟩ := drsF_ends hw hv rw_ rv
  have hL : pth x y = red (x.reverse ++ y) := pth_red E.rx E.ry
  have hLr : rowB (pth x y) = true := by rw [hL]; exact red_is_row _
  have hL0 : pth x y ≠ [] := by
    obtain ⟨t, ht⟩ := E.s
    rw [hL, ht]
    exact List.cons_ne_nil _ _
  have hl : ((drs x y).map fun m => ltr m) = pth x y := by
    have := congrArg (List.map fun o : Option Nat => o.getD 0) (drs_last E.rx E.ry)
    rw [List.map_map, List.map_map] at this
    have e1 : (drs x y).map ((fun o : Option Nat => o.getD 0) ∘ fun m => m.getLast?) = (drs x y).map fun m => ltr m := List.map_congr_left fun m _ => by
      show m.getLast?.getD 0 = ltr m
      unfold ltr
      rw [List.getLastD_eq_getLast?]
    rw [e1] at this
    rw [this, show ((fun o : Option Nat => o.getD 0) ∘ some) = id from rfl, List.map_id]
  have hmb : mbw w v = if (pth x y).reverse = pth x y then (drs x y)[(pth x y).length / 2]? else none := by
    unfold mbw
    rw [hq, hl]
  rw [hmb]
  have mid : (pth x y).reverse = pth x y → ∃ m', (drs x y)[(pth x y).length / 2]? = some m' ∧ m' ≠ [] ∧ pal m' = red (x ++ (pth x y ++ x.reverse)) := fun hp => by
    have ho := pal_odd hp hLr hL0
    obtain ⟨e, h1, m', h2, h3, _, _, h4, _⟩ := drs_at E.rx E.ry (k := (pth x y).length / 2) (by rw [← pth_len6]; have := List.length_pos_iff.mpr hL0; omega)
    refine ⟨m', h2, h3, ?_⟩
    rw [h4]
    have := mid_pal hp ho h1
    rw [show (pth x y).take ((pth x y).length / 2) ++ ([e] ++ (((pth x y).take ((pth x y).length / 2)).reverse ++ x.reverse)) = ((pth x y).take ((pth x y).length / 2) ++ ([e] ++ ((pth x y).take ((pth x y).length / 2)).reverse)) ++ x.reverse by simp, this]
  constructor
  · intro h
    have hs := sn_pal hw hm
    rw [h] at hs
    obtain ⟨g1, g2⟩ := mirror_only (pm := pal m) E.rx E.ry hL.symm E.pw E.pv (by rw [hL]; exact E.s) (by rw [hL]; exact E.e) (pal_rev hm) (pal_row hm hmr) (fun z => by
      have := pal_len hm
      rw [z] at this
      have := List.length_pos_iff.mpr hm
      simp at *
      omega) hs.symm
    rw [if_pos g1]
    obtain ⟨m', k1, k2, k3⟩ := mid g1
    rw [k1, pal_inj hm k2 (by rw [g2, k3])]
  · intro h
    by_cases hp : (pth x y).reverse = pth x y
    · rw [if_pos hp] at h
      obtain ⟨m', k1, k2, k3⟩ := mid hp
      rw [k1] at h
      cases h
      have := mirror_leads hL.symm hp E.pw E.pv (by rw [hL]; exact E.s) (by rw [hL]; exact E.e)
      rw [← k3, ← sn_pal hw hm] at this
      exact pal_inj (sn_ne hw hm) hv this
    · rw [if_neg hp] at h
      cases h
/-- it is no longer than the longer one, and it is a way -/
theorem mbw_way {w v m : List Nat} (hw : w ≠ []) (hv : v ≠ []) (rw_ : rowB w = true) (rv : rowB v = true) (h : mbw w v = some m) : m ≠ [] ∧ rowB m = true ∧ ∃ k, m = w.take k ∨ m = v.take k := by
  obtain ⟨x, y, c, d, hq, E⟩ := drsF_ends hw hv rw_ rv
  unfold mbw at h
  rw [hq] at h
  dsimp only at h
  split at h
  · obtain ⟨i, hi⟩ : ∃ i, i = ((drs x y).map fun m => ltr m).length / 2 := ⟨_, rfl⟩
    rw [← hi] at h
    have hk := (List.getElem?_eq_some_iff.mp h).1
    obtain ⟨e, _, m', h2, h3, h4, ⟨j, h5⟩, _⟩ := drs_at E.rx E.ry hk
    rw [h2] at h
    cases h
    obtain ⟨p, hp⟩ := E.px
    obtain ⟨q, hq⟩ := E.py
    refine ⟨h3, h4, ?_⟩
    rcases h5 with h5 | h5
    · exact ⟨min j p, .inl (by rw [h5, hp, List.take_take])⟩
    · exact ⟨min j q, .inr (by rw [h5, hq, List.take_take])⟩
  · cases h
end En.V

/-! K06: from room to room. -/
namespace En.V
abbrev strL (l : List (List Nat)) : List D := l.map D.str
theorem wlk_get {x y : List Nat} {i : Nat} (h : i < (x.length - lcp x y + 1) + (y.length - lcp x y)) : (wlk x y)[i]? = some (if i ≤ x.length - lcp x y then x.take (x.length - i) else y.take (i + 2 * lcp x y - x.length)) := by
  have hl := lcp_le x y
  unfold wlk
  by_cases h1 : i < x.length - lcp x y + 1
  · rw [List.getElem?_append_left (by simpa using h1), List.getElem?_map, List.getElem?_range h1, if_pos (by omega)]
    rfl
  · rw [List.getElem?_append_right (by simp; omega), List.getElem?_map, List.length_map, List.length_range, List.getElem?_range (by omega), if_neg (by omega)]
    simp only [Option.map_some]
    congr 2
    omega
theorem wlk_len (x y : List Nat) : (wlk x y).length = (x.length - lcp x y + 1) + (y.length - lcp x y) := by simp [wlk]
theorem drs_get {x y : List Nat} {i : Nat} (h : i < (x.length - lcp x y) + (y.length - lcp x y)) : (drs x y)[i]? = some (if i < x.length - lcp x y then x.take (x.length - i) else y.take (i + 1 + 2 * lcp x y - x.length)) := by
  have hl := lcp_le x y
  unfold drs
  by_cases h1 : i < x.length - lcp x y
  · rw [List.getElem?_append_left (by simpa using h1), List.getElem?_map, List.getElem?_range h1, if_pos (by omega)]
    rfl
  · rw [List.getElem?_append_right (by simp; omega), List.getElem?_map, List.length_map, List.length_range, List.getElem?_range (by omega), if_neg (by omega)]
    simp only [Option.map_some]
    congr 2
    omega
theorem drs_len (x y : List Nat) : (drs x y).length = (x.length - lcp x y) + (y.length - lcp x y) := by simp [drs]
/-- the longer one of each two neighbours -/
def lng (l : List (List Nat)) (i : Nat) : List Nat := if (l.getD (i + 1) []).length < (l.getD i []).length then l.getD i [] else l.getD (i + 1) []
theorem lng_wlk (x y : List Nat) : (List.range ((wlk x y).length - 1)).map (lng (wlk x y)) = drs x y := by
  have hl := lcp_le x y
  refine List.ext_getElem? fun i => ?_
  rw [List.getElem?_map]
  by_cases hi : i < (wlk x y).length - 1
  · rw [List.getElem?_range hi]
    rw [wlk_len] at hi
    rw [drs_get (by omega)]
    simp only [Option.map_some]
    congr 1
    unfold lng
    simp only [List.getD_eq_getElem?_getD]
    rw [wlk_get (by omega), wlk_get (by omega)]
    simp only [Option.getD_some]
    by_cases h1 : i < x.length - lcp x y
    · rw [if_pos (show i ≤ x.length - lcp x y by omega), if_pos (show i + 1 ≤ x.length - lcp x y by omega), if_pos h1, if_pos (by simp; omega)]
    · rw [if_neg (show ¬ i + 1 ≤ x.length - lcp x y by omega), if_neg h1]
      by_cases h2 : i ≤ x.length - lcp x y
      · rw [if_pos h2, if_neg (by simp; omega)]
      · rw [if_neg h2, if_neg (by simp; omega)]
  · rw [List.getElem?_eq_none (by rw [List.length_range]; omega), List.getElem?_eq_none (by rw [drs_len]; rw [wlk_len] at hi; omega)]
    rfl
def lst0 (w : List Nat) : Nat := w.getD (w.length - 1) 0
theorem drs_pth (x y : List Nat) : (drs x y).map lst0 = pth x y := by
  have hl := lcp_le x y
  refine List.ext_getElem? fun i => ?_
  unfold pth
  rw [List.getElem?_map]
  by_cases hi : i < (drs x y).length
  · rw [drs_len] at hi
    rw [drs_get (by omega)]
    simp only [Option.map_some]
    by_cases h1 : i < x.length - lcp x y
    · rw [if_pos h1, List.getElem?_append_left (by simp; omega), List.getElem?_reverse (by simp; omega), List.getElem?_drop, List.length_drop]
      unfold lst0
      rw [List.getD_eq_getElem?_getD, List.getElem?_take, List.length_take, if_pos (by omega), show min (x.length - i) x.length - 1 = lcp x y + (x.length - lcp x y - 1 - i) by omega, List.getElem?_eq_getElem (by omega)]
      rfl
    · rw [if_neg h1, List.getElem?_append_right (by simp; omega), List.getElem?_drop, List.length_reverse, List.length_drop]
      unfold lst0
      rw [List.getD_eq_getElem?_getD, List.getElem?_take, List.length_take, if_pos (by omega), show min (i + 1 + 2 * lcp x y - x.length) y.length - 1 = lcp x y + (i - (x.length - lcp x y)) by omega, List.getElem?_eq_getElem (by omega)]
      rfl
  · rw [List.getElem?_eq_none (by omega), List.getElem?_eq_none (by rw [drs_len] at hi; simp; omega)]
    rfl
theorem drs_ne (x y : List Nat) : ∀ w ∈ drs x y, w ≠ [] ∧ w.length ≤ x.length + y.length := fun w hw => by
  have hl := lcp_le x y
  obtain ⟨i, hi⟩ := List.mem_iff_getElem?.mp hw
  have h2 := (List.getElem?_eq_some_iff.mp hi).1
  rw [drs_len] at h2
  rw [drs_get (by omega)] at hi
  have := Option.some.inj hi
  have h3 : 0 < w.length ∧ w.length ≤ x.length + y.length := by
    rw [← this]
    split <;> simp <;> omega
  exact ⟨fun e => by rw [e] at h3; simp at h3, h3.2⟩
theorem pth_len (x y : List Nat) : (pth x y).length = (drs x y).length := by rw [← drs_pth, List.length_map]
theorem wlk_ne (x y : List Nat) : ∀ w ∈ wlk x y, w.length ≤ x.length + y.length := fun w hw => by
  obtain ⟨k, _, ⟨_, rfl⟩ | ⟨_, rfl⟩⟩ := mem_wlk.mp hw <;> simp <;> omega
/-! ### the program -/
theorem c_m_rows_path {n : Nat} (hn : 2 ≤ n) (x y : List Nat) (hx : x.length < 100000) (hy : y.length < 100000) : pg.call n 24 none [.str x, .str y] = .ok (.str (pth x y), none) := by
  rw [call_v (show pg.fn 24 = some ⟨_, _, _, _, _⟩ from rfl) (by omega) _ rfl]
  have h1 := c_m_rows_shared (n := n - 1) (by omega) x y hx
  have hle := lcp_le x y
  have h2 := c_m_rows_back (n := n - 1) (by omega) (x.drop (lcp x y))
  have e5 : ∀ z : List Nat, cutL z (some (lcp x y : Int)) none = z.drop (lcp x y) := fun z => by
    rw [cutL_lo _ _ (by omega)]
    congr 1
  have e3 : x.length - lcp x y + (y.length - lcp x y) ≤ bigLine := by rw [bigLine_val]; omega
  simp [-cutL_lo, -List.reverse_drop, h1, h2, e5, e3, pth]
theorem c_m_rows_distance {n : Nat} (hn : 3 ≤ n) (x y : List Nat) (hx : x.length < 100000) (hy : y.length < 100000) : pg.call n 25 none [.str x, .str y] = .ok (.int (drs x y).length, none) := by
  rw [call_v (show pg.fn 25 = some ⟨_, _, _, _, _⟩ from rfl) (by omega) _ rfl]
  have h1 := c_m_rows_path (n := n - 1) (by omega) x y hx hy
  simp [h1, pth_len]
theorem c_m_rows_doors_on {n : Nat} (hn : 2 ≤ n) (x y : List Nat) (hx : x.length < 100000) (hy : y.length < 100000) : pg.call n 26 none [.str x, .str y] = .ok (.tup (strL (drs x y)), none) := by
  rw [call_v (show pg.fn 26 = some ⟨_, _, _, _, _⟩ from rfl) (by omega) _ rfl]
  have h1 := c_m_rows_shared (n := n - 1) (by omega) x y hx
  have hle := lcp_le x y
  have r1 : rOk (x.length : Int) = true := rOk_nn (by omega) (by omega)
  have r2 : rOk (lcp x y : Int) = true := rOk_nn (by omega) (by omega)
  have r3 : rOk ((y.length : Int) + 1) = true := rOk_nn (by omega) (by omega)
  have r4 : rOk ((lcp x y : Int) + 1) = true := rOk_nn (by omega) (by omega)
  have k1 : ((x.length : Int) - (lcp x y : Int)).toNat = x.length - lcp x y := by omega
  have k2 : ((y.length : Int) + 1 - ((lcp x y : Int) + 1)).toNat = y.length - lcp x y := by omega
  have dn : ∀ (n : Nat) (a : Int), rngDn a n = (List.range n).map fun (i : Nat) => D.int (a - i) := by
    intro n
    induction n with
    | zero => intro a; rfl
    | succ n ih =>
      intro a
      rw [rngDn, ih, List.range_succ_eq_map, List.map_cons, List.map_map]
      congr 1
      · simp
      · refine List.map_congr_left fun i _ => ?_
        simp only [Function.comp]
        congr 1
        push_cast
        omega
  have c1 := cmp_all (S := pS (n - 1)) (own := [4]) (tg := .nm 4) (x := .p2 .slcHi (.var 0) (.var 4)) (List.range (x.length - lcp x y)) (fun (i : Nat) => .int ((x.length : Int) - i)) (fun i => .str (x.take (x.length - i))) [.val (.str x), .val (.str y), .val (.int (lcp x y)), .no, .no] rfl (by rw [List.length_range, bigLine_val]; omega) fun i hi => by
    have hi' := List.mem_range.mp hi
    have : cutL x none (some ((x.length : Int) - i)) = x.take (x.length - i) := by
      rw [cutL_hi _ _ (by omega)]
      congr 1
      omega
    simp [wipeE, this]
  have c2 : ∀ s3 : Sl, _ := fun s3 => cmp_all (S := pS (n - 1)) (own := [4]) (tg := .nm 4) (x := .p2 .slcHi (.var 1) (.var 4)) (List.range (y.length - lcp x y)) (fun (i : Nat) => .int ((lcp x y : Int) + 1 + i)) (fun i => .str (y.take (lcp x y + 1 + i))) [.val (.str x), .val (.str y), .val (.int (lcp x y)), .val (.lst (strL ((List.range (x.length - lcp x y)).map fun i => x.take (x.length - i)))), .no] rfl (by rw [List.length_range, bigLine_val]; omega) fun i hi => by
    have hi' := List.mem_range.mp hi
    have : cutL y none (some ((lcp x y : Int) + 1 + i)) = y.take (lcp x y + 1 + i) := by
      rw [cutL_hi _ _ (by omega)]
      congr 1
    simp [wipeE, this]
  have e3 : x.length - lcp x y + (y.length - lcp x y) ≤ bigLine := by rw [bigLine_val]; omega
  have c2' := c2 .no
  simp only [strL, List.map_map, Function.comp_def] at c2'
  simp [h1, r1, r2, r3, r4, k1, k2, dn, rngD_map, c1, c2', e3, drs, strL, Function.comp_def]
theorem c_m_rows_meeting {n : Nat} (hn : 2 ≤ n) (x y z : List Nat) (hx : x.length < 100000) (hy : y.length < 100000) : pg.call n 27 none [.str x, .str y, .str z] = .ok (.str (mtg x y z), none) := by
  rw [call_v (show pg.fn 27 = some ⟨_, _, _, _, _⟩ from rfl) (by omega) _ rfl]
  have h1 := c_m_rows_shared (n := n - 1) (by omega) x y hx
  have h2 := c_m_rows_shared (n := n - 1) (by omega) x z hx
  have h3 := c_m_rows_shared (n := n - 1) (by omega) y z hy
  have hs : P3.run .max3 (.int (lcp x y)) (.int (lcp x z)) (.int (lcp y z)) = .ok (.int ((max (max (lcp x y) (lcp x z)) (lcp y z) : Nat) : Int)) := by
    rw [run_max3]
    congr 2
    simp only []
    split <;> split <;> omega
  generalize hM : max (max (lcp x y) (lcp x z)) (lcp y z) = M at hs
  have e : mtg x y z = if lcp y z = M then y.take M else x.take M := by rw [← hM]; rfl
  have e5 : ∀ z : List Nat, cutL z none (some (M : Int)) = z.take M := fun z => by
    rw [cutL_hi _ _ (by omega)]
    congr 1
  rw [e]
  by_cases h : lcp y z = M
  · rw [h] at h3 hs
    simp [-run_max3, -cutL_hi, h1, h2, h3, hs, e5, h]
  · have h' : ¬ ((lcp y z : Int) = (M : Int)) := by omega
    simp [-run_max3, -cutL_hi, h1, h2, h3, hs, e5, h, h']
end En.V

/-! M8: how far the product of two mirrors moves a room. -/
namespace En.V
/-- a row that stays one when it is written twice -/
def Cyc (T : List Nat) : Prop := rowB (T ++ T) = true
theorem rowB_pre {u v : List Nat} (h : rowB (u ++ v) = true) : rowB u = true := by
  have := rowB_take u.length h
  rwa [List.take_left] at this
theorem rowB_suf {u v : List Nat} (h : rowB (u ++ v) = true) : rowB v = true := by
  have := rowB_drop u.length h
  rwa [List.drop_left] at this
theorem rowB_jn2 {u v : List Nat} {c d : Nat} (h : rowB (u ++ [c]) = true) (h2 : rowB (d :: v) = true) (hn : c ≠ d) : rowB (u ++ c :: d :: v) = true := rowB_mid u c (d :: v) h (rowB_mk hn h2)
theorem Cyc.row {T : List Nat} (h : Cyc T) : rowB T = true := rowB_pre h
theorem Cyc.rot {a : Nat} {T : List Nat} (h : Cyc (a :: T)) : Cyc (T ++ [a]) := by
  have h1 : rowB ((a :: T) ++ (a :: T)) = true := h
  have h2 : rowB (T ++ a :: T) = true := rowB_suf (u := [a]) (by simpa using h1)
  have h3 : rowB (T ++ [a]) = true := rowB_pre (v := T) (by simpa using h2)
  have h4 : rowB ((a :: T) ++ [a]) = true := rowB_pre (v := T) (by simpa using h1)
  have := rowB_mid T a (T ++ [a]) h3 (by simpa using h4)
  unfold Cyc
  simpa using this
theorem Cyc.rot' {a : Nat} {T : List Nat} (h : Cyc (T ++ [a])) : Cyc (a :: T) := by
  have h1 : rowB ((T ++ [a]) ++ (T ++ [a])) = true := h
  have h2 : rowB (a :: (T ++ [a])) = true := rowB_suf (u := T) (by simpa using h1)
  have h3 : rowB ((a :: T) ++ [a]) = true := by simpa using h2
  have h4 : rowB (a :: T) = true := rowB_pre h3
  have := rowB_mid (a :: T) a T h3 h4
  unfold Cyc
  simpa using this
theorem cyc_min : ∀ (g T : List Nat), rowB g = true → Cyc T → T.length ≤ (red (g.reverse ++ (T ++ g))).length
  | [], T, _, h => by
    simp only [List.reverse_nil, List.nil_append, List.append_nil]
    rw [red_row h.row]
    exact Nat.le_refl _
  | a :: g, T, hg, h => by
    have e0 : (a :: g).reverse ++ (T ++ a :: g) = g.reverse ++ (a :: (T ++ (a :: g))) := by simp
    rw [e0]
    cases hT : T with
    | nil => exact Nat.zero_le _
    | cons b T' =>
      rw [hT] at h
      by_cases hb : b = a
      · subst hb
        have e1 := red_drop g.reverse (T' ++ (b :: g)) b
        have ih := cyc_min g (T' ++ [b]) (rowB_tail hg) h.rot
        rw [show g.reverse ++ b :: (b :: T' ++ b :: g) = g.reverse ++ b :: b :: (T' ++ (b :: g)) by simp, e1]
        simpa using ih
      · obtain ⟨U, l, hl⟩ := ne_snoc (w := b :: T') (by simp)
        rw [hl] at h ⊢
        by_cases hla : l = a
        · subst hla
          have e1 := red_drop (g.reverse ++ l :: U) g l
          have ih := cyc_min g (l :: U) (rowB_tail hg) h.rot'
          rw [show g.reverse ++ l :: (U ++ [l] ++ l :: g) = (g.reverse ++ l :: U) ++ l :: l :: g by simp, e1]
          simpa using ih
        · have r1 : rowB (g.reverse ++ [a]) = true := by simpa using rowB_rev hg
          have r2 : rowB (b :: T') = true := by rw [hl]; exact h.row
          have r3 : rowB (g.reverse ++ a :: b :: T') = true := rowB_jn2 r1 r2 (Ne.symm hb)
          have r4 : rowB ((g.reverse ++ a :: U) ++ [l]) = true := by
            have e : (g.reverse ++ a :: U) ++ [l] = g.reverse ++ a :: b :: T' := by rw [hl]; simp
            rw [e]
            exact r3
          have r5 := rowB_jn2 r4 hg hla
          rw [show g.reverse ++ a :: (U ++ [l] ++ a :: g) = (g.reverse ++ a :: U) ++ l :: a :: g by simp, red_row r5]
          simp
          omega
/-- x's own move: over the row of doors and back -/
theorem move_core {L t t' : List Nat} {c d : Nat} (hr : rowB L = true) (h1 : L = c :: t) (h2 : L = t' ++ [d]) : Cyc (t' ++ t.reverse) ∧ (t' ++ t.reverse).length = 2 * L.length - 2 := by
  have l1 : L.length = t.length + 1 := by rw [h1, List.length_cons]
  have l2 : L.length = t'.length + 1 := by rw [h2, List.length_append]; rfl
  refine ⟨?_, by rw [List.length_append, List.length_reverse]; omega⟩
  cases t' with
  | nil =>
    have : t = [] := List.length_eq_zero_iff.mp (by rw [List.length_nil] at l2; omega)
    rw [this]
    rfl
  | cons c' m =>
    have e : c :: t = c' :: (m ++ [d]) := by rw [← h1, h2]; rfl
    have hc : c = c' := (List.cons.inj e).1
    have ht : t = m ++ [d] := (List.cons.inj e).2
    subst hc
    rw [ht]
    have r0 : rowB (c :: (m ++ [d])) = true := by rw [h2] at hr; exact hr
    have r1 : rowB ((c :: m) ++ [d]) = true := r0
    have r2 : rowB (d :: m.reverse) = true := by
      have := rowB_rev (rowB_tail r0)
      rwa [List.reverse_append] at this
    have r3 : rowB (m.reverse ++ [c]) = true := by
      have := rowB_rev (rowB_pre r1)
      rwa [List.reverse_cons] at this
    have e3 : (c :: m) ++ (m ++ [d]).reverse = (c :: m) ++ d :: m.reverse := by rw [List.reverse_append]; rfl
    rw [e3]
    have r4 : rowB ((c :: m) ++ d :: m.reverse) = true := rowB_mid _ _ _ r1 r2
    -- the end before the beginning
    have r5 : rowB (((c :: m) ++ d :: m.reverse) ++ [c]) = true := by
      have r6 : rowB (d :: (m.reverse ++ [c])) = true := by
        have := rowB_rev r0
        rwa [List.reverse_cons, List.reverse_append] at this
      have := rowB_mid (c :: m) d (m.reverse ++ [c]) r1 r6
      rw [List.append_assoc]
      exact this
    have r7 := rowB_mid ((c :: m) ++ d :: m.reverse) c (m ++ d :: m.reverse) r5 r4
    exact r7
theorem move_at {L t t' x : List Nat} {c d : Nat} (h1 : L = c :: t) (h2 : L = t' ++ [d]) (r : List Nat) (y pw pv : List Nat) (hL : red (x.reverse ++ y) = L) (hw : pw = red (x ++ ([c] ++ x.reverse))) (hv : pv = red (y ++ ([d] ++ y.reverse))) :
    red (r.reverse ++ (pv ++ (pw ++ r))) = red ((red (x.reverse ++ r)).reverse ++ ((t' ++ t.reverse) ++ red (x.reverse ++ r))) := by
  have hL' : red (y.reverse ++ x) = L.reverse := by
    rw [← hL, ← red_rev]
    simp
  -- y = x L
  have e1 : red (r.reverse ++ (pv ++ (pw ++ r))) = red (r.reverse ++ (y ++ ([d] ++ (y.reverse ++ (x ++ ([c] ++ (x.reverse ++ r))))))) := by
    rw [hw, hv, red_mid, red_md2, ]
    simp only [List.append_assoc]
  have e2 : red ((red (x.reverse ++ r)).reverse ++ ((t' ++ t.reverse) ++ red (x.reverse ++ r))) = red (r.reverse ++ (x ++ (t' ++ (t.reverse ++ (x.reverse ++ r))))) := by
    rw [← red_rev, red_app]
    simp only [List.append_assoc, List.reverse_append, List.reverse_reverse]
    rw [red_tl4]
  rw [e1, e2]
  have e3 : red (r.reverse ++ (y ++ ([d] ++ (y.reverse ++ (x ++ ([c] ++ (x.reverse ++ r))))))) = red (r.reverse ++ (x ++ (L ++ ([d] ++ (L.reverse ++ ([c] ++ (x.reverse ++ r))))))) := by
    have a1 : red (r.reverse ++ (y ++ ([d] ++ (y.reverse ++ (x ++ ([c] ++ (x.reverse ++ r))))))) = red (r.reverse ++ (y ++ ([d] ++ (L.reverse ++ ([c] ++ (x.reverse ++ r)))))) := by
      rw [← hL', red_md3]
      simp only [List.append_assoc]
    have a2 : red (r.reverse ++ (x ++ (L ++ ([d] ++ (L.reverse ++ ([c] ++ (x.reverse ++ r))))))) = red (r.reverse ++ (y ++ ([d] ++ (L.reverse ++ ([c] ++ (x.reverse ++ r)))))) := by
      rw [← hL, red_md2]
      simp only [List.append_assoc]
      exact can1 r.reverse x _
    rw [a1, a2]
  rw [e3]
  have e4 : r.reverse ++ (x ++ (L ++ ([d] ++ (L.reverse ++ ([c] ++ (x.reverse ++ r)))))) = (r.reverse ++ (x ++ t')) ++ d :: d :: ((L.reverse ++ ([c] ++ (x.reverse ++ r)))) := by
    rw [h2]
    simp
  rw [e4, red_drop]
  have e5 : (r.reverse ++ (x ++ t')) ++ (L.reverse ++ ([c] ++ (x.reverse ++ r))) = (r.reverse ++ (x ++ (t' ++ t.reverse))) ++ c :: c :: (x.reverse ++ r) := by
    rw [h1]
    simp
  rw [e5, red_drop]
  simp
end En.V

/-! M9: rooms and doors between, the laws of k46. -/
namespace En.V
/-- how far the product of the mirrors of w and v moves the room r -/
def led (w v r : List Nat) : Nat := (red (r.reverse ++ (pal v ++ (pal w ++ r)))).length
theorem led_spec {w v : List Nat} (hw : w ≠ []) (hv : v ≠ []) (rw_ : rowB w = true) (rv : rowB v = true) :
    (∀ r, 2 * (drsF w v).length - 2 ≤ led w v r) ∧ (∃ i, led w v (w.take i) = 2 * (drsF w v).length - 2) := by
  obtain ⟨x, y, c, d, e, E⟩ := drsF_ends hw hv rw_ rv
  obtain ⟨t, h1⟩ := E.s
  obtain ⟨t', h2⟩ := E.e
  have hr := red_is_row (x.reverse ++ y)
  have key := fun r => move_at (x := x) (L := red (x.reverse ++ y)) h1 h2 r y (pal w) (pal v) rfl E.pw E.pv
  obtain ⟨k1, k2⟩ := move_core hr h1 h2
  rw [e, drs_lenR E.rx E.ry]
  refine ⟨fun r => ?_, ?_⟩
  · unfold led
    rw [key r, ← k2]
    exact cyc_min _ _ (red_is_row _) k1
  · obtain ⟨i, hi⟩ := E.px
    refine ⟨i, ?_⟩
    unfold led
    rw [← hi, key x]
    have e0 : red (x.reverse ++ x) = [] := by
      have := can4 [] x
      simpa [red] using this
    rw [e0]
    simp only [List.reverse_nil, List.nil_append, List.append_nil]
    rw [red_row k1.row, k2]
theorem wlk_rev (x y : List Nat) : wlk y x = (wlk x y).reverse := by
  have hl := lcp_le x y
  have hc := lcp_comm x y
  have e1 : (wlk y x).length = (wlk x y).length := by rw [wlk_len, wlk_len, ← hc]; omega
  refine List.ext_getElem? fun i => ?_
  by_cases hi : i < (wlk x y).length
  · rw [List.getElem?_reverse hi]
    have hi2 := hi
    rw [wlk_len] at hi2
    rw [wlk_get (by rw [← hc]; omega), wlk_get (by rw [wlk_len]; omega), wlk_len, ← hc]
    congr 1
    have q := (take_eq_iff x y (lcp x y) hl.1).mpr (Nat.le_refl _)
    by_cases h1 : i < y.length - lcp x y
    · rw [if_pos (by omega), if_neg (by omega)]
      congr 1
      omega
    · by_cases h2 : i = y.length - lcp x y
      · rw [if_pos (by omega), if_pos (by omega), show y.length - i = lcp x y by omega, show x.length - (x.length - lcp x y + 1 + (y.length - lcp x y) - 1 - i) = lcp x y by omega, q]
      · rw [if_neg (by omega), if_pos (by omega)]
        congr 1
        omega
  · rw [List.getElem?_eq_none (by rw [e1]; omega), List.getElem?_eq_none (by rw [List.length_reverse]; omega)]
theorem drs_rev (x y : List Nat) : drs y x = (drs x y).reverse := by
  have hl := lcp_le x y
  have hc := lcp_comm x y
  have e1 : (drs y x).length = (drs x y).length := by rw [drs_len, drs_len, ← hc]; omega
  refine List.ext_getElem? fun i => ?_
  by_cases hi : i < (drs x y).length
  · rw [List.getElem?_reverse hi]
    have hi2 := hi
    rw [drs_len] at hi2
    rw [drs_get (by rw [← hc]; omega), drs_get (by rw [drs_len]; omega), drs_len, ← hc]
    congr 1
    by_cases h1 : i < y.length - lcp x y
    · rw [if_pos (by omega), if_neg (by omega)]
      congr 1
      omega
    · rw [if_neg (by omega), if_pos (by omega)]
      congr 1
      omega
  · rw [List.getElem?_eq_none (by rw [e1]; omega), List.getElem?_eq_none (by rw [List.length_reverse]; omega)]
def mx2 (a b : List Nat) : List Nat := if a.length < b.length then b else a
theorem zip_get {α : Type} (l : List α) (i : Nat) (a b : α) (h : l[i]? = some a) (h2 : l[i + 1]? = some b) : (l.zip (l.drop 1))[i]? = some (a, b) := by
  rw [List.getElem?_zip_eq_some]
  refine ⟨h, ?_⟩
  rw [List.getElem?_drop, Nat.add_comm]
  exact h2
theorem mx_wlk (x y : List Nat) : ((wlk x y).zip ((wlk x y).drop 1)).map (fun p => mx2 p.1 p.2) = drs x y := by
  have hl := lcp_le x y
  refine List.ext_getElem? fun i => ?_
  rw [List.getElem?_map]
  by_cases hi : i < (x.length - lcp x y) + (y.length - lcp x y)
  · rw [drs_get hi, zip_get _ i _ _ (wlk_get (by omega)) (wlk_get (by omega))]
    simp only [Option.map_some]
    congr 1
    unfold mx2
    by_cases h1 : i < x.length - lcp x y
    · rw [if_pos (show i ≤ x.length - lcp x y by omega), if_pos (show i + 1 ≤ x.length - lcp x y by omega), if_pos h1, if_neg (by simp; omega)]
    · rw [if_neg (show ¬ i + 1 ≤ x.length - lcp x y by omega), if_neg h1]
      by_cases h2 : i ≤ x.length - lcp x y
      · rw [if_pos h2, if_pos (by simp; omega)]
      · rw [if_neg h2, if_pos (by simp; omega)]
  · rw [List.getElem?_eq_none (by rw [List.length_zip, List.length_drop, wlk_len]; omega), List.getElem?_eq_none (by rw [drs_len]; omega)]
    rfl
theorem wlk_at {x y : List Nat} (hx : rowB x = true) (hy : rowB y = true) {k : Nat} (hk : k ≤ (drs x y).length) : (wlk x y)[k]? = some (red (x ++ (pth x y).take k)) := by
  have hl := lcp_le x y
  rw [drs_len] at hk
  rw [wlk_get (by omega)]
  congr 1
  unfold pth
  have q := (take_eq_iff x y (lcp x y) hl.1).mpr (Nat.le_refl _)
  by_cases h : k ≤ x.length - lcp x y
  · rw [if_pos h, List.take_append_of_le_length (by simp; omega)]
    have e1 : ((x.drop (lcp x y)).reverse).take k = (x.drop (x.length - k)).reverse := by
      rw [List.take_reverse, List.length_drop, List.drop_drop]
      congr 2
      omega
    have e4 := can3 (x.take (x.length - k)) (x.drop (x.length - k))
    rw [← List.append_assoc, List.take_append_drop] at e4
    rw [e1, e4, red_row (rowB_take _ hx)]
  · rw [if_neg h]
    have e1 : ((x.drop (lcp x y)).reverse ++ y.drop (lcp x y)).take k = (x.drop (lcp x y)).reverse ++ (y.drop (lcp x y)).take (k - (x.length - lcp x y)) := by
      rw [List.take_append, List.take_of_length_le (by simp; omega)]
      simp
    have e2 : x ++ ((x.drop (lcp x y)).reverse ++ (y.drop (lcp x y)).take (k - (x.length - lcp x y))) = x.take (lcp x y) ++ (x.drop (lcp x y) ++ ((x.drop (lcp x y)).reverse ++ (y.drop (lcp x y)).take (k - (x.length - lcp x y)))) := by
      rw [← List.append_assoc (x.take (lcp x y)), List.take_append_drop]
    rw [e1, e2, can1, q]
    have e3 : y.take (lcp x y) ++ (y.drop (lcp x y)).take (k - (x.length - lcp x y)) = y.take (k + 2 * lcp x y - x.length) := by
      rw [show k + 2 * lcp x y - x.length = lcp x y + (k - (x.length - lcp x y)) by omega, List.take_add]
    rw [e3, red_row (rowB_take _ hy)]
/-- what the law's own walk over the four pairs keeps -/
theorem maxLenG_nil {α : Type} (d : List α) (r : List (List α)) : maxLenG [] (d :: r) = maxLenG d r := by
  rw [maxLenG]
  split
  · rfl
  · rename_i h
    have : d = [] := List.length_eq_zero_iff.mp (by simp at h; simp [h])
    rw [this]
theorem sn_one {a : Nat} {r : List Nat} (h : rowB (a :: r) = true) (h0 : r ≠ []) : sn (a :: r) [a] = r := by
  obtain ⟨u, c, rfl⟩ := ne_snoc h0
  have e1 : pal [a] = [a] := by simp [pal]
  unfold sn
  have e2 : pal (a :: (u ++ [c])) = [a] ++ (pal (u ++ [c]) ++ [a]) := by
    rw [show a :: (u ++ [c]) = (a :: u) ++ [c] from rfl, pal_snoc, pal_snoc]
    simp
  rw [e1, e2]
  have e3 := red_drop [] ((pal (u ++ [c]) ++ [a]) ++ [a]) a
  have e4 := red_drop (pal (u ++ [c])) [] a
  rw [show [a] ++ ([a] ++ (pal (u ++ [c]) ++ [a])) ++ [a] = [] ++ a :: a :: ((pal (u ++ [c]) ++ [a]) ++ [a]) by simp, e3]
  rw [show [] ++ ((pal (u ++ [c]) ++ [a]) ++ [a]) = pal (u ++ [c]) ++ a :: a :: [] by simp, e4, List.append_nil, red_row (pal_row (by simp) (rowB_tail h)), half_pal (by simp)]
theorem ltr_snoc (u : List Nat) (c : Nat) : ltr (u ++ [c]) = c := by unfold ltr; simp
theorem sn_last {w v : List Nat} (hw : w ≠ []) (hv : v ≠ []) (rw_ : rowB w = true) : ltr (sn w v) = ltr w := by
  obtain ⟨u, c, rfl⟩ := ne_snoc hw
  obtain ⟨q, e, hq⟩ := ne_snoc (sn_ne (one := u ++ [c]) (other := v) (by simp) hv)
  have h1 := sn_pal (one := u ++ [c]) (other := v) (by simp) hv
  have hr := sn_row (u ++ [c]) v
  rw [hq] at h1 hr
  rw [pal_near hr] at h1
  rw [hq, ltr_snoc, ltr_snoc]
  -- e is c, led
  have h2 : red (red (q.reverse ++ (pal v ++ u)) ++ ([c] ++ (red (q.reverse ++ (pal v ++ u))).reverse)) = [e] := by
    have a1 : red (red (q.reverse ++ (pal v ++ u)) ++ ([c] ++ (red (q.reverse ++ (pal v ++ u))).reverse)) = red (q.reverse ++ (red (pal v ++ pal (u ++ [c]) ++ pal v) ++ q)) := by
      rw [← red_rev, red_app, red_mid, pal_snoc]
      have := red_tl2 (q.reverse ++ (pal v ++ u)) [c] ((q.reverse ++ (pal v ++ u)).reverse)
      rw [this]
      simp only [List.reverse_append, List.reverse_reverse, List.append_assoc, pal_rev hv]
      rfl
    rw [a1, ← h1, red_mid]
    have a2 := can2 [] q ([e] ++ (q.reverse ++ q))
    have a3 := can4 [e] q
    simp only [List.nil_append, List.append_assoc] at a2 a3 ⊢
    rw [a2, a3]
    rfl
  exact ((turns_letter (red_is_row _) h2).1).symm
end En.V

/-! M9b: the doors from one to another, told from the other. -/
namespace En.V
theorem far_one {L t t' : List Nat} {c d : Nat} (hr : rowB L = true) (h1 : L = c :: t) (h2 : L = t' ++ [d]) (h : (red ([c] ++ red (L ++ [d]))).length = L.length) : L = [c] ∧ c = d := by
  have e1 : red (L ++ [d]) = t' := by
    have := red_drop t' [] d
    rw [h2, show t' ++ [d] ++ [d] = t' ++ d :: d :: [] by simp, this, List.append_nil]
    rw [h2] at hr
    exact red_row (rowB_pre hr)
  rw [e1] at h
  cases ht : t' with
  | nil =>
    rw [ht] at h2
    rw [h1] at h2
    cases h2
    exact ⟨h1, rfl⟩
  | cons c' m =>
    exfalso
    rw [ht] at h h2
    have hc : c = c' := by
      rw [h1] at h2
      exact (List.cons.inj h2).1
    subst hc
    have e2 := red_drop [] m c
    rw [List.nil_append, List.nil_append] at e2
    rw [show [c] ++ c :: m = c :: c :: m from rfl, e2] at h
    have h3 := red_len m
    rw [h2, List.length_append, List.length_cons] at h
    omega
theorem back_to {u z : List Nat} {c : Nat} (hz : rowB z = true) (h : red (u.reverse ++ z) = [c]) : z = red (u ++ [c]) := by
  rw [← h, red_app_r]
  have := cancel_l u z
  rw [this, red_row hz]
theorem drsF_same {u z : List Nat} {c d : Nat} (rw_ : rowB (u ++ [c]) = true) (rv : rowB (z ++ [d]) = true) (N : Nat)
    (g1 : (drs u z).length ≤ N) (g2 : (drs u (z ++ [d])).length ≤ N) (g3 : (drs (u ++ [c]) z).length ≤ N) (g4 : (drs (u ++ [c]) (z ++ [d])).length ≤ N) :
    ∀ a ∈ [drs u z, drs u (z ++ [d]), drs (u ++ [c]) z, drs (u ++ [c]) (z ++ [d])], ∀ b ∈ [drs u z, drs u (z ++ [d]), drs (u ++ [c]) z, drs (u ++ [c]) (z ++ [d])], a.length = N → b.length = N → a = b := by
  have ru := rowB_pre rw_
  have rz := rowB_pre rv
  have p1 : (drs u z).length % 2 ≠ (drs u (z ++ [d])).length % 2 := by
    rw [drs_lenR ru rz, drs_lenR ru rv, red_par, red_par]
    simp
    omega
  have p2 : (drs u z).length % 2 ≠ (drs (u ++ [c]) z).length % 2 := by
    rw [drs_lenR ru rz, drs_lenR rw_ rz, red_par, red_par]
    simp
    omega
  have p3 : (drs u z).length % 2 = (drs (u ++ [c]) (z ++ [d])).length % 2 := by
    rw [drs_lenR ru rz, drs_lenR rw_ rv, red_par, red_par]
    simp
    omega
  have n1 : ∀ t : List Nat, red ((u ++ [c]).reverse ++ t) = red ([c] ++ red (u.reverse ++ t)) := fun t => by
    rw [red_app_r, List.reverse_append]; simp
  have n3 : ∀ t : List Nat, red (t ++ (z ++ [d])) = red (red (t ++ z) ++ [d]) := fun t => by
    rw [red_app, List.append_assoc]
  have n4 : ∀ t : List Nat, red (t ++ z) = red (red (t ++ (z ++ [d])) ++ [d]) := fun t => by
    rw [red_app]
    have := red_drop (t ++ z) [] d
    rw [List.append_nil] at this
    rw [← this]
    simp
  -- the first and the last are never both the longest
  have no : (drs u z).length = N → (drs (u ++ [c]) (z ++ [d])).length = N → False := fun h1 h4 => by
    rw [← h1] at g2 g3 h4
    rw [drs_lenR ru rz] at g2 g3 h4
    rw [drs_lenR ru rv] at g2
    rw [drs_lenR rw_ rz] at g3
    rw [drs_lenR rw_ rv] at h4
    obtain ⟨t, k1⟩ := starts (red_is_row (u.reverse ++ z)) (c := c) (by rw [← n1]; exact g3)
    obtain ⟨t', k2⟩ := ends (red_is_row (u.reverse ++ z)) (d := d) (by rw [← n3]; exact g2)
    obtain ⟨k3, k4⟩ := far_one (red_is_row _) k1 k2 (by rw [← n3, ← n1]; exact h4)
    have k5 := back_to rz k3
    rw [red_row rw_] at k5
    rw [k5, ← k4] at rv
    have := rowB_suf (u := u) (v := [c, c]) (by simpa using rv)
    exact rowB_ne this rfl
  have yes : (drs u (z ++ [d])).length = N → (drs (u ++ [c]) z).length = N → drs u (z ++ [d]) = drs (u ++ [c]) z := fun h2 h3 => by
    have hN := h2
    rw [← h2] at g1 g4 h3
    rw [drs_lenR ru rv] at g1 g4 h3
    rw [drs_lenR ru rz] at g1
    rw [drs_lenR rw_ rz] at h3
    rw [drs_lenR rw_ rv] at g4
    obtain ⟨t, k1⟩ := starts (red_is_row (u.reverse ++ (z ++ [d]))) (c := c) (by rw [← n1]; exact g4)
    obtain ⟨t', k2⟩ := ends (red_is_row (u.reverse ++ (z ++ [d]))) (d := d) (by rw [← n4]; exact g1)
    obtain ⟨k3, k4⟩ := far_one (red_is_row _) k1 k2 (by rw [← n4, ← n1]; exact h3)
    have k5 := back_to rv k3
    rw [red_row rw_] at k5
    have k6 : z = u := by
      have := congrArg List.dropLast k5
      simpa using this
    have k7 : (drs u (z ++ [d])).length = 1 := by rw [drs_lenR ru rv, k3]; rfl
    rw [k5] at k7 ⊢
    rw [k6, drs_rev u (u ++ [c])]
    obtain ⟨q, hq⟩ := List.length_eq_one_iff.mp k7
    rw [hq]
    rfl
  intro a ha b hb h1 h2
  simp only [List.mem_cons, List.not_mem_nil, or_false] at ha hb
  rcases ha with rfl | rfl | rfl | rfl <;> rcases hb with rfl | rfl | rfl | rfl <;> first | rfl | (exfalso; omega) | exact (no h1 h2).elim | exact (no h2 h1).elim | exact yes h1 h2 | exact (yes h2 h1).symm
theorem drsF_sym {w v : List Nat} (hw : w ≠ []) (hv : v ≠ []) (rw_ : rowB w = true) (rv : rowB v = true) : drsF v w = (drsF w v).reverse := by
  obtain ⟨u, c, rfl⟩ := ne_snoc hw
  obtain ⟨z, d, rfl⟩ := ne_snoc hv
  have hm := maxLenG_mem [drs u (z ++ [d]), drs (u ++ [c]) z, drs (u ++ [c]) (z ++ [d])] (drs u z)
  have hg := maxLenG_ge [drs u (z ++ [d]), drs (u ++ [c]) z, drs (u ++ [c]) (z ++ [d])] (drs u z)
  have hm2 := maxLenG_mem [drs z (u ++ [c]), drs (z ++ [d]) u, drs (z ++ [d]) (u ++ [c])] (drs z u)
  have hg2 := maxLenG_ge [drs z (u ++ [c]), drs (z ++ [d]) u, drs (z ++ [d]) (u ++ [c])] (drs z u)
  have e0 : drsF (u ++ [c]) (z ++ [d]) = maxLenG (drs u z) [drs u (z ++ [d]), drs (u ++ [c]) z, drs (u ++ [c]) (z ++ [d])] := by unfold drsF; simp
  have e1 : drsF (z ++ [d]) (u ++ [c]) = maxLenG (drs z u) [drs z (u ++ [c]), drs (z ++ [d]) u, drs (z ++ [d]) (u ++ [c])] := by unfold drsF; simp
  rw [← e0] at hm hg
  rw [← e1] at hm2 hg2
  generalize drsF (u ++ [c]) (z ++ [d]) = F at *
  generalize drsF (z ++ [d]) (u ++ [c]) = G at *
  rw [drs_rev u z, drs_rev (u ++ [c]) z, drs_rev u (z ++ [d]), drs_rev (u ++ [c]) (z ++ [d])] at hm2 hg2
  have g1 := hg (drs u z) (by simp)
  have g2 := hg (drs u (z ++ [d])) (by simp)
  have g3 := hg (drs (u ++ [c]) z) (by simp)
  have g4 := hg (drs (u ++ [c]) (z ++ [d])) (by simp)
  have q1 := hg2 (drs u z).reverse (by simp)
  have q2 := hg2 (drs u (z ++ [d])).reverse (by simp)
  have q3 := hg2 (drs (u ++ [c]) z).reverse (by simp)
  have q4 := hg2 (drs (u ++ [c]) (z ++ [d])).reverse (by simp)
  rw [List.length_reverse] at q1 q2 q3 q4
  have sm := drsF_same rw_ rv F.length g1 g2 g3 g4
  have hG : ∃ b ∈ [drs u z, drs u (z ++ [d]), drs (u ++ [c]) z, drs (u ++ [c]) (z ++ [d])], G = b.reverse := by
    simp only [List.mem_cons, List.not_mem_nil, or_false] at hm2
    rcases hm2 with h | h | h | h
    · exact ⟨_, by simp, h⟩
    · exact ⟨drs (u ++ [c]) z, by simp, h⟩
    · exact ⟨drs u (z ++ [d]), by simp, h⟩
    · exact ⟨drs (u ++ [c]) (z ++ [d]), by simp, h⟩
  obtain ⟨b, hb, rfl⟩ := hG
  rw [List.length_reverse] at q1 q2 q3 q4
  have l1 : b.length ≤ F.length := by
    simp only [List.mem_cons, List.not_mem_nil, or_false] at hb
    rcases hb with rfl | rfl | rfl | rfl <;> assumption
  have l2 : F.length ≤ b.length := by
    simp only [List.mem_cons, List.not_mem_nil, or_false] at hm
    rcases hm with h | h | h | h <;> rw [h] <;> assumption
  rw [sm F hm b hb rfl (by omega)]
end En.V

/-! M7: all rows of so many letters. -/
namespace En.V
/-- the letters that may stand behind a row -/
def nxL (m : Nat) (w : List Nat) : List Nat := (letters.take m).filter fun k => [k] != w.drop (w.length - 1)
def nxW (m : Nat) (w : List Nat) : List (List Nat) := (nxL m w).map fun k => w ++ [k]
def lvl (m : Nat) : Nat → List (List Nat)
  | 0 => [[]]
  | k + 1 => ((lvl m k).map (nxW m)).flatten
def allW (m : Nat) : Nat → List (List Nat)
  | 0 => []
  | k + 1 => allW m k ++ lvl m (k + 1)
theorem snoc_of_len {w : List Nat} {k : Nat} (h : w.length = k + 1) : ∃ u c, w = u ++ [c] ∧ u.length = k := by
  have h0 : w ≠ [] := fun e => by rw [e] at h; cases h
  obtain ⟨u, c, rfl⟩ := ne_snoc h0
  exact ⟨u, c, rfl, by rw [List.length_append] at h; exact Nat.succ.inj h⟩
theorem nxL_mem {m : Nat} {w : List Nat} {k : Nat} : k ∈ nxL m w ↔ k ∈ letters.take m ∧ [k] ≠ w.drop (w.length - 1) := by
  unfold nxL
  rw [List.mem_filter]
  simp
theorem last_ne {u : List Nat} {c : Nat} (h : rowB (u ++ [c]) = true) : [c] ≠ u.drop (u.length - 1) := by
  intro e
  by_cases h0 : u = []
  · subst h0; cases e
  · obtain ⟨v, a, rfl⟩ := ne_snoc h0
    rw [show (v ++ [a]).drop ((v ++ [a]).length - 1) = [a] by simp] at e
    cases e
    have := rowB_drop v.length h
    rw [List.append_assoc, List.drop_left] at this
    simp [rowB] at this
theorem lvl_mem {m : Nat} : ∀ (k : Nat) (w : List Nat), w ∈ lvl m k ↔ w.length = k ∧ rowB w = true ∧ ∀ c ∈ w, c ∈ letters.take m
  | 0, w => by
    rw [lvl, List.mem_singleton]
    constructor
    · rintro rfl
      exact ⟨rfl, rfl, fun c hc => nomatch hc⟩
    · rintro ⟨h, _⟩
      exact List.length_eq_zero_iff.mp h
  | k + 1, w => by
    rw [lvl, List.mem_flatten]
    constructor
    · rintro ⟨l, hl, hw⟩
      obtain ⟨u, hu, rfl⟩ := List.mem_map.mp hl
      obtain ⟨h1, h2, h3⟩ := (lvl_mem k u).mp hu
      obtain ⟨c, hc, rfl⟩ := List.mem_map.mp hw
      obtain ⟨h4, h5⟩ := nxL_mem.mp hc
      refine ⟨by rw [List.length_append, h1]; rfl, rowB_snoc u c h2 h5, fun x hx => ?_⟩
      rcases List.mem_append.mp hx with q | q
      · exact h3 x q
      · rw [List.mem_singleton.mp q]; exact h4
    · rintro ⟨h1, h2, h3⟩
      obtain ⟨u, c, rfl, hu⟩ := snoc_of_len h1
      have ru : rowB u = true := by
        have := rowB_take u.length h2
        rwa [List.take_left] at this
      exact ⟨nxW m u, List.mem_map.mpr ⟨u, (lvl_mem k u).mpr ⟨hu, ru, fun x hx => h3 x (List.mem_append_left _ hx)⟩, rfl⟩, List.mem_map.mpr ⟨c, nxL_mem.mpr ⟨h3 c (by simp), last_ne h2⟩, rfl⟩⟩
theorem letters_nodup (m : Nat) : (letters.take m).Nodup := (by decide : letters.Nodup).sublist (List.take_sublist _ _)
theorem nxW_nodup (m : Nat) (w : List Nat) : (nxW m w).Nodup := by
  unfold nxW
  rw [List.Nodup, List.pairwise_map]
  exact ((letters_nodup m).filter _).imp fun h e => h (by simpa using e)
theorem flatten_nodup {α β : Type} (f : α → List β) (g : β → α) : ∀ l : List α, l.Nodup → (∀ a ∈ l, (f a).Nodup) → (∀ a ∈ l, ∀ b ∈ f a, g b = a) → ((l.map f).flatten).Nodup
  | [], _, _, _ => List.Pairwise.nil
  | a :: l, h, h1, h2 => by
    obtain ⟨n1, n2⟩ := List.nodup_cons.mp h
    rw [List.map_cons, List.flatten_cons]
    refine List.nodup_append.mpr ⟨h1 a List.mem_cons_self, flatten_nodup f g l n2 (fun x hx => h1 x (List.mem_cons_of_mem _ hx)) fun x hx => h2 x (List.mem_cons_of_mem _ hx), fun x hx y hy e => ?_⟩
    subst e
    obtain ⟨l', hl', hx'⟩ := List.mem_flatten.mp hy
    obtain ⟨b, hb, rfl⟩ := List.mem_map.mp hl'
    have e1 := h2 a List.mem_cons_self x hx
    have e2 := h2 b (List.mem_cons_of_mem _ hb) x hx'
    rw [e1] at e2
    subst e2
    exact n1 hb
theorem lvl_nodup (m : Nat) : ∀ k, (lvl m k).Nodup
  | 0 => by simp [lvl]
  | k + 1 => flatten_nodup (nxW m) List.dropLast (lvl m k) (lvl_nodup m k) (fun a _ => nxW_nodup m a) fun a _ b hb => by
    obtain ⟨c, _, rfl⟩ := List.mem_map.mp hb
    exact List.dropLast_concat
theorem allW_mem {m : Nat} : ∀ (k : Nat) (w : List Nat), w ∈ allW m k ↔ w ≠ [] ∧ w.length ≤ k ∧ rowB w = true ∧ ∀ c ∈ w, c ∈ letters.take m
  | 0, w => by
    rw [allW]
    constructor
    · intro h; cases h
    · rintro ⟨h1, h2, _⟩
      exact absurd (List.length_eq_zero_iff.mp (by omega)) h1
  | k + 1, w => by
    rw [allW, List.mem_append, allW_mem k w, lvl_mem]
    constructor
    · rintro (⟨h1, h2, h3⟩ | ⟨h1, h2⟩)
      · exact ⟨h1, by omega, h3⟩
      · exact ⟨(fun e => by rw [e] at h1; cases h1), by omega, h2⟩
    · rintro ⟨h1, h2, h3⟩
      by_cases h : w.length ≤ k
      · exact .inl ⟨h1, h, h3⟩
      · exact .inr ⟨by omega, h3⟩
theorem allW_nodup (m : Nat) : ∀ k, (allW m k).Nodup
  | 0 => List.Pairwise.nil
  | k + 1 => List.nodup_append.mpr ⟨allW_nodup m k, lvl_nodup m (k + 1), fun x hx y hy e => by
    subst e
    have h1 := (allW_mem k x).mp hx
    have h2 := (lvl_mem (k + 1) x).mp hy
    omega⟩
theorem nxW_len (m : Nat) (w : List Nat) : (nxW m w).length ≤ 8 := by
  unfold nxW nxL
  rw [List.length_map]
  have h1 := List.length_filter_le (fun k => [k] != w.drop (w.length - 1)) (letters.take m)
  have h2 : (letters.take m).length ≤ 8 := by rw [List.length_take]; exact Nat.min_le_right _ _
  omega
theorem flat_len {α β : Type} (f : α → List β) (c : Nat) : ∀ l : List α, (∀ a ∈ l, (f a).length ≤ c) → ((l.map f).flatten).length ≤ c * l.length
  | [], _ => Nat.zero_le _
  | a :: l, h => by
    rw [List.map_cons, List.flatten_cons, List.length_append, List.length_cons, Nat.mul_succ]
    have h1 := h a List.mem_cons_self
    have h2 := flat_len f c l fun x hx => h x (List.mem_cons_of_mem _ hx)
    omega
theorem lvl_len (m : Nat) : ∀ k, (lvl m k).length ≤ 8 ^ k
  | 0 => by simp [lvl]
  | k + 1 => by
    have h1 := flat_len (nxW m) 8 (lvl m k) fun a _ => nxW_len m a
    have h2 := lvl_len m k
    rw [lvl, Nat.pow_succ]
    omega
theorem allW_len (m : Nat) : ∀ k, (allW m k).length ≤ 2 * 8 ^ k
  | 0 => by simp [allW]
  | k + 1 => by
    have h1 := allW_len m k
    have h2 := lvl_len m (k + 1)
    rw [allW, List.length_append]
    rw [Nat.pow_succ] at h2 ⊢
    omega
end En.V

/-! EvX: exceptions, as simp lemmas. -/
namespace En.V
variable (S : Su) (e : Ev)
def xnS : Option Sl → Bool → Ev → R (D × Ev)
  | some (.exn _), neg, e => .ok (.bl neg, e)
  | some (.val .non), neg, e => .ok (.bl (!neg), e)
  | _, _, _ => .bad
@[simp] theorem xnS_exn (c : Nat) (b : Bool) (e : Ev) : xnS (some (.exn c)) b e = .ok (.bl b, e) := rfl
@[simp] theorem xnS_non (b : Bool) (e : Ev) : xnS (some (.val .non)) b e = .ok (.bl (!b), e) := rfl
@[simp] theorem ev_xno (b : Bool) (i : Nat) : ev S (.xno b i) e = xnS e[i]? b e := by
  rw [ev]
  unfold rdX xnS
  generalize e[i]? = z
  cases z with
  | none => rfl
  | some s =>
    cases s with
    | val d => cases d <;> rfl
    | _ => rfl
def xiS : Option Sl → List (Nat × Bool) → Ev → R (D × Ev)
  | some (.exn c), tb, e => R.bind (optR (tb.lookup c)) fun b => .ok (.bl b, e)
  | _, _, _ => .bad
@[simp] theorem xiS_exn (c : Nat) (tb : List (Nat × Bool)) (e : Ev) : xiS (some (.exn c)) tb e = R.bind (optR (tb.lookup c)) fun b => .ok (.bl b, e) := rfl
@[simp] theorem ev_xis (i : Nat) (tb : List (Nat × Bool)) : ev S (.xis i tb) e = xiS e[i]? tb e := by
  rw [ev]
  unfold rdXi xiS
  generalize e[i]? = z
  cases z with
  | none => rfl
  | some s =>
    cases s with
    | exn c =>
      dsimp only
      generalize tb.lookup c = y
      cases y <;> rfl
    | _ => rfl
@[simp] theorem lookS_xno (b : Bool) (i : Nat) : lookS S (.xno b i) e = R.bind (ev S (.xno b i) e) fun p => .ok (.hv p.1, p.2) := rfl
@[simp] theorem lookS_xis (i : Nat) (t : List (Nat × Bool)) : lookS S (.xis i t) e = R.bind (ev S (.xis i t) e) fun p => .ok (.hv p.1, p.2) := rfl
@[simp] theorem evS_rse (c : Nat) : evS S (.rse c) e = .exc c [] := by rw [evS]
@[simp] theorem evS_rzb (b : Ss) : evS S (.rzb b) e = evXs S b e := by rw [evS]
@[simp] theorem dry_ok' {α : Type} (a : α) : R.dry (.ok a) = .ok a := rfl
@[simp] theorem evS_rif (c : Ex) (a b : Ss) : evS S (.rif c a b) e = R.bind (R.dry (evT S c e)) fun t => if t.1 = true then evXs S a t.2 else evXs S b t.2 := by
  rw [evS]
  show R.bind (R.dry (evT S c e)) _ = _
  cases R.dry (evT S c e) with
  | ok p =>
    obtain ⟨t, e⟩ := p
    cases t <;> rfl
  | _ => rfl
@[simp] theorem evXs_nil : evXs S .nil e = .ok (.nx, e) := by rw [evXs]; rfl
@[simp] theorem dryU_t {α : Type} (m : M α) : dryU true m e = m e := rfl
@[simp] theorem dryU_f {α : Type} (m : M α) : dryU false m e = R.dry (m e) := rfl
@[simp] theorem isR_rse (c : Nat) : (St.rse c).isR = true := rfl
@[simp] theorem isR_rif (c : Ex) (a b : Ss) : (St.rif c a b).isR = true := rfl
@[simp] theorem isR_asg (i : Nat) (x : Ex) : (St.asg i x).isR = false := rfl
@[simp] theorem isR_new (i : Nat) (x : Fx) : (St.new i x).isR = false := rfl
@[simp] theorem isR_ret (x : Ex) : (St.ret x).isR = false := rfl
@[simp] theorem isR_loop (t : Tg) (i : It) (b : Ss) : (St.loop t i b).isR = false := rfl
@[simp] theorem isR_par (p : Ps) : (St.par p).isR = false := rfl
@[simp] theorem isR_unp (t : Tg) (x : Ex) : (St.unp t x).isR = false := rfl
@[simp] theorem isR_ite (c : Ex) (a b : Ss) : (St.ite c a b).isR = false := rfl
@[simp] theorem isR_whl (c : Ex) (b : Ss) : (St.whl c b).isR = false := rfl
@[simp] theorem isR_expr (x : Ex) : (St.expr x).isR = false := rfl
@[simp] theorem evXs_cons (s : St) (r : Ss) : evXs S (.cons s r) e = R.bind (dryU s.isR (evS S s) e) (nxt (evXs S r)) := by
  rw [evXs]
  show R.bind (dryU s.isR (evS S s) e) _ = R.bind _ _
  congr 1
  funext p
  obtain ⟨f, e⟩ := p
  cases f <;> rfl
/-- what is kept of the try's body -/
def okS (S : Su) : Option Es → D → Ev → R (D × Ev)
  | none, d, e => .ok (d, e)
  | some r, d, e => R.bind (evs S r e) fun m => if m.1.length + 1 ≤ bigLine then .ok (.lst (d :: m.1), m.2) else .bad
@[simp] theorem okS_none (d : D) (e : Ev) : okS S none d e = .ok (d, e) := rfl
@[simp] theorem okS_some (r : Es) (d : D) (e : Ev) : okS S (some r) d e = R.bind (evs S r e) fun m => if m.1.length + 1 ≤ bigLine then .ok (.lst (d :: m.1), m.2) else .bad := rfl
def tryR (S : Su) (i : Nat) (w : Option Es) (j g c : Nat) (e : Ev) : R (D × Option Ob) → R (Fl × Ev)
  | .ok p => R.bind (okS S w p.1 e) fun v => R.bind (wrS v.2[i]? i (.val v.1) v.2) fun u => .ok (.nx, u.2)
  | .exc c' [] => if c' = c then R.bind (wrS e[j]? j (.exn c) e) fun u => R.bind (wrS u.2[g]? g .no u.2) fun u => .ok (.nx, u.2) else .bad
  | _ => .bad
@[simp] theorem tryR_ok (i : Nat) (w : Option Es) (j g c : Nat) (p : D × Option Ob) : tryR S i w j g c e (.ok p) = R.bind (okS S w p.1 e) fun v => R.bind (wrS v.2[i]? i (.val v.1) v.2) fun u => .ok (.nx, u.2) := rfl
@[simp] theorem tryR_exc (i : Nat) (w : Option Es) (j g c c' : Nat) : tryR S i w j g c e (.exc c' []) = if c' = c then R.bind (wrS e[j]? j (.exn c) e) fun u => R.bind (wrS u.2[g]? g .no u.2) fun u => .ok (.nx, u.2) else .bad := rfl
@[simp] theorem evS_tryX (i f : Nat) (es : Es) (w : Option Es) (j g c : Nat) : evS S (.tryX i f es w j g c) e = R.bind (evs S es e) fun l => tryR S i w j g c l.2 (S.cf f none l.1) := by
  rw [evS]
  unfold tryM
  show R.bind (evs S es e) _ = R.bind (evs S es e) _
  cases evs S es e with
  | ok p =>
    obtain ⟨l, e⟩ := p
    rw [R.bind_ok, R.bind_ok]
    dsimp only
    unfold catchM
    dsimp only
    cases S.cf f none l with
    | ok q =>
      obtain ⟨d, o⟩ := q
      cases w with
      | none =>
        show R.bind (wr i (.val d) e) _ = R.bind (wrS e[i]? i (.val d) e) _
        rw [wr_ap]
        rfl
      | some r =>
        show R.bind (R.bind (evs S r e) _) _ = R.bind (R.bind (evs S r e) _) _
        cases evs S r e with
        | ok m =>
          obtain ⟨m, e1⟩ := m
          show R.bind ((if m.length + 1 ≤ bigLine then pure (.lst (d :: m)) else M.of .bad : M D) e1) _ = R.bind (if m.length + 1 ≤ bigLine then R.ok (D.lst (d :: m), e1) else R.bad) _
          by_cases h : m.length + 1 ≤ bigLine
          · rw [if_pos h, if_pos h]
            show R.bind (wr i (.val (.lst (d :: m))) e1) _ = R.bind (wrS e1[i]? i (.val (.lst (d :: m))) e1) _
            rw [wr_ap]
            rfl
          · rw [if_neg h, if_neg h]
            rfl
        | exc _ _ => rfl
        | bad => rfl
    | exc c' fs =>
      cases fs with
      | cons _ _ => rfl
      | nil =>
        show (if c' = c then _ else _ : M Fl) e = if c' = c then _ else _
        by_cases h : c' = c
        · subst h
          rw [if_pos rfl, if_pos rfl]
          show R.bind (wr j (.exn c') e) _ = R.bind (wrS e[j]? j (.exn c') e) _
          rw [wr_ap]
          cases wrS e[j]? j (.exn c') e with
          | ok u =>
            show R.bind (wr g .no u.2) _ = R.bind (wrS u.2[g]? g .no u.2) _
            rw [wr_ap]
            rfl
          | exc _ _ => rfl
          | bad => rfl
        · rw [if_neg h, if_neg h]
          rfl
    | bad => rfl
  | exc _ _ => rfl
  | bad => rfl
def tryER (j g c : Nat) (e : Ev) : R (D × Option Ob) → R (Fl × Ev)
  | .ok _ => .ok (.nx, e)
  | .exc c' [] => if c' = c then R.bind (wrS e[j]? j (.exn c) e) fun u => R.bind (wrS u.2[g]? g .no u.2) fun u => .ok (.nx, u.2) else .bad
  | _ => .bad
@[simp] theorem tryER_ok (j g c : Nat) (p : D × Option Ob) : tryER j g c e (.ok p) = .ok (.nx, e) := rfl
@[simp] theorem tryER_exc (j g c c' : Nat) : tryER j g c e (.exc c' []) = if c' = c then R.bind (wrS e[j]? j (.exn c) e) fun u => R.bind (wrS u.2[g]? g .no u.2) fun u => .ok (.nx, u.2) else .bad := rfl
@[simp] theorem evS_tryE (f : Nat) (es : Es) (j g c : Nat) : evS S (.tryE f es j g c) e = R.bind (evs S es e) fun l => tryER j g c l.2 (S.cf f none l.1) := by
  rw [evS]
  unfold tryEM
  show R.bind (evs S es e) _ = R.bind (evs S es e) _
  cases evs S es e with
  | ok p =>
    obtain ⟨l, e⟩ := p
    rw [R.bind_ok, R.bind_ok]
    dsimp only
    unfold catchM
    dsimp only
    cases S.cf f none l with
    | ok q => rfl
    | exc c' fs =>
      cases fs with
      | cons _ _ => rfl
      | nil =>
        show (if c' = c then _ else _ : M Fl) e = if c' = c then _ else _
        by_cases h : c' = c
        · subst h
          rw [if_pos rfl, if_pos rfl]
          show R.bind (wr j (.exn c') e) _ = R.bind (wrS e[j]? j (.exn c') e) _
          rw [wr_ap]
          cases wrS e[j]? j (.exn c') e with
          | ok u =>
            show R.bind (wr g .no u.2) _ = R.bind (wrS u.2[g]? g .no u.2) _
            rw [wr_ap]
            rfl
          | exc _ _ => rfl
          | bad => rfl
        · rw [if_neg h, if_neg h]
          rfl
    | bad => rfl
  | exc _ _ => rfl
  | bad => rfl
end En.V

/-! EvC: comprehensions with two fors; max of tuples by length. -/
namespace En.V
section
variable (S : Su) (e : Ev)
def innS (S : Su) (own2 : List Nat) (tg2 : Tg) (it2 : It) (cs : Option Ex) (x : Ex) (acc : Acc) : M Acc := fun e =>
  R.bind (evI S it2 e) fun p => lockd p.1.1 (fun e => R.bind (clean own2 e) fun _ => compL own2 tg2.put (tstM S cs) (ev S x) p.1.2 acc e) p.2
def cmp2L (S : Su) (own own2 : List Nat) (tg : Tg) (tg2 : Tg) (it2 : It) (cs : Option Ex) (x : Ex) (l : List D) : M Acc := inBlk own (compL2 own tg.put (innS S own2 tg2 it2 cs x) l (0, []))
theorem clean_same {own : List Nat} {e : Ev} {r : Unit × Ev} (h : clean own e = .ok r) : r.2 = e := by
  unfold clean at h
  split at h
  · cases h; rfl
  · cases h
@[simp] theorem evF_comp2 (own own2 : List Nat) (tg : Tg) (it : It) (tg2 : Tg) (it2 : It) (cs : Option Ex) (x : Ex) : evF S (.comp2 own own2 tg it tg2 it2 cs x) e =
    R.bind (evI S it e) fun p => R.bind (lockd p.1.1 (cmp2L S own own2 tg tg2 it2 cs x p.1.2) p.2) fun q => .ok (q.1.2.reverse, q.2) := by
  have key : ∀ acc, (do let p2 ← evI S it2; lockd p2.1 (do clean own2; compL own2 tg2.put (tstM S cs) (ev S x) p2.2 acc) : M Acc) = innS S own2 tg2 it2 cs x acc := fun acc => by
    funext e
    show R.bind (evI S it2 e) _ = R.bind (evI S it2 e) _
    congr 1
    funext p
    have e2 : (do clean own2; compL own2 tg2.put (tstM S cs) (ev S x) p.1.2 acc : M Acc) = fun e => R.bind (clean own2 e) fun _ => compL own2 tg2.put (tstM S cs) (ev S x) p.1.2 acc e := by
      funext e
      show R.bind (clean own2 e) _ = R.bind (clean own2 e) _
      cases h : clean own2 e with
      | ok r =>
        have := clean_same h
        obtain ⟨_, e'⟩ := r
        cases this
        rfl
      | exc _ _ => rfl
      | bad => rfl
    show lockd p.1.1 (do clean own2; compL own2 tg2.put (tstM S cs) (ev S x) p.1.2 acc : M Acc) p.2 = _
    rw [e2]
  have e3 := funext key
  cases cs with
  | none =>
    unfold cmp2L
    rw [evF]
    show R.bind (evI S it e) _ = R.bind (evI S it e) _
    congr 1
    funext p
    rw [← e3]
    rfl
  | some c =>
    unfold cmp2L
    rw [evF]
    show R.bind (evI S it e) _ = R.bind (evI S it e) _
    congr 1
    funext p
    rw [← e3]
    rfl
end
theorem compL2_nil (own : List Nat) (put : D → M Unit) (inner : Acc → M Acc) (acc : Acc) (e : Ev) : compL2 own put inner [] acc e = .ok (acc, e) := rfl
theorem compL2_cons (own : List Nat) (put : D → M Unit) (inner : Acc → M Acc) (x : D) (r : List D) (acc : Acc) (e : Ev) : compL2 own put inner (x :: r) acc e = R.bind (put x (wipeE own e)) fun p => R.bind (inner acc p.2) fun q => compL2 own put inner r q.1 q.2 := rfl
theorem wipe_subE {own own2 : List Nat} {e e' : Ev} (hs : ∀ j ∈ own2, j ∈ own) (h : wipeE own2 e' = wipeE own2 e) : wipeE own e' = wipeE own e := by
  have hl : e'.length = e.length := by rw [← wipe_len own2 e', h, wipe_len]
  refine List.ext_getElem? fun j => ?_
  by_cases hj : j < e.length
  · rw [wipe_get own e' j (by omega), wipe_get own e j hj]
    by_cases hm : j ∈ own
    · rw [if_pos hm, if_pos hm]
    · rw [if_neg hm, if_neg hm]
      have hm2 : j ∉ own2 := fun z => hm (hs j z)
      have h1 := wipe_get own2 e' j (by omega)
      have h2 := wipe_get own2 e j hj
      rw [if_neg hm2] at h1 h2
      rw [← h1, ← h2, h]
  · rw [List.getElem?_eq_none (by rw [wipe_len]; omega), List.getElem?_eq_none (by rw [wipe_len]; omega)]
theorem compL2_map {α : Type} {own : List Nat} {put : D → M Unit} {inner : Acc → M Acc} {g : α → D} {f : α → List D} {w : Ev} : ∀ (xs : List α) (acc : Acc) (e : Ev), wipeE own e = w → acc.1 + (xs.map f).flatten.length ≤ bigLine →
    (∀ a ∈ xs, ∀ acc : Acc, acc.1 + (f a).length ≤ bigLine → ∃ e1 e2, put (g a) w = .ok ((), e1) ∧ inner acc e1 = .ok ((acc.1 + (f a).length, (f a).reverse ++ acc.2), e2) ∧ wipeE own e2 = w) →
    ∃ e', compL2 own put inner (xs.map g) acc e = .ok ((acc.1 + (xs.map f).flatten.length, (xs.map f).flatten.reverse ++ acc.2), e') ∧ wipeE own e' = w
  | [], acc, e, hw, _, _ => ⟨e, rfl, hw⟩
  | x :: xs, acc, e, hw, hl, h => by
    rw [List.map_cons, List.flatten_cons, List.length_append] at hl
    obtain ⟨e1, e2, h1, h2, h3⟩ := h x List.mem_cons_self acc (by omega)
    obtain ⟨e', h4, h5⟩ := compL2_map (own := own) (put := put) (inner := inner) (g := g) (f := f) xs (acc.1 + (f x).length, (f x).reverse ++ acc.2) e2 h3 (by show acc.1 + (f x).length + _ ≤ _; omega) fun a ha => h a (List.mem_cons_of_mem _ ha)
    refine ⟨e', ?_, h5⟩
    rw [List.map_cons, compL2_cons, hw, h1, R.bind_ok, h2, R.bind_ok, h4, List.map_cons, List.flatten_cons, List.length_append, List.reverse_append, List.append_assoc, Nat.add_assoc]
theorem cmp2_map {α : Type} {S : Su} {own own2 : List Nat} {tg tg2 : Tg} {it2 : It} {cs : Option Ex} {x : Ex} (xs : List α) (g : α → D) (f : α → List D) (e : Ev) (hc : cleanB own e = true) (hl : (xs.map f).flatten.length ≤ bigLine)
    (h : ∀ a ∈ xs, ∀ acc : Acc, acc.1 + (f a).length ≤ bigLine → ∃ e1 e2, tg.put (g a) (wipeE own e) = .ok ((), e1) ∧ innS S own2 tg2 it2 cs x acc e1 = .ok ((acc.1 + (f a).length, (f a).reverse ++ acc.2), e2) ∧ wipeE own e2 = wipeE own e) :
    cmp2L S own own2 tg tg2 it2 cs x (xs.map g) e = .ok (((xs.map f).flatten.length, (xs.map f).flatten.reverse), e) := by
  obtain ⟨e', h1, h2⟩ := compL2_map xs (0, []) (wipeE own e) (wipe_wipe own e) (by simpa using hl) h
  unfold cmp2L inBlk
  rw [clean_ap, if_pos hc]
  simp only [R.bind_ok, h1, rest_wipe h2, Nat.zero_add, List.append_nil]
/-- the inner for, over values -/
theorem inn_hv {α : Type} {S : Su} {own2 : List Nat} {tg2 : Tg} {it2 : It} {cs : Option Ex} {x : Ex} {d : D} (ys : List α) (g : α → D) (f : α → Option D) (acc : Acc) (e1 e2 : Ev) (hi : evI S it2 e1 = .ok ((.hv d, ys.map g), e2)) (hc : cleanB own2 e2 = true) (hl : acc.1 + ys.length ≤ bigLine)
    (h : ∀ y ∈ ys, oneB own2 tg2.put (tstM S cs) (ev S x) (wipeE own2 e2) (g y) = .ok (f y, wipeE own2 e2)) :
    ∃ e3, innS S own2 tg2 it2 cs x acc e1 = .ok ((acc.1 + (ys.filterMap f).length, (ys.filterMap f).reverse ++ acc.2), e3) ∧ wipeE own2 e3 = wipeE own2 e2 := by
  obtain ⟨e3, h1, h2⟩ := compL_map (own := own2) (put := tg2.put) (test := tstM S cs) (elt := ev S x) (g := g) (f := f) (w := wipeE own2 e2) ys acc e2 rfl hl h
  refine ⟨e3, ?_, h2⟩
  unfold innS
  rw [hi, R.bind_ok]
  show (fun e => R.bind (clean own2 e) fun _ => compL own2 tg2.put (tstM S cs) (ev S x) (ys.map g) acc e) e2 = _
  dsimp only
  rw [clean_ap, if_pos hc, R.bind_ok, h1]
@[simp] theorem run_maxlenT (l : List D) : P1.run .maxlenT (.lst l) = R.bind (tupsD l) longestT := rfl
@[simp] theorem longestT_cons (y : List D) (r : List (List D)) : longestT (y :: r) = .ok (.tup (maxLenG y r)) := rfl
@[simp] theorem tupsD_nil : tupsD [] = .ok [] := rfl
@[simp] theorem tupsD_cons (x : List D) (r : List D) : tupsD (.tup x :: r) = R.bind (tupsD r) fun z => .ok (x :: z) := rfl
theorem tupsD_map {α : Type} (f : α → List D) : ∀ xs : List α, tupsD (xs.map fun x => .tup (f x)) = .ok (xs.map f)
  | [] => rfl
  | x :: xs => by rw [List.map_cons, tupsD_cons, tupsD_map f xs]; rfl
end En.V

/-! K45: the mirror between two doors: the program's defs, the law's. -/
namespace En.V
theorem tup_strs (l : List (List Nat)) : D.items? (.tup (strL l)) = .ok (strL l) := rfl
theorem c_m_between_doors_from {n : Nat} (hn : 3 ≤ n) (w v : List Nat) (hw : w.length < 10000) (hv : v.length < 10000) : pg.call n 435 none [.str w, .str v] = .ok (.tup (strL (drsF w v)), none) := by
  rw [call_v (show pg.fn 435 = some ⟨_, _, _, _, _⟩ from rfl) (by omega) _ rfl]
  have r1 := c_m_rows_rooms_of (n := n - 1) (by omega) w
  have r2 := c_m_rows_rooms_of (n := n - 1) (by omega) v
  have hd : ∀ x y : List Nat, x.length < 10000 → y.length < 10000 → pg.call (n - 1) 26 none [.str x, .str y] = .ok (.tup (strL (drs x y)), none) := fun x y hx hy => c_m_rows_doors_on (n := n - 1) (by omega) x y (by omega) (by omega)
  have hwd : w.dropLast.length < 10000 := by rw [List.length_dropLast]; omega
  have hvd : v.dropLast.length < 10000 := by rw [List.length_dropLast]; omega
  have c1 := cmp2_map (S := pS (n - 1)) (own := [3, 4]) (own2 := [4]) (tg := .nm 3) (tg2 := .nm 4) (it2 := .src (.call 38 none (.cons (.var 1) .nil))) (cs := none) (x := .call 26 none (.cons (.var 3) (.cons (.var 4) .nil)))
    [w.dropLast, w] D.str (fun x => [.tup (strL (drs x v.dropLast)), .tup (strL (drs x v))]) [.val (.str w), .val (.str v), .no, .no, .no] rfl (by simp [bigLine_val]) fun x hx acc hacc => by
      have hxl : x.length < 10000 := by
        rcases List.mem_cons.mp hx with e | e
        · rw [e]; exact hwd
        · rw [List.mem_singleton.mp e]; exact hw
      obtain ⟨e3, h1, h2⟩ := inn_hv (S := pS (n - 1)) (own2 := [4]) (tg2 := .nm 4) (it2 := .src (.call 38 none (.cons (.var 1) .nil))) (cs := none) (x := .call 26 none (.cons (.var 3) (.cons (.var 4) .nil))) (d := .tup [.str v.dropLast, .str v]) [v.dropLast, v] D.str (fun y => some (.tup (strL (drs x y)))) acc
        [.val (.str w), .val (.str v), .no, .val (.str x), .no] [.val (.str w), .val (.str v), .no, .val (.str x), .no] (by simp [r2, D.items?]) rfl (by simpa using hacc) fun y hy => by
          have hyl : y.length < 10000 := by
            rcases List.mem_cons.mp hy with e | e
            · rw [e]; exact hvd
            · rw [List.mem_singleton.mp e]; exact hv
          have := hd x y hxl hyl
          simp [oneB, wipeE, this]
      exact ⟨_, e3, by simp [wipeE], h1, by rw [wipe_subE (own := [3, 4]) (own2 := [4]) (by simp) h2]; rfl⟩
  have t1 : tupsD [.tup (strL (drs w.dropLast v.dropLast)), .tup (strL (drs w.dropLast v)), .tup (strL (drs w v.dropLast)), .tup (strL (drs w v))] = .ok ([drs w.dropLast v.dropLast, drs w.dropLast v, drs w v.dropLast, drs w v].map strL) := tupsD_map strL [drs w.dropLast v.dropLast, drs w.dropLast v, drs w v.dropLast, drs w v]
  have t2 : maxLenG (strL (drs w.dropLast v.dropLast)) [strL (drs w.dropLast v), strL (drs w v.dropLast), strL (drs w v)] = strL (drsF w v) := maxLenG_map D.str [drs w.dropLast v, drs w v.dropLast, drs w v] (drs w.dropLast v.dropLast)
  have c1' : cmp2L (pS (n - 1)) [3, 4] [4] (.nm 3) (.nm 4) (.src (.call 38 none (.cons (.var 1) .nil))) none (.call 26 none (.cons (.var 3) (.cons (.var 4) .nil))) [.str w.dropLast, .str w] [.val (.str w), .val (.str v), .no, .no, .no] = _ := c1
  simp [r1, D.items?, c1', t1, t2]
theorem drs_bnd (x y : List Nat) : (drs x y).length ≤ x.length + y.length ∧ ∀ m ∈ drs x y, m ≠ [] ∧ m.length ≤ x.length + y.length := by
  refine ⟨?_, fun m hm => ?_⟩
  · unfold drs
    rw [List.length_append, List.length_map, List.length_map, List.length_range, List.length_range]
    omega
  · unfold drs at hm
    rcases List.mem_append.mp hm with q | q
    · obtain ⟨i, hi, rfl⟩ := List.mem_map.mp q
      have := List.mem_range.mp hi
      refine ⟨fun e => ?_, by rw [List.length_take]; omega⟩
      have h2 := congrArg List.length e
      rw [List.length_take, List.length_nil] at h2
      omega
    · obtain ⟨i, hi, rfl⟩ := List.mem_map.mp q
      have := List.mem_range.mp hi
      refine ⟨fun e => ?_, by rw [List.length_take]; omega⟩
      have h2 := congrArg List.length e
      rw [List.length_take, List.length_nil] at h2
      omega
theorem drsF_bnd (w v : List Nat) : (drsF w v).length ≤ w.length + v.length ∧ ∀ m ∈ drsF w v, m ≠ [] ∧ m.length ≤ w.length + v.length := by
  have hm := maxLenG_mem [drs w.dropLast v, drs w v.dropLast, drs w v] (drs w.dropLast v.dropLast)
  have e : drsF w v = maxLenG (drs w.dropLast v.dropLast) [drs w.dropLast v, drs w v.dropLast, drs w v] := rfl
  rw [← e] at hm
  have hw : w.dropLast.length ≤ w.length := by rw [List.length_dropLast]; omega
  have hv : v.dropLast.length ≤ v.length := by rw [List.length_dropLast]; omega
  have key : ∀ x y : List Nat, x.length ≤ w.length → y.length ≤ v.length → drsF w v = drs x y → (drsF w v).length ≤ w.length + v.length ∧ ∀ m ∈ drsF w v, m ≠ [] ∧ m.length ≤ w.length + v.length := fun x y hx hy h => by
    rw [h]
    obtain ⟨b1, b2⟩ := drs_bnd x y
    exact ⟨by omega, fun m hm => ⟨(b2 m hm).1, by have := (b2 m hm).2; omega⟩⟩
  rcases List.mem_cons.mp hm with q | hm
  · exact key _ _ hw hv q
  rcases List.mem_cons.mp hm with q | hm
  · exact key _ _ hw (Nat.le_refl _) q
  rcases List.mem_cons.mp hm with q | hm
  · exact key _ _ (Nat.le_refl _) hv q
  rcases List.mem_cons.mp hm with q | hm
  · exact key _ _ (Nat.le_refl _) (Nat.le_refl _) q
  · cases hm
def lets (w v : List Nat) : List Nat := (drsF w v).map fun m => ltr m
theorem last_at {m : List Nat} (h : m ≠ []) : atIx m (-1) = some (ltr m) := by
  obtain ⟨u, c, rfl⟩ := ne_snoc h
  rw [atIx_last]
  simp [ltr]
theorem c_m_between_letters_from {n : Nat} (hn : 4 ≤ n) (w v : List Nat) (hw : w.length < 10000) (hv : v.length < 10000) : pg.call n 436 none [.str w, .str v] = .ok (.str (lets w v), none) := by
  rw [call_v (show pg.fn 436 = some ⟨_, _, _, _, _⟩ from rfl) (by omega) _ rfl]
  have h1 := c_m_between_doors_from (n := n - 1) (by omega) w v hw hv
  obtain ⟨b1, b2⟩ := drsF_bnd w v
  have c1 := cmp_all (S := pS (n - 1)) (own := [2]) (tg := .nm 2) (x := .p2 .idx (.var 2) (.p1 .neg (.lit (.int 1)))) (drsF w v) D.str (fun m => .str [ltr m]) [.val (.str w), .val (.str v), .no] rfl (by rw [bigLine_val]; omega) fun m hm => by
    have := last_at (b2 m hm).1
    simp [wipeE, this]
  have e1 : textsD ((drsF w v).map fun m => D.str [ltr m]) = .ok ((lets w v).map fun c => [c]) := by
    unfold lets
    rw [List.map_map]
    exact textsD_map (f := fun m : List Nat => [ltr m]) (drsF w v)
  have e2 : joinD [] ((lets w v).map fun k => [k]) = .ok (.str (lets w v)) := by
    rw [joinD_nil _ (by rw [flat_one, bigLine_val]; unfold lets; rw [List.length_map]; omega), flat_one]
  simp [h1, D.items?, c1, e1, e2]
theorem c_m_between_mirror {n : Nat} (hn : 5 ≤ n) (w v : List Nat) (hw : w.length < 10000) (hv : v.length < 10000) (h0 : w ≠ [] ∧ v ≠ [] ∧ rowB w = true ∧ rowB v = true) : pg.call n 437 none [.str w, .str v] = .ok ((match mbw w v with | some m => .str m | none => .non), none) := by
  rw [call_v (show pg.fn 437 = some ⟨_, _, _, _, _⟩ from rfl) (by omega) _ rfl]
  have h1 := c_m_between_doors_from (n := n - 1) (by omega) w v hw hv
  have h2 := c_m_between_letters_from (n := n - 1) (by omega) w v hw hv
  have d2 : divOk 2 = true := by decide
  have e1 : ((lets w v).length : Int).fdiv 2 = ((lets w v).length / 2 : Nat) := by
    rw [Int.fdiv_eq_ediv_of_nonneg _ (by omega)]
    omega
  have hmb : mbw w v = if (lets w v).reverse = lets w v then (drsF w v)[(lets w v).length / 2]? else none := rfl
  have hlen : (lets w v).length = (drsF w v).length := by unfold lets; rw [List.length_map]
  have hpos : 0 < (drsF w v).length := by
    obtain ⟨x, y, c, d, hq, E⟩ := drsF_ends h0.1 h0.2.1 h0.2.2.1 h0.2.2.2
    obtain ⟨t, ht⟩ := E.s
    rw [hq, ← pth_len6, pth_red E.rx E.ry, ht]
    simp
  by_cases hp : (lets w v).reverse = lets w v
  · have hk : (lets w v).length / 2 < (drsF w v).length := by omega
    have e2 : atIx (strL (drsF w v)) (((lets w v).length / 2 : Nat) : Int) = some (.str (drsF w v)[(lets w v).length / 2]) := by
      rw [atIx_nat, List.getElem?_map, List.getElem?_eq_getElem hk]
      rfl
    rw [hmb, if_pos hp, List.getElem?_eq_getElem hk]
    simp only [strL] at e2 h1
    have hp' : (lets w v == (lets w v).reverse) = true := by rw [hp]; exact beq_self_eq_true _
    simp [h1, h2, d2, e1, e2, hp', -Int.natCast_ediv]
  · rw [hmb, if_neg hp]
    have hp' : (lets w v == (lets w v).reverse) = false := beq_eq_false_iff_ne.mpr fun e => hp e.symm
    simp [h2, hp']
end En.V

/-! K45b: the law's defs. -/
namespace En.V
/-- is it that door? -/
def isB (w v : List Nat) : D → Bool
  | .str s => decide (mbw w v = some s)
  | _ => false
def mbD (w v : List Nat) : D := match mbw w v with | some m => .str m | none => .non
@[simp] theorem eqv_str_non (s : List Nat) : D.eqv (.str s) .non = false := by simp [D.eqv]
theorem c_m_between_is {n : Nat} (hn : 6 ≤ n) (w v : List Nat) (hw : w.length < 10000) (hv : v.length < 10000) (h0 : w ≠ [] ∧ v ≠ [] ∧ rowB w = true ∧ rowB v = true) (d : D) (hd : d.isiOk = true) (hdc : d.depth ≤ 3) : pg.call n 438 none [.str w, .str v, d] = .ok (.bl (isB w v d), none) := by
  rw [call_v (show pg.fn 438 = some ⟨_, _, _, _, _⟩ from rfl) (by omega) _ rfl]
  have h1 := c_m_between_mirror (n := n - 1) (by omega) w v hw hv h0
  have hc : d.okc = true := decide_eq_true (by omega)
  cases d with
  | str s =>
    cases hm : mbw w v with
    | none =>
      rw [hm] at h1
      simp [h1, isB, hm, Ty.has, D.isiOk]
    | some m =>
      rw [hm] at h1
      by_cases e : m = s
      · subst e
        simp [h1, isB, hm, Ty.has, D.isiOk]
      · have e2 : ¬ s = m := fun z => e z.symm
        simp [h1, isB, hm, Ty.has, D.isiOk, e, e2]
  | dic _ _ => cases hd
  | scr _ => cases hd
  | _ => simp [isB, Ty.has, D.isiOk]
/-! ### all ways -/
theorem strL_app (a b : List (List Nat)) : strL (a ++ b) = strL a ++ strL b := List.map_append
theorem let_strs (m : Nat) : ((letters.take m).map fun k => D.str [k]) = List.take m [.str [97], .str [98], .str [99], .str [100], .str [101], .str [102], .str [103], .str [104]] := by
  rw [List.map_take]
  rfl
theorem all_in {n : Nat} (m L : Nat) (hm : 2 ≤ m) (hm2 : m ≤ 8) (x : D) (A B C : List D) (w : List Nat) (s6 s7 : Sl) (p6 : pl s6 = true) (p7 : pl s7 = true) (hw : w.length + 1 ≤ bigLine) (hC : C.length + (nxW m w).length ≤ bigLine) :
    turnL (Tg.nm 6).put (evSs (pS n) b1_l_all) (.str w) [.val (.int m), .val (.int L), .val x, .val (.lst A), .val (.lst B), .val (.lst C), s6, s7] = .ok (.nx, [.val (.int m), .val (.int L), .val x, .val (.lst A), .val (.lst B), .val (.lst (C ++ strL (nxW m w))), .val (.str w), s7]) := by
  have c2 : cmpL (pS n) [7] (.nm 7) (some (.p2 .ne (.var 7) (.p2 .slcLo (.var 6) (.p1 .neg (.lit (.int 1)))))) (.p2 .add (.var 6) (.var 7)) ((letters.take m).map fun k => .str [k]) [.val (.int m), .val (.int L), .val x, .val (.lst A), .val (.lst B), .val (.lst C), .val (.str w), s7] =
      .ok ((((nxL m w).map fun k => D.str (w ++ [k])).length, ((nxL m w).map fun k => D.str (w ++ [k])).reverse), [.val (.int m), .val (.int L), .val x, .val (.lst A), .val (.lst B), .val (.lst C), .val (.str w), s7]) := by
    refine cmp_fil (letters.take m) (fun k => .str [k]) (fun k => .str (w ++ [k])) (fun k => [k] != w.drop (w.length - 1)) _ (by cases s7 <;> first | rfl | cases p7) (by rw [(letters_take (m := m) (by omega) hm2).2, bigLine_val]; omega) fun k hk => ?_
    by_cases hkw : [k] = w.drop (w.length - 1)
    · have : ([k] != w.drop (w.length - 1)) = false := by simp [hkw]
      rw [this]
      simp [oneB, wipeE, ← hkw]
    · have : ([k] != w.drop (w.length - 1)) = true := by simp [hkw]
      rw [this]
      simp [oneB, wipeE, hkw, hw]
  rw [let_strs] at c2
  have e4 : C.length + (nxL m w).length ≤ bigLine := by
    have : (nxW m w).length = (nxL m w).length := List.length_map ..
    omega
  have e5 : strL (nxW m w) = (nxL m w).map fun k => D.str (w ++ [k]) := by simp [nxW, strL, Function.comp_def]
  rw [e5]
  simp [turnL, b1_l_all, p6, c2, e4]
theorem all_out {n : Nat} (m L : Nat) (hm : 2 ≤ m) (hm2 : m ≤ 8) (x : D) (k : Nat) (hk : k < 7) (A : List D) (hA : A.length + (lvl m (k + 1)).length ≤ bigLine) (s2 s5 s6 s7 : Sl) (p2 : pl s2 = true) (p5 : pl s5 = true) (p6 : pl s6 = true) (p7 : pl s7 = true) :
    ∃ t6 t7, turnL (Tg.nm 2).put (evSs (pS n) b2_l_all) x [.val (.int m), .val (.int L), s2, .val (.lst A), .val (.lst (strL (lvl m k))), s5, s6, s7] = .ok (.nx, [.val (.int m), .val (.int L), .val x, .val (.lst (A ++ strL (lvl m (k + 1)))), .val (.lst (strL (lvl m (k + 1)))), .val (.lst (strL (lvl m (k + 1)))), t6, t7]) ∧ pl t6 = true ∧ pl t7 = true := by
  obtain ⟨B, hB⟩ : ∃ B, B = strL (lvl m k) := ⟨_, rfl⟩
  have hb8 : (8 : Nat) ^ (k + 1) ≤ 8 ^ 7 := Nat.pow_le_pow_right (by decide) (by omega)
  have hb9 : (8 : Nat) ^ 7 = 2097152 := by decide
  have hl1 := lvl_len m (k + 1)
  obtain ⟨e1, g1, t6, t7, rfl, q6, q7⟩ := for_inv (put := (Tg.nm 6).put) (body := evSs (pS n) b1_l_all) (xs := lvl m k) (g := D.str) (e := [.val (.int m), .val (.int L), .val x, .val (.lst A), .val (.lst B), .val (.lst []), s6, s7])
    (fun pr e => ∃ s6 s7, e = [.val (.int m), .val (.int L), .val x, .val (.lst A), .val (.lst B), .val (.lst (strL (pr.map (nxW m)).flatten)), s6, s7] ∧ pl s6 = true ∧ pl s7 = true) ⟨_, _, rfl, p6, p7⟩ fun pr w po e hw ⟨s6, s7, he, p6, p7⟩ => by
      subst he
      have hsub : ((pr.map (nxW m)).flatten).length + (nxW m w).length ≤ (lvl m (k + 1)).length := by
        rw [lvl, hw, List.map_append, List.flatten_append, List.length_append, List.map_cons, List.flatten_cons, List.length_append]
        omega
      have hwl : w.length = k := ((lvl_mem _ w).mp (by rw [hw]; simp)).1
      have key := all_in (n := n) m L hm hm2 x A B (strL (pr.map (nxW m)).flatten) w s6 s7 p6 p7 (by rw [bigLine_val]; omega) (by rw [List.length_map, bigLine_val]; omega)
      refine ⟨_, .inl key, .val (.str w), s7, ?_, rfl, p7⟩
      have e5 : strL ((pr ++ [w]).map (nxW m)).flatten = strL (pr.map (nxW m)).flatten ++ strL (nxW m w) := by
        rw [List.map_append, List.flatten_append, strL_app]
        simp
      rw [e5]
  have hlvl : ((lvl m k).map (nxW m)).flatten = lvl m (k + 1) := rfl
  rw [hlvl] at g1
  have e9 : (lvl m k).map D.str = B := hB.symm
  rw [e9] at g1
  rw [← hB]
  generalize hC : strL (lvl m (k + 1)) = C at g1
  have hCl : C.length = (lvl m (k + 1)).length := by rw [← hC, List.length_map]
  have e6 : A.length + C.length ≤ bigLine := by omega
  refine ⟨t6, t7, ?_, q6, q7⟩
  simp [turnL, b2_l_all, p2, p5, D.items?, g1, e6]
theorem c_l_all {n : Nat} (hn : 1 ≤ n) (m L : Nat) (hm : 2 ≤ m) (hm2 : m ≤ 8) (hL : L ≤ 7) : pg.call n 160 none [.int m, .int L] = .ok (.lst (strL (allW m L)), none) := by
  obtain ⟨e', h1, s2, s5, s6, s7, rfl, _⟩ := for_inv (put := (Tg.nm 2).put) (body := evSs (pS (n - 1)) b2_l_all) (xs := List.range L) (g := fun (i : Nat) => .int (i : Int)) (e := [.val (.int m), .val (.int L), .no, .val (.lst []), .val (.lst [.str []]), .no, .no, .no])
    (fun pre e => ∃ s2 s5 s6 s7, e = [.val (.int m), .val (.int L), s2, .val (.lst (strL (allW m pre.length))), .val (.lst (strL (lvl m pre.length))), s5, s6, s7] ∧ pl s2 = true ∧ pl s5 = true ∧ pl s6 = true ∧ pl s7 = true) ⟨_, _, _, _, rfl, rfl, rfl, rfl, rfl⟩ fun pre x post e hx ⟨s2, s5, s6, s7, he, p2, p5, p6, p7⟩ => by
      subst he
      have hpl : pre.length < L := by
        have := congrArg List.length hx
        simp at this
        omega
      have hb8 : (8 : Nat) ^ (pre.length + 1) ≤ 8 ^ 7 := Nat.pow_le_pow_right (by decide) (by omega)
      have hb9 : (8 : Nat) ^ 7 = 2097152 := by decide
      have hl2 := allW_len m (pre.length + 1)
      have e6 : (allW m (pre.length + 1)).length = (allW m pre.length).length + (lvl m (pre.length + 1)).length := by rw [allW, List.length_append]
      obtain ⟨t6, t7, g1, q6, q7⟩ := all_out (n := n - 1) m L hm hm2 (.int x) pre.length (by omega) (strL (allW m pre.length)) (by rw [List.length_map, bigLine_val]; omega) s2 s5 s6 s7 p2 p5 p6 p7
      refine ⟨_, .inl g1, .val (.int x), .val (.lst (strL (lvl m (pre.length + 1)))), t6, t7, ?_, rfl, rfl, q6, q7⟩
      rw [List.length_append, List.length_singleton, allW, strL_app]
  rw [call_v (show pg.fn 160 = some ⟨_, _, _, _, _⟩ from rfl) (by omega) _ rfl]
  have hr : rOk (L : Int) = true := rOk_nn (by omega) (by omega)
  rw [List.length_range] at h1
  have e1 : (1 : Nat) ≤ bigLine := by decide
  simp [hr, rngD0, h1, e1]
end En.V

/-! K45c: the pair, the law's turns. -/
namespace En.V
theorem red_mem {w : List Nat} : ∀ c ∈ red w, c ∈ w := by
  have key : ∀ (w st : List Nat), ∀ c ∈ w.foldl stp st, c ∈ st ∨ c ∈ w := fun w => by
    induction w with
    | nil => exact fun st c h => .inl h
    | cons a w ih =>
      intro st c h
      rcases ih (stp st a) c h with q | q
      · have : c ∈ st ∨ c = a := by
          cases st with
          | nil => exact .inr (List.mem_singleton.mp q)
          | cons x r =>
            unfold stp at q
            dsimp only at q
            split at q
            · exact .inl (List.mem_cons_of_mem _ q)
            · rcases List.mem_cons.mp q with e | e
              · exact .inr e
              · exact .inl e
        rcases this with e | e
        · exact .inl e
        · exact .inr (by rw [e]; exact List.mem_cons_self)
      · exact .inr (List.mem_cons_of_mem _ q)
  intro c h
  unfold red at h
  rcases key w [] c (List.mem_reverse.mp h) with q | q
  · cases q
  · exact q
theorem pal_mem {w : List Nat} : ∀ c ∈ pal w, c ∈ w := fun c h => by
  unfold pal at h
  rcases List.mem_append.mp h with q | q
  · exact q
  · exact (List.dropLast_subset w) (List.mem_reverse.mp q)
theorem sn_mem {w m : List Nat} : ∀ c ∈ sn w m, c ∈ w ∨ c ∈ m := fun c h => by
  have h1 := red_mem c (List.mem_of_mem_take h)
  rcases List.mem_append.mp h1 with q | q
  · rcases List.mem_append.mp q with q | q
    · exact .inr (pal_mem c q)
    · exact .inl (pal_mem c q)
  · exact .inr (pal_mem c q)
theorem sn_twice {w m : List Nat} (hw : w ≠ []) (hm : m ≠ []) (hr : rowB w = true) : sn (sn w m) m = w := by
  have h1 := sn_pal (sn_ne hw hm) hm
  have h2 := sn_pal hw hm
  rw [h2] at h1
  have h3 : red (pal m ++ red (pal m ++ pal w ++ pal m) ++ pal m) = pal w := by
    rw [← red_app, red_app_r, red_app]
    have k1 := pal_cancel hm [] (pal w ++ pal m ++ pal m)
    simp only [List.nil_append, List.append_assoc] at k1
    have k2 := pal_cancel hm (pal w) []
    simp only [List.append_nil, List.append_assoc] at k2
    simp only [List.append_assoc]
    rw [k1, k2, red_row (pal_row hw hr)]
  rw [h3] at h1
  exact pal_inj (sn_ne (sn_ne hw hm) hm) hw h1
theorem mbw_sym {w v : List Nat} (hw : w ≠ []) (hv : v ≠ []) (rw_ : rowB w = true) (rv : rowB v = true) : mbw v w = mbw w v := by
  have one : ∀ {w v : List Nat}, w ≠ [] → v ≠ [] → rowB w = true → rowB v = true → ∀ m, mbw w v = some m → mbw v w = some m := fun {w v} hw hv rw_ rv m h => by
    obtain ⟨h1, h2, _⟩ := mbw_way hw hv rw_ rv h
    have h3 := (mbw_spec hw hv rw_ rv m h1 h2).mpr h
    refine (mbw_spec hv hw rv rw_ m h1 h2).mp ?_
    rw [← h3]
    exact sn_twice hw h1 rw_
  cases h : mbw w v with
  | some m => exact one hw hv rw_ rv m h
  | none =>
    cases h2 : mbw v w with
    | none => rfl
    | some m =>
      have := one hv hw rv rw_ m h2
      rw [h] at this
      cases this
structure WayL (m L : Nat) (w : List Nat) : Prop where
  ne : w ≠ []
  r : rowB w = true
  l : w.length ≤ L
  c : ∀ k ∈ w, k ∈ letters.take m
theorem hits {m L : Nat} {w v : List Nat} (hw : WayL m L w) (hv : WayL m L v) : (allW m L).filter (fun o => sn w o == v) = match mbw w v with | some x => [x] | none => [] := by
  have key : ∀ o ∈ allW m L, (sn w o == v) = true ↔ mbw w v = some o := fun o ho => by
    obtain ⟨h1, h2, h3, h4⟩ := (allW_mem L o).mp ho
    rw [beq_iff_eq]
    exact mbw_spec hw.ne hv.ne hw.r hv.r o h1 h3
  cases hm : mbw w v with
  | none =>
    dsimp only
    refine List.filter_eq_nil_iff.mpr fun o ho h => ?_
    rw [key o ho, hm] at h
    cases h
  | some x =>
    dsimp only
    obtain ⟨h1, h2, k, h3⟩ := mbw_way hw.ne hv.ne hw.r hv.r hm
    refine filter_one _ x _ (allW_nodup m L) ((allW_mem L x).mpr ?_) fun o ho => ?_
    · rcases h3 with e | e
      · exact ⟨h1, by rw [e, List.length_take]; have := hw.l; omega, h2, fun c hc => hw.c c (by rw [e] at hc; exact List.mem_of_mem_take hc)⟩
      · exact ⟨h1, by rw [e, List.length_take]; have := hv.l; omega, h2, fun c hc => hv.c c (by rw [e] at hc; exact List.mem_of_mem_take hc)⟩
    · rw [key o ho, hm]
      constructor
      · intro h; cases h; rfl
      · intro h; rw [h]
theorem isB_eqv {w v x : List Nat} (h : mbw w v = some x) : ∀ d : D, d.eqv (.str x) = isB w v d
  | .non => by simp [D.eqv, isB]
  | .bl _ => by simp [D.eqv, isB]
  | .int _ => by simp [D.eqv, isB]
  | .str s => by
    rw [eqv_str, isB, h, Bool.eq_iff_iff, beq_iff_eq, decide_eq_true_iff]
    exact ⟨fun e => by rw [e], fun e => by cases e; rfl⟩
  | .tup _ => by simp [D.eqv, isB]
  | .lst _ => by simp [D.eqv, isB]
  | .dic _ _ => by simp [D.eqv, isB]
  | .scr _ => by simp [D.eqv, isB]
theorem isB_none {w v : List Nat} (h : mbw w v = none) (d : D) : isB w v d = false := by
  cases d <;> simp [isB, h]
theorem c_l_pair {n : Nat} (hn : 8 ≤ n) (m L : Nat) (hL : L ≤ 7) {w v : List Nat} (hw : WayL m L w) (hv : WayL m L v) : pg.call n 439 none [.str w, .str v, .lst (strL (allW m L))] = .ok (.bl true, none) := by
  rw [call_v (show pg.fn 439 = some ⟨_, _, _, _, _⟩ from rfl) (by omega) _ rfl]
  have hb8 : (8 : Nat) ^ L ≤ 8 ^ 7 := Nat.pow_le_pow_right (by decide) (by omega)
  have hb9 : (8 : Nat) ^ 7 = 2097152 := by decide
  have hl := allW_len m L
  have lw := hw.l
  have lv := hv.l
  have hS : ∀ o ∈ allW m L, pg.call (n - 1) 53 none [.str w, .str o] = .ok (.str (sn w o), none) := fun o ho => by
    obtain ⟨h1, h2, h3, h4⟩ := (allW_mem L o).mp ho
    exact c_l_seen (n := n - 1) (by omega) w o hw.ne h1 (by omega) (by omega)
  have c1 := cmp_fil (S := pS (n - 1)) (own := [8]) (tg := .nm 8) (c := .p2 .eq (.call 53 none (.cons (.var 0) (.cons (.var 8) .nil))) (.var 1)) (x := .var 8) (allW m L) D.str D.str (fun o => sn w o == v) [.val (.str w), .val (.str v), .val (.lst (strL (allW m L))), .no, .no, .no, .no, .no, .no] rfl (by rw [bigLine_val]; omega) fun o ho => by
    have := hS o ho
    by_cases h : sn w o = v
    · simp [oneB, wipeE, this, h]
    · simp [oneB, wipeE, this, h]
  rw [hits hw hv] at c1
  have hmb := c_m_between_mirror (n := n - 1) (by omega) w v (by omega) (by omega) ⟨hw.ne, hv.ne, hw.r, hv.r⟩
  have hmb2 := c_m_between_mirror (n := n - 1) (by omega) v w (by omega) (by omega) ⟨hv.ne, hw.ne, hv.r, hw.r⟩
  rw [mbw_sym hw.ne hv.ne hw.r hv.r] at hmb2
  have hDU : ∀ DU : D, DU = mbD w v → ∀ X : List D, X = strL (allW m L) ++ [.non, DU, .lst [DU], .tup [DU], .str [], .int 0, .bl true, .str [97, 97], .str (w ++ v)] → ∀ d ∈ X, d.isiOk = true ∧ d.depth ≤ 3 ∧ pg.call (n - 1) 438 none [.str w, .str v, d] = .ok (.bl (isB w v d), none) := fun DU hDU X hX d hd => by
    have h3 : d.isiOk = true ∧ d.depth ≤ 3 := by
      rw [hX] at hd
      have hDd : DU.isiOk = true ∧ DU.depth = 0 := by
        rw [hDU]
        unfold mbD
        cases mbw w v <;> exact ⟨rfl, rfl⟩
      have hds : D.depths [DU] = 0 := by rw [D.depths, hDd.2]; rfl
      rcases List.mem_append.mp hd with q | q
      · obtain ⟨o, _, rfl⟩ := List.mem_map.mp q
        exact ⟨rfl, Nat.zero_le _⟩
      · simp only [List.mem_cons, List.not_mem_nil, or_false] at q
        rcases q with rfl | rfl | rfl | rfl | rfl | rfl | rfl | rfl | rfl
        all_goals first | exact ⟨hDd.1, by omega⟩ | exact ⟨rfl, by rw [D.depth, hds]; decide⟩ | exact ⟨rfl, by simp [D.depth]⟩
    exact ⟨h3.1, h3.2, c_m_between_is (n := n - 1) (by omega) w v (by omega) (by omega) ⟨hw.ne, hv.ne, hw.r, hv.r⟩ d h3.1 h3.2⟩
  have hXl : ∀ DU : D, (strL (allW m L) ++ [.non, DU, .lst [DU], .tup [DU], .str [], .int 0, .bl true, .str [97, 97], .str (w ++ v)]).length ≤ bigLine := fun DU => by
    rw [List.length_append, List.length_map, bigLine_val]
    simp
    omega
  have hAl : (allW m L).length + 9 ≤ bigLine := by rw [bigLine_val]; omega
  have e1 : (1 : Nat) ≤ bigLine := by decide
  have e2 : (2 : Nat) ≤ bigLine := by decide
  have e4 : (4 : Nat) ≤ bigLine := by decide
  have e9 : (9 : Nat) ≤ bigLine := by decide
  have ew : w.length + v.length ≤ bigLine := by rw [bigLine_val]; omega
  have same : ∀ (DU : D) (X : List D) (b : Bool), DU = mbD w v → X.length ≤ bigLine → pg.call (n - 1) 7 none [.lst [DU, DU, .lst (X.map fun d => .bl (isB w v d)), .bl b], .lst [DU, DU, .lst (X.map fun d => .bl (isB w v d)), .bl b]] = .ok (.bl true, none) := fun DU X b hDU hX => by
    have hg : goodD DU = true ∧ DU.depth = 0 := by
      rw [hDU]
      unfold mbD
      cases mbw w v <;> exact ⟨rfl, rfl⟩
    have hR : goodDs (X.map fun d => D.bl (isB w v d)) = true := goods_of fun d hd => by obtain ⟨x, _, rfl⟩ := List.mem_map.mp hd; rfl
    have hR2 : D.depths (X.map fun d => D.bl (isB w v d)) ≤ 0 := depths_of fun d hd => by obtain ⟨x, _, rfl⟩ := List.mem_map.mp hd; exact Nat.le_refl _
    refine c_l_same_refl 2 _ ?_ ?_ (n - 1) (by omega)
    · simp [goodD, goodDs, hg.1, hR, hX, e4]
    · simp [D.depth, D.depths, hg.2]
      omega
  cases hm : mbw w v with
  | none =>
    rw [hm] at hmb hmb2 c1
    have hDUe : (D.non) = mbD w v := by unfold mbD; rw [hm]
    obtain ⟨X, hX⟩ : ∃ X, X = strL (allW m L) ++ [.non, D.non, .lst [D.non], .tup [D.non], .str [], .int 0, .bl true, .str [97, 97], .str (w ++ v)] := ⟨_, rfl⟩
    have hXX := hDU .non hDUe X hX
    have hXn := hXl .non
    rw [← hX] at hXn
    have c2 := cmp_all (S := pS (n - 1)) (own := [8]) (tg := .nm 8) (x := .and_ (.p1 .notN (.var 4)) (.p2 .eq (.var 8) (.var 4))) X (fun d => d) (fun d => .bl (isB w v d)) [.val (.str w), .val (.str v), .val (.lst (strL (allW m L))), .val (.lst []), .val .non, .val (.lst X), .no, .no, .no] rfl hXn fun d hd => by
      simp [wipeE, isB_none hm]
    have c3 := cmp_all (S := pS (n - 1)) (own := [8]) (tg := .nm 8) (x := .call 438 none (.cons (.var 0) (.cons (.var 1) (.cons (.var 8) .nil)))) X (fun d => d) (fun d => .bl (isB w v d)) [.val (.str w), .val (.str v), .val (.lst (strL (allW m L))), .val (.lst []), .val .non, .val (.lst X), .val (.lst (X.map fun d => .bl (isB w v d))), .val (.lst [.non, .non]), .no] rfl hXn fun d hd => by
      simp [wipeE, (hXX d hd).2.2]
    have h9 : pg.call (n - 1) 438 none [.str w, .str v, .non] = .ok (.bl false, none) := by
      have := (hXX .non (by rw [hX]; simp)).2.2
      rw [this, isB_none hm]
    have hs := same .non X false hDUe hXn
    rw [List.map_id'] at c2 c3
    generalize (X.map fun d => D.bl (isB w v d)) = R at c2 c3 hs
    generalize hA : strL (allW m L) = A at *
    have hAl' : A.length + 9 ≤ bigLine := by rw [← hA, List.length_map]; exact hAl
    have e3 : (allW m L).map D.str = A := hA
    rw [e3] at c1
    simp [D.items?, c1, hmb, hmb2, e1, e2, e4, e9, ew, hAl', ← hX, c2, c3, h9, permD, hs]
  | some x =>
    rw [hm] at hmb hmb2 c1
    have hDUe : (D.str x) = mbD w v := by unfold mbD; rw [hm]
    obtain ⟨X, hX⟩ : ∃ X, X = strL (allW m L) ++ [.non, D.str x, .lst [D.str x], .tup [D.str x], .str [], .int 0, .bl true, .str [97, 97], .str (w ++ v)] := ⟨_, rfl⟩
    have hXX := hDU (.str x) hDUe X hX
    have hXn := hXl (.str x)
    rw [← hX] at hXn
    have c2 := cmp_all (S := pS (n - 1)) (own := [8]) (tg := .nm 8) (x := .and_ (.p1 .notN (.var 4)) (.p2 .eq (.var 8) (.var 4))) X (fun d => d) (fun d => .bl (isB w v d)) [.val (.str w), .val (.str v), .val (.lst (strL (allW m L))), .val (.lst [.str x]), .val (.str x), .val (.lst X), .no, .no, .no] rfl hXn fun d hd => by
      have hk : d.okc = true := decide_eq_true (by have := (hXX d hd).2.1; omega)
      simp [wipeE, isB_eqv hm d, hk]
    have c3 := cmp_all (S := pS (n - 1)) (own := [8]) (tg := .nm 8) (x := .call 438 none (.cons (.var 0) (.cons (.var 1) (.cons (.var 8) .nil)))) X (fun d => d) (fun d => .bl (isB w v d)) [.val (.str w), .val (.str v), .val (.lst (strL (allW m L))), .val (.lst [.str x]), .val (.str x), .val (.lst X), .val (.lst (X.map fun d => .bl (isB w v d))), .val (.lst [.str x, .str x]), .no] rfl hXn fun d hd => by
      simp [wipeE, (hXX d hd).2.2]
    have h9 : pg.call (n - 1) 438 none [.str w, .str v, .str x] = .ok (.bl true, none) := by
      have := (hXX (.str x) (by rw [hX]; simp)).2.2
      rw [this]
      simp [isB, hm]
    have hs := same (.str x) X true hDUe hXn
    rw [List.map_id'] at c2 c3
    generalize (X.map fun d => D.bl (isB w v d)) = R at c2 c3 hs
    generalize hA : strL (allW m L) = A at *
    have hAl' : A.length + 9 ≤ bigLine := by rw [← hA, List.length_map]; exact hAl
    have e3 : (allW m L).map D.str = A := hA
    rw [e3] at c1
    have a0 : atIx [D.str x] 0 = some (.str x) := rfl
    have k0 : (D.lst [D.str x]).okc = true := rfl
    simp [D.items?, a0, k0, c1, hmb, hmb2, e1, e2, e4, e9, ew, hAl', ← hX, c2, c3, h9, permD, hs]
theorem c_l_way2 {n c : Nat} (hn : 4 ≤ n) {b : List D} (hb : BoxOk c b) (m l : Nat) (hm : 2 ≤ m) (hm2 : m ≤ 8) (hl : l ≤ 1000000) (hl0 : 0 < l) (hc : c + (l + 2) < 1152921504606846976) :
    ∃ (w : List Nat) (b' : List D), pg.call n 40 (some (.lst b)) [.int m, .int l] = .ok (.str w, some (.lst b')) ∧ WayL m l w ∧ BoxOk (c + (l + 2)) b' := by
  obtain ⟨w, b1, h1, h2, h3, h4, h5⟩ := c_l_row (n := n - 1) (by omega) hb m l hm hm2 hl (by omega)
  obtain ⟨hne, hln⟩ := letters_take (m := m) (by omega) hm2
  by_cases hw : w = []
  · subst hw
    obtain ⟨k, b2, g1, g2, g3⟩ := c_l_of_str (n := n - 1) (by omega) h5 (by omega) (letters.take m) hne (by rw [hln, bigLine_val]; omega)
    refine ⟨[k], b2, ?_, ⟨by simp, rfl, (show 1 ≤ l by omega), fun j hj => by rw [List.mem_singleton.mp hj]; exact g2⟩, g3.mono (by omega)⟩
    rw [call_c (show pg.fn 40 = some ⟨_, _, _, _, _⟩ from rfl) (by omega) _ _ rfl]
    simp only [letters] at g1
    simp [h1, g1]
  · refine ⟨w, b1, ?_, ⟨hw, h2, h4, h3⟩, h5.mono (by omega)⟩
    rw [call_c (show pg.fn 40 = some ⟨_, _, _, _, _⟩ from rfl) (by omega) _ _ rfl]
    simp [h1, hw]
theorem c_l_size {n c : Nat} (hn : 3 ≤ n) {b : List D} (hb : BoxOk c b) (hc : c < 1152921504606846976) : ∃ (m L : Nat) (b' : List D), pg.call n 126 (some (.lst b)) [] = .ok (.tup [.int m, .int L], some (.lst b')) ∧ 2 ≤ m ∧ m ≤ 8 ∧ 0 < L ∧ L ≤ 6 ∧ BoxOk (c + 1) b' := by
  obtain ⟨k, b', h1, h2, h3⟩ := c_l_of_lst (n := n - 1) (by omega) hb hc [.tup [.int 2, .int 5], .tup [.int 2, .int 6], .tup [.int 3, .int 3], .tup [.int 3, .int 4], .tup [.int 4, .int 2]] (by simp) (by decide)
  have hk : ∃ m L : Nat, k = .tup [.int m, .int L] ∧ 2 ≤ m ∧ m ≤ 8 ∧ 0 < L ∧ L ≤ 6 := by
    simp only [List.mem_cons, List.not_mem_nil, or_false] at h2
    rcases h2 with e | e | e | e | e <;> subst e
    · exact ⟨2, 5, rfl, by omega, by omega, by omega, by omega⟩
    · exact ⟨2, 6, rfl, by omega, by omega, by omega, by omega⟩
    · exact ⟨3, 3, rfl, by omega, by omega, by omega, by omega⟩
    · exact ⟨3, 4, rfl, by omega, by omega, by omega, by omega⟩
    · exact ⟨4, 2, rfl, by omega, by omega, by omega, by omega⟩
  obtain ⟨m, L, rfl, q⟩ := hk
  refine ⟨m, L, b', ?_, q.1, q.2.1, q.2.2.1, q.2.2.2, h3⟩
  rw [call_c (show pg.fn 126 = some ⟨_, _, _, _, _⟩ from rfl) (by omega) _ _ rfl]
  have e2 : (2 : Nat) ≤ bigLine := by decide
  have e5 : (5 : Nat) ≤ bigLine := by decide
  simp [e2, e5, h1]
theorem right45 {n : Nat} (hn : 10 ≤ n) {b : List D} (hb : BoxOk 0 b) : ∃ b', pg.call n 441 (some (.lst b)) [] = .ok (.bl true, some (.lst b')) := by
  let I : List Nat → Ev → Prop := fun pre e => ∃ (b : List D) (a1 a2 a3 a4 a5 a6 a7 : Sl), e = [.cel .io (.lst b), a1, a2, a3, a4, a5, a6, a7] ∧ BoxOk (1000 * pre.length) b ∧ pl a1 = true ∧ pl a2 = true ∧ pl a3 = true ∧ pl a4 = true ∧ pl a5 = true ∧ pl a6 = true ∧ pl a7 = true
  obtain ⟨e', h1, b', a1, a2, a3, a4, a5, a6, a7, rfl, _⟩ := for_inv (put := (Tg.nm 1).put) (body := evSs (pS (n - 1)) b1_l_right_20) (xs := List.range 10) (g := fun i => .int i) (e := [.cel .io (.lst b), .no, .no, .no, .no, .no, .no, .no]) I ⟨b, _, _, _, _, _, _, _, rfl, hb, rfl, rfl, rfl, rfl, rfl, rfl, rfl⟩ fun pre x post e hx hI => by
    obtain ⟨b, a1, a2, a3, a4, a5, a6, a7, rfl, hb, p1, p2, p3, p4, p5, p6, p7⟩ := hI
    have hpl : pre.length < 10 := by
      have := congrArg List.length hx
      simp at this
      omega
    obtain ⟨m, L, b1, s1, m1, m2, l1, l2, hb1⟩ := c_l_size (n := n - 1) (by omega) hb (by omega)
    have hall := c_l_all (n := n - 1) (by omega) m L m1 m2 (by omega)
    obtain ⟨w, b2, g1, hw, hb2⟩ := c_l_way2 (n := n - 1) (by omega) hb1 m L m1 m2 (by omega) l1 (by omega)
    obtain ⟨v, b3, g2, hv, hb3⟩ := c_l_way2 (n := n - 1) (by omega) hb2 m L m1 m2 (by omega) l1 (by omega)
    obtain ⟨z, b4, g3, hz, hb4⟩ := c_l_way2 (n := n - 1) (by omega) hb3 m L m1 m2 (by omega) l1 (by omega)
    obtain ⟨r, b5, t1, t2, t3, hb5⟩ := c_l_take (n := n - 1) (by omega) hb4 (by omega) (smallM.of (m := 2) (by decide) (by decide))
    have lw := hw.l
    have lz := hz.l
    have hsn := c_l_seen (n := n - 1) (by omega) w z hw.ne hz.ne (by omega) (by omega)
    obtain ⟨E, hE⟩ : ∃ E, E = strL (allW m L) := ⟨_, rfl⟩
    have hfin : BoxOk (1000 * (pre ++ [x]).length) b5 := by
      rw [List.length_append, List.length_singleton]
      exact hb5.mono (by omega)
    by_cases hq : r = 0 ∧ (sn w z).length ≤ L
    · have hpr := c_l_pair (n := n - 1) (by omega) m L (by omega) hw (v := sn w z) ⟨sn_ne hw.ne hz.ne, sn_row w z, hq.2, fun c hc => (sn_mem c hc).elim (hw.c c) (hz.c c)⟩
      rw [← hE] at hall hpr
      have hq2 : ((sn w z).length : Int) ≤ (L : Int) := by omega
      refine ⟨[.cel .io (.lst b5), .val (.int x), .val (.lst E), .val (.str (sn w z)), .val (.int m), .val (.int L), .val (.str w), .val (.str (sn w z))], .inl ?_, b5, _, _, _, _, _, _, _, rfl, hfin, rfl, rfl, rfl, rfl, rfl, rfl, rfl⟩
      simp [turnL, b1_l_right_20, p1, p2, p3, p4, p5, p6, p7, s1, hall, g1, g2, g3, hsn, t1, hq.1, hq2, hpr]
    · have hpr := c_l_pair (n := n - 1) (by omega) m L (by omega) hw hv
      rw [← hE] at hall hpr
      refine ⟨[.cel .io (.lst b5), .val (.int x), .val (.lst E), .val (.str (sn w z)), .val (.int m), .val (.int L), .val (.str w), .val (.str v)], .inl ?_, b5, _, _, _, _, _, _, _, rfl, hfin, rfl, rfl, rfl, rfl, rfl, rfl, rfl⟩
      by_cases hr : r = 0
      · have hq2 : ¬ ((sn w z).length : Int) ≤ (L : Int) := fun z => hq ⟨hr, by omega⟩
        simp [turnL, b1_l_right_20, p1, p2, p3, p4, p5, p6, p7, s1, hall, g1, g2, g3, hsn, t1, hr, hq2, hpr]
      · simp [turnL, b1_l_right_20, p1, p2, p3, p4, p5, p6, p7, s1, hall, g1, g2, g3, hsn, t1, hr, hpr]
  refine ⟨b', ?_⟩
  rw [call_c (show pg.fn 441 = some ⟨_, _, _, _, _⟩ from rfl) (by omega) _ _ rfl]
  have hr : rOk 10 = true := rOk_nn (by omega) (by omega)
  simp [hr, rngD0, h1]
end En.V

/-! K46: doors and rooms between: the program's defs, the law's. -/
namespace En.V
theorem c_l_rooms {n : Nat} (hn : 1 ≤ n) (x y : List Nat) (hx : x.length < 10000) (hy : y.length < 10000) : pg.call n 364 none [.str x, .str y] = .ok (.lst (strL (wlk x y)), none) := by
  rw [call_v (show pg.fn 364 = some ⟨_, _, _, _, _⟩ from rfl) (by omega) _ rfl]
  have hle := lcp_le x y
  let m : Int := if (y.length : Int) < x.length then y.length else x.length
  have h := whileL_run (test := evT (pS (n - 1)) (.and_ (.p2 .lt (.var 2) (.p2 .min2 (.p1 .len (.var 0)) (.p1 .len (.var 1)))) (.p2 .eq (.p2 .idx (.var 0) (.var 2)) (.p2 .idx (.var 1) (.var 2))))) (body := evSs (pS (n - 1)) b1_l_rooms)
    (fun i => [.val (.str x), .val (.str y), .val (.int i), .no, .no]) (lcp x y) pg.wf 0 (Nat.zero_le _) (by show _ < 100000; omega) (fun i hi => by
      have e1 := lcp_get x y i hi
      rw [List.getElem?_eq_getElem (by omega), List.getElem?_eq_getElem (by omega)] at e1
      have e2 := Option.some.inj e1
      have hm : (i : Int) < m := by simp only [m]; split <;> omega
      simp only [m, Int.ofNat_lt] at hm
      refine ⟨?_, ?_⟩
      · simp [hm, atIx_nat, List.getElem?_eq_getElem (show i < x.length by omega), List.getElem?_eq_getElem (show i < y.length by omega), e2]
      · simp [b1_l_rooms]) (by
      by_cases hm : (lcp x y : Int) < m
      · have h3 : lcp x y < x.length ∧ lcp x y < y.length := by simp only [m] at hm; split at hm <;> omega
        have e1 := lcp_end x y h3.1 h3.2
        rw [List.getElem?_eq_getElem h3.1, List.getElem?_eq_getElem h3.2] at e1
        have e2 : ¬ x[lcp x y] = y[lcp x y] := fun e => e1 (by rw [e])
        simp only [m, Int.ofNat_lt] at hm
        simp [hm, atIx_nat, List.getElem?_eq_getElem h3.1, List.getElem?_eq_getElem h3.2, e2]
      · simp only [m, Int.ofNat_lt] at hm
        simp [hm])
  have h' : whileL (evT (pS (n - 1)) (.and_ (.p2 .lt (.var 2) (.p2 .min2 (.p1 .len (.var 0)) (.p1 .len (.var 1)))) (.p2 .eq (.p2 .idx (.var 0) (.var 2)) (.p2 .idx (.var 1) (.var 2))))) (evSs (pS (n - 1)) b1_l_rooms) pg.wf [.val (.str x), .val (.str y), .val (.int 0), .no, .no] = .ok (.nx, [.val (.str x), .val (.str y), .val (.int (lcp x y)), .no, .no]) := h
  have ce : ∀ (l : List Nat) (k : Nat), cutL l none (some (k : Int)) = l.take k := fun l k => by
    rw [cutL_hi _ _ (by omega)]
    congr 1
  have c1 := cmp_all (S := pS (n - 1)) (own := [4]) (tg := .nm 4) (x := .p2 .slcHi (.var 0) (.p2 .sub (.p1 .len (.var 0)) (.var 4))) (List.range (x.length - lcp x y + 1)) (fun (i : Nat) => .int (i : Int)) (fun i => .str (x.take (x.length - i))) [.val (.str x), .val (.str y), .val (.int (lcp x y)), .no, .no] rfl (by rw [List.length_range, bigLine_val]; omega) fun i hi => by
    have hi' := List.mem_range.mp hi
    have e1 := ce x (x.length - i)
    rw [show ((x.length - i : Nat) : Int) = (x.length : Int) - i by omega] at e1
    simp [-cutL_hi, wipeE, e1]
  have c2 := cmp_all (S := pS (n - 1)) (own := [4]) (tg := .nm 4) (x := .p2 .slcHi (.var 1) (.var 4)) (List.range (y.length - lcp x y)) (fun (i : Nat) => .int ((lcp x y : Int) + 1 + (i : Int))) (fun i => .str (y.take (lcp x y + 1 + i))) [.val (.str x), .val (.str y), .val (.int (lcp x y)), .val (.lst ((List.range (x.length - lcp x y + 1)).map fun i => .str (x.take (x.length - i)))), .no] rfl (by rw [List.length_range, bigLine_val]; omega) fun i hi => by
    have e1 := ce y (lcp x y + 1 + i)
    rw [show ((lcp x y + 1 + i : Nat) : Int) = (lcp x y : Int) + 1 + i by omega] at e1
    simp [-cutL_hi, wipeE, e1]
  have r0 : rOk ((x.length : Int) - (lcp x y : Int) + 1) = true := rOk_nn (by omega) (by omega)
  have r1 : rOk ((lcp x y : Int) + 1) = true := rOk_nn (by omega) (by omega)
  have r2 : rOk ((y.length : Int) + 1) = true := rOk_nn (by omega) (by omega)
  have k0 : ((x.length : Int) - (lcp x y : Int) + 1).toNat = x.length - lcp x y + 1 := by omega
  have k1 : ((y.length : Int) + 1 - ((lcp x y : Int) + 1)).toNat = y.length - lcp x y := by omega
  have L1 : x.length - lcp x y + 1 + (y.length - lcp x y) ≤ bigLine := by rw [bigLine_val]; omega
  simp [-evT_ap, -cutL_hi, -List.map_take, h', r0, r1, r2, k0, k1, rngD0, rngD_map, c1, c2, strL, wlk, Function.comp_def, L1]
end En.V

/-! K46b: the law's longest row of doors; the least move; the middle. -/
namespace En.V
theorem strL_len (l : List (List Nat)) : (strL l).length = l.length := List.length_map ..
theorem c_l_doors5 {n : Nat} (hn : 1 ≤ n) (l : List (List Nat)) (hl : l.length < 100000) : pg.call n 449 none [.lst (strL l)] = .ok (.tup (strL ((l.zip (l.drop 1)).map fun p => mx2 p.1 p.2)), none) := by
  rw [call_v (show pg.fn 449 = some ⟨_, _, _, _, _⟩ from rfl) (by omega) _ rfl]
  have hz : zipD (strL l) (strL (l.drop 1)) = (l.zip (l.drop 1)).map fun p => .tup [.str p.1, .str p.2] := zipD_map _ _ _ _
  have k1 : cutL (strL l) (some 1) none = strL (l.drop 1) := by
    rw [cutL_lo _ _ (by omega)]
    show List.drop (Int.toNat 1) (l.map D.str) = (l.drop 1).map D.str
    rw [List.map_drop]
    rfl
  have c1 := cmp_all (S := pS (n - 1)) (own := [1, 2]) (tg := .two (.nm 1) (.nm 2)) (x := .p2 .mxl2 (.var 1) (.var 2)) (l.zip (l.drop 1)) (fun p => .tup [.str p.1, .str p.2]) (fun p => .str (mx2 p.1 p.2)) [.val (.lst (strL l)), .no, .no] rfl (by rw [List.length_zip, bigLine_val]; omega) fun p hp => by
    simp [wipeE, mx2]
  have e0 : strL ((l.zip (l.drop 1)).map fun p => mx2 p.1 p.2) = (l.zip (l.drop 1)).map fun p => D.str (mx2 p.1 p.2) := by
    unfold strL
    rw [List.map_map]
    rfl
  rw [e0]
  generalize strL l = A at *
  generalize strL (l.drop 1) = B at *
  simp [-List.drop_one, D.items?, k1, hz, c1]
theorem c_l_from46 {n : Nat} (hn : 3 ≤ n) (w v : List Nat) (hw : w.length < 10000) (hv : v.length < 10000) (h0 : w ≠ [] ∧ v ≠ []) : pg.call n 450 none [.str w, .str v] = .ok (.tup (strL (drsF w v)), none) := by
  have hd : ∀ x y : List Nat, x.length < 10000 → y.length < 10000 → pg.call (n - 1) 449 none [.lst (strL (wlk x y))] = .ok (.tup (strL (drs x y)), none) := fun x y hx hy => by
    have := c_l_doors5 (n := n - 1) (by omega) (wlk x y) (by rw [wlk_len]; omega)
    rw [mx_wlk] at this
    exact this
  have hr : ∀ x y : List Nat, x.length < 10000 → y.length < 10000 → pg.call (n - 1) 364 none [.str x, .str y] = .ok (.lst (strL (wlk x y)), none) := fun x y hx hy => c_l_rooms (n := n - 1) (by omega) x y hx hy
  have hwd : w.dropLast.length < 10000 := by rw [List.length_dropLast]; omega
  have hvd : v.dropLast.length < 10000 := by rw [List.length_dropLast]; omega
  -- the inner walk
  have inn : ∀ (x : List Nat), x.length < 10000 → ∀ (f : List (List Nat)) (s4 s5 : Sl), pl s4 = true → pl s5 = true → ∃ s4' s5', forL (Tg.nm 4).put (evSs (pS (n - 1)) b1_l_from) [.str v.dropLast, .str v] [.val (.str w), .val (.str v), .val (.tup (strL f)), .val (.str x), s4, s5] =
      .ok (.nx, [.val (.str w), .val (.str v), .val (.tup (strL ([v.dropLast, v].foldl (fun f y => if f.length < (drs x y).length then drs x y else f) f))), .val (.str x), s4', s5']) ∧ pl s4' = true ∧ pl s5' = true := fun x hx f s4 s5 p4 p5 => by
    obtain ⟨e', h1, s4', s5', rfl, q4, q5⟩ := for_inv (put := (Tg.nm 4).put) (body := evSs (pS (n - 1)) b1_l_from) (xs := [v.dropLast, v]) (g := D.str) (e := [.val (.str w), .val (.str v), .val (.tup (strL f)), .val (.str x), s4, s5])
      (fun pre e => ∃ s4 s5, e = [.val (.str w), .val (.str v), .val (.tup (strL (pre.foldl (fun f y => if f.length < (drs x y).length then drs x y else f) f))), .val (.str x), s4, s5] ∧ pl s4 = true ∧ pl s5 = true) ⟨_, _, rfl, p4, p5⟩ fun pre y post e he ⟨s4, s5, q, p4, p5⟩ => by
        subst q
        have hy : y.length < 10000 := by
          have : y ∈ [v.dropLast, v] := by rw [he]; simp
          rcases List.mem_cons.mp this with e | e
          · rw [e]; exact hvd
          · rw [List.mem_singleton.mp e]; exact hv
        have a1 := hr x y hx hy
        have a2 := hd x y hx hy
        rw [List.foldl_append, List.foldl_cons, List.foldl_nil]
        generalize pre.foldl (fun f y => if f.length < (drs x y).length then drs x y else f) f = F
        generalize drs x y = K at *
        have l1 := strL_len F
        have l2 := strL_len K
        refine ⟨[.val (.str w), .val (.str v), .val (.tup (strL (if F.length < K.length then K else F))), .val (.str x), .val (.str y), .val (.tup (strL K))], .inl ?_, _, _, rfl, rfl, rfl⟩
        by_cases h : F.length < K.length
        · have h' : (F.length : Int) < K.length := by omega
          rw [if_pos h]
          generalize strL F = SF at *
          generalize strL K = SK at *
          simp [turnL, b1_l_from, p4, p5, a1, a2, l1, l2, h, h']
        · have h' : ¬ (F.length : Int) < K.length := by omega
          rw [if_neg h]
          generalize strL F = SF at *
          generalize strL K = SK at *
          simp [turnL, b1_l_from, p4, p5, a1, a2, l1, l2, h, h']
    exact ⟨s4', s5', h1, q4, q5⟩
  obtain ⟨e', h1, s3, s4, s5, rfl, _⟩ := for_inv (put := (Tg.nm 3).put) (body := evSs (pS (n - 1)) b2_l_from) (xs := [w.dropLast, w]) (g := D.str) (e := [.val (.str w), .val (.str v), .val (.tup []), .no, .no, .no])
    (fun pre e => ∃ s3 s4 s5, e = [.val (.str w), .val (.str v), .val (.tup (strL (pre.foldl (fun f x => [v.dropLast, v].foldl (fun f y => if f.length < (drs x y).length then drs x y else f) f) []))), s3, s4, s5] ∧ pl s3 = true ∧ pl s4 = true ∧ pl s5 = true) ⟨_, _, _, rfl, rfl, rfl, rfl⟩ fun pre x post e he ⟨s3, s4, s5, q, p3, p4, p5⟩ => by
      subst q
      have hx : x.length < 10000 := by
        have : x ∈ [w.dropLast, w] := by rw [he]; simp
        rcases List.mem_cons.mp this with e | e
        · rw [e]; exact hwd
        · rw [List.mem_singleton.mp e]; exact hw
      rw [List.foldl_append, List.foldl_cons, List.foldl_nil]
      generalize pre.foldl (fun f x => [v.dropLast, v].foldl (fun f y => if f.length < (drs x y).length then drs x y else f) f) [] = F
      obtain ⟨s4', s5', g1, q4, q5⟩ := inn x hx F s4 s5 p4 p5
      have e2 : (2 : Nat) ≤ bigLine := by decide
      refine ⟨_, .inl ?_, .val (.str x), s4', s5', rfl, rfl, q4, q5⟩
      generalize strL F = SF at *
      simp [turnL, b2_l_from, p3, D.items?, e2, g1]
  have e0 : [w.dropLast, w].foldl (fun f x => [v.dropLast, v].foldl (fun f y => if f.length < (drs x y).length then drs x y else f) f) [] = drsF w v := by
    unfold drsF
    rw [← maxLenG_nil (drs w.dropLast v.dropLast)]
    simp only [List.foldl_cons, List.foldl_nil]
    have step : ∀ (f d : List (List Nat)) (r : List (List (List Nat))), maxLenG f (d :: r) = maxLenG (if f.length < d.length then d else f) r := fun f d r => by
      rw [maxLenG]
      split <;> rfl
    rw [step, step, step, step]
    rfl
  rw [e0] at h1
  have e2 : (2 : Nat) ≤ bigLine := by decide
  rw [call_v (show pg.fn 450 = some ⟨_, _, _, _, _⟩ from rfl) (by omega) _ rfl]
  have h1' : forL (Tg.nm 3).put (evSs (pS (n - 1)) b2_l_from) [.str w.dropLast, .str w] [.val (.str w), .val (.str v), .val (.tup []), .no, .no, .no] = _ := h1
  simp [D.items?, e2, h1']
theorem c_l_led46 {n : Nat} (hn : 2 ≤ n) (w v r : List Nat) (hw : w.length < 10000) (hv : v.length < 10000) (hr : r.length < 10000) : pg.call n 365 none [.str w, .str v, .str r] = .ok (.int (led w v r), none) := by
  rw [call_v (show pg.fn 365 = some ⟨_, _, _, _, _⟩ from rfl) (by omega) _ rfl]
  have pl_ : ∀ z : List Nat, (pal z).length ≤ 2 * z.length := fun z => by
    unfold pal
    rw [List.length_append, List.length_reverse, List.length_dropLast]
    omega
  have lw := pl_ w
  have lv := pl_ v
  have p1 := c_l_pal (n := n - 1) (by omega) w (by omega)
  have p2 := c_l_pal (n := n - 1) (by omega) v (by omega)
  have d1 := c_l_reduced (n := n - 1) (by omega) (pal v ++ (pal w ++ r)) (by rw [List.length_append, List.length_append]; omega)
  have d1l := red_len (pal v ++ (pal w ++ r))
  rw [List.length_append, List.length_append] at d1l
  have d2 := c_l_reduced (n := n - 1) (by omega) (r.reverse ++ red (pal v ++ (pal w ++ r))) (by rw [List.length_append, List.length_reverse]; omega)
  have e1 : (pal v).length + (pal w).length ≤ bigLine := by rw [bigLine_val]; omega
  have e2 : (pal v).length + (pal w).length + r.length ≤ bigLine := by rw [bigLine_val]; omega
  have e3 : r.length + (red (pal v ++ (pal w ++ r))).length ≤ bigLine := by rw [bigLine_val]; omega
  have e4 : red (r.reverse ++ red (pal v ++ (pal w ++ r))) = red (r.reverse ++ (pal v ++ (pal w ++ r))) := red_app_r _ _
  rw [e4] at d2
  unfold led
  simp [p1, p2, d1, d2, e1, e2, e3]
end En.V

/-! K46c: two doors. -/
namespace En.V
theorem intsD_map {α : Type} (f : α → Int) : ∀ xs : List α, intsD (xs.map fun x => D.int (f x)) = .ok (xs.map f)
  | [] => rfl
  | x :: xs => by
    show R.bind (intsD (xs.map fun x => D.int (f x))) (fun z => R.ok (f x :: z)) = _
    rw [intsD_map f xs]
    rfl
theorem least_in : ∀ (r : List Int) (x : Int), r.foldl (fun b y => if y < b then y else b) x ∈ x :: r ∧ ∀ y ∈ x :: r, r.foldl (fun b y => if y < b then y else b) x ≤ y
  | [], x => ⟨List.mem_cons_self, fun y hy => by rw [List.mem_singleton.mp hy]; exact Int.le_refl _⟩
  | z :: r, x => by
    rw [List.foldl_cons]
    obtain ⟨h1, h2⟩ := least_in r (if z < x then z else x)
    refine ⟨?_, fun y hy => ?_⟩
    · rcases List.mem_cons.mp h1 with e | e
      · rw [e]
        split <;> simp
      · exact List.mem_cons_of_mem _ (List.mem_cons_of_mem _ e)
    · have h3 := h2 _ List.mem_cons_self
      rcases List.mem_cons.mp hy with e | e
      · rw [e]
        refine Int.le_trans h3 ?_
        split <;> omega
      · rcases List.mem_cons.mp e with e | e
        · rw [e]
          refine Int.le_trans h3 ?_
          split <;> omega
        · exact h2 y (List.mem_cons_of_mem _ e)
theorem leastI_is {l : List Int} {M : Int} (hm : M ∈ l) (h : ∀ y ∈ l, M ≤ y) : leastI l = .ok (.int M) := by
  cases l with
  | nil => cases hm
  | cons x r =>
    obtain ⟨h1, h2⟩ := least_in r x
    have : r.foldl (fun b y => if y < b then y else b) x = M := Int.le_antisymm (h2 _ hm) (h _ h1)
    show R.ok (D.int _) = _
    rw [this]
theorem c_can_become {n : Nat} (hn : 1 ≤ n) (w v : List Nat) (hw : w ≠ []) (hv : v ≠ []) : pg.call n 188 none [.str w, .str v] = .ok (.bl (ltr w == ltr v), none) := by
  rw [call_v (show pg.fn 188 = some ⟨_, _, _, _, _⟩ from rfl) (by omega) _ rfl]
  have a1 := last_at hw
  have a2 := last_at hv
  simp [a1, a2]
theorem drsF_pos {w v : List Nat} (hw : w ≠ []) (hv : v ≠ []) (rw_ : rowB w = true) (rv : rowB v = true) : 1 ≤ (drsF w v).length := by
  obtain ⟨x, y, c, d, e, E⟩ := drsF_ends hw hv rw_ rv
  obtain ⟨t, h1⟩ := E.s
  rw [e, drs_lenR E.rx E.ry, h1, List.length_cons]
  omega
theorem c_pace {n : Nat} (hn : 4 ≤ n) (w v : List Nat) (hw : w.length < 10000) (hv : v.length < 10000) : pg.call n 448 none [.str w, .str v] = .ok (.int (2 * ((drsF w v).length : Int) - 2), none) := by
  rw [call_v (show pg.fn 448 = some ⟨_, _, _, _, _⟩ from rfl) (by omega) _ rfl]
  have h1 := c_m_between_doors_from (n := n - 1) (by omega) w v hw hv
  have h2 := strL_len (drsF w v)
  have m1 : mulOk 2 ((drsF w v).length : Int) = true := mulOk_l _ (by decide)
  generalize strL (drsF w v) = S at *
  simp [h1, h2, m1]
theorem c_l_pair46 {n : Nat} (hn : 6 ≤ n) (m L : Nat) (hL : L ≤ 7) {w v : List Nat} (hw : WayL m L w) (hv : WayL m L v) : pg.call n 451 none [.str w, .str v, .lst (strL (allW m L))] = .ok (.bl true, none) := by
  rw [call_v (show pg.fn 451 = some ⟨_, _, _, _, _⟩ from rfl) (by omega) _ rfl]
  have hb8 : (8 : Nat) ^ L ≤ 8 ^ 7 := Nat.pow_le_pow_right (by decide) (by omega)
  have hb9 : (8 : Nat) ^ 7 = 2097152 := by decide
  have hl := allW_len m L
  have lw := hw.l
  have lv := hv.l
  have hF := c_l_from46 (n := n - 1) (by omega) w v (by omega) (by omega) ⟨hw.ne, hv.ne⟩
  obtain ⟨g1, i, g2⟩ := led_spec hw.ne hv.ne hw.r hv.r
  have pos := drsF_pos hw.ne hv.ne hw.r hv.r
  obtain ⟨bl1, bl2⟩ := drsF_bnd w v
  have f1 := c_m_between_doors_from (n := n - 1) (by omega) w v (by omega) (by omega)
  have f2 := c_m_between_doors_from (n := n - 1) (by omega) v w (by omega) (by omega)
  have p1 := c_pace (n := n - 1) (by omega) w v (by omega) (by omega)
  have p2 := c_pace (n := n - 1) (by omega) v w (by omega) (by omega)
  have sy := drsF_sym hw.ne hv.ne hw.r hv.r
  rw [sy, List.length_reverse] at p2
  have b1 := c_can_become (n := n - 1) (by omega) w v hw.ne hv.ne
  have b2 := c_can_become (n := n - 1) (by omega) v w hv.ne hw.ne
  have bs : (ltr v == ltr w) = (ltr w == ltr v) := Bool.beq_comm
  rw [bs] at b2
  -- the least move
  have c1 := cmp_all (S := pS (n - 1)) (own := [9]) (tg := .nm 9) (x := .call 365 none (.cons (.var 0) (.cons (.var 1) (.cons (.var 9) .nil)))) ([] :: allW m L) D.str (fun r => .int (led w v r)) [.val (.str w), .val (.str v), .val (.lst (strL (allW m L))), .val (.tup (strL (drsF w v))), .no, .no, .no, .no, .no, .no] rfl (by rw [List.length_cons, bigLine_val]; omega) fun r hr => by
    have hrl : r.length < 10000 := by
      rcases List.mem_cons.mp hr with e | e
      · rw [e]; decide
      · have := (allW_mem L r).mp e
        omega
    have := c_l_led46 (n := n - 1) (by omega) w v r (by omega) (by omega) hrl
    simp [wipeE, this]
  have i1 := intsD_map (fun r : List Nat => (led w v r : Int)) ([] :: allW m L)
  have i2 : leastI (([] :: allW m L).map fun r : List Nat => (led w v r : Int)) = .ok (.int (2 * ((drsF w v).length : Int) - 2)) := by
    refine leastI_is (List.mem_map.mpr ⟨w.take i, ?_, by rw [g2]; omega⟩) fun y hy => ?_
    · by_cases h : w.take i = []
      · rw [h]; exact List.mem_cons_self
      · refine List.mem_cons_of_mem _ ((allW_mem L _).mpr ⟨h, ?_, rowB_take i hw.r, fun c hc => hw.c c (List.mem_of_mem_take hc)⟩)
        rw [List.length_take]
        omega
    · obtain ⟨r, _, rfl⟩ := List.mem_map.mp hy
      have := g1 r
      omega
  have i3 : R.bind (intsD (([] :: allW m L).map fun r => D.int (led w v r))) leastI = .ok (.int (2 * ((drsF w v).length : Int) - 2)) := by rw [i1]; exact i2
  have eE : ([] :: allW m L).map D.str = D.str [] :: strL (allW m L) := rfl
  rw [eE] at c1
  have eL : (1 : Nat) + (strL (allW m L)).length ≤ bigLine := by rw [strL_len, bigLine_val]; omega
  have rv_ : strL (drsF v w) = (strL (drsF w v)).reverse := by rw [sy, strL, List.map_reverse]
  rw [rv_] at f2
  have lS := strL_len (drsF w v)
  -- the loop
  have m1 : mulOk 2 ((drsF w v).length : Int) = true := mulOk_l _ (by decide)
  have gK : goodDs (strL (drsF w v)) = true := goods_strs (fun x => x) (drsF w v)
  have dK : D.depths (strL (drsF w v)) ≤ 0 := depths_strs (fun x => x) (drsF w v)
  have lK : (strL (drsF w v)).length ≤ bigLine := by rw [lS, bigLine_val]; omega
  have lN : ((strL (drsF w v)).length : Int) = ((drsF w v).length : Int) := by rw [lS]
  obtain ⟨K, hK⟩ : ∃ K, K = strL (drsF w v) := ⟨_, rfl⟩
  obtain ⟨A, hA⟩ : ∃ A, A = strL (allW m L) := ⟨_, rfl⟩
  obtain ⟨N, hN⟩ : ∃ N : Int, N = ((drsF w v).length : Int) := ⟨_, rfl⟩
  obtain ⟨Ms, hMs⟩ : ∃ Ms : List D, Ms = ([] :: allW m L).map fun r => D.int (led w v r) := ⟨_, rfl⟩
  obtain ⟨z, hz⟩ : ∃ z : Bool, z = (ltr w == ltr v) := ⟨_, rfl⟩
  rw [← hK] at hF f1 f2 c1 gK dK lK lN
  rw [← hA] at c1 eL ⊢
  rw [← hN] at p1 p2 i3 m1 lN
  rw [← hMs] at c1 i3
  rw [← hz] at b1 b2
  obtain ⟨e', h1, s8, rfl, q8⟩ := for_inv (put := (Tg.nm 8).put) (body := evSs (pS (n - 1)) b1_l_pair_right_5) (xs := List.range (w.length - 1)) (g := fun (i : Nat) => .int (i : Int))
    (e := [.val (.str w), .val (.str v), .val (.lst A), .val (.tup K), .val (.int (2 * N - 2)), .val (.lst [.tup K, .tup K.reverse, .int (2 * N - 2), .int (2 * N - 2), .bl z, .bl z]), .val (.bl z), .val (.str w), .no, .no])
    (fun pre e => ∃ s8, e = [.val (.str w), .val (.str v), .val (.lst A), .val (.tup K), .val (.int (2 * N - 2)), .val (.lst [.tup K, .tup K.reverse, .int (2 * N - 2), .int (2 * N - 2), .bl z, .bl z]), .val (.bl z), .val (.str (w.drop pre.length)), s8, .no] ∧ pl s8 = true) ⟨_, rfl, rfl⟩ fun pre i post e hx ⟨s8, he, p8⟩ => by
      subst he
      have hpl : pre.length < w.length - 1 := by
        have := congrArg List.length hx
        simp at this
        omega
      have hp : pre.length < w.length := by omega
      have hd : w.drop pre.length = w[pre.length] :: w.drop (pre.length + 1) := List.drop_eq_getElem_cons (by omega)
      have hdl := List.length_drop (i := pre.length + 1) (l := w)
      have hne : w.drop (pre.length + 1) ≠ [] := fun e => by
        rw [e, List.length_nil] at hdl
        omega
      have hrow := rowB_drop pre.length hw.r
      rw [hd] at hrow
      have h1 := sn_one hrow hne
      have h2 := c_l_seen (n := n - 1) (by omega) (w[pre.length] :: w.drop (pre.length + 1)) [w[pre.length]] (List.cons_ne_nil _ _) (List.cons_ne_nil _ _) (by rw [List.length_cons]; omega) (by show 1 ≤ 10000; decide)
      rw [h1] at h2
      have a0 : atIx (w[pre.length] :: w.drop (pre.length + 1)) 0 = some w[pre.length] := atIx_nat (w[pre.length] :: w.drop (pre.length + 1)) 0
      rw [hd, List.length_append, List.length_singleton]
      generalize w.drop (pre.length + 1) = R at *
      generalize w[pre.length] = a at *
      refine ⟨_, .inl ?_, .val (.int i), rfl, rfl⟩
      simp [turnL, b1_l_pair_right_5, p8, a0, h2]
  have hlast : w.drop (w.length - 1) = [ltr w] := by
    obtain ⟨u, c, rfl⟩ := ne_snoc hw.ne
    rw [ltr_snoc, List.length_append, List.length_singleton, Nat.add_sub_cancel, List.drop_left]
  rw [List.length_range, hlast] at h1
  have a1 := last_at hw.ne
  have a2 := last_at hv.ne
  have sn1 := c_l_seen (n := n - 1) (by omega) w v hw.ne hv.ne (by omega) (by omega)
  have a3 := last_at (sn_ne hw.ne hv.ne)
  rw [sn_last hw.ne hv.ne hw.r] at a3
  have hr : rOk ((w.length : Int) - 1) = true := rOk_nn (by have := hw.ne; have : 0 < w.length := List.length_pos_iff.mpr this; omega) (by omega)
  have k0 : ((w.length : Int) - 1).toNat = w.length - 1 := by omega
  have e3 : (3 : Nat) ≤ bigLine := by decide
  have e1 : (1 : Nat) ≤ bigLine := by decide
  have e6 : (6 : Nat) ≤ bigLine := by decide
  have sm : pg.call (n - 1) 7 none [.lst [.tup K, .tup K.reverse, .int (2 * N - 2), .int (2 * N - 2), .bl z, .bl z], .lst [.tup K, .tup K.reverse, .int (2 * N - 2), .int (2 * N - 2), .bl z, .bl z]] = .ok (.bl true, none) := by
    have gR : goodDs K.reverse = true := goods_of fun d hd => goods_mem gK d (List.mem_reverse.mp hd)
    have dR : D.depths K.reverse ≤ 0 := depths_of fun d hd => Nat.le_trans (depths_mem d (List.mem_reverse.mp hd)) dK
    refine c_l_same_refl 2 _ ?_ ?_ (n - 1) (by omega)
    · simp [goodD, goodDs, gK, gR, lK, e6]
    · simp [D.depth, D.depths]
      omega
  have zz : (ltr w == ltr v) = z := hz.symm
  clear hMs hK hA hN i1 i2 hz
  simp [D.items?, hF, c1, i3, eL, e1, e3, e6, f1, f2, p1, p2, permD, b1, b2, a1, a2, zz, sm, lN, m1, hr, k0, rngD0, h1, sn1, a3]
end En.V

/-! K46d: the middle. -/
namespace En.V
def sRoom : List Nat := [114, 111, 111, 109]
def sDoor : List Nat := [100, 111, 111, 114]
/-- the middle of the way between two rooms -/
def midD (x y : List Nat) : D := if (drs x y).length % 2 = 0 then .tup [.str sRoom, .str ((wlk x y).getD ((drs x y).length / 2) [])] else .tup [.str sDoor, .str ((drs x y).getD ((drs x y).length / 2) [])]
theorem mid_sym (x y : List Nat) : midD y x = midD x y := by
  have e1 : (drs y x).length = (drs x y).length := by rw [drs_rev x y, List.length_reverse]
  have e2 : (wlk x y).length = (drs x y).length + 1 := by rw [wlk_len, drs_len]; omega
  unfold midD
  rw [e1]
  by_cases h : (drs x y).length % 2 = 0
  · rw [if_pos h, if_pos h, wlk_rev x y, List.getD_eq_getElem?_getD, List.getD_eq_getElem?_getD, List.getElem?_reverse (by rw [e2]; omega), e2]
    congr 6
    omega
  · rw [if_neg h, if_neg h, drs_rev x y, List.getD_eq_getElem?_getD, List.getD_eq_getElem?_getD, List.getElem?_reverse (by omega)]
    congr 6
    omega
theorem half_int (k : Nat) : (k : Int).fdiv 2 = ((k / 2 : Nat) : Int) := by
  rw [Int.fdiv_eq_ediv_of_nonneg _ (by decide)]
  omega
theorem par_int (k : Nat) : (k : Int).fmod 2 = ((k % 2 : Nat) : Int) := by
  rw [Int.fmod_eq_emod_of_nonneg _ (by decide)]
  omega
theorem c_m_middle {n : Nat} (hn : 3 ≤ n) (x y : List Nat) (hx : rowB x = true) (hy : rowB y = true) (lx : x.length < 10000) (ly : y.length < 10000) : pg.call n 362 none [.str x, .str y] = .ok (midD x y, none) := by
  rw [call_v (show pg.fn 362 = some ⟨_, _, _, _, _⟩ from rfl) (by omega) _ rfl]
  have h1 := c_m_rows_path (n := n - 1) (by omega) x y (by omega) (by omega)
  have pl_ := pth_len x y
  have dl := drs_len x y
  have hle := lcp_le x y
  have h2 := c_m_rows_doors_on (n := n - 1) (by omega) x y (by omega) (by omega)
  have h3 := c_m_rows_reduced (n := n - 1) (by omega) (x ++ (pth x y).take ((pth x y).length / 2)) (by rw [List.length_append, List.length_take, bigLine_val]; omega)
  have e1 := half_int (pth x y).length
  have e2 := par_int (pth x y).length
  have k1 : cutL (pth x y) none (some (((pth x y).length / 2 : Nat) : Int)) = (pth x y).take ((pth x y).length / 2) := by
    rw [cutL_hi _ _ (by omega)]
    congr 1
  have L1 : x.length + ((pth x y).take ((pth x y).length / 2)).length ≤ bigLine := by rw [List.length_take, bigLine_val]; omega
  have B2 : (2 : Nat) ≤ bigLine := by decide
  have dv : divOk 2 = true := by decide
  obtain ⟨hf, hhf⟩ : ∃ hf : Nat, hf = (drs x y).length / 2 := ⟨_, rfl⟩
  rw [pl_, ← hhf] at h3 k1 L1 e1
  rw [pl_] at e2
  have pli : ((pth x y).length : Int) = ((drs x y).length : Int) := by rw [pl_]
  unfold midD
  rw [← hhf]
  by_cases h : (drs x y).length % 2 = 0
  · rw [if_pos h]
    have w1 := wlk_at hx hy (k := hf) (by omega)
    rw [List.getD_eq_getElem?_getD, w1, Option.getD_some]
    rw [h] at e2
    simp [-cutL_hi, -List.length_take, h1, pli, e1, e2, k1, L1, h3, B2, sRoom, dv]
  · rw [if_neg h]
    have h5 : (drs x y).length % 2 = 1 := by omega
    rw [h5] at e2
    have a1 : atIx (strL (drs x y)) (hf : Int) = some (.str ((drs x y).getD hf [])) := by
      rw [atIx_nat, List.getElem?_map, List.getD_eq_getElem?_getD, List.getElem?_eq_getElem (by omega)]
      rfl
    generalize strL (drs x y) = S at *
    generalize (drs x y).getD hf [] = R at *
    simp [-cutL_hi, -List.length_take, h1, pli, e1, e2, h2, a1, B2, sDoor, dv]
theorem c_l_mid46 {n : Nat} (hn : 5 ≤ n) (x y : List Nat) (hx : rowB x = true) (hy : rowB y = true) (lx : x.length < 10000) (ly : y.length < 10000) : pg.call n 452 none [.str x, .str y] = .ok (.bl true, none) := by
  rw [call_v (show pg.fn 452 = some ⟨_, _, _, _, _⟩ from rfl) (by omega) _ rfl]
  have h1 := c_l_rooms (n := n - 1) (by omega) x y (by omega) (by omega)
  have hle := lcp_le x y
  have wl : (wlk x y).length = (drs x y).length + 1 := by rw [wlk_len, drs_len]; omega
  have dl := drs_len x y
  have m1 := c_m_middle (n := n - 1) (by omega) x y hx hy lx ly
  have m2 := c_m_middle (n := n - 1) (by omega) y x hy hx ly lx
  rw [mid_sym] at m2
  have h2 := c_l_doors5 (n := n - 1) (by omega) (wlk x y) (by omega)
  rw [mx_wlk] at h2
  have sl := strL_len (wlk x y)
  have e1 : ((strL (wlk x y)).length : Int) - 1 = ((drs x y).length : Int) := by omega
  have e2 := half_int (drs x y).length
  have e3 : ((strL (wlk x y)).length : Int).fmod 2 = (((drs x y).length + 1) % 2 : Nat) := by rw [sl, wl]; exact par_int _
  have B2 : (2 : Nat) ≤ bigLine := by decide
  have dv : divOk 2 = true := by decide
  obtain ⟨hf, hhf⟩ : ∃ hf : Nat, hf = (drs x y).length / 2 := ⟨_, rfl⟩
  have sm : pg.call (n - 1) 7 none [.lst [midD x y, midD x y], .lst [midD x y, midD x y]] = .ok (.bl true, none) := by
    refine c_l_same_refl 2 _ ?_ ?_ (n - 1) (by omega)
    · unfold midD
      split <;> simp [goodD, goodDs, B2]
    · unfold midD
      split <;> simp [D.depth, D.depths]
  rw [← hhf] at e2
  by_cases h : (drs x y).length % 2 = 0
  · have hm : midD x y = .tup [.str sRoom, .str ((wlk x y).getD hf [])] := by unfold midD; rw [if_pos h, hhf]
    have h5 : ((drs x y).length + 1) % 2 = 1 := by omega
    rw [h5] at e3
    have a1 : atIx (strL (wlk x y)) (hf : Int) = some (.str ((wlk x y).getD hf [])) := by
      rw [atIx_nat, List.getElem?_map, List.getD_eq_getElem?_getD, List.getElem?_eq_getElem (by omega)]
      rfl
    rw [hm] at m1 m2 sm
    generalize strL (wlk x y) = S at *
    generalize (wlk x y).getD hf [] = R at *
    unfold sRoom at *
    simp [h1, e1, e2, e3, a1, B2, m1, m2, permD, sm, dv]
  · have hm : midD x y = .tup [.str sDoor, .str ((drs x y).getD hf [])] := by unfold midD; rw [if_neg h, hhf]
    have h5 : ((drs x y).length + 1) % 2 = 0 := by omega
    rw [h5] at e3
    have a1 : atIx (strL (drs x y)) (hf : Int) = some (.str ((drs x y).getD hf [])) := by
      rw [atIx_nat, List.getElem?_map, List.getD_eq_getElem?_getD, List.getElem?_eq_getElem (by omega)]
      rfl
    rw [hm] at m1 m2 sm
    generalize strL (wlk x y) = S at *
    generalize strL (drs x y) = T at *
    generalize (drs x y).getD hf [] = R at *
    unfold sDoor at *
    simp [h1, h2, e1, e2, e3, a1, B2, m1, m2, permD, sm, dv]
theorem right46 {n : Nat} (hn : 8 ≤ n) {b : List D} (hb : BoxOk 0 b) : ∃ b', pg.call n 454 (some (.lst b)) [] = .ok (.bl true, some (.lst b')) := by
  let I : List Nat → Ev → Prop := fun pre e => ∃ (b : List D) (a1 a2 a3 a4 a5 : Sl), e = [.cel .io (.lst b), a1, a2, a3, a4, a5] ∧ BoxOk (1000 * pre.length) b ∧ pl a1 = true ∧ pl a2 = true ∧ pl a3 = true ∧ pl a4 = true ∧ pl a5 = true
  obtain ⟨e', h1, b', a1, a2, a3, a4, a5, rfl, _⟩ := for_inv (put := (Tg.nm 1).put) (body := evSs (pS (n - 1)) b1_l_right_22) (xs := List.range 8) (g := fun i => .int i) (e := [.cel .io (.lst b), .no, .no, .no, .no, .no]) I ⟨b, _, _, _, _, _, rfl, hb, rfl, rfl, rfl, rfl, rfl⟩ fun pre x post e hx hI => by
    obtain ⟨b, a1, a2, a3, a4, a5, rfl, hb, p1, p2, p3, p4, p5⟩ := hI
    have hpl : pre.length < 8 := by
      have := congrArg List.length hx
      simp at this
      omega
    obtain ⟨m, L, b1, s1, m1, m2, l1, l2, hb1⟩ := c_l_size (n := n - 1) (by omega) hb (by omega)
    have hall := c_l_all (n := n - 1) (by omega) m L m1 m2 (by omega)
    obtain ⟨w, b2, g1, hw, hb2⟩ := c_l_way2 (n := n - 1) (by omega) hb1 m L m1 m2 (by omega) l1 (by omega)
    obtain ⟨v, b3, g2, hv, hb3⟩ := c_l_way2 (n := n - 1) (by omega) hb2 m L m1 m2 (by omega) l1 (by omega)
    have hpr := c_l_pair46 (n := n - 1) (by omega) m L (by omega) hw hv
    obtain ⟨r1, b4, g3, r1r, _, r1l, hb4⟩ := c_l_row (n := n - 1) (by omega) hb3 m 9 m1 m2 (by omega) (by omega)
    obtain ⟨r2, b5, g4, r2r, _, r2l, hb5⟩ := c_l_row (n := n - 1) (by omega) hb4 m 9 m1 m2 (by omega) (by omega)
    have hmi := c_l_mid46 (n := n - 1) (by omega) r1 r2 r1r r2r (by omega) (by omega)
    rw [show ((9 : Nat) : Int) = 9 from rfl] at g3 g4
    have hfin : BoxOk (1000 * (pre ++ [x]).length) b5 := by
      rw [List.length_append, List.length_singleton]
      exact hb5.mono (by omega)
    obtain ⟨E, hE⟩ : ∃ E, E = strL (allW m L) := ⟨_, rfl⟩
    rw [← hE] at hall hpr
    refine ⟨[.cel .io (.lst b5), .val (.int x), .val (.int m), .val (.int L), .val (.str w), .val (.str v)], .inl ?_, b5, _, _, _, _, _, rfl, hfin, rfl, rfl, rfl, rfl, rfl⟩
    simp [turnL, b1_l_right_22, p1, p2, p3, p4, p5, s1, hall, g1, g2, g3, g4, hpr, hmi]
  refine ⟨b', ?_⟩
  rw [call_c (show pg.fn 454 = some ⟨_, _, _, _, _⟩ from rfl) (by omega) _ _ rfl]
  have hr : rOk 8 = true := rOk_nn (by omega) (by omega)
  simp [hr, rngD0, h1]
end En.V

/-! K00b: the end of a law that looks at its by-hand part first. -/
namespace En.V
def lawB2 (m : Int) (fh fr fb : Nat) : Ss := (.cons (.ite (.not_ (.call fh none .nil)) (.cons (.ret (.lit (.bl false))) .nil) .nil) (.cons (.asg 1 (.call 5 none (.cons (.var 0) (.cons (.lit (.int m)) .nil)))) (.cons (.ret (.p1 .all (.fr (.comp [2] (.nm 2) (.rng1 (.p1 .len (.var 1))) none (.ciof fr (.call fb (.cons (.var 1) (.cons (.var 2) .nil))) .nil))))) .nil)))
theorem law_any2 {n fl fh fr fb m : Nat} {c : Int} (hl : pg.fn fl = some ⟨1, 3, false, false, lawB2 m fh fr fb⟩) (hb : pg.fn fb = some ⟨2, 3, false, true, boxB c⟩) (hv : 3 ≤ n) (hm : 0 < m) (hm2 : m < 64)
    (hand : ∃ o, pg.call (n - 1) fh none [] = .ok (.bl true, o)) (right : ∀ b, BoxOk 0 b → ∃ b', pg.call (n - 1) fr (some (.lst b)) [] = .ok (.bl true, some (.lst b'))) (ns : List Int) (hn : ns.length ≤ 63) : ∃ o, pg.call n fl none [.scr ns] = .ok (.bl true, o) := by
  obtain ⟨o, hand⟩ := hand
  obtain ⟨zs, h1, h2, h3⟩ := c_l_cells (n := n - 1) (by omega) ns hn m hm hm2
  have hc : ∀ e : Ev, e = [.val (.scr ns), .val (.lst (zs.map .int)), .no] → cmpL (pS (n - 1)) [2] (.nm 2) none (.ciof fr (.call fb (.cons (.var 1) (.cons (.var 2) .nil))) .nil) ((List.range zs.length).map fun (i : Nat) => .int i) e = .ok (((List.range zs.length).length, ((List.range zs.length).map fun _ => D.bl true).reverse), e) := fun e he => by
    subst he
    refine cmp_all (List.range zs.length) (fun (i : Nat) => .int i) (fun _ => .bl true) _ rfl (by rw [List.length_range, bigLine_val]; omega) fun k hk => ?_
    have hk' := List.mem_range.mp hk
    obtain ⟨b, g1, g2⟩ := c_box (n := n - 1) hb (by omega) zs k hk' (by omega)
    obtain ⟨b', g3⟩ := right b g2
    simp [wipeE, g1, g3]
  have hr : rOk (zs.length : Int) = true := rOk_nn (by omega) (by omega)
  have h1' : pg.call (n - 1) 5 none [D.scr ns, D.int m] = R.ok (D.lst (zs.map D.int), none) := h1
  rw [call_v hl (by omega) _ rfl]
  simp [lawB2, h1', hand, hr, rngD0, hc]
end En.V

namespace En.V
theorem k46.run (ns : List Int) (hn : ns.length ≤ 63) : ∃ o, pg.call 60 455 none [.scr ns] = .ok (.bl true, o) :=
  law_any2 (n := 60) (fl := 455) (fh := 453) (fr := 454) (fb := 363) (m := 3) (c := 45046) rfl rfl (by decide) (by decide) (by decide) (isTrue_ok hand46) (fun b hb => right46 (n := 59) (by decide) hb) ns hn
end En.V

namespace En.k46
open PySem PySem.Spec PyProof.Rows L2
def tab : List (PySem.Str × Nat) := [((so "reduced"), 15), ((so "back"), 16), ((so "shared"), 17), ((so "path"), 24), ((so "doors_on"), 26), ((so "rooms_of"), 38), ((so "doors_from"), 435), ((so "can_become"), 188), ((so "middle"), 362), ((so "pace"), 448), ((so "_law_box"), 363), ((so "_law_take"), 4), ((so "_law_cells"), 5), ((so "_law_of"), 6), ((so "_law_same"), 7), ((so "_law_reduced"), 51), ((so "_law_row"), 9), ((so "_law_way"), 40), ((so "_law_pal"), 52), ((so "_law_seen"), 53), ((so "_law_all"), 160), ((so "_law_size"), 126), ((so "_law_rooms"), 364), ((so "_law_doors"), 449), ((so "_law_from"), 450), ((so "_law_led"), 365), ((so "_law_pair_right"), 451), ((so "_law_middle_right"), 452), ((so "_law_by_hand_right"), 453), ((so "_law_right"), 454), ((so "law"), 455)]
def cst : List (PySem.Str × Lit) := [((so "DOUBLE"), (.int 2))]
def kwl : List (Nat × List PySem.Str × List Nat) := [(188, [(so "other"), (so "one")], [1, 0]), (362, [(so "other"), (so "one")], [1, 0]), (435, [(so "other"), (so "one")], [1, 0]), (448, [(so "other"), (so "one")], [1, 0])]
def xcl : List (PySem.Str × Nat) := []
def xil : List (PySem.Str × List (Nat × Bool)) := []
def ga : Ga := ⟨[], PySem.Challenge.pw_mirrordoors_k46_doors_and_rooms_between.main.scope, [], tab, pg.fn, cst, kwl, xcl, xil⟩
def tops (i : Nat) : Stmt := PySem.Challenge.pw_mirrordoors_k46_doors_and_rooms_between.main.body.getD i (.Pass ⟨0, 0, 0, 0⟩)
theorem ck_15 : ckDef ga fn_m_rows_reduced (tops 1) [(so "word"), (so "found"), (so "letter")] [(so "word")] = true := by decide +kernel
theorem bd_15 : BindsR (so "reduced") (tops 1) [(so "word")] := fun _ _ _ _ _ _ us hl => match us, hl with | [_], _ => rfl
theorem dc_15 : DefC ga (so "reduced") 15 fn_m_rows_reduced (tops 1) [(so "word")] := ⟨⟨_, ck_15⟩, bd_15, fun ks p h => by
  replace h : (ks, p) ∈ (kwl.filter fun q => q.1 == 15).map (·.2) := List.mem_map.mpr ⟨_, List.mem_filter.mpr ⟨h, rfl⟩, rfl⟩
  rw [show (kwl.filter fun q => q.1 == 15).map (·.2) = [] by decide +kernel] at h
  cases h⟩
theorem ck_16 : ckDef ga fn_m_rows_back (tops 2) [(so "row")] [(so "row")] = true := by decide +kernel
theorem bd_16 : BindsR (so "back") (tops 2) [(so "row")] := fun _ _ _ _ _ _ us hl => match us, hl with | [_], _ => rfl
theorem dc_16 : DefC ga (so "back") 16 fn_m_rows_back (tops 2) [(so "row")] := ⟨⟨_, ck_16⟩, bd_16, fun ks p h => by
  replace h : (ks, p) ∈ (kwl.filter fun q => q.1 == 16).map (·.2) := List.mem_map.mpr ⟨_, List.mem_filter.mpr ⟨h, rfl⟩, rfl⟩
  rw [show (kwl.filter fun q => q.1 == 16).map (·.2) = [] by decide +kernel] at h
  cases h⟩
theorem ck_17 : ckDef ga fn_m_rows_shared (tops 3) [(so "one"), (so "other"), (so "many"), (so "end")] [(so "one"), (so "other")] = true := by decide +kernel
theorem bd_17 : BindsR (so "shared") (tops 3) [(so "one"), (so "other")] := fun _ _ _ _ _ _ us hl => match us, hl with | [_, _], _ => rfl
theorem dc_17 : DefC ga (so "shared") 17 fn_m_rows_shared (tops 3) [(so "one"), (so "other")] := ⟨⟨_, ck_17⟩, bd_17, fun ks p h => by
  replace h : (ks, p) ∈ (kwl.filter fun q => q.1 == 17).map (·.2) := List.mem_map.mpr ⟨_, List.mem_filter.mpr ⟨h, rfl⟩, rfl⟩
  rw [show (kwl.filter fun q => q.1 == 17).map (·.2) = [] by decide +kernel] at h
  cases h⟩
theorem ck_24 : ckDef ga fn_m_rows_path (tops 4) [(so "one"), (so "other"), (so "many")] [(so "one"), (so "other")] = true := by decide +kernel
theorem bd_24 : BindsR (so "path") (tops 4) [(so "one"), (so "other")] := fun _ _ _ _ _ _ us hl => match us, hl with | [_, _], _ => rfl
theorem dc_24 : DefC ga (so "path") 24 fn_m_rows_path (tops 4) [(so "one"), (so "other")] := ⟨⟨_, ck_24⟩, bd_24, fun ks p h => by
  replace h : (ks, p) ∈ (kwl.filter fun q => q.1 == 24).map (·.2) := List.mem_map.mpr ⟨_, List.mem_filter.mpr ⟨h, rfl⟩, rfl⟩
  rw [show (kwl.filter fun q => q.1 == 24).map (·.2) = [] by decide +kernel] at h
  cases h⟩
theorem ck_26 : ckDef ga fn_m_rows_doors_on (tops 5) [(so "one"), (so "other"), (so "many"), (so "found"), (so "size")] [(so "one"), (so "other")] = true := by decide +kernel
theorem bd_26 : BindsR (so "doors_on") (tops 5) [(so "one"), (so "other")] := fun _ _ _ _ _ _ us hl => match us, hl with | [_, _], _ => rfl
theorem dc_26 : DefC ga (so "doors_on") 26 fn_m_rows_doors_on (tops 5) [(so "one"), (so "other")] := ⟨⟨_, ck_26⟩, bd_26, fun ks p h => by
  replace h : (ks, p) ∈ (kwl.filter fun q => q.1 == 26).map (·.2) := List.mem_map.mpr ⟨_, List.mem_filter.mpr ⟨h, rfl⟩, rfl⟩
  rw [show (kwl.filter fun q => q.1 == 26).map (·.2) = [] by decide +kernel] at h
  cases h⟩
theorem ck_38 : ckDef ga fn_m_rows_rooms_of (tops 6) [(so "way")] [(so "way")] = true := by decide +kernel
theorem bd_38 : BindsR (so "rooms_of") (tops 6) [(so "way")] := fun _ _ _ _ _ _ us hl => match us, hl with | [_], _ => rfl
theorem dc_38 : DefC ga (so "rooms_of") 38 fn_m_rows_rooms_of (tops 6) [(so "way")] := ⟨⟨_, ck_38⟩, bd_38, fun ks p h => by
  replace h : (ks, p) ∈ (kwl.filter fun q => q.1 == 38).map (·.2) := List.mem_map.mpr ⟨_, List.mem_filter.mpr ⟨h, rfl⟩, rfl⟩
  rw [show (kwl.filter fun q => q.1 == 38).map (·.2) = [] by decide +kernel] at h
  cases h⟩
theorem ck_435 : ckDef ga fn_m_between_doors_from_2 (tops 9) [(so "one"), (so "other"), (so "rows"), (so "begin"), (so "end")] [(so "one"), (so "other")] = true := by decide +kernel
theorem bd_435 : BindsR (so "doors_from") (tops 9) [(so "one"), (so "other")] := fun _ _ _ _ _ _ us hl => match us, hl with | [_, _], _ => rfl
theorem kb_435_0 : KBindsR (so "doors_from") (tops 9) [(so "one"), (so "other")] [(so "other"), (so "one")] [1, 0] := fun _ _ _ _ _ _ ws hl => match ws, hl with | [_, _], _ => rfl
theorem dc_435 : DefC ga (so "doors_from") 435 fn_m_between_doors_from_2 (tops 9) [(so "one"), (so "other")] := ⟨⟨_, ck_435⟩, bd_435, fun ks p h => by
  replace h : (ks, p) ∈ (kwl.filter fun q => q.1 == 435).map (·.2) := List.mem_map.mpr ⟨_, List.mem_filter.mpr ⟨h, rfl⟩, rfl⟩
  rw [show (kwl.filter fun q => q.1 == 435).map (·.2) = [([(so "other"), (so "one")], [1, 0])] by decide +kernel] at h
  cases List.mem_singleton.mp h
  exact ⟨rfl, by decide, kb_435_0⟩⟩
theorem ck_188 : ckDef ga fn_m_between_can_become (tops 10) [(so "one"), (so "other")] [(so "one"), (so "other")] = true := by decide +kernel
theorem bd_188 : BindsR (so "can_become") (tops 10) [(so "one"), (so "other")] := fun _ _ _ _ _ _ us hl => match us, hl with | [_, _], _ => rfl
theorem kb_188_0 : KBindsR (so "can_become") (tops 10) [(so "one"), (so "other")] [(so "other"), (so "one")] [1, 0] := fun _ _ _ _ _ _ ws hl => match ws, hl with | [_, _], _ => rfl
theorem dc_188 : DefC ga (so "can_become") 188 fn_m_between_can_become (tops 10) [(so "one"), (so "other")] := ⟨⟨_, ck_188⟩, bd_188, fun ks p h => by
  replace h : (ks, p) ∈ (kwl.filter fun q => q.1 == 188).map (·.2) := List.mem_map.mpr ⟨_, List.mem_filter.mpr ⟨h, rfl⟩, rfl⟩
  rw [show (kwl.filter fun q => q.1 == 188).map (·.2) = [([(so "other"), (so "one")], [1, 0])] by decide +kernel] at h
  cases List.mem_singleton.mp h
  exact ⟨rfl, by decide, kb_188_0⟩⟩
theorem ck_362 : ckDef ga fn_m_between_middle (tops 11) [(so "one"), (so "other"), (so "letters"), (so "half")] [(so "one"), (so "other")] = true := by decide +kernel
theorem bd_362 : BindsR (so "middle") (tops 11) [(so "one"), (so "other")] := fun _ _ _ _ _ _ us hl => match us, hl with | [_, _], _ => rfl
theorem kb_362_0 : KBindsR (so "middle") (tops 11) [(so "one"), (so "other")] [(so "other"), (so "one")] [1, 0] := fun _ _ _ _ _ _ ws hl => match ws, hl with | [_, _], _ => rfl
theorem dc_362 : DefC ga (so "middle") 362 fn_m_between_middle (tops 11) [(so "one"), (so "other")] := ⟨⟨_, ck_362⟩, bd_362, fun ks p h => by
  replace h : (ks, p) ∈ (kwl.filter fun q => q.1 == 362).map (·.2) := List.mem_map.mpr ⟨_, List.mem_filter.mpr ⟨h, rfl⟩, rfl⟩
  rw [show (kwl.filter fun q => q.1 == 362).map (·.2) = [([(so "other"), (so "one")], [1, 0])] by decide +kernel] at h
  cases List.mem_singleton.mp h
  exact ⟨rfl, by decide, kb_362_0⟩⟩
theorem ck_448 : ckDef ga fn_m_between_pace_2 (tops 12) [(so "one"), (so "other")] [(so "one"), (so "other")] = true := by decide +kernel
theorem bd_448 : BindsR (so "pace") (tops 12) [(so "one"), (so "other")] := fun _ _ _ _ _ _ us hl => match us, hl with | [_, _], _ => rfl
theorem kb_448_0 : KBindsR (so "pace") (tops 12) [(so "one"), (so "other")] [(so "other"), (so "one")] [1, 0] := fun _ _ _ _ _ _ ws hl => match ws, hl with | [_, _], _ => rfl
theorem dc_448 : DefC ga (so "pace") 448 fn_m_between_pace_2 (tops 12) [(so "one"), (so "other")] := ⟨⟨_, ck_448⟩, bd_448, fun ks p h => by
  replace h : (ks, p) ∈ (kwl.filter fun q => q.1 == 448).map (·.2) := List.mem_map.mpr ⟨_, List.mem_filter.mpr ⟨h, rfl⟩, rfl⟩
  rw [show (kwl.filter fun q => q.1 == 448).map (·.2) = [([(so "other"), (so "one")], [1, 0])] by decide +kernel] at h
  cases List.mem_singleton.mp h
  exact ⟨rfl, by decide, kb_448_0⟩⟩
theorem ck_363 : ckDef ga fn_l_box_46 (tops 14) [(so "_law_script"), (so "_law_k"), (so "_law_cell")] [(so "_law_script"), (so "_law_k")] = true := by decide +kernel
theorem bd_363 : BindsR (so "_law_box") (tops 14) [(so "_law_script"), (so "_law_k")] := fun _ _ _ _ _ _ us hl => match us, hl with | [_, _], _ => rfl
theorem dc_363 : DefC ga (so "_law_box") 363 fn_l_box_46 (tops 14) [(so "_law_script"), (so "_law_k")] := ⟨⟨_, ck_363⟩, bd_363, fun ks p h => by
  replace h : (ks, p) ∈ (kwl.filter fun q => q.1 == 363).map (·.2) := List.mem_map.mpr ⟨_, List.mem_filter.mpr ⟨h, rfl⟩, rfl⟩
  rw [show (kwl.filter fun q => q.1 == 363).map (·.2) = [] by decide +kernel] at h
  cases h⟩
theorem ck_4 : ckDef ga fn_l_take (tops 15) [(so "_law_box_here"), (so "_law_below"), (so "_law_once_so"), (so "_law_far"), (so "_law_twice"), (so "_law_drawn")] [(so "_law_box_here"), (so "_law_below")] = true := by decide +kernel
theorem bd_4 : BindsR (so "_law_take") (tops 15) [(so "_law_box_here"), (so "_law_below")] := fun _ _ _ _ _ _ us hl => match us, hl with | [_, _], _ => rfl
theorem dc_4 : DefC ga (so "_law_take") 4 fn_l_take (tops 15) [(so "_law_box_here"), (so "_law_below")] := ⟨⟨_, ck_4⟩, bd_4, fun ks p h => by
  replace h : (ks, p) ∈ (kwl.filter fun q => q.1 == 4).map (·.2) := List.mem_map.mpr ⟨_, List.mem_filter.mpr ⟨h, rfl⟩, rfl⟩
  rw [show (kwl.filter fun q => q.1 == 4).map (·.2) = [] by decide +kernel] at h
  cases h⟩
theorem ck_5 : ckDef ga fn_l_cells (tops 16) [(so "_law_script"), (so "_law_most_so"), (so "_law_cells_here"), (so "_law_k"), (so "_law_cell"), (so "_law_at_so")] [(so "_law_script"), (so "_law_most_so")] = true := by decide +kernel
theorem bd_5 : BindsR (so "_law_cells") (tops 16) [(so "_law_script"), (so "_law_most_so")] := fun _ _ _ _ _ _ us hl => match us, hl with | [_, _], _ => rfl
theorem dc_5 : DefC ga (so "_law_cells") 5 fn_l_cells (tops 16) [(so "_law_script"), (so "_law_most_so")] := ⟨⟨_, ck_5⟩, bd_5, fun ks p h => by
  replace h : (ks, p) ∈ (kwl.filter fun q => q.1 == 5).map (·.2) := List.mem_map.mpr ⟨_, List.mem_filter.mpr ⟨h, rfl⟩, rfl⟩
  rw [show (kwl.filter fun q => q.1 == 5).map (·.2) = [] by decide +kernel] at h
  cases h⟩
theorem ck_6 : ckDef ga fn_l_of (tops 17) [(so "_law_box_here"), (so "_law_some")] [(so "_law_box_here"), (so "_law_some")] = true := by decide +kernel
theorem bd_6 : BindsR (so "_law_of") (tops 17) [(so "_law_box_here"), (so "_law_some")] := fun _ _ _ _ _ _ us hl => match us, hl with | [_, _], _ => rfl
theorem dc_6 : DefC ga (so "_law_of") 6 fn_l_of (tops 17) [(so "_law_box_here"), (so "_law_some")] := ⟨⟨_, ck_6⟩, bd_6, fun ks p h => by
  replace h : (ks, p) ∈ (kwl.filter fun q => q.1 == 6).map (·.2) := List.mem_map.mpr ⟨_, List.mem_filter.mpr ⟨h, rfl⟩, rfl⟩
  rw [show (kwl.filter fun q => q.1 == 6).map (·.2) = [] by decide +kernel] at h
  cases h⟩
theorem ck_7 : ckDef ga fn_l_same (tops 18) [(so "_law_got"), (so "_law_due"), (so "_law_mine"), (so "_law_its")] [(so "_law_got"), (so "_law_due")] = true := by decide +kernel
theorem bd_7 : BindsR (so "_law_same") (tops 18) [(so "_law_got"), (so "_law_due")] := fun _ _ _ _ _ _ us hl => match us, hl with | [_, _], _ => rfl
theorem dc_7 : DefC ga (so "_law_same") 7 fn_l_same (tops 18) [(so "_law_got"), (so "_law_due")] := ⟨⟨_, ck_7⟩, bd_7, fun ks p h => by
  replace h : (ks, p) ∈ (kwl.filter fun q => q.1 == 7).map (·.2) := List.mem_map.mpr ⟨_, List.mem_filter.mpr ⟨h, rfl⟩, rfl⟩
  rw [show (kwl.filter fun q => q.1 == 7).map (·.2) = [] by decide +kernel] at h
  cases h⟩
theorem ck_51 : ckDef ga fn_l_reduced (tops 19) [(so "_law_word_so"), (so "_law_found"), (so "_law_own")] [(so "_law_word_so")] = true := by decide +kernel
theorem bd_51 : BindsR (so "_law_reduced") (tops 19) [(so "_law_word_so")] := fun _ _ _ _ _ _ us hl => match us, hl with | [_], _ => rfl
theorem dc_51 : DefC ga (so "_law_reduced") 51 fn_l_reduced (tops 19) [(so "_law_word_so")] := ⟨⟨_, ck_51⟩, bd_51, fun ks p h => by
  replace h : (ks, p) ∈ (kwl.filter fun q => q.1 == 51).map (·.2) := List.mem_map.mpr ⟨_, List.mem_filter.mpr ⟨h, rfl⟩, rfl⟩
  rw [show (kwl.filter fun q => q.1 == 51).map (·.2) = [] by decide +kernel] at h
  cases h⟩
theorem ck_9 : ckDef ga fn_l_row (tops 20) [(so "_law_box_here"), (so "_law_many"), (so "_law_longest"), (so "_law_found"), (so "_law_turn"), (so "_law_rest_so"), (so "_law_own")] [(so "_law_box_here"), (so "_law_many"), (so "_law_longest")] = true := by decide +kernel
theorem bd_9 : BindsR (so "_law_row") (tops 20) [(so "_law_box_here"), (so "_law_many"), (so "_law_longest")] := fun _ _ _ _ _ _ us hl => match us, hl with | [_, _, _], _ => rfl
theorem dc_9 : DefC ga (so "_law_row") 9 fn_l_row (tops 20) [(so "_law_box_here"), (so "_law_many"), (so "_law_longest")] := ⟨⟨_, ck_9⟩, bd_9, fun ks p h => by
  replace h : (ks, p) ∈ (kwl.filter fun q => q.1 == 9).map (·.2) := List.mem_map.mpr ⟨_, List.mem_filter.mpr ⟨h, rfl⟩, rfl⟩
  rw [show (kwl.filter fun q => q.1 == 9).map (·.2) = [] by decide +kernel] at h
  cases h⟩
theorem ck_40 : ckDef ga fn_l_way (tops 21) [(so "_law_box_here"), (so "_law_many"), (so "_law_longest"), (so "_law_found")] [(so "_law_box_here"), (so "_law_many"), (so "_law_longest")] = true := by decide +kernel
theorem bd_40 : BindsR (so "_law_way") (tops 21) [(so "_law_box_here"), (so "_law_many"), (so "_law_longest")] := fun _ _ _ _ _ _ us hl => match us, hl with | [_, _, _], _ => rfl
theorem dc_40 : DefC ga (so "_law_way") 40 fn_l_way (tops 21) [(so "_law_box_here"), (so "_law_many"), (so "_law_longest")] := ⟨⟨_, ck_40⟩, bd_40, fun ks p h => by
  replace h : (ks, p) ∈ (kwl.filter fun q => q.1 == 40).map (·.2) := List.mem_map.mpr ⟨_, List.mem_filter.mpr ⟨h, rfl⟩, rfl⟩
  rw [show (kwl.filter fun q => q.1 == 40).map (·.2) = [] by decide +kernel] at h
  cases h⟩
theorem ck_52 : ckDef ga fn_l_pal (tops 22) [(so "_law_way_so")] [(so "_law_way_so")] = true := by decide +kernel
theorem bd_52 : BindsR (so "_law_pal") (tops 22) [(so "_law_way_so")] := fun _ _ _ _ _ _ us hl => match us, hl with | [_], _ => rfl
theorem dc_52 : DefC ga (so "_law_pal") 52 fn_l_pal (tops 22) [(so "_law_way_so")] := ⟨⟨_, ck_52⟩, bd_52, fun ks p h => by
  replace h : (ks, p) ∈ (kwl.filter fun q => q.1 == 52).map (·.2) := List.mem_map.mpr ⟨_, List.mem_filter.mpr ⟨h, rfl⟩, rfl⟩
  rw [show (kwl.filter fun q => q.1 == 52).map (·.2) = [] by decide +kernel] at h
  cases h⟩
theorem ck_53 : ckDef ga fn_l_seen (tops 23) [(so "_law_one_so"), (so "_law_other_so"), (so "_law_long_so")] [(so "_law_one_so"), (so "_law_other_so")] = true := by decide +kernel
theorem bd_53 : BindsR (so "_law_seen") (tops 23) [(so "_law_one_so"), (so "_law_other_so")] := fun _ _ _ _ _ _ us hl => match us, hl with | [_, _], _ => rfl
theorem dc_53 : DefC ga (so "_law_seen") 53 fn_l_seen (tops 23) [(so "_law_one_so"), (so "_law_other_so")] := ⟨⟨_, ck_53⟩, bd_53, fun ks p h => by
  replace h : (ks, p) ∈ (kwl.filter fun q => q.1 == 53).map (·.2) := List.mem_map.mpr ⟨_, List.mem_filter.mpr ⟨h, rfl⟩, rfl⟩
  rw [show (kwl.filter fun q => q.1 == 53).map (·.2) = [] by decide +kernel] at h
  cases h⟩
theorem ck_160 : ckDef ga fn_l_all (tops 24) [(so "_law_many"), (so "_law_longest"), (so "_law_turn"), (so "_law_found"), (so "_law_edge_so"), (so "_law_later"), (so "_law_own"), (so "_law_tag")] [(so "_law_many"), (so "_law_longest")] = true := by decide +kernel
theorem bd_160 : BindsR (so "_law_all") (tops 24) [(so "_law_many"), (so "_law_longest")] := fun _ _ _ _ _ _ us hl => match us, hl with | [_, _], _ => rfl
theorem dc_160 : DefC ga (so "_law_all") 160 fn_l_all (tops 24) [(so "_law_many"), (so "_law_longest")] := ⟨⟨_, ck_160⟩, bd_160, fun ks p h => by
  replace h : (ks, p) ∈ (kwl.filter fun q => q.1 == 160).map (·.2) := List.mem_map.mpr ⟨_, List.mem_filter.mpr ⟨h, rfl⟩, rfl⟩
  rw [show (kwl.filter fun q => q.1 == 160).map (·.2) = [] by decide +kernel] at h
  cases h⟩
theorem ck_126 : ckDef ga fn_l_size (tops 25) [(so "_law_box_here")] [(so "_law_box_here")] = true := by decide +kernel
theorem bd_126 : BindsR (so "_law_size") (tops 25) [(so "_law_box_here")] := fun _ _ _ _ _ _ us hl => match us, hl with | [_], _ => rfl
theorem dc_126 : DefC ga (so "_law_size") 126 fn_l_size (tops 25) [(so "_law_box_here")] := ⟨⟨_, ck_126⟩, bd_126, fun ks p h => by
  replace h : (ks, p) ∈ (kwl.filter fun q => q.1 == 126).map (·.2) := List.mem_map.mpr ⟨_, List.mem_filter.mpr ⟨h, rfl⟩, rfl⟩
  rw [show (kwl.filter fun q => q.1 == 126).map (·.2) = [] by decide +kernel] at h
  cases h⟩
theorem ck_364 : ckDef ga fn_l_rooms (tops 26) [(so "_law_one_so"), (so "_law_other_so"), (so "_law_same_so"), (so "_law_back_so"), (so "_law_k")] [(so "_law_one_so"), (so "_law_other_so")] = true := by decide +kernel
theorem bd_364 : BindsR (so "_law_rooms") (tops 26) [(so "_law_one_so"), (so "_law_other_so")] := fun _ _ _ _ _ _ us hl => match us, hl with | [_, _], _ => rfl
theorem dc_364 : DefC ga (so "_law_rooms") 364 fn_l_rooms (tops 26) [(so "_law_one_so"), (so "_law_other_so")] := ⟨⟨_, ck_364⟩, bd_364, fun ks p h => by
  replace h : (ks, p) ∈ (kwl.filter fun q => q.1 == 364).map (·.2) := List.mem_map.mpr ⟨_, List.mem_filter.mpr ⟨h, rfl⟩, rfl⟩
  rw [show (kwl.filter fun q => q.1 == 364).map (·.2) = [] by decide +kernel] at h
  cases h⟩
theorem ck_449 : ckDef ga fn_l_doors_5 (tops 27) [(so "_law_rooms_so"), (so "_law_mine"), (so "_law_its")] [(so "_law_rooms_so")] = true := by decide +kernel
theorem bd_449 : BindsR (so "_law_doors") (tops 27) [(so "_law_rooms_so")] := fun _ _ _ _ _ _ us hl => match us, hl with | [_], _ => rfl
theorem dc_449 : DefC ga (so "_law_doors") 449 fn_l_doors_5 (tops 27) [(so "_law_rooms_so")] := ⟨⟨_, ck_449⟩, bd_449, fun ks p h => by
  replace h : (ks, p) ∈ (kwl.filter fun q => q.1 == 449).map (·.2) := List.mem_map.mpr ⟨_, List.mem_filter.mpr ⟨h, rfl⟩, rfl⟩
  rw [show (kwl.filter fun q => q.1 == 449).map (·.2) = [] by decide +kernel] at h
  cases h⟩
theorem ck_450 : ckDef ga fn_l_from (tops 28) [(so "_law_one_so"), (so "_law_other_so"), (so "_law_found"), (so "_law_mine"), (so "_law_its"), (so "_law_doors_so")] [(so "_law_one_so"), (so "_law_other_so")] = true := by decide +kernel
theorem bd_450 : BindsR (so "_law_from") (tops 28) [(so "_law_one_so"), (so "_law_other_so")] := fun _ _ _ _ _ _ us hl => match us, hl with | [_, _], _ => rfl
theorem dc_450 : DefC ga (so "_law_from") 450 fn_l_from (tops 28) [(so "_law_one_so"), (so "_law_other_so")] := ⟨⟨_, ck_450⟩, bd_450, fun ks p h => by
  replace h : (ks, p) ∈ (kwl.filter fun q => q.1 == 450).map (·.2) := List.mem_map.mpr ⟨_, List.mem_filter.mpr ⟨h, rfl⟩, rfl⟩
  rw [show (kwl.filter fun q => q.1 == 450).map (·.2) = [] by decide +kernel] at h
  cases h⟩
theorem ck_365 : ckDef ga fn_l_led_2 (tops 29) [(so "_law_one_so"), (so "_law_other_so"), (so "_law_room"), (so "_law_far")] [(so "_law_one_so"), (so "_law_other_so"), (so "_law_room")] = true := by decide +kernel
theorem bd_365 : BindsR (so "_law_led") (tops 29) [(so "_law_one_so"), (so "_law_other_so"), (so "_law_room")] := fun _ _ _ _ _ _ us hl => match us, hl with | [_, _, _], _ => rfl
theorem dc_365 : DefC ga (so "_law_led") 365 fn_l_led_2 (tops 29) [(so "_law_one_so"), (so "_law_other_so"), (so "_law_room")] := ⟨⟨_, ck_365⟩, bd_365, fun ks p h => by
  replace h : (ks, p) ∈ (kwl.filter fun q => q.1 == 365).map (·.2) := List.mem_map.mpr ⟨_, List.mem_filter.mpr ⟨h, rfl⟩, rfl⟩
  rw [show (kwl.filter fun q => q.1 == 365).map (·.2) = [] by decide +kernel] at h
  cases h⟩
theorem ck_451 : ckDef ga fn_l_pair_right_5 (tops 30) [(so "_law_one_so"), (so "_law_other_so"), (so "_law_every_so"), (so "_law_due"), (so "_law_least_so"), (so "_law_got"), (so "_law_is_so"), (so "_law_here"), (so "_law_turn"), (so "_law_own")] [(so "_law_one_so"), (so "_law_other_so"), (so "_law_every_so")] = true := by decide +kernel
theorem bd_451 : BindsR (so "_law_pair_right") (tops 30) [(so "_law_one_so"), (so "_law_other_so"), (so "_law_every_so")] := fun _ _ _ _ _ _ us hl => match us, hl with | [_, _, _], _ => rfl
theorem dc_451 : DefC ga (so "_law_pair_right") 451 fn_l_pair_right_5 (tops 30) [(so "_law_one_so"), (so "_law_other_so"), (so "_law_every_so")] := ⟨⟨_, ck_451⟩, bd_451, fun ks p h => by
  replace h : (ks, p) ∈ (kwl.filter fun q => q.1 == 451).map (·.2) := List.mem_map.mpr ⟨_, List.mem_filter.mpr ⟨h, rfl⟩, rfl⟩
  rw [show (kwl.filter fun q => q.1 == 451).map (·.2) = [] by decide +kernel] at h
  cases h⟩
theorem ck_452 : ckDef ga fn_l_middle_right (tops 31) [(so "_law_one_so"), (so "_law_other_so"), (so "_law_rooms_so"), (so "_law_k"), (so "_law_due")] [(so "_law_one_so"), (so "_law_other_so")] = true := by decide +kernel
theorem bd_452 : BindsR (so "_law_middle_right") (tops 31) [(so "_law_one_so"), (so "_law_other_so")] := fun _ _ _ _ _ _ us hl => match us, hl with | [_, _], _ => rfl
theorem dc_452 : DefC ga (so "_law_middle_right") 452 fn_l_middle_right (tops 31) [(so "_law_one_so"), (so "_law_other_so")] := ⟨⟨_, ck_452⟩, bd_452, fun ks p h => by
  replace h : (ks, p) ∈ (kwl.filter fun q => q.1 == 452).map (·.2) := List.mem_map.mpr ⟨_, List.mem_filter.mpr ⟨h, rfl⟩, rfl⟩
  rw [show (kwl.filter fun q => q.1 == 452).map (·.2) = [] by decide +kernel] at h
  cases h⟩
theorem ck_453 : ckDef ga fn_l_by_hand_right_29 (tops 32) [(so "_law_got"), (so "_law_due")] [] = true := by decide +kernel
theorem bd_453 : BindsR (so "_law_by_hand_right") (tops 32) [] := fun _ _ _ _ _ _ us hl => match us, hl with | [], _ => rfl
theorem dc_453 : DefC ga (so "_law_by_hand_right") 453 fn_l_by_hand_right_29 (tops 32) [] := ⟨⟨_, ck_453⟩, bd_453, fun ks p h => by
  replace h : (ks, p) ∈ (kwl.filter fun q => q.1 == 453).map (·.2) := List.mem_map.mpr ⟨_, List.mem_filter.mpr ⟨h, rfl⟩, rfl⟩
  rw [show (kwl.filter fun q => q.1 == 453).map (·.2) = [] by decide +kernel] at h
  cases h⟩
theorem ck_454 : ckDef ga fn_l_right_22 (tops 33) [(so "_law_box_here"), (so "_law_turn"), (so "_law_many"), (so "_law_longest"), (so "_law_one_so"), (so "_law_other_so")] [(so "_law_box_here")] = true := by decide +kernel
theorem bd_454 : BindsR (so "_law_right") (tops 33) [(so "_law_box_here")] := fun _ _ _ _ _ _ us hl => match us, hl with | [_], _ => rfl
theorem dc_454 : DefC ga (so "_law_right") 454 fn_l_right_22 (tops 33) [(so "_law_box_here")] := ⟨⟨_, ck_454⟩, bd_454, fun ks p h => by
  replace h : (ks, p) ∈ (kwl.filter fun q => q.1 == 454).map (·.2) := List.mem_map.mpr ⟨_, List.mem_filter.mpr ⟨h, rfl⟩, rfl⟩
  rw [show (kwl.filter fun q => q.1 == 454).map (·.2) = [] by decide +kernel] at h
  cases h⟩
theorem ck_455 : ckDef ga fn_law_22 (tops 34) [(so "_law_script"), (so "_law_cells_here"), (so "_law_k")] [(so "_law_script")] = true := by decide +kernel
theorem bd_455 : BindsR (so "law") (tops 34) [(so "_law_script")] := fun _ _ _ _ _ _ us hl => match us, hl with | [_], _ => rfl
theorem dc_455 : DefC ga (so "law") 455 fn_law_22 (tops 34) [(so "_law_script")] := ⟨⟨_, ck_455⟩, bd_455, fun ks p h => by
  replace h : (ks, p) ∈ (kwl.filter fun q => q.1 == 455).map (·.2) := List.mem_map.mpr ⟨_, List.mem_filter.mpr ⟨h, rfl⟩, rfl⟩
  rw [show (kwl.filter fun q => q.1 == 455).map (·.2) = [] by decide +kernel] at h
  cases h⟩
theorem link {K : Fg} {h : Heap} {mg : PySem.Str → Option Value} (X : K.In h) (G : h.Ns mainGlobals mg)
    (r15 : RowDef K (so "reduced") (tops 1))
    (r16 : RowDef K (so "back") (tops 2))
    (r17 : RowDef K (so "shared") (tops 3))
    (r24 : RowDef K (so "path") (tops 4))
    (r26 : RowDef K (so "doors_on") (tops 5))
    (r38 : RowDef K (so "rooms_of") (tops 6))
    (r435 : RowDef K (so "doors_from") (tops 9))
    (r188 : RowDef K (so "can_become") (tops 10))
    (r362 : RowDef K (so "middle") (tops 11))
    (r448 : RowDef K (so "pace") (tops 12))
    (r363 : RowDef K (so "_law_box") (tops 14))
    (r4 : RowDef K (so "_law_take") (tops 15))
    (r5 : RowDef K (so "_law_cells") (tops 16))
    (r6 : RowDef K (so "_law_of") (tops 17))
    (r7 : RowDef K (so "_law_same") (tops 18))
    (r51 : RowDef K (so "_law_reduced") (tops 19))
    (r9 : RowDef K (so "_law_row") (tops 20))
    (r40 : RowDef K (so "_law_way") (tops 21))
    (r52 : RowDef K (so "_law_pal") (tops 22))
    (r53 : RowDef K (so "_law_seen") (tops 23))
    (r160 : RowDef K (so "_law_all") (tops 24))
    (r126 : RowDef K (so "_law_size") (tops 25))
    (r364 : RowDef K (so "_law_rooms") (tops 26))
    (r449 : RowDef K (so "_law_doors") (tops 27))
    (r450 : RowDef K (so "_law_from") (tops 28))
    (r365 : RowDef K (so "_law_led") (tops 29))
    (r451 : RowDef K (so "_law_pair_right") (tops 30))
    (r452 : RowDef K (so "_law_middle_right") (tops 31))
    (r453 : RowDef K (so "_law_by_hand_right") (tops 32))
    (r454 : RowDef K (so "_law_right") (tops 33))
    (r455 : RowDef K (so "law") (tops 34))
    {u_DOUBLE : Value} (e_DOUBLE : PySem.W.nsIn K mainGlobals (so "DOUBLE") = some (some u_DOUBLE)) (v_DOUBLE : L2.RelV (Lit.v (.int 2)) u_DOUBLE)
    (b_len : PySem.W.nsIn K mainGlobals (so "len") = some none)
    (b_int : PySem.W.nsIn K mainGlobals (so "int") = some none)
    (b_abs : PySem.W.nsIn K mainGlobals (so "abs") = some none)
    (b_tuple : PySem.W.nsIn K mainGlobals (so "tuple") = some none)
    (b_all : PySem.W.nsIn K mainGlobals (so "all") = some none)
    (b_any : PySem.W.nsIn K mainGlobals (so "any") = some none)
    (b_sum : PySem.W.nsIn K mainGlobals (so "sum") = some none)
    (b_min : PySem.W.nsIn K mainGlobals (so "min") = some none)
    (b_max : PySem.W.nsIn K mainGlobals (so "max") = some none)
    (b_list : PySem.W.nsIn K mainGlobals (so "list") = some none)
    (b_isinstance : PySem.W.nsIn K mainGlobals (so "isinstance") = some none)
    (b_range : PySem.W.nsIn K mainGlobals (so "range") = some none)
    (b_zip : PySem.W.nsIn K mainGlobals (so "zip") = some none)
    (b_enumerate : PySem.W.nsIn K mainGlobals (so "enumerate") = some none)
    (b_sorted : PySem.W.nsIn K mainGlobals (so "sorted") = some none)
    (b_set : PySem.W.nsIn K mainGlobals (so "set") = some none)
    (b_str : PySem.W.nsIn K mainGlobals (so "str") = some none)
    (b_bool : PySem.W.nsIn K mainGlobals (so "bool") = some none)
    : Linked K h mg ga (so "law") (so "_law_script") where
  fn := fa_cons ⟨fn_m_rows_reduced, rfl, DefOk.of X G r15 dc_15⟩ (fa_cons ⟨fn_m_rows_back, rfl, DefOk.of X G r16 dc_16⟩ (fa_cons ⟨fn_m_rows_shared, rfl, DefOk.of X G r17 dc_17⟩ (fa_cons ⟨fn_m_rows_path, rfl, DefOk.of X G r24 dc_24⟩ (fa_cons ⟨fn_m_rows_doors_on, rfl, DefOk.of X G r26 dc_26⟩ (fa_cons ⟨fn_m_rows_rooms_of, rfl, DefOk.of X G r38 dc_38⟩ (fa_cons ⟨fn_m_between_doors_from_2, rfl, DefOk.of X G r435 dc_435⟩ (fa_cons ⟨fn_m_between_can_become, rfl, DefOk.of X G r188 dc_188⟩ (fa_cons ⟨fn_m_between_middle, rfl, DefOk.of X G r362 dc_362⟩ (fa_cons ⟨fn_m_between_pace_2, rfl, DefOk.of X G r448 dc_448⟩ (fa_cons ⟨fn_l_box_46, rfl, DefOk.of X G r363 dc_363⟩ (fa_cons ⟨fn_l_take, rfl, DefOk.of X G r4 dc_4⟩ (fa_cons ⟨fn_l_cells, rfl, DefOk.of X G r5 dc_5⟩ (fa_cons ⟨fn_l_of, rfl, DefOk.of X G r6 dc_6⟩ (fa_cons ⟨fn_l_same, rfl, DefOk.of X G r7 dc_7⟩ (fa_cons ⟨fn_l_reduced, rfl, DefOk.of X G r51 dc_51⟩ (fa_cons ⟨fn_l_row, rfl, DefOk.of X G r9 dc_9⟩ (fa_cons ⟨fn_l_way, rfl, DefOk.of X G r40 dc_40⟩ (fa_cons ⟨fn_l_pal, rfl, DefOk.of X G r52 dc_52⟩ (fa_cons ⟨fn_l_seen, rfl, DefOk.of X G r53 dc_53⟩ (fa_cons ⟨fn_l_all, rfl, DefOk.of X G r160 dc_160⟩ (fa_cons ⟨fn_l_size, rfl, DefOk.of X G r126 dc_126⟩ (fa_cons ⟨fn_l_rooms, rfl, DefOk.of X G r364 dc_364⟩ (fa_cons ⟨fn_l_doors_5, rfl, DefOk.of X G r449 dc_449⟩ (fa_cons ⟨fn_l_from, rfl, DefOk.of X G r450 dc_450⟩ (fa_cons ⟨fn_l_led_2, rfl, DefOk.of X G r365 dc_365⟩ (fa_cons ⟨fn_l_pair_right_5, rfl, DefOk.of X G r451 dc_451⟩ (fa_cons ⟨fn_l_middle_right, rfl, DefOk.of X G r452 dc_452⟩ (fa_cons ⟨fn_l_by_hand_right_29, rfl, DefOk.of X G r453 dc_453⟩ (fa_cons ⟨fn_l_right_22, rfl, DefOk.of X G r454 dc_454⟩ (fa_cons ⟨fn_law_22, rfl, DefOk.of X G r455 dc_455⟩ (fa_nil)))))))))))))))))))))))))))))))
  bl := fa_cons b_len (fa_cons b_int (fa_cons b_abs (fa_cons b_tuple (fa_cons b_all (fa_cons b_any (fa_cons b_sum (fa_cons b_min (fa_cons b_max (fa_cons b_list (fa_cons b_isinstance (fa_cons b_range (fa_cons b_zip (fa_cons b_enumerate (fa_cons b_sorted (fa_cons b_set (fa_cons b_str (fa_cons b_bool (fa_nil))))))))))))))))))
  cs := fa_cons ⟨⟨u_DOUBLE, PySem.W.mg_of X G e_DOUBLE, v_DOUBLE⟩, fun s hs => by first | (cases hs; done) | (cases hs; decide +kernel)⟩ (fa_nil)
  xc := fa_nil
  xi := fa_nil
  law := ⟨tops 34, r455, bd_455, by decide +kernel⟩
end En.k46
open PySem PySem.W PyProof.Rows
set_option maxRecDepth 100000 in
set_option maxHeartbeats 0 in
theorem PySem.Challenge.cw_mirrordoors_k46_doors_and_rooms_between_holds : PySem.Challenge.rw_mirrordoors_k46_doors_and_rooms_between.Holds := by
  w_on; o_law; k_head; (case hw => w_witness2)
  k_fill
  refine En.law_end (l := PySem.Challenge.rw_mirrordoors_k46_doors_and_rooms_between) (m := 63) (n := 60) (x := En.so "_law_script") (pg := En.pg) (Γ := En.k46.ga) (id := 455) (F := En.fn_law_22) rfl (by decide) rfl ⟨rfl, by decide, by decide⟩ (fun w h Y => PySem.W.kIn_of Y) rfl (by decide +kernel) rfl rfl rfl rfl ?L En.V.k46.run
  case L =>
    intro w h mg KX G
    refine' En.k46.link KX G (En.rowdef ?a15 ?l15 ?c15 ?k15) (En.rowdef ?a16 ?l16 ?c16 ?k16) (En.rowdef ?a17 ?l17 ?c17 ?k17) (En.rowdef ?a24 ?l24 ?c24 ?k24) (En.rowdef ?a26 ?l26 ?c26 ?k26) (En.rowdef ?a38 ?l38 ?c38 ?k38) (En.rowdef ?a435 ?l435 ?c435 ?k435) (En.rowdef ?a188 ?l188 ?c188 ?k188) (En.rowdef ?a362 ?l362 ?c362 ?k362) (En.rowdef ?a448 ?l448 ?c448 ?k448) (En.rowdef ?a363 ?l363 ?c363 ?k363) (En.rowdef ?a4 ?l4 ?c4 ?k4) (En.rowdef ?a5 ?l5 ?c5 ?k5) (En.rowdef ?a6 ?l6 ?c6 ?k6) (En.rowdef ?a7 ?l7 ?c7 ?k7) (En.rowdef ?a51 ?l51 ?c51 ?k51) (En.rowdef ?a9 ?l9 ?c9 ?k9) (En.rowdef ?a40 ?l40 ?c40 ?k40) (En.rowdef ?a52 ?l52 ?c52 ?k52) (En.rowdef ?a53 ?l53 ?c53 ?k53) (En.rowdef ?a160 ?l160 ?c160 ?k160) (En.rowdef ?a126 ?l126 ?c126 ?k126) (En.rowdef ?a364 ?l364 ?c364 ?k364) (En.rowdef ?a449 ?l449 ?c449 ?k449) (En.rowdef ?a450 ?l450 ?c450 ?k450) (En.rowdef ?a365 ?l365 ?c365 ?k365) (En.rowdef ?a451 ?l451 ?c451 ?k451) (En.rowdef ?a452 ?l452 ?c452 ?k452) (En.rowdef ?a453 ?l453 ?c453 ?k453) (En.rowdef ?a454 ?l454 ?c454 ?k454) (En.rowdef ?a455 ?l455 ?c455 ?k455) ?eDOUBLE ?vDOUBLE ?b_len ?b_int ?b_abs ?b_tuple ?b_all ?b_any ?b_sum ?b_min ?b_max ?b_list ?b_isinstance ?b_range ?b_zip ?b_enumerate ?b_sorted ?b_set ?b_str ?b_bool
    (case a15 => k_is); (case l15 => k_is); (case c15 => k_is); (case k15 => k_is)
    (case a16 => k_is); (case l16 => k_is); (case c16 => k_is); (case k16 => k_is)
    (case a17 => k_is); (case l17 => k_is); (case c17 => k_is); (case k17 => k_is)
    (case a24 => k_is); (case l24 => k_is); (case c24 => k_is); (case k24 => k_is)
    (case a26 => k_is); (case l26 => k_is); (case c26 => k_is); (case k26 => k_is)
    (case a38 => k_is); (case l38 => k_is); (case c38 => k_is); (case k38 => k_is)
    (case a435 => k_is); (case l435 => k_is); (case c435 => k_is); (case k435 => k_is)
    (case a188 => k_is); (case l188 => k_is); (case c188 => k_is); (case k188 => k_is)
    (case a362 => k_is); (case l362 => k_is); (case c362 => k_is); (case k362 => k_is)
    (case a448 => k_is); (case l448 => k_is); (case c448 => k_is); (case k448 => k_is)
    (case a363 => k_is); (case l363 => k_is); (case c363 => k_is); (case k363 => k_is)
    (case a4 => k_is); (case l4 => k_is); (case c4 => k_is); (case k4 => k_is)
    (case a5 => k_is); (case l5 => k_is); (case c5 => k_is); (case k5 => k_is)
    (case a6 => k_is); (case l6 => k_is); (case c6 => k_is); (case k6 => k_is)
    (case a7 => k_is); (case l7 => k_is); (case c7 => k_is); (case k7 => k_is)
    (case a51 => k_is); (case l51 => k_is); (case c51 => k_is); (case k51 => k_is)
    (case a9 => k_is); (case l9 => k_is); (case c9 => k_is); (case k9 => k_is)
    (case a40 => k_is); (case l40 => k_is); (case c40 => k_is); (case k40 => k_is)
    (case a52 => k_is); (case l52 => k_is); (case c52 => k_is); (case k52 => k_is)
    (case a53 => k_is); (case l53 => k_is); (case c53 => k_is); (case k53 => k_is)
    (case a160 => k_is); (case l160 => k_is); (case c160 => k_is); (case k160 => k_is)
    (case a126 => k_is); (case l126 => k_is); (case c126 => k_is); (case k126 => k_is)
    (case a364 => k_is); (case l364 => k_is); (case c364 => k_is); (case k364 => k_is)
    (case a449 => k_is); (case l449 => k_is); (case c449 => k_is); (case k449 => k_is)
    (case a450 => k_is); (case l450 => k_is); (case c450 => k_is); (case k450 => k_is)
    (case a365 => k_is); (case l365 => k_is); (case c365 => k_is); (case k365 => k_is)
    (case a451 => k_is); (case l451 => k_is); (case c451 => k_is); (case k451 => k_is)
    (case a452 => k_is); (case l452 => k_is); (case c452 => k_is); (case k452 => k_is)
    (case a453 => k_is); (case l453 => k_is); (case c453 => k_is); (case k453 => k_is)
    (case a454 => k_is); (case l454 => k_is); (case c454 => k_is); (case k454 => k_is)
    (case a455 => k_is); (case l455 => k_is); (case c455 => k_is); (case k455 => k_is)
    (case eDOUBLE => k_is); (case vDOUBLE => first | rfl | exact ⟨_, rfl⟩)
    (case b_len => k_is); (case b_int => k_is); (case b_abs => k_is); (case b_tuple => k_is); (case b_all => k_is); (case b_any => k_is); (case b_sum => k_is); (case b_min => k_is); (case b_max => k_is); (case b_list => k_is); (case b_isinstance => k_is); (case b_range => k_is); (case b_zip => k_is); (case b_enumerate => k_is); (case b_sorted => k_is); (case b_set => k_is); (case b_str => k_is); (case b_bool => k_is)
