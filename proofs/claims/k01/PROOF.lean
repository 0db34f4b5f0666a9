import PyProof.Rows.All
import Wide.All
import OpenK.AllK
import Wide.FinOn
import HandS.ForMost
import HandS.ForExc
import HandS.IsInst
import HandS.Wide
import HandS.FStr
import HandS.Replace
import HandS.ReplaceList
import HandS.EndBits
import HandS.TryMany
import HandS.Flow
import HandS.Style
import HandS.Zip
import HandS.Walk
import HandS.OwnEq
import HandS.Slots
import HandS.SlotsOwn
import HandS.ClsMeth
import HandS.DictComp
import HandS.More
import HandS.Small
import HandS.DictTup
import HandS.Star
import KE.SortData
import KE.KDictPairs
import KE.KEqDict
import KE.KOpsOwn
import PyProof.Rows.Range3
import KE.KPar
import HandS.Defaults
import PySem.Challenge.RW_toldstarts_k01_amounts_as_a_lattice
set_option Elab.async false
set_option linter.all false
section
/-! Iv0: an interpreter for the part of Python that the laws use: values by value, a small heap for lists that are changed. -/
namespace Iv

/-- a text as its codes -/
abbrev Cs := List Nat

inductive Ky where
  | i (n : Int) | s (x : Cs)
  deriving DecidableEq

/-- data -/
inductive D where
  | non | bl (b : Bool) | int (i : Int) | str (s : Cs)
  | tup (xs : List D) | lst (xs : List D)
  | dct (kvs : List (Ky × D))
  | ins (c : Nat) (fs : List D)
  /-- a class -/
  | cls (c : Nat)
  /-- a list that is only read -/
  | ro (xs : List D)
  /-- a tuple of which the whole object is known -/
  | ptp (xs : List D)
  deriving Inhabited

/-- a tuple like any other -/
def D.wk : D → D
  | .ptp xs => .tup xs
  | x => x
mutual
/-- == of data -/
def D.eqv : D → D → Bool
  | .non, .non => true
  | .bl a, .bl b => a == b
  | .bl a, .int j => (if a then 1 else 0) == j
  | .int i, .bl b => i == (if b then 1 else 0)
  | .int i, .int j => i == j
  | .str x, .str y => x == y
  | .lst xs, .lst ys => D.eqvs xs ys
  | .tup xs, .tup ys => D.eqvs xs ys
  | _, _ => false
def D.eqvs : List D → List D → Bool
  | [], [] => true
  | x :: xs, y :: ys => D.eqv x y && D.eqvs xs ys
  | _, _ => false
end
mutual
/-- no dicts, no instances; nested at most n deep -/
def D.plain : D → Nat → Bool
  | .non, _ => true
  | .bl _, _ => true
  | .int _, _ => true
  | .str _, _ => true
  | .tup xs, n => match n with
    | 0 => false
    | n + 1 => D.plains xs n
  | .lst xs, n => match n with
    | 0 => false
    | n + 1 => D.plains xs n
  | .dct _, _ => false
  | .ins _ _, _ => false
  | .cls _, _ => false
  | .ro _, _ => false
  | .ptp _, _ => false
def D.plains : List D → Nat → Bool
  | [], _ => true
  | x :: xs, n => D.plain x n && D.plains xs n
end
mutual
/-- the two can be compared by <, place by place -/
def D.alike : D → D → Bool
  | .int _, .int _ => true
  | .bl _, .bl _ => true
  | .str _, .str _ => true
  | .lst xs, .lst ys => D.alikes xs ys
  | .tup xs, .tup ys => D.alikes xs ys
  | _, _ => false
def D.alikes : List D → List D → Bool
  | x :: xs, y :: ys => D.alike x y && D.alikes xs ys
  | _, _ => true
end
/-- the order of texts -/
def ltCs : Cs → Cs → Bool
  | [], [] => false
  | [], _ :: _ => true
  | _ :: _, [] => false
  | a :: as, b :: bs => if a < b then true else if a = b then ltCs as bs else false
mutual
/-- x < y of data that are alike -/
def D.lt : D → D → Bool
  | .int i, .int j => decide (i < j)
  | .bl a, .bl b => !a && b
  | .str x, .str y => ltCs x y
  | .lst xs, .lst ys => D.lts xs ys
  | .tup xs, .tup ys => D.lts xs ys
  | _, _ => false
def D.lts : List D → List D → Bool
  | [], [] => false
  | [], _ :: _ => true
  | _ :: _, [] => false
  | x :: xs, y :: ys => if D.eqv x y then D.lts xs ys else D.lt x y
end
/-- sorted -/
def sortD (xs : List D) : List D := xs.mergeSort fun a b => !D.lt b a
/-- can be sorted: every two are alike; numbers, texts, lists, or tuples that are not empty -/
def alikeAll (xs : List D) : Bool := xs.all fun a => xs.all fun b => D.alike a b
def notTup : D → Bool
  | .tup _ => false
  | _ => true
def tup1 : D → Bool
  | .tup (_ :: _) => true
  | _ => false
def sortOk (xs : List D) : Bool := alikeAll xs && (xs.all (D.plain · 30)) && (xs.all notTup || xs.all tup1) && decide (xs.length ≤ 1000000)
/-- None, a bool, an int, a text -/
def D.flat : D → Bool
  | .non => true
  | .bl _ => true
  | .int _ => true
  | .str _ => true
  | _ => false
def D.flats : List D → Bool
  | [] => true
  | x :: xs => x.flat && D.flats xs
/-- x in xs, flat items -/
def D.mem (x : D) : List D → Bool
  | [] => false
  | y :: ys => if D.eqv y x then true else D.mem x ys

/-- what stands in the heap -/
inductive Ob where
  | lst (xs : List D)
  | dct (kvs : List (Ky × D))
  | ins (c : Nat) (fs : List (Option D))
  | dead
abbrev Hs := List Ob

/-- a value of a name -/
inductive Vl where
  | d (x : D)
  | loc (n : Nat)
  | xc (c : Nat) (fs : List D)
abbrev Ev := List (Option Vl)

inductive R (α : Type) where
  | ok (a : α) (S : Hs)
  | exc (c : Nat) (fs : List D) (S : Hs)
  | bad
def R.bind {α β : Type} (r : R α) (k : α → Hs → R β) : R β :=
  match r with
  | .ok a S => k a S
  | .exc c fs S => .exc c fs S
  | .bad => .bad
def R.opt {α : Type} (o : Option α) (S : Hs) : R α :=
  match o with
  | some a => .ok a S
  | none => .bad

inductive BOp where | add | sub | mul | fdiv | mod | pow
  deriving DecidableEq
inductive COp where | eq | ne | lt | le | gt | ge | isin | notin
  deriving DecidableEq
inductive Ty where | int | bool | str | tup | lst | dct
  deriving DecidableEq
inductive Bi where | len | int | str | abs | max2 | min2 | sum | divmod | tuple | list | all | any | min | max | bool
  deriving DecidableEq
inductive Mt where | split | join | startswith
  deriving DecidableEq

/-- targets -/
inductive Tg where
  | nm (i : Nat) | tp (ts : Tg) | nil | cons (a b : Tg)

/-- expressions; lists of expressions by nil and cons -/
inductive Ex where
  | var (i : Nat) | varp (i : Nat)
  | glob (g : Nat)
  | non | bl (b : Bool) | int (i : Int) | str (s : Cs)
  | nil | cons (e es : Ex)
  | tup (es : Ex) | ptup (es : Ex) | ptl (e : Ex) | lst (es : Ex) | newl (es : Ex)
  | frz (i : Nat)
  | bin (o : BOp) (a b : Ex)
  | neg (a : Ex)
  | cmp (o : COp) (a b : Ex)
  | chain (o o' : COp) (a b c : Ex)
  | not (a : Ex) | and (a b : Ex) | or (a b : Ex) | one (a : Ex)
  | ite (c a b : Ex)
  | call (f : Nat) (es : Ex)
  | call0 (f : Nat)
  | bi (b : Bi) (es : Ex)
  | isi (a : Ex) (t : Ty)
  | meth (m : Mt) (o es : Ex)
  | ix (a i : Ex)
  | sl (a lo hi : Ex)
  | dix (d k : Ex) | dgt (d k x : Ex) | din (neg : Bool) (k d : Ex) | dct0 | newd | dcmp (own : List Nat) (t : Tg) (it c k v : Ex) | itm (d : Ex)
  | dof (e : Ex) | deq0 (neg : Bool) (d : Ex) | srt (d : Ex) | srti (d : Ex) | stars (a b : Ex)
  | mk (j : Nat) (es : Ex) | mkc (i j : Nat) (es : Ex) | slt (j : Nat) (o : Ex) | sltp (j : Nat) (o : Ex) | mth (j : Nat) (o es : Ex) | prp (j : Nat) (o : Ex) | cme (j : Nat) (es : Ex) | isc (j : Nat) (o : Ex)
  | olen (o : Ex) | obool (o : Ex)
  | no
  | fld (i k : Nat)
  | rng (a : Ex) | rng2 (a b : Ex) | zip (a b : Ex) | enm (a : Ex)
  | comp (own : List Nat) (t : Tg) (it c e : Ex) | newc (own : List Nat) (t : Tg) (it c e : Ex)
  | fjoin (es : Ex) | fmt (e : Ex) | fmt02 (e : Ex)

/-! ### operations on data -/
def big : Nat := 1000000
def mulOk (i j : Int) : Bool := decide (i.natAbs < 2 ^ 64) || decide (j.natAbs < 2 ^ 64) || (decide (i.natAbs < 2 ^ 1000) && decide (j.natAbs < 2 ^ 1000))
def repL {α : Type} (xs : List α) : Nat → List α
  | 0 => []
  | n + 1 => xs ++ repL xs n
def binD : BOp → D → D → Option D
  | .add, .int i, .int j => some (.int (i + j))
  | .add, .str a, .str b => if a.length + b.length ≤ big then some (.str (a ++ b)) else none
  | .add, .lst a, .lst b => if a.length + b.length ≤ big then some (.lst (a ++ b)) else none
  | .sub, .int i, .int j => some (.int (i - j))
  | .mul, .int i, .int j => if mulOk i j then some (.int (i * j)) else none
  | .mul, .str a, .int n => if 0 ≤ n ∧ n ≤ 100 ∧ a.length ≤ 1000 then some (.str (repL a n.toNat)) else none
  | .fdiv, .int i, .int j => if 0 < j ∧ j < 2 ^ 1000 then some (.int (i / j)) else none
  | .mod, .int i, .int j => if 0 < j then some (.int (i % j)) else none
  | .pow, .int i, .int j => if 0 ≤ j ∧ j ≤ 1000 ∧ i.natAbs < 2 ^ 64 then some (.int (i ^ j.toNat)) else none
  | _, _, _ => none
/-- x op= y -/
def augD : BOp → D → D → Option D
  | .add, .int i, .int j => some (.int (i + j))
  | .add, .str a, .str b => if a.length + b.length ≤ big then some (.str (a ++ b)) else none
  | .sub, .int i, .int j => some (.int (i - j))
  | .mul, .int i, .int j => if i.natAbs < 2 ^ 64 ∨ j.natAbs < 2 ^ 64 then some (.int (i * j)) else none
  | _, _, _ => none
def deep : Nat := 30
/-- x in y -/
def inD : D → D → Option Bool
  | x, .str z => match x with
    | .str [c] => some (z.contains c)
    | _ => none
  | x, .tup xs => if x.flat && D.flats xs then some (D.mem x xs) else none
  | x, .lst xs => if x.flat && D.flats xs then some (D.mem x xs) else none
  | _, _ => none
def cmpD : COp → D → D → Option Bool
  | .eq, a, b => if a.plain deep && b.plain deep then some (a.eqv b) else none
  | .ne, a, b => if a.plain deep && b.plain deep then some (!a.eqv b) else none
  | .lt, .int i, .int j => some (decide (i < j))
  | .le, .int i, .int j => some (decide (i ≤ j))
  | .gt, .int i, .int j => some (decide (j < i))
  | .lt, .str a, .str b => some (ltCs a b)
  | .le, .str a, .str b => some (!ltCs b a)
  | .gt, .str a, .str b => some (ltCs b a)
  | .ge, .str a, .str b => some (!ltCs a b)
  | .ge, .int i, .int j => some (decide (j ≤ i))
  | .isin, a, b => inD a b
  | .notin, a, b => (inD a b).map (!·)
  | _, _, _ => none
/-- the digits of a number -/
def digs : Nat → Nat → Cs → Cs
  | 0, _, acc => acc
  | f + 1, n, acc => if n < 10 then (48 + n) :: acc else digs f (n / 10) ((48 + n % 10) :: acc)
def decN (n : Nat) : Cs := digs (n + 1) n []
def decI (i : Int) : Cs := if i < 0 then 45 :: decN i.natAbs else decN i.natAbs
/-- the number of digits alone -/
def numOf : Cs → Nat → Option Nat
  | [], acc => some acc
  | c :: cs, acc => if 48 ≤ c ∧ c ≤ 57 then numOf cs (acc * 10 + (c - 48)) else none
def sumD : List D → Int → Option Int
  | [], acc => some acc
  | .int i :: xs, acc => sumD xs (acc + i)
  | _ :: _, _ => none
def bools : List D → Option (List Bool)
  | [] => some []
  | .bl b :: xs => (bools xs).map (b :: ·)
  | _ :: _ => none
def intsD : List D → Option (List Int)
  | [] => some []
  | .int b :: xs => (intsD xs).map (b :: ·)
  | _ :: _ => none
def allB : List Bool → Bool
  | [] => true
  | b :: bs => b && allB bs
def anyB : List Bool → Bool
  | [] => false
  | b :: bs => b || anyB bs
def leastI : Int → List Int → Int
  | m, [] => m
  | m, x :: xs => leastI (if x < m then x else m) xs
def mostI : Int → List Int → Int
  | m, [] => m
  | m, x :: xs => mostI (if m < x then x else m) xs
def biD : Bi → List D → Option D
  | .len, [.str s] => if s.length ≤ big then some (.int s.length) else none
  | .len, [.lst s] => some (.int s.length)
  | .len, [.tup s] => some (.int s.length)
  | .len, [.ro s] => some (.int s.length)
  | .int, [.int i] => some (.int i)
  | .int, [.bl b] => some (.int (if b then 1 else 0))
  | .int, [.str s] => if s ≠ [] ∧ s.length ≤ 640 then (numOf s 0).map fun n => .int n else none
  | .str, [.int i] => if i.natAbs < 2 ^ 1900 then some (.str (decI i)) else none
  | .abs, [.int i] => some (.int (if i < 0 then -i else i))
  | .max2, [.int i, .int j] => some (.int (if j > i then j else i))
  | .min2, [.int i, .int j] => some (.int (if j < i then j else i))
  | .sum, [.lst xs] => (sumD xs 0).map .int
  | .divmod, [.int i, .int j] => if 0 < j ∧ j < 1073741824 then some (.tup [.int (i / j), .int (i % j)]) else none
  | .tuple, [.lst xs] => some (.tup xs)
  | .tuple, [.tup xs] => some (.tup xs)
  | .bool, [.int i] => some (.bl (i != 0))
  | .bool, [.bl b] => some (.bl b)
  | .bool, [.lst xs] => some (.bl (!xs.isEmpty))
  | .bool, [.tup xs] => some (.bl (!xs.isEmpty))
  | .list, [.lst xs] => some (.lst xs)
  | .list, [.tup xs] => some (.lst xs)
  | .all, [.lst xs] => (bools xs).map fun bs => .bl (allB bs)
  | .any, [.lst xs] => (bools xs).map fun bs => .bl (anyB bs)
  | .min, [.lst xs] => (intsD xs).bind fun ns => match ns with
    | [] => none
    | n :: ns => some (.int (leastI n ns))
  | .max, [.lst xs] => (intsD xs).bind fun ns => match ns with
    | [] => none
    | n :: ns => some (.int (mostI n ns))
  | _, _ => none
def isTy : Ty → D → Bool
  | .int, .int _ => true
  | .int, .bl _ => true
  | .bool, .bl _ => true
  | .str, .str _ => true
  | .tup, .tup _ => true
  | .lst, .lst _ => true
  | .dct, .dct _ => true
  | _, _ => false
def isiD (t : Ty) (x : D) : Option D := match x with
  | .ro _ => none
  | .ins _ _ => none
  | .cls _ => none
  | .ptp _ => none
  | x => some (.bl (isTy t x))
/-- a text cut at each sign c -/
def splitC (c : Nat) : Cs → List Cs
  | [] => [[]]
  | x :: xs => if x = c then [] :: splitC c xs else
    match splitC c xs with
    | [] => [[x]]
    | y :: ys => (x :: y) :: ys
def strsOf : List D → Option (List Cs)
  | [] => some []
  | .str s :: xs => (strsOf xs).map (s :: ·)
  | _ :: _ => none
def lens : List Cs → Nat
  | [] => 0
  | x :: xs => x.length + lens xs
def joinC (sep : Cs) : List Cs → Cs
  | [] => []
  | [x] => x
  | x :: y :: ys => x ++ sep ++ joinC sep (y :: ys)
def mtD : Mt → D → List D → Option D
  | .split, .str s, [.str [c]] => if s.length ≤ 1000 ∧ c < 256 then some (.lst ((splitC c s).map .str)) else none
  | .join, .str sep, [.lst xs] => (strsOf xs).bind fun l => if l.length ≤ 1000 ∧ sep.length ≤ 100 ∧ lens l ≤ big then some (.str (joinC sep l)) else none
  | .startswith, .str s, [.str p] => some (.bl (p.isPrefixOf s))
  | _, _, _ => none
/-- the place of an index -/
def plc (i : Int) (n : Nat) : Option Nat :=
  if 0 ≤ i then (if i < n then some i.toNat else none) else (if 0 ≤ i + n then some (i + n).toNat else none)
def ixD : D → D → Option D
  | .str s, .int i => if s.length ≤ big then (plc i s.length).bind fun k => s[k]?.map fun c => .str [c] else none
  | .lst xs, .int i => (plc i xs.length).bind fun k => xs[k]?
  | .tup xs, .int i => (plc i xs.length).bind fun k => xs[k]?
  | .ro xs, .int i => (plc i xs.length).bind fun k => xs[k]?
  | _, _ => none
def lowD (o : Option Int) (n : Nat) : Nat :=
  match o with
  | none => 0
  | some i => if 0 ≤ i then min i.toNat n else (i + n).toNat
def highD (o : Option Int) (n : Nat) : Nat :=
  match o with
  | none => n
  | some i => if 0 ≤ i then min i.toNat n else (i + n).toNat
def cutL {α : Type} (xs : List α) (lo hi : Option Int) : List α := (xs.take (highD hi xs.length)).drop (lowD lo xs.length)
def slD : D → Option Int → Option Int → Option D
  | .str s, lo, hi => if s.length ≤ big then some (.str (cutL s lo hi)) else none
  | .lst xs, lo, hi => some (.lst (cutL xs lo hi))
  | _, _, _ => none
def bound (v : Vl) : Option (Option Int) :=
  match v with
  | .d (.int i) => some (some i)
  | _ => none
def truth : Vl → Option Bool
  | .d (.bl b) => some b
  | _ => none
def upTo : Nat → Int → List D
  | 0, _ => []
  | n + 1, a => .int a :: upTo n (a + 1)
def zipD : List D → List D → List D
  | x :: xs, y :: ys => .tup [x, y] :: zipD xs ys
  | _, _ => []
def enumD : Nat → List D → List D
  | _, [] => []
  | n, x :: xs => .tup [.int n, x] :: enumD (n + 1) xs
/-- dicts as lists of pairs, in the order in which the keys came -/
def keyD : D → Option Ky
  | .int i => some (.i i)
  | .str s => some (.s s)
  | _ => none
def kyD : Ky → D
  | .i n => .int n
  | .s x => .str x
def kget (k : Ky) : List (Ky × D) → Option D
  | [] => none
  | p :: ps => if p.1 = k then some p.2 else kget k ps
def kput (k : Ky) (v : D) (xs : List (Ky × D)) : List (Ky × D) :=
  if (xs.any fun p => decide (p.1 = k)) = true then xs.map (fun p => if p.1 = k then (p.1, v) else p) else xs ++ [(k, v)]
def dOf : Vl → Option D
  | .d x => some x
  | _ => none
def pairD (p : Ky × D) : D := .tup [kyD p.1, p.2]
/-- dict(pairs) -/
def dofL : List D → List (Ky × D) → Option (List (Ky × D))
  | [], acc => some acc
  | .tup [k, v] :: xs, acc => match keyD k with
    | some q => dofL xs (kput q v acc)
    | none => none
  | _ :: _, _ => none
/-- what [*x] unpacks -/
def starL : Vl → Option (List D)
  | .d (.lst xs) => some xs
  | .d (.tup xs) => some xs
  | .d (.dct kvs) => some (kvs.map fun p => kyD p.1)
  | _ => none
def dsOf : List Vl → Option (List D)
  | [] => some []
  | .d x :: vs => (dsOf vs).map (x :: ·)
  | _ :: _ => none
/-- a list that is read: by value, or in the heap -/
def rdV (v : Vl) (S : Hs) : Option D :=
  match v with
  | .d x => some x
  | .loc n => match S[n]? with
    | some (.lst xs) => some (.lst xs)
    | _ => none
  | .xc _ _ => none
/-- a dict that is read: by value, or in the heap -/
def rdK (v : Vl) (S : Hs) : Option (List (Ky × D)) :=
  match v with
  | .d (.dct kvs) => some kvs
  | .loc n => match S[n]? with
    | some (.dct kvs) => some kvs
    | _ => none
  | _ => none
/-- what sorted collects -/
def srtL (v : Vl) (S : Hs) : Option (List D) :=
  match rdK v S with
  | some kvs => some (kvs.map fun p => kyD p.1)
  | none => match rdV v S with
    | some (.lst xs) => some xs
    | _ => none
def rdVs (vs : List Vl) (S : Hs) : Option (List D) :=
  match vs with
  | [] => some []
  | v :: vs => (rdV v S).bind fun x => (rdVs vs S).map (x :: ·)
mutual
def asgD : Tg → D → Ev → Option Ev
  | .nm i, x, r => some (r.set i (some (.d x)))
  | .tp ts, .tup xs, r => asgL ts xs r
  | _, _, _ => none
def asgL : Tg → List D → Ev → Option Ev
  | .nil, [], r => some r
  | .cons a b, x :: xs, r => (asgD a x r).bind fun r' => asgL b xs r'
  | _, _, _ => none
end
def wipes (r : Ev) : List Nat → Ev
  | [] => r
  | v :: vs => (wipes r vs).set v none

/-! ### the program: what expressions ask of it -/
structure Prg where
  globs : List D
  sub : Nat → Nat → Bool
  fuel : Nat
  /-- C(..): the class, __init__ -/
  mks : List (Nat × Nat) := []
  /-- fields: the class, the place -/
  sls : List (Nat × Nat) := []
  /-- methods, properties: the class, the def -/
  mts : List (Nat × Nat) := []
  prs : List (Nat × Nat) := []
  /-- classmethods: the class, the def -/
  cms : List (Nat × Nat) := []
  isc : Nat → Nat → Option Bool := fun _ _ => none
  opf : BOp → Nat → Option Nat := fun _ _ => none
  eqf : Nat → Option Nat := fun _ => none
  lnf : Nat → Option Nat := fun _ => none
  bof : Nat → Option Nat := fun _ => none
abbrev Cal := Nat → List Vl → Hs → R Vl

def R.noX {α : Type} : R α → R α
  | .ok a S => .ok a S
  | _ => .bad
def allD : List (Option D) → Option (List D)
  | [] => some []
  | some x :: xs => (allD xs).map (x :: ·)
  | none :: _ => none
/-- an instance of the class c -/
def insOf (c : Nat) (v : Vl) (S : Hs) : Bool :=
  match v with
  | .d (.ins c' _) => c' == c
  | .loc n => match S[n]? with
    | some (.ins c' _) => c' == c
    | _ => false
  | _ => false
/-- the field k of an instance of the class c -/
def fldOf (c k : Nat) (v : Vl) (S : Hs) : Option D :=
  match v with
  | .d (.ins c' fs) => if c' = c then fs[k]? else none
  | .loc n => match S[n]? with
    | some (.ins c' fs) => if c' = c then (fs[k]?).join else none
    | _ => none
  | _ => none
/-- a new instance -/
def mkV (cal : Cal) (c f : Nat) (vs : List Vl) (S : Hs) : R Vl :=
  (cal f (.loc S.length :: vs) (S ++ [.ins c []])).bind fun v S2 => match v, S2[S.length]? with
    | .d .non, some (.ins c' fs) => if c' = c then match allD fs with
      | some xs => .ok (.d (.ins c xs)) (S2.take S.length)
      | none => .bad
      else .bad
    | _, _ => .bad
/-- on the right of an operator of an own class; of its == -/
def okR (c : Nat) : D → Bool
  | .ins c' _ => c' == c
  | .int _ => true
  | _ => false
def okE (c : Nat) : D → Bool
  | .ins c' _ => c' == c
  | _ => false
def bareD : D → Bool
  | .ins _ _ => false
  | .cls _ => false
  | .ro _ => false
  | .ptp _ => false
  | _ => true
def dcmpL (f : D → Hs → R (Option (Ky × D))) : List D → List (Ky × D) → Hs → R (List (Ky × D))
  | [], acc, S => .ok acc S
  | x :: xs, acc, S => match f x S with
    | .ok (some y) S1 => dcmpL f xs (kput y.1 y.2 acc) S1
    | .ok none S1 => dcmpL f xs acc S1
    | _ => .bad
def compL (f : D → Hs → R (Option D)) : List D → List D → Hs → R (List D)
  | [], acc, S => .ok acc S
  | x :: xs, acc, S => match f x S with
    | .ok (some y) S1 => compL f xs (acc ++ [y]) S1
    | .ok none S1 => compL f xs acc S1
    | _ => .bad

section
variable (P : Prg) (cal : Cal)
mutual
def ev : Ex → Ev → Hs → R Vl
  | .var i, r, S => match r[i]? with
    | some (some (.d x)) => .ok (.d x.wk) S
    | some (some (.loc n)) => .ok (.loc n) S
    | _ => .bad
  | .varp i, r, S => match r[i]? with
    | some (some (.d x)) => .ok (.d x) S
    | _ => .bad
  | .glob g, _, S => match P.globs[g]? with
    | some x => .ok (.d x) S
    | none => .bad
  | .non, _, S => .ok (.d .non) S
  | .bl b, _, S => .ok (.d (.bl b)) S
  | .int i, _, S => .ok (.d (.int i)) S
  | .str s, _, S => .ok (.d (.str s)) S
  | .tup es, r, S => (evs es r S).bind fun vs S1 => match dsOf vs with
    | some xs => if vs.length ≤ big then .ok (.d (.tup xs)) S1 else .bad
    | none => .bad
  | .ptup es, r, S => (evs es r S).bind fun vs S1 => match dsOf vs with
    | some xs => if vs.length ≤ big then .ok (.d (.ptp xs)) S1 else .bad
    | none => .bad
  | .ptl e, r, S => (ev e r S).bind fun x S1 => match x with
    | .d (.lst xs) => .ok (.d (.ptp xs)) S1
    | _ => .bad
  | .lst es, r, S => (evs es r S).bind fun vs S1 => match dsOf vs with
    | some xs => if vs.length ≤ big then .ok (.d (.lst xs)) S1 else .bad
    | none => .bad
  | .newl es, r, S => (evs es r S).bind fun vs S1 => match dsOf vs with
    | some xs => if vs.length ≤ big then .ok (.loc S1.length) (S1 ++ [.lst xs]) else .bad
    | none => .bad
  | .frz i, r, S => match r[i]? with
    | some (some (.loc n)) => match S[n]? with
      | some (.lst xs) => .ok (.d (.lst xs)) (S.set n .dead)
      | _ => .bad
    | _ => .bad
  | .bin o a b, r, S => (ev a r S).bind fun x S1 => (ev b r S1).bind fun y S2 =>
    match x, y with
    | .d (.ins c fs), .d y => if okR c y then match P.opf o c with
      | some f => cal f [.d (.ins c fs), .d y] S2
      | none => .bad
      else .bad
    | .d x, .d y => R.opt ((binD o x y).map .d) S2
    | _, _ => .bad
  | .neg a, r, S => (ev a r S).bind fun x S1 => match x with
    | .d (.int i) => .ok (.d (.int (-i))) S1
    | _ => .bad
  | .cmp o a b, r, S => (ev a r S).bind fun x S1 => (ev b r S1).bind fun y S2 =>
    match rdV x S2, rdV y S2 with
    | some (.ins c fs), some y => if okE c y then match P.eqf c with
      | some f => match o with
        | .eq => cal f [.d (.ins c fs), .d y] S2
        | .ne => (cal f [.d (.ins c fs), .d y] S2).bind fun v S3 => match v with
          | .d (.bl k) => .ok (.d (.bl (!k))) S3
          | _ => .bad
        | _ => .bad
      | none => .bad
      else .bad
    | some x, some y => R.opt ((cmpD o x y).map fun k => .d (.bl k)) S2
    | _, _ => .bad
  | .chain o o' a b c, r, S => (ev a r S).bind fun x S1 => (ev b r S1).bind fun y S2 =>
    match x, y with
    | .d x, .d y => match cmpD o x y with
      | some true => (ev c r S2).bind fun z S3 => match z with
        | .d z => R.opt ((cmpD o' y z).map fun k => .d (.bl k)) S3
        | _ => .bad
      | some false => .ok (.d (.bl false)) S2
      | none => .bad
    | _, _ => .bad
  | .not a, r, S => (ev a r S).bind fun x S1 => match x with
    | .d (.bl k) => .ok (.d (.bl (!k))) S1
    | _ => .bad
  | .and a b, r, S => (ev a r S).bind fun x S1 => match x with
    | .d (.bl true) => ev b r S1
    | .d (.bl false) => .ok (.d (.bl false)) S1
    | _ => .bad
  | .or a b, r, S => (ev a r S).bind fun x S1 => match x with
    | .d (.bl true) => .ok (.d (.bl true)) S1
    | .d (.bl false) => ev b r S1
    | _ => .bad
  | .one a, r, S => ev a r S
  | .ite c a b, r, S => (ev c r S).bind fun x S1 => match x with
    | .d (.bl true) => ev a r S1
    | .d (.bl false) => ev b r S1
    | _ => .bad
  | .call f es, r, S => (evs es r S).bind fun vs S1 => cal f vs S1
  | .call0 f, _, S => cal f [] S
  | .bi b es, r, S => (evs es r S).bind fun vs S1 => match rdVs vs S1 with
    | some xs => R.opt ((biD b xs).map .d) S1
    | none => .bad
  | .isi a t, r, S => (ev a r S).bind fun x S1 => match x with
    | .d x => R.opt ((isiD t x).map .d) S1
    | _ => .bad
  | .meth m o es, r, S => (ev o r S).bind fun x S1 => match x with
    | .d (.str s) => (evs es r S1).bind fun vs S2 => match rdVs vs S2 with
      | some xs => R.opt ((mtD m (.str s) xs).map .d) S2
      | none => .bad
    | _ => .bad
  | .ix a i, r, S => (ev a r S).bind fun x S1 => (ev i r S1).bind fun y S2 => match rdV x S2, y with
    | some x, .d y => R.opt ((ixD x y).map .d) S2
    | _, _ => .bad
  | .sl a lo hi, r, S => (ev a r S).bind fun x S1 => (evo lo r S1).bind fun l S2 => (evo hi r S2).bind fun h S3 => match rdV x S3 with
    | some x => R.opt ((slD x l h).map .d) S3
    | none => .bad
  | .dix d k, r, S => (ev d r S).bind fun x S1 => (ev k r S1).bind fun y S2 => match rdK x S2, y with
    | some kvs, .d y => R.opt (((keyD y).bind fun q => kget q kvs).map .d) S2
    | _, _ => .bad
  | .dgt d k z, r, S => (ev d r S).bind fun x S1 => match rdK x S1 with
    | some _ => (ev k r S1).bind fun y S2 => (ev z r S2).bind fun w S3 => match rdK x S3, y, w with
      | some kvs, .d y, .d w => R.opt ((keyD y).map fun q => .d ((kget q kvs).getD w)) S3
      | _, _, _ => .bad
    | none => .bad
  | .din neg k d, r, S => (ev k r S).bind fun y S1 => (ev d r S1).bind fun x S2 => match rdK x S2, y with
    | some kvs, .d y => R.opt ((keyD y).map fun q => .d (.bl (if neg then !(kget q kvs).isSome else (kget q kvs).isSome))) S2
    | _, _ => .bad
  | .dct0, _, S => .ok (.d (.dct [])) S
  | .newd, _, S => .ok (.loc S.length) (S ++ [.dct []])
  | .dof e, r, S => (ev e r S).bind fun x S1 => match x with
    | .d (.ptp xs) => R.opt ((dofL xs []).map fun kvs => .d (.dct kvs)) S1
    | .d (.lst xs) => R.opt ((dofL xs []).map fun kvs => .d (.dct kvs)) S1
    | _ => .bad
  | .deq0 neg d, r, S => (ev d r S).bind fun x S1 => match x with
    | .d (.dct kvs) => .ok (.d (.bl (if neg then !kvs.isEmpty else kvs.isEmpty))) S1
    | _ => .bad
  | .srt e, r, S => (ev e r S).bind fun x S1 => match srtL x S1 with
    | some xs => if sortOk xs then .ok (.d (.lst (sortD xs))) S1 else .bad
    | none => .bad
  | .srti e, r, S => (ev e r S).bind fun x S1 => match x with
    | .loc n => match S1[n]? with
      | some (.dct kvs) => if sortOk (kvs.map pairD) && kvs.all (fun p => p.2.flat) then .ok (.d (.lst (sortD (kvs.map pairD)))) S1 else .bad
      | _ => .bad
    | _ => .bad
  | .stars a b, r, S => (ev a r S).bind fun x S1 => match starL x with
    | some xs => (ev b r S1).bind fun y S2 => match starL y with
      | some ys => if xs.length + ys.length ≤ big then .ok (.d (.lst (xs ++ ys))) S2 else .bad
      | none => .bad
    | none => .bad
  | .mk j es, r, S => match P.mks[j]? with
    | some q => (evs es r S).bind fun vs S1 => mkV cal q.1 q.2 vs S1
    | none => .bad
  | .mkc i j es, r, S => match r[i]?, P.mks[j]? with
    | some (some (.d (.cls c))), some q => if q.1 = c then (evs es r S).bind fun vs S1 => mkV cal q.1 q.2 vs S1 else .bad
    | _, _ => .bad
  | .slt j o, r, S => (ev o r S).bind fun x S1 => match P.sls[j]? with
    | some q => R.opt ((fldOf q.1 q.2 x S1).map fun d => .d d.wk) S1
    | none => .bad
  | .sltp j o, r, S => (ev o r S).bind fun x S1 => match P.sls[j]? with
    | some q => R.opt ((fldOf q.1 q.2 x S1).map .d) S1
    | none => .bad
  | .mth j o es, r, S => match P.mts[j]? with
    | some q => (ev o r S).bind fun x S1 => if insOf q.1 x S1 then (evs es r S1).bind fun vs S2 => cal q.2 (x :: vs) S2 else .bad
    | none => .bad
  | .prp j o, r, S => match P.prs[j]? with
    | some q => (ev o r S).bind fun x S1 => if insOf q.1 x S1 then (cal q.2 [x] S1).noX else .bad
    | none => .bad
  | .cme j es, r, S => match P.cms[j]? with
    | some q => (evs es r S).bind fun vs S1 => cal q.2 (.d (.cls q.1) :: vs) S1
    | none => .bad
  | .isc j o, r, S => (ev o r S).bind fun x S1 => match x with
    | .d (.ins c _) => match P.isc c j with
      | some b => .ok (.d (.bl b)) S1
      | none => .bad
    | .d x => if bareD x then .ok (.d (.bl false)) S1 else .bad
    | _ => .bad
  | .olen o, r, S => (ev o r S).bind fun x S1 => match x with
    | .d (.ins c fs) => match P.lnf c with
      | some f => (cal f [.d (.ins c fs)] S1).bind fun v S2 => match v with
        | .d (.int i) => if 0 ≤ i ∧ i < 2 ^ 63 then .ok (.d (.int i)) S2 else .bad
        | _ => .bad
      | none => .bad
    | _ => .bad
  | .obool o, r, S => (ev o r S).bind fun x S1 => match x with
    | .d (.ins c fs) => match P.bof c with
      | some f => (cal f [.d (.ins c fs)] S1).bind fun v S2 => match v with
        | .d (.bl b) => .ok (.d (.bl b)) S2
        | _ => .bad
      | none => .bad
    | _ => .bad
  | .dcmp own t it c k e, r, S => (evi it r S).bind fun xs S1 => if big < xs.length then .bad else
    (dcmpL (fun x S2 => match asgD t x (wipes r own) with
      | none => .bad
      | some r1 => (ev c r1 S2).bind fun b S3 => match b with
        | .d (.bl true) => (ev k r1 S3).bind fun y S4 => (ev e r1 S4).bind fun z S5 => match y, z with
          | .d y, .d z => match keyD y with
            | some q => .ok (some (q, z)) S5
            | none => .bad
          | _, _ => .bad
        | .d (.bl false) => .ok none S3
        | _ => .bad) xs [] S1).bind fun ys S5 => .ok (.d (.dct ys)) S5
  | .fld i k, r, S => match r[i]? with
    | some (some (.xc c fs)) => R.opt (fs[k]?.map .d) S
    | _ => .bad
  | .comp own t it c e, r, S => (evi it r S).bind fun xs S1 => if big < xs.length then .bad else
    (compL (fun x S2 => match asgD t x (wipes r own) with
      | none => .bad
      | some r1 => (ev c r1 S2).bind fun k S3 => match k with
        | .d (.bl true) => (ev e r1 S3).bind fun y S4 => match y with
          | .d y => .ok (some y) S4
          | _ => .bad
        | .d (.bl false) => .ok none S3
        | _ => .bad) xs [] S1).bind fun ys S5 => .ok (.d (.lst ys)) S5
  | .newc own t it c e, r, S => (evi it r S).bind fun xs S1 => if big < xs.length then .bad else
    (compL (fun x S2 => match asgD t x (wipes r own) with
      | none => .bad
      | some r1 => (ev c r1 S2).bind fun k S3 => match k with
        | .d (.bl true) => (ev e r1 S3).bind fun y S4 => match y with
          | .d y => .ok (some y) S4
          | _ => .bad
        | .d (.bl false) => .ok none S3
        | _ => .bad) xs [] S1).bind fun ys S5 => .ok (.loc S5.length) (S5 ++ [.lst ys])
  | .fjoin es, r, S => (evs es r S).bind fun vs S1 => match (dsOf vs).bind strsOf with
    | some l => if (joinC [] l).length ≤ big then .ok (.d (.str (joinC [] l))) S1 else .bad
    | none => .bad
  | .fmt e, r, S => (ev e r S).bind fun x S1 => match x with
    | .d (.str s) => if s.length ≤ big then .ok (.d (.str s)) S1 else .bad
    | .d (.int i) => if i.natAbs < 2 ^ 1900 then .ok (.d (.str (decI i))) S1 else .bad
    | _ => .bad
  | .fmt02 e, r, S => (ev e r S).bind fun x S1 => match x with
    | .d (.int i) => if 0 ≤ i ∧ i < 100 then .ok (.d (.str [48 + (i / 10).toNat, 48 + (i % 10).toNat])) S1 else .bad
    | _ => .bad
  | _, _, _ => .bad
def evs : Ex → Ev → Hs → R (List Vl)
  | .nil, _, S => .ok [] S
  | .cons e es, r, S => (ev e r S).bind fun v S1 => (evs es r S1).bind fun vs S2 => .ok (v :: vs) S2
  | _, _, _ => .bad
def evo : Ex → Ev → Hs → R (Option Int)
  | .no, _, S => .ok none S
  | .one e, r, S => (ev e r S).bind fun v S1 => match v with
    | .d (.int i) => .ok (some i) S1
    | _ => .bad
  | _, _, _ => .bad
/-- what a loop walks -/
def evi : Ex → Ev → Hs → R (List D)
  | .rng a, r, S => (ev a r S).bind fun x S1 => match x with
    | .d (.int j) => if -(2 ^ 30) < j ∧ j < 2 ^ 30 then .ok (upTo j.toNat 0) S1 else .bad
    | _ => .bad
  | .rng2 a b, r, S => (ev a r S).bind fun x S1 => (ev b r S1).bind fun y S2 => match x, y with
    | .d (.int i), .d (.int j) => if -(2 ^ 30) < i ∧ i < 2 ^ 30 ∧ -(2 ^ 30) < j ∧ j < 2 ^ 30 then .ok (upTo (j - i).toNat i) S2 else .bad
    | _, _ => .bad
  | .zip a b, r, S => (ev a r S).bind fun x S1 => (ev b r S1).bind fun y S2 => match x, y with
    | .d (.lst xs), .d (.lst ys) => .ok (zipD xs ys) S2
    | _, _ => .bad
  | .enm a, r, S => (ev a r S).bind fun x S1 => match x with
    | .d (.lst xs) => .ok (enumD 0 xs) S1
    | _ => .bad
  | .one e, r, S => (ev e r S).bind fun x S1 => match x with
    | .d (.lst xs) => .ok xs S1
    | .d (.tup xs) => .ok xs S1
    | .d (.str s) => .ok (s.map fun c => .str [c]) S1
    | .d (.ro xs) => .ok xs S1
    | .d (.dct kvs) => .ok (kvs.map fun p => kyD p.1) S1
    | _ => .bad
  | .itm d, r, S => (ev d r S).bind fun x S1 => match x with
    | .d (.dct kvs) => .ok (kvs.map fun p => .tup [kyD p.1, p.2]) S1
    | _ => .bad
  | _, _, _ => .bad
end
end
end Iv
end
section
set_option autoImplicit false
set_option maxRecDepth 100000
set_option maxHeartbeats 4000000
namespace Iv
open PySem L2

/-- the written part, and where the classes stand -/
structure Fg where
  K : PySem.W.Frag
  cl : Nat → Addr
instance : Coe Fg PySem.W.Frag := ⟨Fg.K⟩
abbrev kx (cl : Nat → Addr) (X : Cx) : Fg := ⟨X.K, cl⟩
/-- a text of the model -/
def S' (s : Cs) : Str := ⟨s.toArray⟩
theorem S'_toList (x : Str) : S' x.cps.toList = x := by cases x; simp [S']
theorem S'_list (s : Cs) : (S' s).cps.toList = s := by simp [S']
theorem S'_inj {a b : Cs} (h : S' a = S' b) : a = b := by
  have := congrArg (fun x : Str => x.cps.toList) h
  simpa [S'] using this
theorem S'_length (s : Cs) : (S' s).length = s.length := by simp [S', Str.length]

def Okc (s : Cs) : Prop := ∀ c ∈ s, c < 1114112
def kyOf : Ky → Key
  | .i n => Sum.inl n
  | .s x => Sum.inr (S' x)

def okK : Ky → Prop
  | .i _ => True
  | .s x => Okc x
/-- a tuple without attributes of its own, of which the object is known -/
def SqP (K : PySem.W.Frag) (H : Hp) (a : Addr) (vs : List V) : Prop := ∃ (o : Obj) (its : List Value) (n : Nat), (H a = some (.frz o (.tup vs)) ∨ (K.lookup a = some o ∧ Vals vs its)) ∧ o.cls = .type "tuple" ∧ o.dict = none ∧ o.data = .seq its.toArray n ∧ vs.length ≤ sizeLine
theorem SqP.ext {K : PySem.W.Frag} {H H' : Hp} {a : Addr} {vs : List V} (e : Ext H H') (h : SqP K H a vs) : SqP K H' a vs := by
  obtain ⟨o, its, n, h1, h2⟩ := h
  exact ⟨o, its, n, h1.imp (e _ _) id, h2⟩
theorem SqP.weak {K : PySem.W.Frag} {H : Hp} {a : Addr} {vs : List V} (h : SqP K H a vs) : SqT K H a vs := by
  obtain ⟨o, its, n, h1, h2, h3, h4, h5⟩ := h
  rcases h1 with h1 | ⟨h1, h6⟩
  · exact .inl (.inr ⟨o, h1⟩)
  · refine .inr ⟨o, its.toArray, n, h1, h2, h4, ?_, by simpa using h6⟩
    have := h6.length
    simp
    omega
mutual
/-- the value v of the heap G is the data -/
inductive Rep (K : Fg) (G : Hp) : D → V → Prop
  | non : Rep K G .non .non
  | bl (b : Bool) : Rep K G (.bl b) (.bl b)
  | int (i : Int) : Rep K G (.int i) (.int i)
  | str (s : Cs) (h : Okc s) : Rep K G (.str s) (.str (S' s))
  | tup {a : Addr} {vs : List V} {xs : List D} : SqT K G a vs → Reps K G xs vs → Rep K G (.tup xs) (.ref a)
  | lst {a : Addr} {vs : List V} {xs : List D} : G a = some (.lst vs) → Reps K G xs vs → Rep K G (.lst xs) (.ref a)
  | ro {a : Addr} {vs : List V} {xs : List D} : SqL K G a vs → Reps K G xs vs → Rep K G (.ro xs) (.ref a)
  | dct {a : Addr} {o : Obj} {kvs : List (Key × V)} {xs : List (Ky × D)} : G a = some (.frz o (.dK kvs)) → RepKs K G xs kvs → Rep K G (.dct xs) (.ref a)
  | ins {c : Nat} {a dx : Addr} {vs : List V} {fs : List D} : G a = some (SlX.SlO a (K.cl c) dx (vs.map some)) → G dx = some (.xd []) → dx ≠ a → Reps K G fs vs → Rep K G (.ins c fs) (.ref a)
  | cls (c : Nat) : Rep K G (.cls c) (.ref (K.cl c))
  | ptp {a : Addr} {vs : List V} {xs : List D} : SqP K G a vs → Reps K G xs vs → Rep K G (.ptp xs) (.ref a)
inductive RepKs (K : Fg) (G : Hp) : List (Ky × D) → List (Key × V) → Prop
  | nil : RepKs K G [] []
  | cons {k : Ky} {x : D} {v : V} {xs : List (Ky × D)} {kvs : List (Key × V)} : okK k → Rep K G x v → RepKs K G xs kvs → RepKs K G ((k, x) :: xs) ((kyOf k, v) :: kvs)
inductive Reps (K : Fg) (G : Hp) : List D → List V → Prop
  | nil : Reps K G [] []
  | cons {x : D} {v : V} {xs : List D} {vs : List V} : Rep K G x v → Reps K G xs vs → Reps K G (x :: xs) (v :: vs)
end

mutual
theorem Rep.mono {K : Fg} {G G' : Hp} (e : Ext G G') : ∀ {x : D} {v : V}, Rep K G x v → Rep K G' x v
  | _, _, .non => .non
  | _, _, .bl b => .bl b
  | _, _, .int i => .int i
  | _, _, .str s h => .str s h
  | _, _, .tup h r => .tup (h.ext e) (Reps.mono e r)
  | _, _, .lst h r => .lst (e _ _ h) (Reps.mono e r)
  | _, _, .ro h r => .ro (h.ext e) (Reps.mono e r)
  | _, _, .dct h r => .dct (e _ _ h) (RepKs.mono e r)
  | _, _, .ins h1 h2 n r => .ins (e _ _ h1) (e _ _ h2) n (Reps.mono e r)
  | _, _, .cls c => .cls c
  | _, _, .ptp h r => .ptp (h.ext e) (Reps.mono e r)
theorem RepKs.mono {K : Fg} {G G' : Hp} (e : Ext G G') : ∀ {xs : List (Ky × D)} {kvs : List (Key × V)}, RepKs K G xs kvs → RepKs K G' xs kvs
  | _, _, .nil => .nil
  | _, _, .cons o h r => .cons o (Rep.mono e h) (RepKs.mono e r)
theorem Reps.mono {K : Fg} {G G' : Hp} (e : Ext G G') : ∀ {xs : List D} {vs : List V}, Reps K G xs vs → Reps K G' xs vs
  | _, _, .nil => .nil
  | _, _, .cons h r => .cons (Rep.mono e h) (Reps.mono e r)
end
theorem Rep.wk {K : Fg} {G : Hp} {x : D} {v : V} (h : Rep K G x v) : Rep K G x.wk v := by
  cases h with
  | ptp h r => exact .tup h.weak r
  | non => exact .non
  | bl b => exact .bl b
  | int i => exact .int i
  | str s h => exact .str s h
  | tup h r => exact .tup h r
  | lst h r => exact .lst h r
  | ro h r => exact .ro h r
  | dct h r => exact .dct h r
  | ins h1 h2 n r => exact .ins h1 h2 n r
  | cls c => exact .cls c
theorem Reps.length {K : Fg} {G : Hp} : ∀ {xs : List D} {vs : List V}, Reps K G xs vs → xs.length = vs.length
  | _, _, .nil => rfl
  | _, _, .cons _ r => by simp [Reps.length r]
theorem Reps.get {K : Fg} {G : Hp} : ∀ {xs : List D} {vs : List V} {i : Nat} {x : D}, Reps K G xs vs → xs[i]? = some x → ∃ v, vs[i]? = some v ∧ Rep K G x v
  | _, _, _, _, .nil, e => by simp at e
  | _, _, 0, _, .cons h _, e => by simp at e; subst e; exact ⟨_, rfl, h⟩
  | _, _, i + 1, x, .cons _ r, e => by
    obtain ⟨v, h1, h2⟩ := Reps.get (i := i) (x := x) r (by simpa using e)
    exact ⟨v, by simpa using h1, h2⟩
theorem Reps.getV {K : Fg} {G : Hp} : ∀ {xs : List D} {vs : List V} {i : Nat} {v : V}, Reps K G xs vs → vs[i]? = some v → ∃ x, xs[i]? = some x ∧ Rep K G x v
  | _, _, _, _, .nil, e => by simp at e
  | _, _, 0, _, .cons h _, e => by simp at e; subst e; exact ⟨_, rfl, h⟩
  | _, _, i + 1, v, .cons _ r, e => by
    obtain ⟨x, h1, h2⟩ := Reps.getV (i := i) (v := v) r (by simpa using e)
    exact ⟨x, by simpa using h1, h2⟩
theorem Reps.append {K : Fg} {G : Hp} : ∀ {xs ys : List D} {vs ws : List V}, Reps K G xs vs → Reps K G ys ws → Reps K G (xs ++ ys) (vs ++ ws)
  | _, _, _, _, .nil, s => s
  | _, _, _, _, .cons h r, s => .cons h (Reps.append r s)
theorem Reps.take {K : Fg} {G : Hp} : ∀ {xs : List D} {vs : List V} (n : Nat), Reps K G xs vs → Reps K G (xs.take n) (vs.take n)
  | _, _, 0, _ => by simp; exact .nil
  | _, _, _ + 1, .nil => by simp; exact .nil
  | _, _, n + 1, .cons h r => by simpa using Reps.cons h (Reps.take n r)
theorem Reps.drop {K : Fg} {G : Hp} : ∀ {xs : List D} {vs : List V} (n : Nat), Reps K G xs vs → Reps K G (xs.drop n) (vs.drop n)
  | _, _, 0, r => by simpa using r
  | _, _, _ + 1, .nil => by simp; exact .nil
  | _, _, n + 1, .cons _ r => by simpa using Reps.drop n r
theorem Reps.set {K : Fg} {G : Hp} {x : D} {v : V} (h : Rep K G x v) : ∀ {xs : List D} {vs : List V} (i : Nat), Reps K G xs vs → Reps K G (xs.set i x) (vs.set i v)
  | _, _, _, .nil => by simp; exact .nil
  | _, _, 0, .cons _ r => .cons h r
  | _, _, i + 1, .cons q r => .cons q (Reps.set h i r)

/-- new objects that never change are laid, in G and in H -/
inductive Al : Hp → Hp → Hp → Hp → Prop
  | refl {G H : Hp} : Al G H G H
  | new {G H G1 H1 : Hp} {p : Addr} {o : HO} : Al G H G1 H1 → H1 p = none → Al G H (upd G1 p o) (upd H1 p o)
theorem Al.extH {G H G' H' : Hp} (a : Al G H G' H') : Ext H H' := by
  induction a with
  | refl => exact fun _ _ h => h
  | @new G1 H1 p o a hp ih => intro b u h; have := ih _ _ h; rw [upd_ne (ne_of_none this hp)]; exact this
theorem Al.ext {G H G' H' : Hp} (a : Al G H G' H') (e : Ext G H) : Ext G' H' ∧ Ext G G' ∧ Ext H H' := by
  refine ⟨?_, ?_, a.extH⟩
  · induction a with
    | refl => exact e
    | @new G1 H1 p o a hp ih =>
      intro b u h
      by_cases hb : b = p
      · subst hb; rw [upd_same] at h ⊢; exact h
      · rw [upd_ne hb] at h ⊢; exact ih _ _ h
  · have all : Ext G' H' ∧ Ext G G' := by
      induction a with
      | refl => exact ⟨e, fun _ _ h => h⟩
      | @new G1 H1 p o a hp ih =>
        obtain ⟨i1, i2⟩ := ih
        have gp : G1 p = none := by
          cases q : G1 p with
          | none => rfl
          | some u => rw [i1 _ _ q] at hp; cases hp
        refine ⟨fun b u h => ?_, fun b u h => ?_⟩
        · by_cases hb : b = p
          · subst hb; rw [upd_same] at h ⊢; exact h
          · rw [upd_ne hb] at h ⊢; exact i1 _ _ h
        · have := i2 _ _ h; rw [upd_ne (ne_of_none this gp)]; exact this
    exact all.2
theorem Al.trans {G H G1 H1 G2 H2 : Hp} (a : Al G H G1 H1) (b : Al G1 H1 G2 H2) : Al G H G2 H2 := by
  induction b with
  | refl => exact a
  | new _ hp ih => exact .new ih hp
theorem Al.one {G H : Hp} {p : Addr} {o : HO} (hp : H p = none) : Al G H (upd G p o) (upd H p o) := .new .refl hp
theorem Al.only {G H G' H' : Hp} (a : Al G H G' H') {b : Addr} {o : HO} (h1 : G b = none) (h2 : H b = some o) : G' b = none := by
  induction a with
  | refl => exact h1
  | @new G1 H1 p u a hp ih => rw [upd_ne (ne_of_none (a.extH _ _ h2) hp)]; exact ih

/-- a value of a name -/
def RepV (K : Fg) (G : Hp) (m : List Addr) : Vl → V → Prop
  | .d x, u => Rep K G x u
  | .loc n, u => ∃ a, m[n]? = some a ∧ u = .ref a
  | .xc _ _, _ => False
/-- an object of the small heap -/
inductive RepOs (K : Fg) (G : Hp) : List (Option D) → List (Option V) → Prop
  | nil : RepOs K G [] []
  | none {xs : List (Option D)} {vs : List (Option V)} : RepOs K G xs vs → RepOs K G (none :: xs) (none :: vs)
  | some {x : D} {v : V} {xs : List (Option D)} {vs : List (Option V)} : Rep K G x v → RepOs K G xs vs → RepOs K G (some x :: xs) (some v :: vs)
theorem RepOs.mono {K : Fg} {G G' : Hp} (e : Ext G G') {xs : List (Option D)} {vs : List (Option V)} (h : RepOs K G xs vs) : RepOs K G' xs vs := by
  induction h with
  | nil => exact .nil
  | none _ ih => exact .none ih
  | some r _ ih => exact .some (r.mono e) ih
inductive ObV (K : Fg) (G : Hp) (a : Addr) : Ob → HO → Prop
  | lst {xs : List D} {vs : List V} : Reps K G xs vs → ObV K G a (.lst xs) (.lst vs)
  | dct {xs : List (Ky × D)} {kvs : List (Key × V)} : RepKs K G xs kvs → ObV K G a (.dct xs) (.dK kvs)
  | ins {c : Nat} {dx : Addr} {fs : List (Option D)} {vs : List (Option V)} : G dx = some (.xd []) → dx ≠ a → RepOs K G fs vs → ObV K G a (.ins c fs) (SlX.SlO a (K.cl c) dx vs)
theorem ObV.mono {K : Fg} {G G' : Hp} {a : Addr} {o : Ob} {ho : HO} (e : Ext G G') (h : ObV K G a o ho) : ObV K G' a o ho := by
  cases h with
  | lst r => exact .lst (r.mono e)
  | dct r => exact .dct (r.mono e)
  | ins h1 h2 r => exact .ins (e _ _ h1) h2 (r.mono e)
def ObR (K : Fg) (G H : Hp) (a : Addr) (o : Ob) : Prop := o = .dead ∨ (G a = none ∧ ∃ ho, H a = some ho ∧ ObV K G a o ho)
theorem ObR.lst {K : Fg} {G H : Hp} {a : Addr} {xs : List D} (h : ObR K G H a (.lst xs)) : G a = none ∧ ∃ vs, H a = some (.lst vs) ∧ Reps K G xs vs := by
  rcases h with h | ⟨h1, ho, h2, h3⟩
  · cases h
  · cases h3 with
    | lst r => exact ⟨h1, _, h2, r⟩
theorem ObR.dct {K : Fg} {G H : Hp} {a : Addr} {xs : List (Ky × D)} (h : ObR K G H a (.dct xs)) : G a = none ∧ ∃ vs, H a = some (.dK vs) ∧ RepKs K G xs vs := by
  rcases h with h | ⟨h1, ho, h2, h3⟩
  · cases h
  · cases h3 with
    | dct r => exact ⟨h1, _, h2, r⟩
theorem ObR.ins {K : Fg} {G H : Hp} {a : Addr} {c : Nat} {fs : List (Option D)} (h : ObR K G H a (.ins c fs)) : G a = none ∧ ∃ dx vs, H a = some (SlX.SlO a (K.cl c) dx vs) ∧ G dx = some (.xd []) ∧ dx ≠ a ∧ RepOs K G fs vs := by
  rcases h with h | ⟨h1, ho, h2, h3⟩
  · cases h
  · cases h3 with
    | ins q1 q2 r => exact ⟨h1, _, _, h2, q1, q2, r⟩
structure Rl (K : Fg) (F G : Hp) (m : List Addr) (S : Hs) (H : Hp) : Prop where
  ext : Ext G H
  fr : Ext F H
  fd : ∀ (a : Addr) (o : HO), F a = some o → G a = none ∧ a ∉ m
  mh : ∀ a ∈ m, ∃ o, H a = some o
  len : m.length = S.length
  nd : m.Nodup
  ob : ∀ (n : Nat) (a : Addr) (o : Ob), m[n]? = some a → S[n]? = some o → ObR K G H a o
def RlV (K : Fg) (G : Hp) (m : List Addr) (r : Ev) (σ : L2.St) : Prop :=
  r.length = σ.length ∧ ∀ (i : Nat) (v : Vl), r[i]? = some (some v) → (∀ c fs, v ≠ .xc c fs) → ∃ u, σ[i]? = some (some u) ∧ RepV K G m v u
def Grow (G : Hp) (m : List Addr) (G' : Hp) (m' : List Addr) : Prop := Ext G G' ∧ ∀ (n : Nat) (a : Addr), m[n]? = some a → m'[n]? = some a
theorem Grow.refl {G : Hp} {m : List Addr} : Grow G m G m := ⟨fun _ _ h => h, fun _ _ h => h⟩
theorem Grow.trans {G G1 G2 : Hp} {m m1 m2 : List Addr} (a : Grow G m G1 m1) (b : Grow G1 m1 G2 m2) : Grow G m G2 m2 := ⟨a.1.trans b.1, fun n x h => b.2 n x (a.2 n x h)⟩
theorem RepV.mono {K : Fg} {G G' : Hp} {m m' : List Addr} (g : Grow G m G' m') : ∀ {v : Vl} {u : V}, RepV K G m v u → RepV K G' m' v u
  | .d _, _, h => Rep.mono g.1 h
  | .loc _, _, ⟨a, h, e⟩ => ⟨a, g.2 _ _ h, e⟩
  | .xc _ _, _, h => h.elim
theorem RlV.mono {K : Fg} {G G' : Hp} {m m' : List Addr} {r : Ev} {σ : L2.St} (g : Grow G m G' m') (h : RlV K G m r σ) : RlV K G' m' r σ :=
  ⟨h.1, fun i v e n => let ⟨u, h1, h2⟩ := h.2 i v e n; ⟨u, h1, h2.mono g⟩⟩
theorem Rl.al {K : Fg} {F G G' H H' : Hp} {m : List Addr} {S : Hs} (a : Al G H G' H') (h : Rl K F G m S H) : Rl K F G' m S H' := by
  obtain ⟨e1, e2, e3⟩ := a.ext h.ext
  refine ⟨e1, fun b o q => e3 _ _ (h.fr b o q), fun b o q => ⟨a.only (h.fd b o q).1 (h.fr b o q), (h.fd b o q).2⟩, fun b hb => let ⟨o, q⟩ := h.mh b hb; ⟨o, e3 _ _ q⟩, h.len, h.nd, fun n b o hn ho => ?_⟩
  rcases h.ob n b o hn ho with q | ⟨h1, vs, h2, h3⟩
  · exact .inl q
  · exact .inr ⟨a.only h1 h2, vs, e3 _ _ h2, h3.mono e2⟩
theorem Al.grow {G G' H H' : Hp} {m : List Addr} (a : Al G H G' H') (e : Ext G H) : Grow G m G' m := ⟨(a.ext e).2.1, fun _ _ h => h⟩

/-! ### exceptions -/
/-- the classes of errors: the name; the field that __init__ keeps -/
structure Xc where
  name : Str
  fld : Option Str
def RepX (xs : List Xc) (mg : Str → Option Value) (K : Fg) (G : Hp) (c : Nat) (fs : List D) (cls : Value) (d : Option Addr) : Prop :=
  ∃ (e : Xc) (C : Addr), xs[c]? = some e ∧ mg e.name = some (.ref C) ∧ cls = .ref C ∧
    match e.fld, fs with
    | none, _ => d = none
    | some f, [x] => ∃ (da : Addr) (v : V), d = some da ∧ G da = some (.xd [(f, v)]) ∧ Rep K G x v
    | _, _ => False

/-! ### readings -/
section
variable (xs : List Xc) (mg : Str → Option Value) (K : Fg) (W : WX) (F : Hp)
/-- what must hold of a result -/
def Out {α β : Type} (RR : Hp → List Addr → α → β → Prop) (σ : L2.St) (G : Hp) (m : List Addr) (Q : β → Hp → Prop) : R α → Prop
  | .ok v S => ∀ (G' : Hp) (m' : List Addr) (H' : Hp) (u : β), Grow G m G' m' → Rl K F G' m' S H' → RR G' m' v u → Q u H'
  | .exc c fs S => ∀ (G' : Hp) (m' : List Addr) (H' : Hp) (cls : Value) (d : Option Addr), Grow G m G' m' → Rl K F G' m' S H' → RepX xs mg K G' c fs cls d → W cls d σ H'
  | .bad => False
abbrev OutV := Out (α := Vl) (β := V) xs mg K W F (RepV K)
end
theorem Out.grow {xs : List Xc} {mg : Str → Option Value} {K : Fg} {W : WX} {α β : Type} {RR : Hp → List Addr → α → β → Prop} {σ : L2.St} {F G G1 : Hp} {m m1 : List Addr} {Q : β → Hp → Prop} {x : R α} (g : Grow G m G1 m1)
    (h : Out xs mg K W F RR σ G m Q x) : Out xs mg K W F RR σ G1 m1 Q x := by
  cases x with
  | ok v S => exact fun G' m' H' u g' => h G' m' H' u (g.trans g')
  | exc c fs S => exact fun G' m' H' cls d g' => h G' m' H' cls d (g.trans g')
  | bad => exact h
theorem Out.imp {xs : List Xc} {mg : Str → Option Value} {K : Fg} {W : WX} {α β : Type} {RR : Hp → List Addr → α → β → Prop} {σ : L2.St} {F G : Hp} {m : List Addr} {Q Q' : β → Hp → Prop} {x : R α} (q : ∀ u H, Q u H → Q' u H)
    (h : Out xs mg K W F RR σ G m Q x) : Out xs mg K W F RR σ G m Q' x := by
  cases x with
  | ok v S => exact fun G' m' H' u g' r1 r2 => q _ _ (h G' m' H' u g' r1 r2)
  | exc c fs S => exact h
  | bad => exact h
/-- one after another -/
theorem Out.bind {xs : List Xc} {mg : Str → Option Value} {K : Fg} {W : WX} {α β γ δ : Type} {RR : Hp → List Addr → α → β → Prop} {RR2 : Hp → List Addr → γ → δ → Prop} {σ : L2.St} {F G : Hp} {m : List Addr} {Q : δ → Hp → Prop} {x : R α} {k : α → Hs → R γ}
    (h : Out xs mg K W F RR2 σ G m Q (x.bind k)) :
    Out xs mg K W F RR σ G m (fun u H => ∃ (G1 : Hp) (m1 : List Addr) (v : α) (S1 : Hs), Grow G m G1 m1 ∧ Rl K F G1 m1 S1 H ∧ RR G1 m1 v u ∧ Out xs mg K W F RR2 σ G1 m1 Q (k v S1)) x := by
  cases x with
  | ok v S => exact fun G' m' H' u g r1 r2 => ⟨G', m', v, S, g, r1, r2, Out.grow g h⟩
  | exc c fs S => exact h
  | bad => exact h

/-- an expression's reading -/
def tX {α β : Type} (xs : List Xc) (mg : Str → Option Value) (K : Fg) (W : WX) (RR : Hp → List Addr → α → β → Prop) (f : Ev → Hs → R α) : L2.St → Hp → (β → Hp → Prop) → Prop := fun σ H Q =>
  ∃ (F G : Hp) (m : List Addr) (r : Ev) (S : Hs), Rl K F G m S H ∧ RlV K G m r σ ∧ Out xs mg K W F RR σ G m Q (f r S)
/-- the step from a part to the rest -/
theorem tX.bind {xs : List Xc} {mg : Str → Option Value} {K : Fg} {W : WX} {α β γ δ : Type} {RR : Hp → List Addr → α → β → Prop} {RR2 : Hp → List Addr → γ → δ → Prop} {f : Ev → Hs → R α} {k : α → Hs → R γ} {σ : L2.St} {F G H : Hp} {m : List Addr} {r : Ev} {S : Hs} {Q : δ → Hp → Prop} {Q1 : β → Hp → Prop}
    (hl : Rl K F G m S H) (hv : RlV K G m r σ) (h : Out xs mg K W F RR2 σ G m Q ((f r S).bind k))
    (q : ∀ u H1 G1 m1 v S1, Grow G m G1 m1 → Rl K F G1 m1 S1 H1 → RlV K G1 m1 r σ → RR G1 m1 v u → Out xs mg K W F RR2 σ G1 m1 Q (k v S1) → Q1 u H1) : tX xs mg K W RR f σ H Q1 :=
  ⟨F, G, m, r, S, hl, hv, (Out.bind (RR := RR) h).imp fun u H1 ⟨G1, m1, v, S1, g, r1, r2, o⟩ => q u H1 G1 m1 v S1 g r1 (hv.mono g) r2 o⟩
end Iv
end
section
set_option autoImplicit false
set_option maxRecDepth 100000
set_option maxHeartbeats 4000000
namespace Iv
open PySem L2
/-! ### operations, by values -/
theorem S'_append (a b : Cs) : S' a ++ S' b = S' (a ++ b) := TL.ext_tl (by rw [TL.tl_append]; simp [TL.tl, S'])
theorem small_line {n : Nat} (h : n ≤ big) : n ≤ sizeLine := Nat.le_trans h (by decide)
/-- what an operation hands on -/
def Gives (K : Fg) (G H : Hp) (d : D) (Q : VK) : Prop := ∀ (v : V) (G' H' : Hp), Al G H G' H' → Rep K G' d v → Q v H'
theorem Gives.here {K : Fg} {G H : Hp} {d : D} {Q : VK} (g : Gives K G H d Q) {v : V} (r : Rep K G d v) : Q v H := g v G H .refl r
theorem Gives.newL {K : Fg} {G H : Hp} {xs : List D} {vs : List V} {Q : VK} (e : Ext G H) (g : Gives K G H (.lst xs) Q) (r : Reps K G xs vs) {p : Addr} (hp : H p = none) : Q (.ref p) (upd H p (.lst vs)) := by
  have a : Al G H (upd G p (.lst vs)) (upd H p (.lst vs)) := Al.one hp
  exact g _ _ _ a (.lst upd_same (r.mono (a.ext e).2.1))
theorem Gives.newT {K : Fg} {G H : Hp} {xs : List D} {vs : List V} {Q : VK} (e : Ext G H) (g : Gives K G H (.tup xs) Q) (r : Reps K G xs vs) {p : Addr} (hp : H p = none) : Q (.ref p) (upd H p (.tup vs)) := by
  have a : Al G H (upd G p (.tup vs)) (upd H p (.tup vs)) := Al.one hp
  exact g _ _ _ a (.tup (.of upd_same) (r.mono (a.ext e).2.1))

def bop : BOp → Operator
  | .add => .Add | .sub => .Sub | .mul => .Mult | .fdiv => .FloorDiv | .mod => .Mod | .pow => .Pow
def rB (K : Fg) (o : BOp) : R2 := fun x y H Q => ∃ (G : Hp) (a b d : D), Ext G H ∧ Rep K G a x ∧ Rep K G b y ∧ binD o a b = some d ∧ Gives K G H d Q
section
variable {cl : Nat → Addr} {X : Cx}
theorem op_mulS : OpR X (binaryOp .Mult) (fun x y H Q => ∃ (z : Str) (n : Int), x = .str z ∧ y = .int n ∧ MulOk z n ∧ Q (.str (Txt.mul z n)) H) := by
  intro pins s σ H x y v u Q I rx ry h
  obtain ⟨z, n, rfl, rfl, ok, q⟩ := h
  obtain ⟨t, rfl⟩ := rx
  obtain ⟨t', rfl⟩ := ry
  exact SB.mul ok fun t' k => ⟨.str _, H, I.tok _, ⟨_, rfl⟩, q⟩
theorem foldl_app {α : Type} : ∀ (n : Nat) (x acc : Array α), ((List.replicate n x).foldl (· ++ ·) acc).toList = acc.toList ++ repL x.toList n
  | 0, x, acc => by simp [repL]
  | n + 1, x, acc => by
    rw [List.replicate_succ, List.foldl_cons, foldl_app n x (acc ++ x)]
    simp [repL]
theorem mul_text {s : Cs} {n : Int} (h0 : 0 ≤ n) : Txt.mul (S' s) n = S' (repL s n.toNat) := by
  unfold Txt.mul
  by_cases h1 : n < 1
  · rw [if_pos h1]
    have : n = 0 := by omega
    subst this; rfl
  · rw [if_neg h1]
    by_cases h2 : (n == 1 || (S' s).length == 0) = true
    · rw [if_pos h2]
      rw [Bool.or_eq_true, beq_iff_eq, beq_iff_eq] at h2
      rcases h2 with h2 | h2
      · subst h2; simp [repL]
      · rw [S'_length] at h2
        have : s = [] := List.length_eq_zero_iff.mp h2
        subst this
        have : ∀ k : Nat, repL ([] : Cs) k = [] := fun k => by induction k with
          | zero => rfl
          | succ k ih => simp [repL, ih]
        rw [this]
    · rw [if_neg h2]
      refine TL.ext_tl ?_
      show (_ : Array Nat).toList = _
      rw [foldl_app]
      simp [S', TL.tl]
theorem Okc.rep {s : Cs} (h : Okc s) : ∀ n : Nat, Okc (repL s n)
  | 0 => fun c hc => by simp [repL] at hc
  | n + 1 => fun c hc => (List.mem_append.mp (show c ∈ s ++ repL s n from hc)).elim (h c) (Okc.rep h n c)
theorem mul_ok {s : Cs} {n : Int} (h : 0 ≤ n ∧ n ≤ 100 ∧ s.length ≤ 1000) : MulOk (S' s) n := by
  obtain ⟨h0, h1, h2⟩ := h
  refine ⟨by simp; omega, fun h3 h4 => ?_, fun h3 h4 => ?_⟩
  · rw [S'_length]
    have : (1000 : Int) ≤ (2 ^ 63 - 1) / n := by
      rw [Int.le_ediv_iff_mul_le (by omega)]
      have : (1000 : Int) * n ≤ 1000 * 100 := by omega
      omega
    omega
  · rw [S'_length]
    have : s.length * n.toNat ≤ 1000 * 100 := Nat.mul_le_mul h2 (by omega)
    unfold Builtin.Str.tooLong
    exact decide_eq_false (by rw [sizeLine_eq]; omega)
theorem op_rB (o : BOp) : OpR X (binaryOp (bop o)) (rB (kx cl X) o) := by
  intro pins s σ H x y v u Q I rx ry h
  obtain ⟨G, a, b, d, e, ha, hb, hd, g⟩ := h
  cases o with
  | add =>
    cases ha <;> cases hb <;> simp only [binD, reduceCtorEq, Option.some.injEq] at hd
    · subst hd; exact op_add pins s σ H _ _ v u Q I rx ry ⟨_, _, rfl, rfl, g.here (.int _)⟩
    · rename_i o1 _ o2
      split at hd
      · rename_i hz
        simp only [Option.some.injEq] at hd; subst hd
        exact op_add_str pins s σ H _ _ v u Q I rx ry ⟨_, _, rfl, rfl, by rw [S'_length, S'_length]; exact small_line hz, by rw [S'_append]; exact g.here (.str _ fun c hc => (List.mem_append.mp hc).elim (o1 c) (o2 c))⟩
      · cases hd
    · rename_i l1 r1 _ _ _ l2 r2
      split at hd
      · rename_i hz
        simp only [Option.some.injEq] at hd; subst hd
        rw [r1.length, r2.length] at hz
        exact op_cat pins s σ H _ _ v u Q I rx ry ⟨_, _, _, _, rfl, rfl, e _ _ l1, e _ _ l2, small_line hz, fun p hp => g.newL e (r1.append r2) hp⟩
      · cases hd
  | sub =>
    cases ha <;> cases hb <;> simp only [binD, reduceCtorEq, Option.some.injEq] at hd
    subst hd; exact op_sub pins s σ H _ _ v u Q I rx ry ⟨_, _, rfl, rfl, g.here (.int _)⟩
  | mul =>
    cases ha <;> cases hb <;> simp only [binD, reduceCtorEq, Option.some.injEq] at hd
    · split at hd
      · rename_i i j hz
        simp only [Option.some.injEq] at hd; subst hd
        unfold mulOk at hz
        rw [Bool.or_eq_true, Bool.or_eq_true, Bool.and_eq_true, decide_eq_true_eq, decide_eq_true_eq, decide_eq_true_eq, decide_eq_true_eq] at hz
        rcases hz with (hz | hz) | ⟨h1, h2⟩
        · exact op_mul pins s σ H _ _ v u Q I rx ry ⟨_, _, rfl, rfl, .inl ⟨by omega, by omega⟩, g.here (.int _)⟩
        · exact op_mul pins s σ H _ _ v u Q I rx ry ⟨_, _, rfl, rfl, .inr ⟨by omega, by omega⟩, g.here (.int _)⟩
        · exact op_mulW pins s σ H _ _ v u Q I rx ry ⟨_, _, rfl, rfl, wide_mul h1 h2 (by decide) (by decide) (by decide), g.here (.int _)⟩
      · cases hd
    · rename_i o1 _
      split at hd
      · rename_i hz
        simp only [Option.some.injEq] at hd; subst hd
        exact op_mulS pins s σ H _ _ v u Q I rx ry ⟨_, _, rfl, rfl, mul_ok hz, by rw [mul_text hz.1]; exact g.here (.str _ (Okc.rep o1 _))⟩
      · cases hd
  | fdiv =>
    cases ha <;> cases hb <;> simp only [binD, reduceCtorEq, Option.some.injEq] at hd
    split at hd
    · rename_i i j hz
      simp only [Option.some.injEq] at hd; subst hd
      exact op_fdivW pins s σ H _ _ v u Q I rx ry ⟨_, _, rfl, rfl, wide_div (b := 1000) hz.1 (by have := hz.2; omega) (by decide) (by decide), g.here (.int _)⟩
    · cases hd
  | mod =>
    cases ha <;> cases hb <;> simp only [binD, reduceCtorEq, Option.some.injEq] at hd
    split at hd
    · rename_i i j hz
      simp only [Option.some.injEq] at hd; subst hd
      exact op_modN pins s σ H _ _ v u Q I rx ry ⟨_, _, rfl, rfl, by omega, by show Q (V.int (i.fmod j)) H; rw [Int.fmod_eq_emod_of_nonneg _ (by omega)]; exact g.here (.int _)⟩
    · cases hd
  | pow =>
    cases ha <;> cases hb <;> simp only [binD, reduceCtorEq, Option.some.injEq] at hd
    split at hd
    · rename_i i j hz
      simp only [Option.some.injEq] at hd; subst hd
      exact op_pow pins s σ H _ _ v u Q I rx ry ⟨_, _, rfl, rfl, ⟨hz.1, by omega, hz.2.2⟩, g.here (.int _)⟩
    · cases hd

/-! ### reading, comparing -/
/-- read: by value, or a list of the small heap -/
def Rd' (K : Fg) (G H : Hp) (d : D) (x : V) : Prop := Rep K G d x ∨ ∃ (a : Addr) (xs : List D) (vs : List V), d = .lst xs ∧ x = .ref a ∧ H a = some (.lst vs) ∧ Reps K G xs vs
theorem Rd'.lst {K : Fg} {G H : Hp} {xs : List D} {x : V} (e : Ext G H) (h : Rd' K G H (.lst xs) x) : ∃ (a : Addr) (vs : List V), x = .ref a ∧ H a = some (.lst vs) ∧ Reps K G xs vs := by
  rcases h with h | ⟨a, ys, vs, h1, h2, h3, h4⟩
  · cases h with
    | lst h r => exact ⟨_, _, rfl, e _ _ h, r⟩
  · cases h1; exact ⟨a, vs, h2, h3, h4⟩
theorem Rd'.val {K : Fg} {G H : Hp} {d : D} {x : V} (h : Rd' K G H d x) (n : ∀ xs, d ≠ .lst xs) : Rep K G d x := by
  rcases h with h | ⟨a, ys, vs, h1, h2, h3, h4⟩
  · exact h
  · exact absurd h1 (n _)
theorem Rd'.rep {K : Fg} {G H : Hp} {d : D} {x : V} (e : Ext G H) (h : Rd' K G H d x) : Rep K H d x := by
  rcases h with h | ⟨a, ys, vs, h1, h2, h3, h4⟩
  · exact h.mono e
  · subst h1; subst h2; exact .lst h3 (h4.mono e)

mutual
/-- data as the library's -/
def toPy : D → PyData
  | .non => .none
  | .bl b => .bool b
  | .int i => .int i
  | .str s => .str (S' s)
  | .tup xs => .tuple (toPys xs)
  | .lst xs => .list (toPys xs)
  | .dct _ => .dict []
  | .ins _ _ => .dict []
  | .cls _ => .dict []
  | .ro _ => .dict []
  | .ptp _ => .dict []
def toPys : List D → List PyData
  | [] => []
  | x :: xs => toPy x :: toPys xs
end
theorem str_beq (a b : Cs) : (S' a == S' b) = (a == b) := by
  by_cases h : a = b
  · subst h; simp
  · have : ¬ S' a = S' b := fun q => h (S'_inj q)
    rw [beq_eq_false_iff_ne.mpr this, beq_eq_false_iff_ne.mpr h]
mutual
theorem eqv_py : ∀ (x y : D) (n m : Nat), D.plain x n = true → D.plain y m = true → PyData.eqv (toPy x) (toPy y) = D.eqv x y
  | .non, y, n, m, h1, h2 => by cases y <;> first | rfl | (cases h2)
  | .bl b, y, n, m, h1, h2 => by cases y <;> first | rfl | (cases h2)
  | .int i, y, n, m, h1, h2 => by cases y <;> first | rfl | (cases h2)
  | .str s, y, n, m, h1, h2 => by cases y <;> first | rfl | exact str_beq _ _ | (cases h2)
  | .tup xs, y, n, m, h1, h2 => by
    cases y with
    | tup ys =>
      cases n with
      | zero => cases h1
      | succ n => cases m with
        | zero => cases h2
        | succ m => exact eqvs_py xs ys n m h1 h2
    | dct _ => cases h2
    | ins _ _ => cases h2
    | cls _ => cases h2
    | ro _ => cases h2
    | ptp _ => cases h2
    | non => rfl
    | bl _ => rfl
    | int _ => rfl
    | str _ => rfl
    | lst _ => rfl
  | .lst xs, y, n, m, h1, h2 => by
    cases y with
    | lst ys =>
      cases n with
      | zero => cases h1
      | succ n => cases m with
        | zero => cases h2
        | succ m => exact eqvs_py xs ys n m h1 h2
    | dct _ => cases h2
    | ins _ _ => cases h2
    | cls _ => cases h2
    | ro _ => cases h2
    | ptp _ => cases h2
    | non => rfl
    | bl _ => rfl
    | int _ => rfl
    | str _ => rfl
    | tup _ => rfl
  | .dct _, y, n, m, h1, h2 => by cases h1
  | .ins _ _, y, n, m, h1, h2 => by cases h1
  | .cls _, y, n, m, h1, h2 => by cases h1
  | .ro _, y, n, m, h1, h2 => by cases h1
  | .ptp _, y, n, m, h1, h2 => by cases h1
theorem eqvs_py : ∀ (xs ys : List D) (n m : Nat), D.plains xs n = true → D.plains ys m = true → PyData.eqvAll (toPys xs) (toPys ys) = D.eqvs xs ys
  | [], [], n, m, h1, h2 => rfl
  | [], _ :: _, n, m, h1, h2 => rfl
  | x :: xs, [], n, m, h1, h2 => rfl
  | x :: xs, y :: ys, n, m, h1, h2 => by
    have g1 := Bool.and_eq_true_iff.mp h1
    have g2 := Bool.and_eq_true_iff.mp h2
    show (PyData.eqv (toPy x) (toPy y) && PyData.eqvAll (toPys xs) (toPys ys)) = (D.eqv x y && D.eqvs xs ys)
    rw [eqv_py x y n m g1.1 g2.1, eqvs_py xs ys n m g1.2 g2.2]
end
mutual
theorem shape_py {K : Fg} {G : Hp} : ∀ (x : D) (v : V) (n : Nat), Rep K G x v → D.plain x n = true → (toPy x).canLay0 = true ∧ (toPy x).depth ≤ 2 * n + 1
  | _, _, n, .non, h => ⟨rfl, by show 0 ≤ _; omega⟩
  | _, _, n, .bl b, h => ⟨rfl, by show 0 ≤ _; omega⟩
  | _, _, n, .int i, h => ⟨rfl, by show 0 ≤ _; omega⟩
  | _, _, n, .str s o, h => ⟨by show PyData.strOk (S' s) = true; unfold PyData.strOk; rw [← Array.all_toList]; simpa [S', Okc] using o, by show 0 ≤ _; omega⟩
  | _, _, 0, .tup _ r, h => by cases h
  | .tup xs, _, n + 1, .tup _ r, h => by
    obtain ⟨h1, h2⟩ := shapes_py _ _ n r h
    exact ⟨h1, by show PyData.depthAll (toPys xs) + 1 ≤ _; omega⟩
  | _, _, 0, .lst _ r, h => by cases h
  | .lst xs, _, n + 1, .lst _ r, h => by
    obtain ⟨h1, h2⟩ := shapes_py _ _ n r h
    exact ⟨h1, by show PyData.depthAll (toPys xs) + 1 ≤ _; omega⟩
  | _, _, n, .ro _ _, h => by cases h
  | _, _, n, .dct _ _, h => by cases h
  | _, _, n, .ins _ _ _ _, h => by cases h
  | _, _, n, .cls _, h => by cases h
  | _, _, n, .ptp _ _, h => by cases h
theorem shapes_py {K : Fg} {G : Hp} : ∀ (xs : List D) (vs : List V) (n : Nat), Reps K G xs vs → D.plains xs n = true → PyData.canLayAll0 (toPys xs) = true ∧ PyData.depthAll (toPys xs) ≤ 2 * n + 1
  | _, _, n, .nil, h => ⟨rfl, by show 0 ≤ _; omega⟩
  | x :: xs, _, n, .cons q r, h => by
    have g := Bool.and_eq_true_iff.mp h
    obtain ⟨a1, a2⟩ := shape_py x _ n q g.1
    obtain ⟨b1, b2⟩ := shapes_py xs _ n r g.2
    exact ⟨by show ((toPy x).canLay0 && PyData.canLayAll0 (toPys xs)) = true; rw [a1, b1]; rfl, by show max (toPy x).depth (PyData.depthAll (toPys xs)) ≤ _; omega⟩
end
theorem shaped_py {K : Fg} {G : Hp} {x : D} {v : V} (r : Rep K G x v) (h : x.plain deep = true) : SeqAt.shaped (toPy x) = true := by
  obtain ⟨h1, h2⟩ := shape_py x v deep r h
  unfold SeqAt.shaped
  rw [h1]
  exact decide_eq_true (Nat.le_trans h2 (by decide))
mutual
theorem Rep.dp {K : Fg} {G : Hp} : ∀ {x : D} {v : V} {n : Nat}, Rep K G x v → D.plain x n = true → Dp K G v (toPy x)
  | _, _, _, .non, h => .non
  | _, _, _, .bl b, h => .bl b
  | _, _, _, .int i, h => .int i
  | _, _, _, .str s _, h => .str _
  | _, _, 0, .tup s r, h => by cases h
  | _, _, n + 1, .tup s r, h => .tup s (Reps.dp r (n := n) h)
  | _, _, 0, .lst s r, h => by cases h
  | _, _, n + 1, .lst s r, h => .lst (.of s) (Reps.dp r (n := n) h)
  | _, _, _, .ro s r, h => by cases h
  | _, _, _, .dct s r, h => by cases h
  | _, _, _, .ins _ _ _ r, h => by cases h
  | _, _, _, .cls _, h => by cases h
  | _, _, _, .ptp _ _, h => by cases h
theorem Reps.dp {K : Fg} {G : Hp} : ∀ {xs : List D} {vs : List V} {n : Nat}, Reps K G xs vs → D.plains xs n = true → DpAll K G vs (toPys xs)
  | _, _, _, .nil, h => .nil
  | _, _, _, .cons r s, h => .cons (Rep.dp r (Bool.and_eq_true_iff.mp h).1) (Reps.dp s (Bool.and_eq_true_iff.mp h).2)
end

def cop : COp → CmpOp
  | .eq => .Eq | .ne => .NotEq | .lt => .Lt | .le => .LtE | .gt => .Gt | .ge => .GtE | .isin => .In | .notin => .NotIn
def rC (K : Fg) (o : COp) : R2 := fun x y H Q => ∃ (G : Hp) (a b : D) (k : Bool), Ext G H ∧ Rd' K G H a x ∧ Rd' K G H b y ∧ cmpD o a b = some k ∧ Q (.bl k) H
theorem Rep.flat {K : Fg} {G : Hp} {x : D} {v : V} (r : Rep K G x v) (h : x.flat = true) : flatV v = true := by
  cases r <;> first | rfl | cases h
theorem Reps.flats {K : Fg} {G : Hp} : ∀ {xs : List D} {vs : List V}, Reps K G xs vs → D.flats xs = true → vs.all flatV = true
  | _, _, .nil, h => rfl
  | _, _, .cons q r, h => by
    have g := Bool.and_eq_true_iff.mp h
    rw [List.all_cons, q.flat g.1, Reps.flats r g.2]; rfl
theorem Rep.eqV {K : Fg} {G : Hp} {x y : D} {v u : V} (r : Rep K G x v) (q : Rep K G y u) (h : x.flat = true) (h' : y.flat = true) : L2.eqV v u = D.eqv x y := by
  cases r <;> cases q <;> first | rfl | cases h | cases h' | skip
  exact str_beq _ _
theorem Reps.inV {K : Fg} {G : Hp} {x : D} {v : V} (r : Rep K G x v) (h : x.flat = true) : ∀ {xs : List D} {vs : List V}, Reps K G xs vs → D.flats xs = true → L2.inV v vs = D.mem x xs
  | _, _, .nil, _ => rfl
  | y :: ys, u :: us, .cons q s, g => by
    have g := Bool.and_eq_true_iff.mp g
    have ih := Reps.inV r h s g.2
    unfold L2.inV at ih ⊢
    rw [List.any_cons, ih, q.eqV r g.1 h]
    show (D.eqv y x || D.mem x ys) = (if D.eqv y x then true else D.mem x ys)
    cases D.eqv y x <;> rfl
theorem cps_one (c : Nat) : (⟨#[c]⟩ : Str) = S' [c] := rfl
theorem contains_dec (c : Nat) (z : Cs) : z.contains c = decide (c ∈ (S' z).cps.toList) := by
  rw [S'_list]; simp
theorem inD_ok {K : Fg} {G H : Hp} {a b : D} {x y : V} {Q : VK} {k neg : Bool} {Z : Prop}
    (h1 : (∃ (c : Nat) (z : Str), x = .str ⟨#[c]⟩ ∧ y = .str z ∧ Q (.bl (if neg then !decide (c ∈ z.cps.toList) else decide (c ∈ z.cps.toList))) H) → True → Z) (h2 : rIn K neg x y H Q → Z)
    (e : Ext G H) (ha : Rd' K G H a x) (hb : Rd' K G H b y) (hk : inD a b = some k) (q : Q (.bl (if neg then !k else k)) H) : Z := by
  cases b with
  | str z =>
    cases a with
    | str w =>
      match w, hk, ha with
      | [c], hk, ha =>
        simp only [inD, Option.some.injEq] at hk
        subst hk
        have r1 := ha.val (fun _ z => by cases z); have r2 := hb.val (fun _ z => by cases z)
        cases r1; cases r2
        rw [contains_dec] at q
        exact h1 ⟨c, _, rfl, rfl, q⟩ trivial
      | [], hk, ha => simp [inD] at hk
      | _ :: _ :: _, hk, ha => simp [inD] at hk
    | _ => simp [inD] at hk
  | tup xs =>
    simp only [inD] at hk
    split at hk
    · rename_i hz
      simp only [Option.some.injEq] at hk; subst hk
      have g := Bool.and_eq_true_iff.mp hz
      have r1 := ha.val (fun _ z => by subst z; cases g.1); have r2 := hb.val (fun _ z => by cases z)
      cases r2 with
      | tup hs hr =>
        rw [← Reps.inV r1 g.1 hr g.2] at q
        exact h2 ⟨_, _, rfl, .inr (hs.ext e), r1.flat g.1, hr.flats g.2, q⟩
    · cases hk
  | lst xs =>
    simp only [inD] at hk
    split at hk
    · rename_i hz
      simp only [Option.some.injEq] at hk; subst hk
      have g := Bool.and_eq_true_iff.mp hz
      have r1 := ha.val (fun _ z => by subst z; cases g.1)
      obtain ⟨p, vs, rfl, hs, hr⟩ := hb.lst e
      rw [← Reps.inV r1 g.1 hr g.2] at q
      exact h2 ⟨_, _, rfl, .inl (.of hs), r1.flat g.1, hr.flats g.2, q⟩
    · cases hk
  | _ => simp [inD] at hk
theorem ltCs_iff : ∀ a b : Cs, ltCs a b = decide (a < b)
  | [], [] => by simp [ltCs]
  | [], _ :: _ => by simp [ltCs]
  | _ :: _, [] => by simp [ltCs]
  | x :: a, y :: b => by
    have ih := ltCs_iff a b
    simp only [ltCs]
    by_cases h1 : x < y
    · rw [if_pos h1]
      exact (decide_eq_true (List.Lex.rel h1)).symm
    · rw [if_neg h1]
      by_cases h2 : x = y
      · subst h2
        rw [if_pos rfl, ih]
        exact decide_eq_decide.mpr ⟨fun h => List.Lex.cons h, fun h => by
          cases h with
          | rel h => exact absurd h h1
          | cons h => exact h⟩
      · rw [if_neg h2]
        symm
        refine decide_eq_false fun h => ?_
        cases h with
        | rel h => exact h1 h
        | cons h => exact h2 rfl
theorem op_rC (o : COp) (hu : X.A.units + 64 < cLine) : OpR X (compareOp (cop o)) (rC (kx cl X) o) := by
  intro pins s σ H x y v u Q I rx ry h
  obtain ⟨G, a, b, k, e, ha, hb, hk, q⟩ := h
  cases o with
  | eq =>
    simp only [cmpD] at hk
    split at hk
    · rename_i hz
      simp only [Option.some.injEq] at hk; subst hk
      have g := Bool.and_eq_true_iff.mp hz
      have r1 := ha.rep e
      have r2 := hb.rep e
      rw [← eqv_py a b deep deep g.1 g.2] at q
      exact op_eqD hu pins s σ H _ _ v u Q I rx ry ⟨_, _, r1.dp g.1, r2.dp g.2, shaped_py r1 g.1, shaped_py r2 g.2, q⟩
    · cases hk
  | ne =>
    simp only [cmpD] at hk
    split at hk
    · rename_i hz
      simp only [Option.some.injEq] at hk; subst hk
      have g := Bool.and_eq_true_iff.mp hz
      have r1 := ha.rep e
      have r2 := hb.rep e
      rw [← eqv_py a b deep deep g.1 g.2] at q
      exact op_neD hu pins s σ H _ _ v u Q I rx ry ⟨_, _, r1.dp g.1, r2.dp g.2, shaped_py r1 g.1, shaped_py r2 g.2, q⟩
    · cases hk
  | lt =>
    cases a <;> cases b <;> simp only [cmpD, reduceCtorEq, Option.some.injEq] at hk
    case str.str =>
      subst hk
      have r1 := ha.val (fun _ z => by cases z); have r2 := hb.val (fun _ z => by cases z)
      cases r1; cases r2
      exact op_lt_str pins s σ H _ _ v u Q I rx ry ⟨_, _, rfl, rfl, by rw [S'_list, S'_list, ← ltCs_iff]; exact q⟩
    subst hk
    have r1 := ha.val (fun _ z => by cases z); have r2 := hb.val (fun _ z => by cases z)
    cases r1; cases r2
    exact op_lt pins s σ H _ _ v u Q I rx ry ⟨_, _, rfl, rfl, q⟩
  | le =>
    cases a <;> cases b <;> simp only [cmpD, reduceCtorEq, Option.some.injEq] at hk
    case str.str =>
      subst hk
      have r1 := ha.val (fun _ z => by cases z); have r2 := hb.val (fun _ z => by cases z)
      cases r1; cases r2
      exact op_le_str pins s σ H _ _ v u Q I rx ry ⟨_, _, rfl, rfl, by rw [S'_list, S'_list, ← ltCs_iff]; exact q⟩
    subst hk
    have r1 := ha.val (fun _ z => by cases z); have r2 := hb.val (fun _ z => by cases z)
    cases r1; cases r2
    exact op_le pins s σ H _ _ v u Q I rx ry ⟨_, _, rfl, rfl, q⟩
  | gt =>
    cases a <;> cases b <;> simp only [cmpD, reduceCtorEq, Option.some.injEq] at hk
    case str.str =>
      subst hk
      have r1 := ha.val (fun _ z => by cases z); have r2 := hb.val (fun _ z => by cases z)
      cases r1; cases r2
      exact op_gt_str pins s σ H _ _ v u Q I rx ry ⟨_, _, rfl, rfl, by rw [S'_list, S'_list, ← ltCs_iff]; exact q⟩
    subst hk
    have r1 := ha.val (fun _ z => by cases z); have r2 := hb.val (fun _ z => by cases z)
    cases r1; cases r2
    exact op_gt pins s σ H _ _ v u Q I rx ry ⟨_, _, rfl, rfl, q⟩
  | ge =>
    cases a <;> cases b <;> simp only [cmpD, reduceCtorEq, Option.some.injEq] at hk
    case str.str =>
      subst hk
      have r1 := ha.val (fun _ z => by cases z); have r2 := hb.val (fun _ z => by cases z)
      cases r1; cases r2
      exact op_ge_str pins s σ H _ _ v u Q I rx ry ⟨_, _, rfl, rfl, by rw [S'_list, S'_list, ← ltCs_iff]; exact q⟩
    subst hk
    have r1 := ha.val (fun _ z => by cases z); have r2 := hb.val (fun _ z => by cases z)
    cases r1; cases r2
    exact op_ge pins s σ H _ _ v u Q I rx ry ⟨_, _, rfl, rfl, q⟩
  | isin => exact inD_ok (neg := false) (fun g q => op_in_sign pins s σ H _ _ v u Q I rx ry g) (fun g => op_in_seq pins s σ H _ _ v u Q I rx ry g) e ha hb hk q
  | notin =>
    simp only [cmpD] at hk
    cases h2 : inD a b with
    | none => rw [h2] at hk; cases hk
    | some k2 =>
      rw [h2] at hk
      simp only [Option.map_some, Option.some.injEq] at hk
      subst hk
      exact inD_ok (neg := true) (fun g q => op_notIn_sign pins s σ H _ _ v u Q I rx ry g) (fun g => op_notIn_seq pins s σ H _ _ v u Q I rx ry g) e ha hb h2 q
end
end Iv
end
section
set_option autoImplicit false
set_option maxRecDepth 100000
set_option maxHeartbeats 4000000
set_option exponentiation.threshold 5000
namespace Iv
open PySem L2
/-! ### numbers and texts -/
theorem numL_digs : ∀ (f n : Nat) (acc : Cs), n < f → digs f n acc = TL.numL n ++ acc
  | 0, n, acc, h => by omega
  | f + 1, n, acc, h => by
    unfold digs
    by_cases h1 : n < 10
    · rw [if_pos h1, TL.numL_lt h1]; rfl
    · rw [if_neg h1, TL.numL_step (by omega), numL_digs f (n / 10) _ (by omega)]; simp
theorem decN_numL (n : Nat) : decN n = TL.numL n := by
  unfold decN; rw [numL_digs _ _ _ (by omega)]; simp
theorem toString_decI (i : Int) : Str.ofString (toString i) = S' (decI i) := by
  refine TL.ext_tl ?_
  unfold decI
  by_cases h : i < 0
  · rw [if_pos h, decN_numL]
    obtain ⟨n, rfl⟩ : ∃ n : Nat, i = -((n : Int) + 1) := ⟨i.natAbs - 1, by omega⟩
    rw [TL.tl_ofString]
    have e : toString (-((n : Int) + 1)) = "-" ++ toString (n + 1) := by
      have : (-((n : Int) + 1)) = Int.negSucc n := by omega
      rw [this]; rfl
    rw [e, String.toList_append, List.map_append]
    have e2 : (toString (n + 1)).toList.map Char.toNat = TL.numL (n + 1) := by
      have := TL.tl_num (n + 1)
      rw [TL.tl_ofString] at this
      exact this
    rw [e2]
    have : (-((n : Int) + 1)).natAbs = n + 1 := by omega
    rw [this]
    rfl
  · rw [if_neg h, decN_numL]
    obtain ⟨n, rfl⟩ : ∃ n : Nat, i = (n : Int) := ⟨i.natAbs, by omega⟩
    rw [TL.tl_num]; simp [S', TL.tl]
theorem okc_numL (n : Nat) : Okc (TL.numL n) := fun c hc => by
  have : 48 ≤ c ∧ c ≤ 57 := by
    by_cases h : c < 48 ∨ 57 < c
    · exact absurd hc (TL.numL_free h)
    · omega
  omega
theorem okc_decI (i : Int) : Okc (decI i) := by
  unfold decI
  split
  · intro c hc
    rcases List.mem_cons.mp hc with h | h
    · omega
    · rw [decN_numL] at h; exact okc_numL _ c h
  · rw [decN_numL]; exact okc_numL _
theorem log2_of {i : Int} {n : Nat} (h : i.natAbs < 2 ^ n) (hn : 0 < n) : i.natAbs.log2 < n := by
  by_cases h0 : i.natAbs = 0
  · rw [h0]; simpa using hn
  · exact (Nat.log2_lt h0).mpr h

theorem numOf_spec : ∀ (s : Cs) (acc n : Nat), numOf s acc = some n → NumText.AllDigits s ∧ s.foldl (fun acc c => acc * 10 + (c - 48)) acc = n
  | [], acc, n, h => by
    simp only [numOf, Option.some.injEq] at h
    exact ⟨fun c hc => by simp at hc, h⟩
  | c :: cs, acc, n, h => by
    unfold numOf at h
    split at h
    · rename_i hc
      obtain ⟨h1, h2⟩ := numOf_spec cs _ n h
      refine ⟨fun d hd => ?_, h2⟩
      rcases List.mem_cons.mp hd with z | z
      · subst z; exact hc
      · exact h1 d z
    · cases h
theorem int_text {s : Cs} {n : Nat} (h : numOf s 0 = some n) (hne : s ≠ []) (hl : s.length ≤ 640) : intText? (S' s) = some (n : Int) := by
  obtain ⟨h1, h2⟩ := numOf_spec s 0 n h
  have := intText_digits (x := S' s) (by rw [S'_list]; exact h1) (by rw [S'_list]; exact hne) (by rw [S'_length]; omega)
  rw [this, S'_list]
  show some ((s.foldl (fun acc c => acc * 10 + (c - 48)) 0 : Nat) : Int) = _
  rw [h2]
theorem sumD_spec : ∀ (xs : List D) (acc n : Int), sumD xs acc = some n → ∃ ns : List Int, xs = ns.map D.int ∧ n = acc + ns.sum
  | [], acc, n, h => by simp only [sumD, Option.some.injEq] at h; exact ⟨[], rfl, by simp [h]⟩
  | .int i :: xs, acc, n, h => by
    simp only [sumD] at h
    obtain ⟨ns, h1, h2⟩ := sumD_spec xs (acc + i) n h
    exact ⟨i :: ns, by simp [h1], by simp [h2]; omega⟩
  | .non :: _, _, _, h => by simp [sumD] at h
  | .bl _ :: _, _, _, h => by simp [sumD] at h
  | .str _ :: _, _, _, h => by simp [sumD] at h
  | .tup _ :: _, _, _, h => by simp [sumD] at h
  | .lst _ :: _, _, _, h => by simp [sumD] at h
  | .dct _ :: _, _, _, h => by simp [sumD] at h
  | .ins _ _ :: _, _, _, h => by simp [sumD] at h
  | .cls _ :: _, _, _, h => by simp [sumD] at h
  | .ro _ :: _, _, _, h => by simp [sumD] at h
  | .ptp _ :: _, _, _, h => by simp [sumD] at h
theorem reps_ints {K : Fg} {G : Hp} : ∀ {ns : List Int} {vs : List V}, Reps K G (ns.map D.int) vs → vs = ns.map V.int
  | [], _, .nil => rfl
  | n :: ns, _, .cons h r => by cases h; rw [reps_ints r]; rfl
theorem reps_of_ints {K : Fg} {G : Hp} : ∀ (ns : List Int), Reps K G (ns.map D.int) (ns.map V.int)
  | [] => .nil
  | n :: ns => .cons (.int n) (reps_of_ints ns)

/-! ### built-ins -/
def rBi (K : Fg) (b : Bi) : List V → Hp → VK → Prop := fun vs H Q => ∃ (G : Hp) (xs : List D) (d : D), Ext G H ∧ Paired (Rd' K G H) xs vs ∧ biD b xs = some d ∧ Gives K G H d Q
theorem pd1 {α β : Type} {F : α → β → Prop} {x : α} {vs : List β} (h : Paired F [x] vs) : ∃ v, vs = [v] ∧ F x v := by
  cases h with
  | cons h r => cases r; exact ⟨_, rfl, h⟩
theorem pd2 {α β : Type} {F : α → β → Prop} {x y : α} {vs : List β} (h : Paired F [x, y] vs) : ∃ v u, vs = [v, u] ∧ F x v ∧ F y u := by
  cases h with
  | cons h r => cases r with
    | cons h' r => cases r; exact ⟨_, _, rfl, h, h'⟩
section
variable {cl : Nat → Addr} {X : Cx}
theorem Rd'.nl {K : Fg} {G H : Hp} {d : D} {x : V} (h : Rd' K G H d x) (n : (match d with | .lst _ => false | _ => true) = true) : Rep K G d x := h.val fun _ z => by subst z; cases n
theorem biD_one {b : Bi} {xs : List D} {d : D} (h : biD b xs = some d) (hb : b ≠ .max2 ∧ b ≠ .min2 ∧ b ≠ .divmod) : ∃ x, xs = [x] := by
  match xs, h with
  | [], h => cases b <;> simp [biD] at h
  | [x], h => exact ⟨x, rfl⟩
  | x :: y :: r, h => cases b <;> simp [biD] at h <;> simp at hb
theorem biD_two {b : Bi} {xs : List D} {d : D} (h : biD b xs = some d) (hb : b = .max2 ∨ b = .min2 ∨ b = .divmod) : ∃ i j, xs = [.int i, .int j] := by
  match xs, h with
  | [], h => rcases hb with rfl | rfl | rfl <;> simp [biD] at h
  | [x], h => rcases hb with rfl | rfl | rfl <;> simp [biD] at h
  | [x, y], h => rcases hb with rfl | rfl | rfl <;> cases x <;> cases y <;> simp [biD] at h <;> exact ⟨_, _, rfl⟩
  | x :: y :: z :: r, h => rcases hb with rfl | rfl | rfl <;> simp [biD] at h
def biF : Bi → Value
  | .len => .builtin "len" | .int => .type "int" | .str => .type "str" | .abs => .builtin "abs" | .max2 => .builtin "max" | .min2 => .builtin "min"
  | .sum => .builtin "sum" | .divmod => .builtin "divmod" | .tuple => .type "tuple" | .list => .type "list"
  | .all => .builtin "all" | .any => .builtin "any" | .min => .builtin "min" | .max => .builtin "max" | .bool => .type "bool"
theorem bools_spec : ∀ (xs : List D) (bs : List Bool), bools xs = some bs → xs = bs.map D.bl
  | [], bs, h => by simp only [bools, Option.some.injEq] at h; subst h; rfl
  | .bl b :: xs, bs, h => by
    simp only [bools] at h
    cases e : bools xs with
    | none => rw [e] at h; cases h
    | some cs => rw [e] at h; cases h; rw [bools_spec xs cs e]; rfl
  | .non :: _, _, h => by simp [bools] at h
  | .int _ :: _, _, h => by simp [bools] at h
  | .str _ :: _, _, h => by simp [bools] at h
  | .tup _ :: _, _, h => by simp [bools] at h
  | .lst _ :: _, _, h => by simp [bools] at h
  | .dct _ :: _, _, h => by simp [bools] at h
  | .ins _ _ :: _, _, h => by simp [bools] at h
  | .cls _ :: _, _, h => by simp [bools] at h
  | .ro _ :: _, _, h => by simp [bools] at h
  | .ptp _ :: _, _, h => by simp [bools] at h
theorem intsD_spec : ∀ (xs : List D) (bs : List Int), intsD xs = some bs → xs = bs.map D.int
  | [], bs, h => by simp only [intsD, Option.some.injEq] at h; subst h; rfl
  | .int b :: xs, bs, h => by
    simp only [intsD] at h
    cases e : intsD xs with
    | none => rw [e] at h; cases h
    | some cs => rw [e] at h; cases h; rw [intsD_spec xs cs e]; rfl
  | .non :: _, _, h => by simp [intsD] at h
  | .bl _ :: _, _, h => by simp [intsD] at h
  | .str _ :: _, _, h => by simp [intsD] at h
  | .tup _ :: _, _, h => by simp [intsD] at h
  | .lst _ :: _, _, h => by simp [intsD] at h
  | .dct _ :: _, _, h => by simp [intsD] at h
  | .ins _ _ :: _, _, h => by simp [intsD] at h
  | .cls _ :: _, _, h => by simp [intsD] at h
  | .ro _ :: _, _, h => by simp [intsD] at h
  | .ptp _ :: _, _, h => by simp [intsD] at h
theorem reps_bls {K : Fg} {G : Hp} : ∀ {ns : List Bool} {vs : List V}, Reps K G (ns.map D.bl) vs → vs = ns.map V.bl
  | [], _, .nil => rfl
  | n :: ns, _, .cons h r => by cases h; rw [reps_bls r]; rfl
theorem allB_eq : ∀ bs : List Bool, bs.all id = allB bs
  | [] => rfl
  | b :: bs => by rw [List.all_cons, allB_eq bs]; rfl
theorem anyB_eq : ∀ bs : List Bool, bs.any id = anyB bs
  | [] => rfl
  | b :: bs => by rw [List.any_cons, anyB_eq bs]; rfl
theorem leastI_spec : ∀ (ns : List Int) (n : Int), (leastI n ns = n ∨ leastI n ns ∈ ns) ∧ leastI n ns ≤ n ∧ ∀ y ∈ ns, leastI n ns ≤ y
  | [], n => ⟨.inl rfl, Int.le_refl _, fun y h => by simp at h⟩
  | x :: xs, n => by
    obtain ⟨h1, h2, h3⟩ := leastI_spec xs (if x < n then x else n)
    have h2' : leastI n (x :: xs) ≤ (if x < n then x else n) := h2
    refine ⟨?_, ?_, fun y hy => ?_⟩
    · show leastI (if x < n then x else n) xs = n ∨ leastI (if x < n then x else n) xs ∈ x :: xs
      rcases h1 with h1 | h1
      · by_cases c : x < n
        · rw [if_pos c] at h1 ⊢; right; rw [h1]; exact List.mem_cons_self
        · rw [if_neg c] at h1 ⊢; left; exact h1
      · right; exact List.mem_cons_of_mem _ h1
    · split at h2' <;> omega
    · rcases List.mem_cons.mp hy with z | z
      · subst z; split at h2' <;> omega
      · exact h3 y z
theorem mostI_spec : ∀ (ns : List Int) (n : Int), (mostI n ns = n ∨ mostI n ns ∈ ns) ∧ n ≤ mostI n ns ∧ ∀ y ∈ ns, y ≤ mostI n ns
  | [], n => ⟨.inl rfl, Int.le_refl _, fun y h => by simp at h⟩
  | x :: xs, n => by
    obtain ⟨h1, h2, h3⟩ := mostI_spec xs (if n < x then x else n)
    have h2' : (if n < x then x else n) ≤ mostI n (x :: xs) := h2
    refine ⟨?_, ?_, fun y hy => ?_⟩
    · show mostI (if n < x then x else n) xs = n ∨ mostI (if n < x then x else n) xs ∈ x :: xs
      rcases h1 with h1 | h1
      · by_cases c : n < x
        · rw [if_pos c] at h1 ⊢; right; rw [h1]; exact List.mem_cons_self
        · rw [if_neg c] at h1 ⊢; left; exact h1
      · right; exact List.mem_cons_of_mem _ h1
    · split at h2' <;> omega
    · rcases List.mem_cons.mp hy with z | z
      · subst z; split at h2' <;> omega
      · exact h3 y z
/-- bool(a tuple) -/
theorem bool_tup {prog : Program} {w : World} {A : Around} {E : Value → Shared → Prop} {s : Shared} {l : Addr} {xs : Array Value} {Q : Value → Shared → Prop} (hz : (xs.size : Int) < 2 ^ 63) (hl : PyProof.Rows.IsTup s.heap l xs)
    (h : ∀ t, Q (.bool (!xs.isEmpty)) { s with toks := t }) : wpAny (model prog w) A (call (.type "bool") [.ref l]) Q E s := by
  refine PySem.call_bool_1 (S := fun _ R s => PyProof.Rows.IsTup s.heap l xs ∧ ∀ t, R (.ok (.ret (.bool (!xs.isEmpty)))) { s with toks := t }) (Meets.of_wp fun prog w A R s hs => ?_) ⟨hl, fun t => ⟨rfl, h t⟩⟩
  obtain ⟨hl, hs⟩ := hs
  obtain ⟨hp, g, d, tk, os⟩ := s
  have f1 := PySem.F.conv_sub_bool
  repeat (any_goals (first | assumption | (with_reducible refine PyProof.Rows.truthy_tuple hl hz ?_) | wp_step))
  all_goals first | exact ⟨_, rfl, hs _⟩ | exact hs _ | skip
theorem cr_bi (hc : X.calm = true) (b : Bi) : CallR X (biF b) (rBi (kx cl X) b) := by
  intro pins s σ H vs us Q I rv h
  obtain ⟨G, xs, d, e, hp, hd, g⟩ := h
  cases b with
  | bool =>
    obtain ⟨x, rfl⟩ := biD_one hd (by simp)
    obtain ⟨v, rfl, hx⟩ := pd1 hp
    cases x <;> simp only [biD, reduceCtorEq, Option.some.injEq] at hd
    · subst hd; cases hx.nl rfl
      exact call_bool1 pins s σ H _ us Q I rv (.inr ⟨_, rfl, g.here (.bl _)⟩)
    · subst hd; cases hx.nl rfl
      exact call_bool1 pins s σ H _ us Q I rv (.inl ⟨_, rfl, g.here (.bl _)⟩)
    · subst hd
      cases hx.nl rfl with
      | tup hs hr =>
        rename_i ys a ws
        obtain rfl := Vals.ref1 rv
        obtain ⟨its, rv', pl, hz⟩ := I.tuple (hs.ext e)
        have hl := line63
        have hlen := rv'.length
        have hem : its.toArray.isEmpty = ys.isEmpty := by
          have e1 := hr.length
          have e2 : ys.length = its.length := e1.trans hlen
          cases ys <;> cases its <;> first | rfl | (simp at e2)
        refine bool_tup (by simp only [List.size_toArray]; omega) pl fun t => ?_
        rw [hem]
        exact ⟨.bl _, H, I.tok t, rfl, g.here (.bl _)⟩
    · subst hd
      obtain ⟨a, ws, rfl, hs, hr⟩ := hx.lst e
      rename_i ys
      have hem : ws.isEmpty = ys.isEmpty := by
        have e1 := hr.length
        cases ys <;> cases ws <;> first | rfl | (simp at e1)
      exact call_boolL pins s σ H _ us Q I rv ⟨_, _, rfl, .of hs, by rw [hem]; exact g.here (.bl _)⟩
  | len =>
    obtain ⟨x, rfl⟩ := biD_one hd (by simp)
    obtain ⟨v, rfl, hx⟩ := pd1 hp
    cases x <;> simp only [biD, reduceCtorEq, Option.some.injEq] at hd
    · split at hd
      · rename_i hz
        simp only [Option.some.injEq] at hd; subst hd
        cases hx.nl rfl
        exact call_len pins s σ H _ us Q I rv ⟨_, _, rfl, ⟨by rw [S'_length]; exact small_line hz, rfl⟩, by rw [S'_length]; exact g.here (.int _)⟩
      · cases hd
    · subst hd
      cases hx.nl rfl with
      | tup hs hr => exact call_len pins s σ H _ us Q I rv ⟨_, _, rfl, .inr ⟨_, hs.ext e, rfl⟩, by rw [← hr.length]; exact g.here (.int _)⟩
    · subst hd
      obtain ⟨a, ws, rfl, hs, hr⟩ := hx.lst e
      exact call_len pins s σ H _ us Q I rv ⟨_, _, rfl, .inl ⟨_, .of hs, rfl⟩, by rw [← hr.length]; exact g.here (.int _)⟩
    · subst hd
      cases hx.nl rfl with
      | ro hs hr => exact call_len pins s σ H _ us Q I rv ⟨_, _, rfl, .inl ⟨_, hs.ext e, rfl⟩, by rw [← hr.length]; exact g.here (.int _)⟩
  | int =>
    obtain ⟨x, rfl⟩ := biD_one hd (by simp)
    obtain ⟨v, rfl, hx⟩ := pd1 hp
    cases x <;> simp only [biD, reduceCtorEq, Option.some.injEq] at hd
    · subst hd; cases hx.nl rfl
      exact call_int1 pins s σ H _ us Q I rv (.inr ⟨_, rfl, g.here (.int _)⟩)
    · subst hd; cases hx.nl rfl
      exact call_int1 pins s σ H _ us Q I rv (.inl ⟨_, rfl, g.here (.int _)⟩)
    · rename_i t
      split at hd
      · rename_i hz
        cases hn : numOf t 0 with
        | none => rw [hn] at hd; cases hd
        | some n =>
          rw [hn] at hd
          have hd : some (D.int (n : Int)) = some d := hd
          cases hd
          cases hx.nl rfl
          exact call_int_str pins s σ H _ us Q I rv ⟨_, _, rfl, int_text hn hz.1 hz.2, by rw [S'_length]; exact hz.2, g.here (.int _)⟩
      · cases hd
  | str =>
    obtain ⟨x, rfl⟩ := biD_one hd (by simp)
    obtain ⟨v, rfl, hx⟩ := pd1 hp
    cases x <;> simp only [biD, reduceCtorEq] at hd
    split at hd
    · rename_i hz
      simp only [Option.some.injEq] at hd; subst hd
      cases hx.nl rfl
      exact call_str_int pins s σ H _ us Q I rv ⟨_, rfl, Nat.lt_of_lt_of_le (log2_of hz (by decide)) (by decide), by rw [toString_decI]; exact g.here (.str _ (okc_decI _))⟩
    · cases hd
  | abs =>
    obtain ⟨x, rfl⟩ := biD_one hd (by simp)
    obtain ⟨v, rfl, hx⟩ := pd1 hp
    cases x <;> simp only [biD, reduceCtorEq, Option.some.injEq] at hd
    subst hd; cases hx.nl rfl
    exact call_abs pins s σ H _ us Q I rv ⟨_, rfl, g.here (.int _)⟩
  | max2 =>
    obtain ⟨i, j, rfl⟩ := biD_two hd (by simp)
    obtain ⟨v, u, rfl, hx, hy⟩ := pd2 hp
    simp only [biD, Option.some.injEq] at hd
    subst hd; cases hx.nl rfl; cases hy.nl rfl
    exact call_max2 hc pins s σ H _ us Q I rv ⟨_, _, rfl, g.here (.int _)⟩
  | min2 =>
    obtain ⟨i, j, rfl⟩ := biD_two hd (by simp)
    obtain ⟨v, u, rfl, hx, hy⟩ := pd2 hp
    simp only [biD, Option.some.injEq] at hd
    subst hd; cases hx.nl rfl; cases hy.nl rfl
    exact call_min2 hc pins s σ H _ us Q I rv ⟨_, _, rfl, g.here (.int _)⟩
  | sum =>
    obtain ⟨x, rfl⟩ := biD_one hd (by simp)
    obtain ⟨v, rfl, hx⟩ := pd1 hp
    cases x <;> simp only [biD, reduceCtorEq, Option.some.injEq] at hd
    rename_i ys
    cases hn : sumD ys 0 with
    | none => rw [hn] at hd; cases hd
    | some n =>
      rw [hn] at hd
      simp only [Option.map_some, Option.some.injEq] at hd; subst hd
      obtain ⟨ns, rfl, hs⟩ := sumD_spec ys 0 n hn
      obtain ⟨a, ws, rfl, h1, h2⟩ := hx.lst e
      have := reps_ints h2
      subst this
      have hs : n = ns.sum := by omega
      subst hs
      exact cr_sum hc pins s σ H _ us Q I rv ⟨_, _, rfl, .of h1, g.here (.int _)⟩
  | divmod =>
    obtain ⟨i, j, rfl⟩ := biD_two hd (by simp)
    obtain ⟨v, u, rfl, hx, hy⟩ := pd2 hp
    simp only [biD] at hd
    split at hd
    · rename_i hz
      simp only [Option.some.injEq] at hd; subst hd; cases hx.nl rfl; cases hy.nl rfl
      exact call_divmod pins s σ H _ us Q I rv ⟨_, _, rfl, hz, fun p hp => g.newT e (.cons (.int _) (.cons (.int _) .nil)) hp⟩
    · cases hd
  | tuple =>
    obtain ⟨x, rfl⟩ := biD_one hd (by simp)
    obtain ⟨v, rfl, hx⟩ := pd1 hp
    cases x <;> simp only [biD, reduceCtorEq, Option.some.injEq] at hd
    · subst hd
      have hr := hx.nl rfl
      cases hr with
      | tup h1 h2 => exact call_tuple_of pins s σ H _ us Q I rv ⟨_, _, rfl, .inr ⟨h1.ext e, g.here (.tup h1 h2)⟩⟩
    · subst hd
      obtain ⟨a, ws, rfl, h1, h2⟩ := hx.lst e
      exact call_tuple_of pins s σ H _ us Q I rv ⟨_, _, rfl, .inl ⟨.of h1, fun p hp => g.newT e h2 hp⟩⟩
  | list =>
    obtain ⟨x, rfl⟩ := biD_one hd (by simp)
    obtain ⟨v, rfl, hx⟩ := pd1 hp
    cases x <;> simp only [biD, reduceCtorEq, Option.some.injEq] at hd
    · subst hd
      have hr := hx.nl rfl
      cases hr with
      | tup h1 h2 => exact call_list_of pins s σ H _ us Q I rv ⟨_, _, rfl, .inr (h1.ext e), fun p hp => g.newL e h2 hp⟩
    · subst hd
      obtain ⟨a, ws, rfl, h1, h2⟩ := hx.lst e
      exact call_list_of pins s σ H _ us Q I rv ⟨_, _, rfl, .inl (.of h1), fun p hp => g.newL e h2 hp⟩
  | all =>
    obtain ⟨x, rfl⟩ := biD_one hd (by simp)
    obtain ⟨v, rfl, hx⟩ := pd1 hp
    cases x <;> simp only [biD, reduceCtorEq] at hd
    rename_i ys
    cases hn : bools ys with
    | none => rw [hn] at hd; cases hd
    | some bs =>
      rw [hn] at hd
      cases hd
      have := bools_spec ys bs hn
      subst this
      obtain ⟨a, ws, rfl, h1, h2⟩ := hx.lst e
      have := reps_bls h2
      subst this
      exact cr_all hc pins s σ H _ us Q I rv ⟨_, _, rfl, .of h1, by rw [allB_eq]; exact g.here (.bl _)⟩
  | any =>
    obtain ⟨x, rfl⟩ := biD_one hd (by simp)
    obtain ⟨v, rfl, hx⟩ := pd1 hp
    cases x <;> simp only [biD, reduceCtorEq] at hd
    rename_i ys
    cases hn : bools ys with
    | none => rw [hn] at hd; cases hd
    | some bs =>
      rw [hn] at hd
      cases hd
      have := bools_spec ys bs hn
      subst this
      obtain ⟨a, ws, rfl, h1, h2⟩ := hx.lst e
      have := reps_bls h2
      subst this
      exact cr_any hc pins s σ H _ us Q I rv ⟨_, _, rfl, .of h1, by rw [anyB_eq]; exact g.here (.bl _)⟩
  | min =>
    obtain ⟨x, rfl⟩ := biD_one hd (by simp)
    obtain ⟨v, rfl, hx⟩ := pd1 hp
    cases x <;> simp only [biD, reduceCtorEq] at hd
    rename_i ys
    cases hn : intsD ys with
    | none => rw [hn] at hd; cases hd
    | some ns =>
      rw [hn] at hd
      match ns, hn, hd with
      | n :: ns, hn, hd =>
        cases hd
        have := intsD_spec ys _ hn
        subst this
        obtain ⟨a, ws, rfl, h1, h2⟩ := hx.lst e
        have := reps_ints h2
        subst this
        refine cr_min hc pins s σ H _ us Q I rv ⟨_, _, rfl, .of h1, by simp, fun m hm hle => ?_⟩
        obtain ⟨l1, l2, l3⟩ := leastI_spec ns n
        have e1 : m ≤ leastI n ns := by
          rcases l1 with l1 | l1
          · rw [l1]; exact hle _ List.mem_cons_self
          · exact hle _ (List.mem_cons_of_mem _ l1)
        have e2 : leastI n ns ≤ m := by
          rcases List.mem_cons.mp hm with z | z
          · rw [z]; exact l2
          · exact l3 m z
        have : m = leastI n ns := by omega
        subst this
        exact g.here (.int _)
      | [], hn, hd => cases hd
  | max =>
    obtain ⟨x, rfl⟩ := biD_one hd (by simp)
    obtain ⟨v, rfl, hx⟩ := pd1 hp
    cases x <;> simp only [biD, reduceCtorEq] at hd
    rename_i ys
    cases hn : intsD ys with
    | none => rw [hn] at hd; cases hd
    | some ns =>
      rw [hn] at hd
      match ns, hn, hd with
      | n :: ns, hn, hd =>
        cases hd
        have := intsD_spec ys _ hn
        subst this
        obtain ⟨a, ws, rfl, h1, h2⟩ := hx.lst e
        have := reps_ints h2
        subst this
        refine cr_max hc pins s σ H _ us Q I rv ⟨_, _, rfl, .of h1, by simp, fun m hm hle => ?_⟩
        obtain ⟨l1, l2, l3⟩ := mostI_spec ns n
        have e1 : mostI n ns ≤ m := by
          rcases l1 with l1 | l1
          · rw [l1]; exact hle _ List.mem_cons_self
          · exact hle _ (List.mem_cons_of_mem _ l1)
        have e2 : m ≤ mostI n ns := by
          rcases List.mem_cons.mp hm with z | z
          · rw [z]; exact l2
          · exact l3 m z
        have : m = mostI n ns := by omega
        subst this
        exact g.here (.int _)
      | [], hn, hd => cases hd
end
end Iv
end
section
set_option autoImplicit false
set_option maxRecDepth 100000
set_option maxHeartbeats 4000000
namespace Iv
open PySem L2
/-! ### methods of texts -/
theorem spl_splitC (c : Nat) : ∀ (l acc : Cs), TL.spl [c] 0 acc l = (match splitC c l with | [] => [acc] | y :: ys => (acc ++ y) :: ys)
  | [], acc => by rw [TL.spl_nil]; simp [splitC]
  | x :: xs, acc => by
    by_cases h : x = c
    · subst h
      rw [TL.spl_hit (by simp [TL.pre])]
      show acc :: TL.spl [x] 0 [] xs = _
      rw [spl_splitC x xs []]
      simp only [splitC, if_pos]
      cases e : splitC x xs with
      | nil =>
        exfalso
        cases xs with
        | nil => simp [splitC] at e
        | cons z zs =>
          unfold splitC at e
          split at e
          · cases e
          · split at e <;> cases e
      | cons y ys => simp
    · rw [TL.spl_miss (by simp [TL.pre, h]), spl_splitC c xs (acc ++ [x])]
      simp only [splitC, if_neg h]
      cases e : splitC c xs with
      | nil => simp
      | cons y ys => simp
theorem splitC_ne (c : Nat) (l : Cs) : splitC c l ≠ [] := by
  intro e
  cases l with
  | nil => simp [splitC] at e
  | cons z zs =>
    unfold splitC at e
    split at e
    · cases e
    · split at e <;> cases e
theorem split_text {s : Cs} {c : Nat} (h : c < 256) : Txt.split (S' s) (S' [c]) = (splitC c s).map S' := by
  refine TL.map_tl_inj ?_
  rw [TL.split_spl _ _ (by simp [TL.tl, S']) (TL.kind_ok (by simp [S', h]))]
  have e1 : TL.tl (S' [c]) = [c] := by simp [TL.tl, S']
  have e2 : TL.tl (S' s) = s := by simp [TL.tl, S']
  rw [e1, e2, spl_splitC c s []]
  have : ∀ l : List Cs, (l.map S').map TL.tl = l := fun l => by
    rw [List.map_map]; conv => rhs; rw [← List.map_id l]
    exact List.map_congr_left fun x _ => by simp [TL.tl, S']
  rw [this]
  cases e : splitC c s with
  | nil => exact absurd e (splitC_ne c s)
  | cons y ys => simp
theorem okc_split (c : Nat) : ∀ (l : Cs), Okc l → ∀ p ∈ splitC c l, Okc p
  | [], h, p, hp => by simp [splitC] at hp; subst hp; exact fun c hc => by simp at hc
  | x :: xs, h, p, hp => by
    have ih := okc_split c xs (fun d hd => h d (List.mem_cons_of_mem _ hd))
    unfold splitC at hp
    split at hp
    · rcases List.mem_cons.mp hp with z | z
      · subst z; exact fun c hc => by simp at hc
      · exact ih p z
    · split at hp
      · simp at hp; subst hp; intro d hd; simp at hd; subst hd; exact h _ List.mem_cons_self
      · rename_i y ys e
        rcases List.mem_cons.mp hp with z | z
        · subst z
          intro d hd
          rcases List.mem_cons.mp hd with w | w
          · subst w; exact h _ List.mem_cons_self
          · exact ih y (by rw [e]; exact List.mem_cons_self) d w
        · exact ih p (by rw [e]; exact List.mem_cons_of_mem _ z)
theorem reps_strs {K : Fg} {G : Hp} : ∀ (l : List Cs), (∀ p ∈ l, Okc p) → Reps K G (l.map D.str) ((l.map S').map V.str)
  | [], _ => .nil
  | x :: xs, h => .cons (.str x (h x List.mem_cons_self)) (reps_strs xs fun p hp => h p (List.mem_cons_of_mem _ hp))
theorem strsOf_spec : ∀ (xs : List D) (l : List Cs), strsOf xs = some l → xs = l.map D.str
  | [], l, h => by simp only [strsOf, Option.some.injEq] at h; subst h; rfl
  | .str b :: xs, bs, h => by
    simp only [strsOf] at h
    cases e : strsOf xs with
    | none => rw [e] at h; cases h
    | some cs => rw [e] at h; cases h; rw [strsOf_spec xs cs e]; rfl
  | .non :: _, _, h => by simp [strsOf] at h
  | .bl _ :: _, _, h => by simp [strsOf] at h
  | .int _ :: _, _, h => by simp [strsOf] at h
  | .tup _ :: _, _, h => by simp [strsOf] at h
  | .lst _ :: _, _, h => by simp [strsOf] at h
  | .dct _ :: _, _, h => by simp [strsOf] at h
  | .ins _ _ :: _, _, h => by simp [strsOf] at h
  | .cls _ :: _, _, h => by simp [strsOf] at h
  | .ro _ :: _, _, h => by simp [strsOf] at h
  | .ptp _ :: _, _, h => by simp [strsOf] at h
theorem reps_strsI {K : Fg} {G : Hp} : ∀ {l : List Cs} {vs : List V}, Reps K G (l.map D.str) vs → vs = (l.map S').map V.str ∧ ∀ p ∈ l, Okc p
  | [], _, .nil => ⟨rfl, fun p h => by simp at h⟩
  | n :: ns, _, .cons h r => by
    cases h with
    | str _ o =>
      obtain ⟨h1, h2⟩ := reps_strsI r
      rw [h1]
      refine ⟨rfl, fun p hp => ?_⟩
      rcases List.mem_cons.mp hp with z | z
      · subst z; exact o
      · exact h2 p z
theorem joinL_joinC (sep : Cs) : ∀ l : List Cs, TL.joinL sep l = joinC sep l
  | [] => rfl
  | [x] => rfl
  | x :: y :: ys => by
    simp only [TL.joinL, joinC, joinL_joinC sep (y :: ys), List.append_assoc]
theorem join_text (sep : Cs) (l : List Cs) : Txt.join (S' sep) (l.map S') = S' (joinC sep l) := by
  refine TL.ext_tl ?_
  rw [TL.join_eq, TL.tl_join]
  have : (l.map S').map TL.tl = l := by
    rw [List.map_map]; conv => rhs; rw [← List.map_id l]
    exact List.map_congr_left fun x _ => by simp [TL.tl, S']
  rw [this, joinL_joinC]
  simp [TL.tl, S', joinL_joinC]
theorem okc_join {sep : Cs} (hs : Okc sep) : ∀ {l : List Cs}, (∀ p ∈ l, Okc p) → Okc (joinC sep l)
  | [], _ => fun c hc => by simp [joinC] at hc
  | [x], h => h x List.mem_cons_self
  | x :: y :: ys, h => fun c hc => by
    have ih := okc_join hs (l := y :: ys) (fun p hp => h p (List.mem_cons_of_mem _ hp))
    rcases List.mem_append.mp (show c ∈ (x ++ sep) ++ joinC sep (y :: ys) from hc) with z | z
    · rcases List.mem_append.mp z with w | w
      · exact h x List.mem_cons_self c w
      · exact hs c w
    · exact ih c z
theorem lens_sum : ∀ l : List Cs, ((l.map S').map fun x => x.length).sum = lens l
  | [] => rfl
  | x :: xs => by
    rw [List.map_cons, List.map_cons, List.sum_cons, lens_sum xs, S'_length]; rfl
theorem prefix_ext : ∀ (p s : Cs), (decide (0 + p.length ≤ s.length) && (s.take p.length == p)) = p.isPrefixOf s
  | [], s => by simp
  | a :: p, [] => by simp
  | a :: p, b :: s => by
    have ih := prefix_ext p s
    simp only [List.length_cons, List.take_succ_cons, List.isPrefixOf]
    rw [← ih]
    by_cases h : a = b
    · subst h; simp
    · have h1 : (a == b) = false := beq_eq_false_iff_ne.mpr h
      have h2 : (b == a) = false := beq_eq_false_iff_ne.mpr fun q => h q.symm
      simp [h1, h2, List.cons_beq_cons]
theorem starts_text (s p : Cs) : Txt.startswith (S' s) (S' p) = p.isPrefixOf s := by
  rw [← prefix_ext]
  unfold Txt.startswith Builtin.Str.subAt
  rw [S'_length, S'_length]
  congr 1
  have e1 : (S' s).cps.extract 0 (0 + p.length) = (s.take p.length).toArray := by simp [S']
  rw [e1]
  show ((s.take p.length).toArray == p.toArray) = _
  by_cases h : s.take p.length = p
  · rw [h]; simp
  · rw [beq_eq_false_iff_ne.mpr h, beq_eq_false_iff_ne.mpr (fun q => h (by simpa using congrArg Array.toList q))]
def mtN : Mt → String
  | .split => "str.split" | .join => "str.join" | .startswith => "str.startswith"
def rMt (K : Fg) (m : Mt) : V → List V → Hp → VK → Prop := fun x vs H Q => ∃ (G : Hp) (a : D) (xs : List D) (d : D), Ext G H ∧ Rep K G a x ∧ Paired (Rd' K G H) xs vs ∧ mtD m a xs = some d ∧ Gives K G H d Q
theorem mtD_str {m : Mt} {a : D} {xs : List D} {d : D} (h : mtD m a xs = some d) : ∃ s, a = .str s := by
  cases m <;> cases a <;> first | exact ⟨_, rfl⟩ | (simp [mtD] at h)
theorem mtD_one {m : Mt} {s : Cs} {xs : List D} {d : D} (h : mtD m (.str s) xs = some d) : ∃ x, xs = [x] := by
  match xs, h with
  | [], h => cases m <;> simp [mtD] at h
  | [x], h => exact ⟨x, rfl⟩
  | x :: y :: r, h => cases m <;> simp [mtD] at h
section
variable {cl : Nat → Addr} {X : Cx}
theorem mr_mt (m : Mt) : MtR X (mtN m) (rMt (kx cl X) m) := by
  intro pins s σ H x vs v us Q I rx rv h
  obtain ⟨G, a, xs, d, e, ha, hp, hd, g⟩ := h
  obtain ⟨t, rfl⟩ := mtD_str hd
  obtain ⟨y, rfl⟩ := mtD_one hd
  obtain ⟨w, rfl, hy⟩ := pd1 hp
  cases ha with
  | str _ ot =>
  cases m with
  | split =>
    cases y with
    | str p =>
      match p, hd, hy with
      | [c], hd, hy =>
        simp only [mtD] at hd
        split at hd
        · rename_i hz
          cases hd
          cases hy.nl rfl with
          | str _ op =>
            refine mt_split pins s σ H _ _ v us Q I rx rv ⟨_, _, rfl, rfl, by simp [S', Str.length], by rw [S'_length, sizeLine_eq]; omega, fun p hp => ?_⟩
            rw [split_text hz.2]
            exact g.newL e (reps_strs _ (okc_split c t ot)) hp
        · cases hd
      | [], hd, hy => simp [mtD] at hd
      | _ :: _ :: _, hd, hy => simp [mtD] at hd
    | _ => simp [mtD] at hd
  | join =>
    cases y with
    | lst ys =>
      simp only [mtD] at hd
      cases hn : strsOf ys with
      | none => rw [hn] at hd; cases hd
      | some l =>
        rw [hn] at hd
        simp only [Option.bind_some] at hd
        split at hd
        · rename_i hz
          cases hd
          have := strsOf_spec ys l hn
          subst this
          obtain ⟨p, ws, rfl, h1, h2⟩ := hy.lst e
          obtain ⟨rfl, ok⟩ := reps_strsI h2
          refine mt_join pins s σ H _ _ v us Q I rx rv ⟨_, _, _, rfl, rfl, .inl (.of h1), ?_, by rw [join_text]; exact g.here (.str _ (okc_join ot ok))⟩
          rw [lens_sum, List.length_map, S'_length]
          have h1 := hz.1; have h2 := hz.2.1; have h3 : lens l ≤ 1000000 := hz.2.2
          have : l.length * t.length ≤ 1000 * 100 := Nat.mul_le_mul h1 h2
          omega
        · cases hd
    | _ => simp [mtD] at hd
  | startswith =>
    cases y with
    | str p =>
      simp only [mtD] at hd
      cases hd
      cases hy.nl rfl
      exact mt_startswith pins s σ H _ _ v us Q I rx rv ⟨_, _, rfl, rfl, by rw [starts_text]; exact g.here (.bl _)⟩
    | _ => simp [mtD] at hd
/-! ### items, slices -/
theorem ixN_plc (n : Nat) (i : Int) : ixN n i = plc i n := by
  unfold ixN plc
  by_cases h : 0 ≤ i
  · rw [if_pos h, if_pos h]
  · rw [if_neg h, if_neg h]
    by_cases h2 : -(n : Int) ≤ i
    · rw [if_pos h2, if_pos (by omega)]
    · rw [if_neg h2, if_neg (by omega)]
def rIxD (K : Fg) : R2 := fun x y H Q => ∃ (G : Hp) (a b d : D), Ext G H ∧ Rd' K G H a x ∧ Rep K G b y ∧ ixD a b = some d ∧ ∀ v, Rep K G d v → Q v H
theorem atI_seq {K : Fg} {G : Hp} {xs : List D} {vs : List V} {i : Int} {d : D} (r : Reps K G xs vs) (h : ((plc i xs.length).bind fun k => xs[k]?) = some d) : ∃ v, atI vs i = some v ∧ Rep K G d v := by
  unfold atI
  rw [ixN_plc, ← r.length]
  cases e : plc i xs.length with
  | none => rw [e] at h; cases h
  | some k =>
    rw [e] at h
    exact r.get h
theorem ix_D : IxR X (rIxD (kx cl X)) := by
  intro value slice pins s σ H x y v u Q I rx ry h hs
  obtain ⟨G, a, b, d, e, ha, hb, hd, g⟩ := h
  have hi : ∃ i, b = .int i := by cases a <;> cases b <;> first | exact ⟨_, rfl⟩ | (simp [ixD] at hd)
  obtain ⟨i, rfl⟩ := hi
  cases hb
  cases a <;> simp only [ixD, reduceCtorEq] at hd
  · rename_i t
    split at hd
    · rename_i hz
      cases ek : plc i t.length with
      | none => rw [ek] at hd; cases hd
      | some k =>
        rw [ek] at hd
        cases ec : t[k]? with
        | none => rw [Option.bind_some, ec] at hd; cases hd
        | some c =>
          rw [Option.bind_some, ec] at hd
          cases hd
          cases ha.nl rfl with
          | str _ ot =>
            refine ix_seq value slice pins s σ H _ _ v u Q I rx ry (.inr (.inr ⟨_, _, c, rfl, rfl, by rw [S'_length]; exact small_line hz, ?_, g _ (.str [c] ?_)⟩)) hs
            · unfold atI
              rw [S'_list, ixN_plc, ek, Option.bind_some, ec]
            · intro c' hc'
              simp at hc'; subst hc'
              exact ot _ (List.mem_of_getElem? ec)
    · cases hd
  · cases ha.nl rfl with
    | tup h1 h2 =>
      obtain ⟨w, q1, q2⟩ := atI_seq h2 hd
      exact ix_seq value slice pins s σ H _ _ v u Q I rx ry (.inr (.inl ⟨_, _, _, _, rfl, rfl, h1.ext e, q1, g _ q2⟩)) hs
  · obtain ⟨p, ws, rfl, h1, h2⟩ := ha.lst e
    obtain ⟨w, q1, q2⟩ := atI_seq h2 hd
    exact ix_seq value slice pins s σ H _ _ v u Q I rx ry (.inl ⟨_, _, _, _, rfl, rfl, .of h1, q1, g _ q2⟩) hs
  · cases ha.nl rfl with
    | ro h1 h2 =>
      obtain ⟨w, q1, q2⟩ := atI_seq h2 hd
      exact ix_seq value slice pins s σ H _ _ v u Q I rx ry (.inl ⟨_, _, _, _, rfl, rfl, h1.ext e, q1, g _ q2⟩) hs
theorem sIx_low (n : Nat) (o : Option Int) : HT.sIx n 0 o = lowD o n := by
  cases o with
  | none => rfl
  | some i =>
    show (if i < 0 then (i + n).toNat else min i.toNat n) = if 0 ≤ i then min i.toNat n else (i + n).toNat
    by_cases h : i < 0
    · rw [if_pos h, if_neg (by omega)]
    · rw [if_neg h, if_pos (by omega)]
theorem sIx_high (n : Nat) (o : Option Int) : HT.sIx n n o = highD o n := by
  cases o with
  | none => rfl
  | some i =>
    show (if i < 0 then (i + n).toNat else min i.toNat n) = if 0 ≤ i then min i.toNat n else (i + n).toNat
    by_cases h : i < 0
    · rw [if_pos h, if_neg (by omega)]
    · rw [if_neg h, if_pos (by omega)]
theorem cutV_cutL (xs : List V) (lo hi : Option Int) : cutV xs lo hi = cutL xs lo hi := by
  unfold cutV cutL
  rw [sIx_low, sIx_high, List.drop_take]
theorem cutS_cutL (s : Cs) (lo hi : Option Int) : cutS (S' s) lo hi = S' (cutL s lo hi) := by
  unfold cutS cutL
  rw [S'_length, sIx_low, sIx_high, List.drop_take, S'_list]
  rfl
theorem Reps.cut {K : Fg} {G : Hp} {xs : List D} {vs : List V} (r : Reps K G xs vs) (lo hi : Option Int) : Reps K G (cutL xs lo hi) (cutL vs lo hi) := by
  unfold cutL
  rw [← r.length]
  exact (r.take _).drop _
theorem okc_cut {s : Cs} (h : Okc s) (lo hi : Option Int) : Okc (cutL s lo hi) := fun c hc => h c (List.mem_of_mem_take (List.mem_of_mem_drop hc))
def rSlD (K : Fg) : V → Option Int → Option Int → Hp → VK → Prop := fun x lo hi H Q => ∃ (G : Hp) (a d : D), Ext G H ∧ Rd' K G H a x ∧ slD a lo hi = some d ∧ Gives K G H d Q
theorem sl_D : SlR X (rSlD (kx cl X)) := by
  intro pins s σ H x v vl vu lo hi sl Q I rx i1 i2 i3 h
  obtain ⟨G, a, d, e, ha, hd, g⟩ := h
  cases a <;> simp only [slD, reduceCtorEq] at hd
  · split at hd
    · rename_i hz
      cases hd
      cases ha.nl rfl with
      | str _ ot => exact sl_str pins s σ H _ v vl vu lo hi sl Q I rx i1 i2 i3 ⟨_, rfl, by rw [S'_length]; exact small_line hz, by rw [cutS_cutL]; exact g.here (.str _ (okc_cut ot _ _))⟩
    · cases hd
  · cases hd
    obtain ⟨p, ws, rfl, h1, h2⟩ := ha.lst e
    exact sl_list pins s σ H _ v vl vu lo hi sl Q I rx i1 i2 i3 ⟨_, _, rfl, .of h1, fun p hp => by rw [cutV_cutL]; exact g.newL e (h2.cut _ _) hp⟩
/-! ### isinstance of built-in types -/
def tyN : Ty → String
  | .int => "int" | .bool => "bool" | .str => "str" | .tup => "tuple" | .lst => "list" | .dct => "dict"
def tyD : D → String
  | .non => "NoneType" | .bl _ => "bool" | .int _ => "int" | .str _ => "str" | .tup _ => "tuple" | .lst _ => "list" | .dct _ => "dict" | .ins _ _ => "object" | .cls _ => "object" | .ro _ => "list" | .ptp _ => "tuple"
theorem kit_D (t : Ty) (d : D) (h : bareD d = true) : kitB (tyD d) (tyN t) = some (isTy t d) := by
  cases d <;> first | (cases h; done) | (cases t <;> simp only [tyD, tyN, isTy] <;> decide +kernel)
theorem tyX_D {K : Fg} {H : Hp} {d : D} {x : V} (r : Rep K H d x) (hI : bareD d = true) : TyX K H x (.type (tyD d)) := by
  cases r with
  | non => exact .base .non
  | bl b => exact .base (.bl b)
  | int i => exact .base (.int i)
  | str s _ => exact .base (.str _)
  | tup h _ =>
    rcases h with h | ⟨o, its, n, hk, hc, _⟩
    · rcases h with h | ⟨o, h⟩
      · exact .base (.tup h)
      · exact .fTuple h
    · exact .kTuple hk hc
  | lst h _ => exact .base (.lst h)
  | ro h _ => cases hI
  | cls _ => cases hI
  | dct h _ => exact .fDict h
  | ins _ _ _ _ => cases hI
  | ptp _ _ => cases hI
end
end Iv
end
section
set_option autoImplicit false
set_option maxRecDepth 100000
set_option maxHeartbeats 4000000
namespace Iv
open PySem L2
/-! ### the text and the terms: a check -/
structure Nm where
  fns : List Str
  globs : List Str
  excs : List Xc
  /-- how many defs, those of classes too -/
  nf : Nat := 0
  /-- C(..): the class's name; fields, methods, properties: the name; classmethods: the class's and the own name; classes -/
  mks : List Str := []
  sls : List Str := []
  mts : List Str := []
  prs : List Str := []
  cms : List (Str × Str) := []
  cls : List Str := []
def visB (sc : Scope) (x : Str) : Bool := match sc.names.lookup x with
  | some .local => true
  | some .cell => true
  | some .free => true
  | _ => false
def locB (sc : Scope) (x : Str) : Bool := decide (sc.names.lookup x = some .local)
def glB (sc : Scope) (x : Str) : Bool := decide (sc.names.lookup x = some .globalImplicit)
def okN (x : Str) : Bool := !(x == ("__debug__" : Str)) && !(x == ("__classdict__" : Str)) && !decide (x = ("__name__" : Str))
def biName : Bi → Str
  | .len => "len" | .int => "int" | .str => "str" | .abs => "abs" | .max2 => "max" | .min2 => "min" | .sum => "sum" | .divmod => "divmod" | .tuple => "tuple" | .list => "list"
  | .all => "all" | .any => "any" | .min => "min" | .max => "max" | .bool => "bool"
def mtName : Mt → Str
  | .split => "split" | .join => "join" | .startswith => "startswith"
/-- no call without arguments (super) -/
def noC0 : Expr → Bool
  | .Call _ [] _ _ => false
  | _ => true
/-- a test that is read as one -/
def tOk : Ex → Bool
  | .ite _ _ _ => false
  | .and a b => tOk a && tOk b
  | .or a b => tOk a && tOk b
  | .not a => tOk a
  | .one a => tOk a
  | _ => true
def envS (sc : Scope) : Env := { scope := sc, locals := 0, globals := 0, cells := [], qual := ("" : Str) }
/-- the names of a comprehension's block -/
def rl (sc scope : Scope) : Scope := relabel scope (envS sc)
def ownN (N : List Str) (own : List Nat) : List (Str × Nat) := own.map fun i => (N.getD i ("" : Str), i)
/-- all names of a target are the block's own -/
def tgIn (own : List Nat) : Tg → Bool
  | .nm i => own.contains i
  | .tp ts => tgIn own ts
  | .nil => true
  | .cons a b => tgIn own a && tgIn own b
section
variable (nm : Nm) (N : List Str)
/-- a name that is stored: a local; of a def's own also a cell -/
def stB (fn : Bool) (sc : Scope) (x : Str) : Bool := decide (sc.names.lookup x = some .local) || (fn && decide (sc.names.lookup x = some .cell))
mutual
def isG (fn : Bool) (sc : Scope) : Tg → Expr → Bool
  | .nm i, e => match e with
    | .Name x _ => decide (N[i]? = some x) && stB fn sc x
    | _ => false
  | .tp ts, e => match e with
    | .Tuple es _ _ => isGs fn sc ts es
    | _ => false
  | _, _ => false
def isGs (fn : Bool) (sc : Scope) : Tg → List Expr → Bool
  | .nil, es => es.isEmpty
  | .cons a b, es => match es with
    | e :: es => isG fn sc a e && isGs fn sc b es
    | [] => false
  | _, _ => false
end
mutual
def isE (sc : Scope) : Ex → Expr → Bool
  | .var i, e => match e with
    | .Name x _ => decide (N[i]? = some x) && visB sc x && okN x
    | _ => false
  | .frz i, e => match e with
    | .Name x _ => decide (N[i]? = some x) && visB sc x && okN x
    | _ => false
  | .glob g, e => match e with
    | .Name x _ => decide (nm.globs[g]? = some x) && glB sc x && okN x
    | _ => false
  | .non, e => match e with
    | .Constant .none _ _ => true
    | _ => false
  | .bl b, e => match e with
    | .Constant (.bool c) _ _ => b == c
    | _ => false
  | .int i, e => match e with
    | .Constant (.int j) _ _ => decide (i = j)
    | _ => false
  | .str s, e => match e with
    | .Constant (.str x) _ _ => decide (x = S' s) && s.all fun c => decide (c < 1114112)
    | _ => false
  | .tup es, e => match e with
    | .Tuple l _ _ => isA sc es l
    | _ => false
  | .lst es, e => match e with
    | .List l _ => isA sc es l
    | _ => false
  | .newl es, e => match e with
    | .List l _ => isA sc es l
    | _ => false
  | .bin o a b, e => match e with
    | .BinOp l op r _ => decide (op = bop o) && isE sc a l && isE sc b r
    | _ => false
  | .neg a, e => match e with
    | .UnaryOp .USub l _ => isE sc a l
    | _ => false
  | .cmp o a b, e => match e with
    | .Compare l [op] [r] _ => decide (op = cop o) && isE sc a l && isE sc b r
    | _ => false
  | .chain o o' a b c, e => match e with
    | .Compare l [op, op'] [r, r'] _ => decide (op = cop o) && decide (op' = cop o') && isE sc a l && isE sc b r && isE sc c r'
    | _ => false
  | .not a, e => match e with
    | .UnaryOp .Not l _ => isE sc a l
    | _ => false
  | .and a b, e => match e with
    | .BoolOp .And (l :: r :: rs) p => isE sc a l && isE sc b (.BoolOp .And (r :: rs) p)
    | _ => false
  | .or a b, e => match e with
    | .BoolOp .Or (l :: r :: rs) p => isE sc a l && isE sc b (.BoolOp .Or (r :: rs) p)
    | _ => false
  | .one a, e => match e with
    | .BoolOp _ [l] _ => isE sc a l
    | _ => false
  | .ite c a b, e => match e with
    | .IfExp t l r _ => isE sc c t && tOk c && isE sc a l && isE sc b r
    | _ => false
  | .call f es, e => match e with
    | .Call (.Name x _) (l :: ls) [] _ => decide (nm.fns[f]? = some x) && glB sc x && okN x && isA sc es (l :: ls)
    | _ => false
  | .call0 f, e => match e with
    | .Call (.Name x _) [] [] _ => decide (nm.fns[f]? = some x) && glB sc x && okN x
    | _ => false
  | .bi b es, e => match e with
    | .Call (.Name x _) (l :: ls) [] _ => decide (x = biName b) && glB sc x && isA sc es (l :: ls)
    | _ => false
  | .isi a t, e => match e with
    | .Call (.Name x _) [l, .Name y _] [] _ => decide (x = ("isinstance" : Str)) && glB sc x && decide (y = Str.ofString (tyN t)) && glB sc y && isE sc a l
    | _ => false
  | .meth m o es, e => match e with
    | .Call (.Attribute ob x ap) (l :: ls) [] p => decide (x = mtName m) && noC0 ob && isE sc o ob && isA sc es (l :: ls) && (ap.endLine == p.line) && decide (ls.length < 20)
    | _ => false
  | .ix a i, e => match e with
    | .Subscript l r _ => isE sc a l && isE sc i r
    | _ => false
  | .sl a lo hi, e => match e with
    | .Subscript l (.Slice x y none _) _ => isE sc a l && isO sc lo x && isO sc hi y
    | _ => false
  | .comp own t it c x, e => match e with
    | .ListComp elt [⟨tg, iter, ifs, as⟩] scope _ => decide (as = 0) && isI sc it tg iter && blkC N sc scope (ownN N own) && isG N false (rl sc scope) t tg && isC (rl sc scope) c ifs && isE (rl sc scope) x elt && tgIn own t
    | _ => false
  | .varp i, e => match e with
    | .Name x _ => decide (N[i]? = some x) && visB sc x && okN x
    | _ => false
  | .ptup es, e => match e with
    | .Tuple l _ _ => isA sc es l
    | _ => false
  | .ptl a, e => match e with
    | .Call (.Name x _) [l] [] _ => decide (x = ("tuple" : Str)) && glB sc x && isE sc a l
    | _ => false
  | .dix a i, e => match e with
    | .Subscript l r _ => isE sc a l && isE sc i r
    | _ => false
  | .dgt d k z, e => match e with
    | .Call (.Attribute ob x ap) [a1, a2] [] p => decide (x = ("get" : Str)) && noC0 ob && isE sc d ob && isE sc k a1 && isE sc z a2 && (ap.endLine == p.line)
    | _ => false
  | .din ng k d, e => match e with
    | .Compare l [op] [r] _ => decide (op = if ng then .NotIn else .In) && isE sc k l && isE sc d r
    | _ => false
  | .dct0, e => match e with
    | .Dict [] [] _ => true
    | _ => false
  | .newd, e => match e with
    | .Dict [] [] _ => true
    | _ => false
  | .dcmp own t it c k v, e => match e with
    | .DictComp key val [⟨tg, iter, ifs, as⟩] scope _ => decide (as = 0) && isI sc it tg iter && blkC N sc scope (ownN N own) && isG N false (rl sc scope) t tg && isC (rl sc scope) c ifs && isE (rl sc scope) k key && isE (rl sc scope) v val && tgIn own t
    | _ => false
  | .dof a, e => match e with
    | .Call (.Name x _) [l] [] _ => decide (x = ("dict" : Str)) && glB sc x && isE sc a l
    | _ => false
  | .deq0 ng a, e => match e with
    | .Compare l [op] [.Dict [] [] _] _ => decide (op = if ng then .NotEq else .Eq) && isE sc a l
    | _ => false
  | .srt a, e => match e with
    | .Call (.Name x _) [l] [] _ => decide (x = ("sorted" : Str)) && glB sc x && isE sc a l
    | _ => false
  | .srti a, e => match e with
    | .Call (.Name x _) [.Call (.Attribute ob y ap) [] [] p] [] _ => decide (x = ("sorted" : Str)) && glB sc x && decide (y = ("items" : Str)) && noC0 ob && (ap.endLine == p.line) && isE sc a ob
    | _ => false
  | .stars a b, e => match e with
    | .List [.Starred l _, .Starred r _] _ => isE sc a l && isE sc b r
    | _ => false
  | .mk j es, e => match e with
    | .Call (.Name x _) ls [] _ => decide (nm.mks[j]? = some x) && glB sc x && okN x && isA sc es ls
    | _ => false
  | .mkc i j es, e => match e with
    | .Call (.Name x _) (l :: ls) [] _ => decide (N[i]? = some x) && visB sc x && okN x && isA sc es (l :: ls)
    | _ => false
  | .slt j o, e => match e with
    | .Attribute ob x _ => decide (nm.sls[j]? = some x) && noC0 ob && isE sc o ob
    | _ => false
  | .sltp j o, e => match e with
    | .Attribute ob x _ => decide (nm.sls[j]? = some x) && noC0 ob && isE sc o ob
    | _ => false
  | .mth j o es, e => match e with
    | .Call (.Attribute ob x ap) ls [] p => decide (nm.mts[j]? = some x) && noC0 ob && isE sc o ob && isA sc es ls && (ap.endLine == p.line) && decide (ls.length < 20)
    | _ => false
  | .prp j o, e => match e with
    | .Attribute ob x _ => decide (nm.prs[j]? = some x) && noC0 ob && isE sc o ob
    | _ => false
  | .cme j es, e => match e with
    | .Call (.Attribute (.Name c _) x ap) ls [] p => decide (nm.cms[j]? = some (c, x)) && glB sc c && okN c && isA sc es ls && (ap.endLine == p.line) && decide (ls.length < 20)
    | _ => false
  | .isc j o, e => match e with
    | .Call (.Name x _) [l, .Name y _] [] _ => decide (x = ("isinstance" : Str)) && glB sc x && decide (nm.cls[j]? = some y) && glB sc y && okN y && isE sc o l
    | _ => false
  | .olen o, e => match e with
    | .Call (.Name x _) [l] [] _ => decide (x = ("len" : Str)) && glB sc x && isE sc o l
    | _ => false
  | .obool o, e => match e with
    | .Call (.Name x _) [l] [] _ => decide (x = ("bool" : Str)) && glB sc x && isE sc o l
    | _ => false
  | .newc own t it c x, e => match e with
    | .ListComp elt [⟨tg, iter, ifs, as⟩] scope _ => decide (as = 0) && isI sc it tg iter && blkC N sc scope (ownN N own) && isG N false (rl sc scope) t tg && isC (rl sc scope) c ifs && isE (rl sc scope) x elt && tgIn own t
    | _ => false
  | _, _ => false
def isA (sc : Scope) : Ex → List Expr → Bool
  | .nil, es => es.isEmpty
  | .cons x xs, es => match es with
    | e :: es => isE sc x e && isA sc xs es
    | [] => false
  | _, _ => false
def isO (sc : Scope) : Ex → Option Expr → Bool
  | .no, e => e.isNone
  | .one x, e => match e with
    | some e => isE sc x e
    | none => false
  | _, _ => false
/-- the tests of a comprehension -/
def isC (sc : Scope) : Ex → List Expr → Bool
  | .bl b, es => b && es.isEmpty
  | .one x, es => match es with
    | [e] => isE sc x e && tOk x
    | _ => false
  | _, _ => false
/-- what is walked -/
def isI (sc : Scope) : Ex → Expr → Expr → Bool
  | .one x, _, e => isE sc x e
  | .rng a, _, e => match e with
    | .Call (.Name x _) [l] [] _ => decide (x = ("range" : Str)) && glB sc x && isE sc a l
    | _ => false
  | .rng2 a b, _, e => match e with
    | .Call (.Name x _) [l, r] [] _ => decide (x = ("range" : Str)) && glB sc x && isE sc a l && isE sc b r
    | _ => false
  | .zip a b, tg, e => match e, tg with
    | .Call (.Name x _) [l, r] [] _, .Tuple _ _ _ => decide (x = ("zip" : Str)) && glB sc x && isE sc a l && isE sc b r
    | _, _ => false
  | .enm a, tg, e => match e, tg with
    | .Call (.Name x _) [l] [] _, .Tuple _ _ _ => decide (x = ("enumerate" : Str)) && glB sc x && isE sc a l
    | _, _ => false
  | .itm a, tg, e => match e, tg with
    | .Call (.Attribute ob x ap) [] [] p, .Tuple _ _ _ => decide (x = ("items" : Str)) && noC0 ob && (ap.endLine == p.line) && isE sc a ob
    | _, _ => false
  | _, _, _ => false
end
end
example (nm : Nm) (N : List Str) (sc : Scope) (a b : Ex) (l r : Expr) (p : Pos) (op : Operator) : isE nm N sc (.bin .add a b) (.BinOp l op r p) = (decide (op = bop .add) && isE nm N sc a l && isE nm N sc b r) := rfl
end Iv
end
section
set_option autoImplicit false
set_option maxRecDepth 100000
set_option maxHeartbeats 4000000
namespace Iv
open PySem L2
/-! ### != where there is no __ne__ -/
section
variable {prog : Program} {w : World} {A : Around} {E : Value → Shared → Prop} {s : Shared} {K : PySem.W.Frag} {x C f : Addr} {ox : Obj} {od : Option Obj} {b : Value}
theorem ne_bindO (self : Value) : bindSpecial (.builtin "object.__ne__") self = pure (.builtin "object.__ne__", [self]) :=
  (Slot.of (T := "object") (name := "__ne__") (owner := "object") (n := "__ne__") (by rw [typeLookup_type, builtinLookup_eq_fast]; kernel_rfl) (by decide +kernel) (by decide +kernel) (by decide +kernel)
    (.inl (by decide +kernel)) (by rw [isSubtype_type]; kernel_rfl)).bind self
theorem ne_entryO : entryFor table "object.__ne__" = some Builtin.«object.__ne__» := entryFor_of_tree (by kernel_rfl)
theorem ne_argsO (a b : Value) : argsOk "object.__ne__" ⟨[a, b], []⟩ := by unfold argsOk; kernel_rfl
theorem ne_callO {Q : Value → Shared → Prop} (X : K.In s.heap) (I : PySem.W.InstAt s.heap x ox C od) (hp : PySem.W.plainOver K C = true) (he : PySem.W.findIn K (.ref C) "__eq__" = some (some (.ref f))) (hf : PySem.W.isFn K (.ref f) = true) (hu : A.in1.units < cLine)
    (h : wpAny (model prog w) A.in1 (call (.ref f) [.ref x, b]) (PySem.W.BoolBack fun k s' => Q (.bool (!k)) s') E s) : wpAny (model prog w) A (call (.builtin "object.__ne__") [.ref x, b]) Q E s := by
  obtain ⟨cd, hc, ho⟩ := PySem.W.any_some hp
  have ne : cd.mro.isEmpty = false := by
    cases q : cd.mro with
    | nil => rw [q] at ho; cases ho
    | cons _ _ => rfl
  have sub : PySem.W.Looks (model prog w) s.heap (isInstance (.ref x) (.type "object")) true := I.type.andThen (PySem.W.looks_mroIn X (by unfold PySem.W.mroIn; rw [hc, Option.bind_some, if_neg (by rw [ne]; decide), PySem.W.only_has ho]))
  refine wpAny_call (codeAny_call_builtin (by decide +kernel) ne_entryO (@PySem.W.check_slot (model prog w) _ _ s "object.__ne__" "object" "__ne__" (.ref x) [b] [] _ (by decide +kernel) (by decide +kernel) sub (ne_argsO (.ref x) b) ?_))
  unfold Builtin.«object.__ne__»
  refine wpAny_bind (m := slotArgs "__ne__" 1 _) (wpAny_pure ?_)
  refine wpAny_bind (wpAny_cRoomFor hu ?_)
  refine wpAny_bind (m := callSpecialIfBound? (.ref x) (Str.ofString "__eq__") [b]) (PySem.W.ifBound_K X I he hf (wpAny_mono h (fun r s' hr => ?_) fun _ _ y => y))
  cases r <;> first | exact hr.elim | skip
  exact wpAny_bind (wpAny_pure (wpAny_pure hr))
end
/-! ### own classes: rules at the slots that stand -/
section
variable {X : Cx} {CX : CXT} {pins : List (Addr × Obj)} {σ : L2.St} {H : Hp} {s : Shared} {n : Nat} {g C a dx : Addr} {vs : List (Option V)} {sp : Sp} {E : XK}
/-- a def is called -/
theorem runC {A : Around} {Q : VK} {us : List Value} {ws : List V} (F : FnR X.prog X.w X.K X.mg X.base CX n g sp) (hr : Room n A) (e0 : Env0 X.prog X.w X.K X.mg X.base A X.stack s H) (hx : PassesAt CX X σ E) (I : Inv X pins σ H s) (rv : Vals ws us) (h : sp ws H Q E) :
    codeAny (model X.prog X.w) A (.call (.ref g) ⟨us, []⟩) (fun r s' => match r with | .ok (.ret v) => EP X pins σ Q v s' | .ok _ => False | .error e => X.xe e s') s := by
  have key := F A X.stack s H us ws Q E hr e0 rv h
  refine codeAny_mono key fun res s' hq => ?_
  match res, hq with
  | .error e, hq => exact hx pins H s e s' I hq
  | .ok (.ret u), hq => exact I.after hq
theorem runW {A : Around} {Q : VK} {us : List Value} {ws : List V} (F : FnR X.prog X.w X.K X.mg X.base CX n g sp) (hr : Room n A) (e0 : Env0 X.prog X.w X.K X.mg X.base A X.stack s H) (hx : PassesAt CX X σ E) (I : Inv X pins σ H s) (rv : Vals ws us) (h : sp ws H Q E) :
    wpAny (model X.prog X.w) A (call (.ref g) us) (EP X pins σ Q) X.xe s := wpAny_call (runC F hr e0 hx I rv h)
/-- a op b, whatever it reads -/
theorem pe_opS {l r : Expr} {pos : Pos} {op : Operator} {ta tb : TE} {rd : L2.St → V → V → Hp → VK → Prop} (ha : PE X l ta) (hb : PE X r tb)
    (ho : ∀ (pins : List (Addr × Obj)) (s : Shared) (σ : L2.St) (H : Hp) (x y : V) (v u : Value) (Q : VK), Inv X pins σ H s → RelV x v → RelV y u → rd σ x y H Q → wpAny (model X.prog X.w) X.A (binaryOp op v u) (EP X pins σ Q) X.xe s) :
    PE X (.BinOp l op r pos) (fun σ H Q => ta σ H fun x H1 => tb σ H1 fun y H2 => rd σ x y H2 Q) := by
  refine ⟨fun pins s σ H Q I h => wpAny_BinOp (binT ha hb I h fun v u s2 x y H2 I2 rx ry q => ?_)⟩
  exact ho pins s2 σ H2 x y v u Q I2 rx ry q
theorem pc_S {l r : Expr} {op : CmpOp} {ta tb : TE} {rd : L2.St → V → V → Hp → VK → Prop} (ha : PE X l ta) (hb : PE X r tb)
    (ho : ∀ (pins : List (Addr × Obj)) (s : Shared) (σ : L2.St) (H : Hp) (x y : V) (v u : Value) (Q : VK), Inv X pins σ H s → RelV x v → RelV y u → rd σ x y H Q → wpAny (model X.prog X.w) X.A (compareOp op v u) (EP X pins σ Q) X.xe s) :
    PC X op l r (fun σ H Q => ta σ H fun x H1 => tb σ H1 fun y H2 => rd σ x y H2 Q) := by
  refine ⟨fun pins s σ H Q I h => thn (ha.run pins s σ H _ I h) fun v s1 ⟨x, H1, I1, rx, q1⟩ => thn (hb.run pins s1 σ H1 _ I1 q1) fun u s2 ⟨y, H2, I2, ry, q2⟩ => ?_⟩
  exact ho pins s2 σ H2 x y v u Q I2 rx ry q2
/-- how the class at C does op: its def at g -/
structure OpOwn (K : PySem.W.Frag) (C g : Addr) (op : Operator) : Prop where
  first : PySem.W.selfFirst K C = true
  at_ : PySem.W.findIn K (.ref C) (PySem.dunder op.info.2) = some (some (.ref g))
  fn : PySem.W.isFn K (.ref g) = true
/-- .. with an int on the right -/
structure OpInt (K : PySem.W.Frag) (C g : Addr) (op : Operator) : Prop extends OpOwn K C g op where
  rc : ∃ rc : Option Value, PySem.W.findIn K (.ref C) (dunderR op.info.2) = some rc ∧ (rc = none ∨ ∃ g : Addr, rc = some (.ref g))
  ti : ∃ fo ro : Option Value, PySem.W.findIn K (.type "int") (PySem.dunder op.info.2) = some fo ∧ PySem.W.findIn K (.type "int") (dunderR op.info.2) = some ro
  sub : PySem.W.subIn K (.type "int") (.ref C) = some false
theorem bin_ins {op : Operator} {b dy : Addr} {ws : List (Option V)} {Q : VK} (k : OpOwn X.K C g op) (F : FnR X.prog X.w X.K X.mg X.base CX n g sp) (hr : Room n X.A) (hx : PassesAt CX X σ E) (I : Inv X pins σ H s) (ha : SlX.Slt H a C dx vs) (hb : SlX.Slt H b C dy ws)
    (h : sp [.ref a, .ref b] H Q E) : wpAny (model X.prog X.w) X.A (binaryOp op (.ref a) (.ref b)) (EP X pins σ Q) X.xe s := by
  obtain ⟨sl, od, _, J, _⟩ := SlX.slt_inst I ha
  obtain ⟨sl', od', _, J', _⟩ := SlX.slt_inst I hb
  obtain ⟨m, hF⟩ := I.fr
  refine PySem.W.binop_K hF I.ok.mod.kin J J'.type k.first k.at_ k.fn ?_
  exact thn (runW (us := [.ref a, .ref b]) (ws := [.ref a, .ref b]) F hr I.env0 hx I (.cons rfl (.cons rfl .nil)) h) fun w s' ⟨z, H', I', rz, qz⟩ => SlX.cmpback rz ⟨z, H', I', rz, qz⟩
theorem bin_int {op : Operator} {i : Int} {v : Value} {Q : VK} (k : OpInt X.K C g op) (F : FnR X.prog X.w X.K X.mg X.base CX n g sp) (hr : Room n X.A) (hx : PassesAt CX X σ E) (I : Inv X pins σ H s) (ha : SlX.Slt H a C dx vs) (rv : RelV (.int i) v)
    (h : sp [.ref a, .int i] H Q E) : wpAny (model X.prog X.w) X.A (binaryOp op (.ref a) v) (EP X pins σ Q) X.xe s := by
  obtain ⟨sl, od, _, J, _⟩ := SlX.slt_inst I ha
  obtain ⟨m, hF⟩ := I.fr
  obtain ⟨rc, k1, k2⟩ := k.rc
  obtain ⟨fo, ro, k3, k4⟩ := k.ti
  have rv' := rv
  obtain ⟨t, rfl⟩ := rv
  refine PySem.W.ksp_binT (T := "int") hF I.ok.mod.kin J rfl k.first k.at_ k.fn k1 k2 k3 k4 k.sub ?_
  exact thn (runW (us := [.ref a, .int i t]) (ws := [.ref a, .int i]) F hr I.env0 hx I (.cons rfl (.cons rv' .nil)) h) fun w s' ⟨z, H', I', rz, qz⟩ => SlX.cmpback rz ⟨z, H', I', rz, qz⟩
/-- a new instance: its slots are bare, its dict is empty -/
theorem runMake {f : Addr} {Q : VK} {us : List Value} {ws : List V} (M : Mk X.K C f) (F : FnR X.prog X.w X.K X.mg X.base CX n f sp) (hr : Room (n + 1) X.A) (hx : PassesAt CX X σ E) (I : Inv X pins σ H s) (rv : Vals ws us)
    (h : ∀ x dx, H x = none → H dx = none → dx ≠ x → sp (V.ref x :: ws) (upd (upd H dx (.xd [])) x (SlX.SlO x C dx [])) (fun v H2 => v = .non ∧ Q (.ref x) H2) E) :
    wpAny (model X.prog X.w) X.A (call (.ref C) us) (EP X pins σ Q) X.xe s := by
  have hne : s.heap.objs.size ≠ s.heap.objs.size + 1 := Nat.ne_of_lt (Nat.lt_succ_self _)
  have goal := h (s.heap.objs.size + 1) s.heap.objs.size (I.hok.fresh (Nat.le_succ _)) (I.hok.fresh (Nat.le_refl _)) hne
  have I2 := Inv.made (C := C) I
  have hget := (SlX.slt_at I2 (a := s.heap.objs.size + 1) (C := C) (dx := s.heap.objs.size) (vs := []) (.inl ⟨upd_same, rfl⟩))
  obtain ⟨_, sl, mA, e0, _, _, _⟩ := hget
  have I3 := SlX.inv_slot (vs' := []) (sl' := sl) (t' := s.toks) I2 (.inl ⟨upd_same, rfl⟩) (fun _ _ _ _ z => z) (fun _ z => z) e0 (SlX.SlR.nil _)
  have eH : SlX.slH (upd (upd H s.heap.objs.size (.own (s.heap.objs.size + 1))) (s.heap.objs.size + 1) (.ins C s.heap.objs.size [])) (s.heap.objs.size + 1) C s.heap.objs.size [] = upd (upd H s.heap.objs.size (.xd [])) (s.heap.objs.size + 1) (SlX.SlO (s.heap.objs.size + 1) C s.heap.objs.size []) := by
    funext b
    unfold SlX.slH
    by_cases h1 : b = s.heap.objs.size + 1
    · subst h1; rw [upd_same, upd_same]
    · by_cases h2 : b = s.heap.objs.size
      · subst h2; rw [upd_ne h1, upd_same, upd_ne h1, upd_same]
      · rw [upd_ne h1, upd_ne h2, upd_ne h1, upd_ne h2, upd_ne h1, upd_ne h2]
  rw [eH] at I3
  have r2 : Vals (V.ref (s.heap.objs.size + 1) :: ws) (Value.ref (s.heap.objs.size + 1) :: us) := .cons rfl rv
  refine wpAny_call (make_map (f := f) I.kIn M.makes M.init (beq_iff_eq.mp M.fn) ?_)
  refine codeAny_mono (F _ X.stack _ _ (Value.ref (s.heap.objs.size + 1) :: us) _ _ E (hr.make C us []) (I3.env0.make C us []) r2 goal) fun res s' hq => ?_
  match res, hq with
  | .error e, hq => exact hx pins _ _ e s' I3 hq
  | .ok (.ret u), hq =>
    obtain ⟨v, H', I4, rv', ev, q4⟩ := I3.after hq
    subst ev
    exact ⟨rv', V.ref (s.heap.objs.size + 1), H', I4, rfl, q4⟩
/-! ### the rules -/
variable {f p : Addr} {x m : Str} {e o : Expr} {es : List Expr} {ps pos apos : Pos} {ta : TE} {t : TA} {ES : L2.St → XK}
theorem pe_fn (F : FnR X.prog X.w X.K X.mg X.base CX n f sp) (hr : Room n X.A) (hg : Gl X x) (hm : X.mg x = some (.ref f)) (hk : PySem.W.keepIn X.K (.ref f) = true) (hx : ∀ σ, PassesAt CX X σ (ES σ)) (ha : PA X (e :: es) t)
    (hd : (x == ("__debug__" : Str)) = false) (h1 : starEach (e :: es) X.env = (false, eval e X.env) :: starEach es X.env) (h2 : (backTo pos (starEach es X.env)).any (·.1) = false) :
    PE X (.Call (.Name x ps) (e :: es) [] pos) (fun σ H Q => t σ H fun vs H1 => sp vs H1 Q (ES σ)) := by
  refine ⟨fun pins s σ H Q I hw => wpAny_Call_Name_kw (ld_glob I hg hm ?_ hd)⟩
  refine PySem.W.callWith_K (h₀ := X.base) I.ok.mod.kin hk ?_ h1 h2
  exact thn (ha.run pos pins s σ H _ I hw) fun us s1 ⟨vs, H1, I1, r, q⟩ => ⟨I1.kIn, runW F hr I1.env0 (hx σ) I1 r q⟩
theorem pe_fn0 (F : FnR X.prog X.w X.K X.mg X.base CX n f sp) (hr : Room n X.A) (hg : Gl X x) (hm : X.mg x = some (.ref f)) (hk : PySem.W.keepIn X.K (.ref f) = true) (hx : ∀ σ, PassesAt CX X σ (ES σ)) (hd : (x == ("__debug__" : Str)) = false) :
    PE X (.Call (.Name x ps) [] [] pos) (fun σ H Q => sp [] H Q (ES σ)) := by
  refine ⟨fun pins s σ H Q I hw => wpAny_Call_Name_kw (ld_glob I hg hm ?_ hd)⟩
  exact PySem.W.callWith_K0 I.kIn hk (runW (us := []) F hr I.env0 (hx σ) I .nil hw)
/-- C(..) -/
theorem pe_mk (M : Mk X.K C f) (F : FnR X.prog X.w X.K X.mg X.base CX n f sp) (hr : Room (n + 1) X.A) (hg : Gl X x) (hm : X.mg x = some (.ref C)) (hx : ∀ σ, PassesAt CX X σ (ES σ)) (ha : PA X (e :: es) t)
    (hd : (x == ("__debug__" : Str)) = false) (h1 : starEach (e :: es) X.env = (false, eval e X.env) :: starEach es X.env) (h2 : (backTo pos (starEach es X.env)).any (·.1) = false) :
    PE X (.Call (.Name x ps) (e :: es) [] pos) (fun σ H Q => t σ H fun vs H1 => ∀ x dx, H1 x = none → H1 dx = none → dx ≠ x → sp (V.ref x :: vs) (upd (upd H1 dx (.xd [])) x (SlX.SlO x C dx [])) (fun v H2 => v = .non ∧ Q (.ref x) H2) (ES σ)) := by
  refine ⟨fun pins s σ H Q I hw => wpAny_Call_Name_kw (ld_glob I hg hm ?_ hd)⟩
  refine PySem.W.callWith_K (h₀ := X.base) I.ok.mod.kin M.kp ?_ h1 h2
  exact thn (ha.run pos pins s σ H _ I hw) fun us s1 ⟨vs, H1, I1, r, q⟩ => ⟨I1.kIn, runMake M F hr (hx σ) I1 r q⟩
theorem pe_mk0 (M : Mk X.K C f) (F : FnR X.prog X.w X.K X.mg X.base CX n f sp) (hr : Room (n + 1) X.A) (hg : Gl X x) (hm : X.mg x = some (.ref C)) (hx : ∀ σ, PassesAt CX X σ (ES σ)) (hd : (x == ("__debug__" : Str)) = false) :
    PE X (.Call (.Name x ps) [] [] pos) (fun σ H Q => ∀ x dx, H x = none → H dx = none → dx ≠ x → sp [V.ref x] (upd (upd H dx (.xd [])) x (SlX.SlO x C dx [])) (fun v H2 => v = .non ∧ Q (.ref x) H2) (ES σ)) := by
  refine ⟨fun pins s σ H Q I hw => wpAny_Call_Name_kw (ld_glob I hg hm ?_ hd)⟩
  exact PySem.W.callWith_K0 I.kIn M.kp (runMake (us := []) M F hr (hx σ) I .nil hw)
/-- how a call of a method is read -/
theorem meth_eval {args : List Expr} {env : Env} (hb : attributeBase o m env (eval o env) = eval o env) (hf : methodCallForm (args.length + ([] : List Keyword).length) (backTo pos (starEach args env)) (backToKw pos (keywordEach [] env)) = true) (hl : (apos.endLine == pos.line) = true) :
    eval (.Call (.Attribute o m apos) args [] pos) env = (do
      let ov ← eval o env
      standAt apos.atName
      let (f, first) ← holding [ov] (getMethod ov m (do return (← importBound o env).getD true))
      callWith pos f first (backTo pos (starEach args env)) (backToKw pos (keywordEach [] env))) := by
  have e : eval (.Call (.Attribute o m apos) args [] pos) env = (do
    let ov ← attributeBase o m env (eval o env)
    standAt apos.atName
    methodCall o m apos pos env ov (args.length + ([] : List Keyword).length) (backTo pos (starEach args env)) (backToKw pos (keywordEach [] env))) := by rfl
  rw [e, hb]
  unfold methodCall
  rw [hf]
  unfold methodCallPos calleeOf
  simp only [hl, if_true, Bool.not_true, Bool.false_or, pure_bind]
/-- o.m(..) of a slotted instance -/
theorem pe_mth (he : PE X o ta) (c : SlX.SCls X.K C) (hm : Meth X.K C m g) (F : FnR X.prog X.w X.K X.mg X.base CX n g sp) (hr : Room n X.A) (hx : ∀ σ, PassesAt CX X σ (ES σ)) (ha : PA X (e :: es) t)
    (h1 : starEach (e :: es) X.env = (false, eval e X.env) :: starEach es X.env) (h2 : (backTo pos (starEach es X.env)).any (·.1) = false) (hb : attributeBase o m X.env (eval o X.env) = eval o X.env)
    (hf : methodCallForm ((e :: es).length + ([] : List Keyword).length) (backTo pos (starEach (e :: es) X.env)) (backToKw pos (keywordEach [] X.env)) = true) (hl : (apos.endLine == pos.line) = true) :
    PE X (.Call (.Attribute o m apos) (e :: es) [] pos) (fun σ H Q => ta σ H fun x H1 => ∃ a dx vs, x = .ref a ∧ SlX.Slt H1 a C dx vs ∧ t σ H1 fun ws H2 => sp (x :: ws) H2 Q (ES σ)) := by
  refine ⟨fun pins s σ H Q I hw => PySem.W.methodCall_KW (thn (he.run pins s σ H _ I hw) fun u s1 ⟨x, H1, I1, rx, a, dx, vs, ex, hsl, q⟩ => ?_) (meth_eval hb hf hl)⟩
  subst ex
  obtain rfl : u = Value.ref a := rx
  refine SlX.getmethsl_ok I1 hsl c hm (PySem.W.callWith_K (first := [.ref a]) (h₀ := X.base) I.ok.mod.kin hm.kp ?_ h1 h2)
  exact thn (ha.run pos pins s1 σ H1 _ I1 q) fun us s2 ⟨ws, H2, I2, r, q2⟩ => ⟨I2.kIn, runW (us := .ref a :: us) (ws := .ref a :: ws) F hr I2.env0 (hx σ) I2 (.cons rfl r) q2⟩
theorem pe_mth0 (he : PE X o ta) (c : SlX.SCls X.K C) (hm : Meth X.K C m g) (F : FnR X.prog X.w X.K X.mg X.base CX n g sp) (hr : Room n X.A) (hx : ∀ σ, PassesAt CX X σ (ES σ))
    (hb : attributeBase o m X.env (eval o X.env) = eval o X.env) (hl : (apos.endLine == pos.line) = true) :
    PE X (.Call (.Attribute o m apos) [] [] pos) (fun σ H Q => ta σ H fun x H1 => ∃ a dx vs, x = .ref a ∧ SlX.Slt H1 a C dx vs ∧ sp [x] H1 Q (ES σ)) := by
  refine ⟨fun pins s σ H Q I hw => PySem.W.methodCall_KW (thn (he.run pins s σ H _ I hw) fun u s1 ⟨x, H1, I1, rx, a, dx, vs, ex, hsl, q⟩ => ?_) (meth_eval hb rfl hl)⟩
  subst ex
  obtain rfl : u = Value.ref a := rx
  refine SlX.getmethsl_ok I1 hsl c hm (PySem.W.callWith_K0 (first := [.ref a]) I1.kIn hm.kp ?_)
  exact runW (us := [.ref a]) (ws := [.ref a]) F hr I1.env0 (hx σ) I1 (.cons rfl .nil) q
/-- C.m(..), m a classmethod -/
theorem runCm {q : Addr} {Q : VK} {us : List Value} {ws : List V} (F : FnR X.prog X.w X.K X.mg X.base CX n g sp) (hr : Room n X.A) (hx : PassesAt CX X σ E) (I : Inv X ((q, PySem.W.methodObj (.ref g) (.ref C)) :: pins) σ H s) (r : Vals ws us)
    (h : sp (.ref C :: ws) H Q E) : wpAny (model X.prog X.w) X.A (call (.ref q) us) (EP X pins σ Q) X.xe s := by
  have key : wpAny (model X.prog X.w) X.A (call (.ref q) us) (EP X ((q, PySem.W.methodObj (.ref g) (.ref C)) :: pins) σ Q) X.xe s :=
    wpAny_call (PySem.W.method_call (ClX.pin_at I) (runC (us := .ref C :: us) (ws := .ref C :: ws) F hr I.env0 hx I (.cons rfl r) h))
  exact thn key fun _ _ y => ClX.unpinE y
theorem pe_cm {mc : Value} (he : PE X o ta) (rd : ClX.CRead X.K C mc) (c : ClX.CMet X.K C mc m p g) (F : FnR X.prog X.w X.K X.mg X.base CX n g sp) (hr : Room n X.A) (hx : ∀ σ, PassesAt CX X σ (ES σ)) (ha : PA X (e :: es) t)
    (h1 : starEach (e :: es) X.env = (false, eval e X.env) :: starEach es X.env) (h2 : (backTo pos (starEach es X.env)).any (·.1) = false) (hb : attributeBase o m X.env (eval o X.env) = eval o X.env)
    (hf : methodCallForm ((e :: es).length + ([] : List Keyword).length) (backTo pos (starEach (e :: es) X.env)) (backToKw pos (keywordEach [] X.env)) = true) (hl : (apos.endLine == pos.line) = true) :
    PE X (.Call (.Attribute o m apos) (e :: es) [] pos) (fun σ H Q => ta σ H fun x H1 => x = .ref C ∧ t σ H1 fun ws H2 => sp (.ref C :: ws) H2 Q (ES σ)) := by
  refine ⟨fun pins s σ H Q I hw => PySem.W.methodCall_KW (thn (he.run pins s σ H _ I hw) fun u s1 ⟨x, H1, I1, rx, ex, q⟩ => ?_) (meth_eval hb hf hl)⟩
  subst ex
  obtain rfl : u = Value.ref C := rx
  refine ClX.getmethcm_ok I1 rd c fun s2 I2 => ClX.callwith_cm I2 (ClX.base_none I1 (Nat.le_refl _)) c.fi ?_ h1 h2
  exact thn (ha.run pos _ s2 σ H1 _ I2 q) fun us s3 ⟨ws, H2, I3, rv, q2⟩ => ⟨⟨ClX.pin_at I3, I3.kIn⟩, runCm F hr (hx σ) I3 rv q2⟩
theorem pe_cm0 {mc : Value} (he : PE X o ta) (rd : ClX.CRead X.K C mc) (c : ClX.CMet X.K C mc m p g) (F : FnR X.prog X.w X.K X.mg X.base CX n g sp) (hr : Room n X.A) (hx : ∀ σ, PassesAt CX X σ (ES σ))
    (hb : attributeBase o m X.env (eval o X.env) = eval o X.env) (hl : (apos.endLine == pos.line) = true) :
    PE X (.Call (.Attribute o m apos) [] [] pos) (fun σ H Q => ta σ H fun x H1 => x = .ref C ∧ sp [.ref C] H1 Q (ES σ)) := by
  refine ⟨fun pins s σ H Q I hw => PySem.W.methodCall_KW (thn (he.run pins s σ H _ I hw) fun u s1 ⟨x, H1, I1, rx, ex, q⟩ => ?_) (meth_eval hb rfl hl)⟩
  subst ex
  obtain rfl : u = Value.ref C := rx
  refine ClX.getmethcm_ok I1 rd c fun s2 I2 => PySem.W.callWith_M0 (K := X.K) (first := []) (self := .ref C) ⟨ClX.pin_at I2, I2.kIn⟩ c.fi ?_
  exact runCm (us := []) (ws := []) F hr (hx σ) I2 .nil q
/-! ### ==, len, bool -/
theorem eq_ins {op : CmpOp} {b C' dy : Addr} {ws : List (Option V)} {Q : VK} (hop : ∀ a b, compareOp op a b = richCompare op a b) (hs : PySem.W.findIn X.K (.ref C) (cmpInfo op).2.1 = some (some (.ref g))) (hf : PySem.W.isFn X.K (.ref g) = true) (hn : PySem.W.notFirst X.K C (.ref C') = true)
    (F : FnR X.prog X.w X.K X.mg X.base CX n g sp) (hr : Room n X.A) (hx : PassesAt CX X σ E) (I : Inv X pins σ H s) (ha : SlX.Slt H a C dx vs) (hb : SlX.Slt H b C' dy ws)
    (h : sp [.ref a, .ref b] H Q E) : wpAny (model X.prog X.w) X.A (compareOp op (.ref a) (.ref b)) (EP X pins σ Q) X.xe s := by
  obtain ⟨sl, od, _, J, _⟩ := SlX.slt_inst I ha
  obtain ⟨sl', od', _, J', _⟩ := SlX.slt_inst I hb
  obtain ⟨m, hF⟩ := I.fr
  rw [hop]
  refine PySem.W.cmp_K (op := op) (tb := .ref C') hr.units0 hF I.ok.mod.kin J J'.type hn hs hf ?_
  exact thn (runW (us := [.ref a, .ref b]) (ws := [.ref a, .ref b]) F hr I.env0 hx I (.cons rfl (.cons rfl .nil)) h) fun w s' ⟨z, H', I', rz, qz⟩ => SlX.cmpback rz ⟨z, H', I', rz, qz⟩
theorem len_ins {Q : VK} (hs : PySem.W.findIn X.K (.ref C) "__len__" = some (some (.ref g))) (hf : PySem.W.isFn X.K (.ref g) = true) (F : FnR X.prog X.w X.K X.mg X.base CX n g sp) (hr : Room (n + 1) X.A) (hx : PassesAt CX X σ E) (I : Inv X pins σ H s) (ha : SlX.Slt H a C dx vs)
    (h : sp [.ref a] H (fun z H' => ∃ i : Int, z = .int i ∧ (0 ≤ i ∧ i < 2 ^ 63) ∧ Q (.int i) H') E) : wpAny (model X.prog X.w) X.A (call (.builtin "len") [.ref a]) (EP X pins σ Q) X.xe s := by
  obtain ⟨sl, od, _, J, _⟩ := SlX.slt_inst I ha
  obtain ⟨m, hF⟩ := I.fr
  refine PySem.W.len_K hF I.ok.mod.kin J hs hf ?_
  refine thn (runW (us := [.ref a]) (ws := [.ref a]) F hr.in1 I.env0.in1 hx I (.cons rfl .nil) h) fun w s' ⟨z, H', I', rz, i, ei, hi, qz⟩ => ?_
  subst ei
  obtain ⟨t, rfl⟩ := rz
  exact ⟨hi, .int i, H', I'.tok _, ⟨_, rfl⟩, qz⟩
theorem ne_ins {b dy : Addr} {ws : List (Option V)} {Q : VK} (k1 : PySem.W.findIn X.K (.ref C) "__eq__" = some (some (.ref g))) (k2 : PySem.W.isFn X.K (.ref g) = true) (k3 : PySem.W.findIn X.K (.ref C) "__ne__" = some (some (.builtin "object.__ne__"))) (k4 : PySem.W.plainOver X.K C = true)
    (F : FnR X.prog X.w X.K X.mg X.base CX n g sp) (hr : Room (n + 1) X.A) (hx : PassesAt CX X σ E) (I : Inv X pins σ H s) (ha : SlX.Slt H a C dx vs) (hb : SlX.Slt H b C dy ws)
    (h : sp [.ref a, .ref b] H (fun z H' => ∃ k, z = .bl k ∧ Q (.bl (!k)) H') E) : wpAny (model X.prog X.w) X.A (compareOp .NotEq (.ref a) (.ref b)) (EP X pins σ Q) X.xe s := by
  obtain ⟨sl, od, _, J, _⟩ := SlX.slt_inst I ha
  obtain ⟨sl', od', _, J', _⟩ := SlX.slt_inst I hb
  have called : wpAny (model X.prog X.w) X.A (call (.builtin "object.__ne__") [.ref a, .ref b]) (EP X pins σ fun z H' => ∃ k, z = .bl k ∧ Q z H') X.xe s := by
    refine ne_callO I.kIn J k4 k1 k2 hr.in1.units0 ?_
    refine thn (runW (us := [.ref a, .ref b]) (ws := [.ref a, .ref b]) F hr.in1 I.env0.in1 hx I (.cons rfl (.cons rfl .nil)) h) fun w s' ⟨z, H', I', rz, k, ek, qz⟩ => ?_
    subst ek
    cases (show w = Value.bool k from rz)
    exact ⟨.bl (!k), H', I', rfl, _, rfl, qz⟩
  have one : wpAny (model X.prog X.w) X.A (tryCompare (.ref a) (cmpInfo .NotEq).2.1 (.ref b)) (fun r s' => ∃ v, r = some v ∧ EP X pins σ Q v s') X.xe s := by
    unfold tryCompare
    refine wpAny_bind ?_
    simp only [callSpecialIfBound?, bindSpecialIfBound?]
    refine wpAny_holding (wpAny_bind (wpAny_bind (wpAny_bind (J.type.here ((PySem.W.looks_findIn I.kIn k3).here ?_)))))
    have last : wpAny (model X.prog X.w) X.A (call (.builtin "object.__ne__") ([.ref a] ++ [.ref b]) >>= fun v => pure (some v)) (fun r s' => wpAny (model X.prog X.w) X.A (match r with
      | some .notImplemented | none => pure none
      | some v => pure (some v)) (fun r s' => ∃ v, r = some v ∧ EP X pins σ Q v s') X.xe s') X.xe s := by
      refine wpAny_bind (thn called fun v s' ⟨z, H', I', rz, k, ek, qz⟩ => wpAny_pure ?_)
      subst ek
      cases (show v = Value.bool k from rz)
      exact wpAny_pure ⟨_, rfl, .bl k, H', I', rfl, qz⟩
    refine wpAny_bind (wpAny_askSetting (wpAny_ite ?_))
    split
    · exact wpAny_bind (by rw [ne_bindO]; exact wpAny_pure (wpAny_pure (by exact last)))
    · exact wpAny_tryCatch (wpAny_bind (by rw [ne_bindO]; exact wpAny_pure (wpAny_pure (by exact last))))
  show wpAny (model X.prog X.w) X.A (richCompare .NotEq (.ref a) (.ref b)) (EP X pins σ Q) X.xe s
  unfold richCompare
  simp only [oneThing_ref]
  refine wpAny_holding (wpAny_bind (wpAny_cRoomFor hr.units0 ?_))
  refine wpAny_bind (J.type.here (wpAny_bind (J'.type.here ?_)))
  simp only [bne_self_eq_false, Bool.false_eq_true, if_false]
  refine wpAny_bind (wpAny_pure ?_)
  simp only [Bool.false_eq_true, if_false]
  refine wpAny_bind (wpAny_mono one (fun r s' z => ?_) fun _ _ e => e)
  obtain ⟨v, rfl, hq⟩ := z
  exact wpAny_pure hq
end
end Iv
end
section
set_option autoImplicit false
set_option maxRecDepth 100000
set_option maxHeartbeats 4000000
namespace Iv
open PySem L2
theorem PE.imp {X : Cx} {e : Expr} {t t' : TE} (h : PE X e t) (k : ∀ σ H Q, t' σ H Q → t σ H Q) : PE X e t' := ⟨fun pins s σ H Q I hw => h.run pins s σ H Q I (k _ _ _ hw)⟩
theorem PT.imp {X : Cx} {e : Expr} {t t' : TT} (h : PT X e t) (k : ∀ σ H Q, t' σ H Q → t σ H Q) : PT X e t' := ⟨fun pins s σ H Q I hw => h.run pins s σ H Q I (k _ _ _ hw)⟩
theorem PA.imp {X : Cx} {es : List Expr} {t t' : TA} (h : PA X es t) (k : ∀ σ H Q, t' σ H Q → t σ H Q) : PA X es t' := ⟨fun pos pins s σ H Q I hw => h.run pos pins s σ H Q I (k _ _ _ hw)⟩
theorem PO.imp {X : Cx} {e : Option Expr} {t t' : TO} (h : PO X e t) (k : ∀ σ H Q, t' σ H Q → t σ H Q) : PO X e t' := ⟨fun pins s σ H Q I hw => h.run pins s σ H Q I (k _ _ _ hw)⟩
theorem PS.imp {X : Cx} {e : Stmt} {t t' : TS} (h : PS X e t) (k : ∀ D σ H, t' D σ H → t D σ H) : PS X e t' := ⟨fun pins s σ H D I hw => h.run pins s σ H D I (k _ _ _ hw)⟩
theorem PSs.imp {X : Cx} {e : List Stmt} {t t' : TS} (h : PSs X e t) (k : ∀ D σ H, t' D σ H → t D σ H) : PSs X e t' := ⟨fun pins s σ H D I hw => h.run pins s σ H D I (k _ _ _ hw)⟩

abbrev RVs (K : Fg) (G : Hp) (m : List Addr) : List Vl → List V → Prop := Paired (RepV K G m)
theorem Out.gives {xs : List Xc} {mg : Str → Option Value} {K : Fg} {W : WX} {σ : L2.St} {F G H : Hp} {m : List Addr} {Q : VK} {d : D} {S : Hs} (h : OutV xs mg K W F σ G m Q (.ok (.d d) S)) (l : Rl K F G m S H) : Gives K G H d Q :=
  fun v G' H' a r => h G' m H' v (a.grow l.ext) (l.al a) r
theorem Out.optD {xs : List Xc} {mg : Str → Option Value} {K : Fg} {W : WX} {σ : L2.St} {F G H : Hp} {m : List Addr} {Q : VK} {o : Option D} {S : Hs} (h : OutV xs mg K W F σ G m Q (R.opt (o.map .d) S)) (l : Rl K F G m S H) : ∃ d, o = some d ∧ Gives K G H d Q := by
  cases o with
  | none => exact h.elim
  | some d => exact ⟨d, rfl, Out.gives h l⟩
theorem dsOf_reps {K : Fg} {G : Hp} {m : List Addr} : ∀ {vs : List Vl} {us : List V} {xs : List D}, RVs K G m vs us → dsOf vs = some xs → Reps K G xs us
  | [], _, xs, .nil, h => by simp only [dsOf, Option.some.injEq] at h; subst h; exact .nil
  | .d x :: vs, _, xs, .cons r q, h => by
    simp only [dsOf] at h
    cases e : dsOf vs with
    | none => rw [e] at h; cases h
    | some ys => rw [e] at h; cases h; exact .cons r (dsOf_reps q e)
  | .loc _ :: _, _, _, .cons _ _, h => by simp [dsOf] at h
  | .xc _ _ :: _, _, _, .cons _ _, h => by simp [dsOf] at h
theorem rdV_rd {K : Fg} {F G H : Hp} {m : List Addr} {S : Hs} {v : Vl} {u : V} {d : D} (l : Rl K F G m S H) (r : RepV K G m v u) (h : rdV v S = some d) : Rd' K G H d u := by
  cases v with
  | d x => simp only [rdV, Option.some.injEq] at h; subst h; exact .inl r
  | loc n =>
    obtain ⟨a, ha, rfl⟩ := r
    simp only [rdV] at h
    cases e : S[n]? with
    | none => rw [e] at h; cases h
    | some o =>
      rw [e] at h
      cases o with
      | lst xs =>
        cases h
        obtain ⟨_, vs, h2, h3⟩ := (l.ob n a _ ha e).lst
        exact .inr ⟨a, xs, vs, rfl, rfl, h2, h3⟩
      | dct _ => cases h
      | ins _ _ => cases h
      | dead => cases h
  | xc _ _ => cases h
theorem rdVs_rd {K : Fg} {F G H : Hp} {m : List Addr} {S : Hs} (l : Rl K F G m S H) : ∀ {vs : List Vl} {us : List V} {xs : List D}, RVs K G m vs us → rdVs vs S = some xs → Paired (Rd' K G H) xs us
  | [], _, xs, .nil, h => by simp only [rdVs, Option.some.injEq] at h; subst h; exact .nil
  | v :: vs, _, xs, .cons r q, h => by
    simp only [rdVs] at h
    cases e : rdV v S with
    | none => rw [e] at h; cases h
    | some y =>
      rw [e] at h
      cases e2 : rdVs vs S with
      | none => rw [Option.bind_some, e2] at h; cases h
      | some ys => rw [Option.bind_some, e2] at h; cases h; exact .cons (rdV_rd l r e) (rdVs_rd l q e2)

/-! ### where one stands -/
/-- a call's promise -/
def spC (nm : Nm) (mg : Str → Option Value) (K : Fg) (c : List Vl → Hs → R Vl) : Sp := fun us H Q E =>
  ∃ (F G : Hp) (m : List Addr) (vs : List Vl) (S : Hs), Rl K F G m S H ∧ RVs K G m vs us ∧ OutV nm.excs mg K (fun cls d _ H => E cls d H) F [] G m Q (c vs S)
/-- where the def f stands -/
abbrev fa (cl : Nat → Addr) (f : Nat) : Addr := cl (f + 4096)
/-- what the class c must have for isinstance -/
structure IsC (K : PySem.W.Frag) (cl : Nat → Addr) (b : Bool) (j c : Nat) : Prop where
  s : SlX.SCls K (cl c)
  i : SlX.SIsi K (cl c)
  k : PySem.W.kitOne K (.ref (cl c)) (.ref (cl j)) = some b
/-- a property of the class at C: its record at p, its getter at g -/
structure PrK (K : PySem.W.Frag) (C : Addr) (f : Str) (p g : Addr) : Prop where
  at_ : PySem.W.findIn K (.ref C) f = some (some (.ref p))
  get : PySem.W.specialIn K (.ref p) "__get__" = some (some (.builtin "property.__get__"))
  tk : PySem.W.takesIn K (.ref p) = some true
  rc : ∃ rest, PySem.W.recIn K p "property" = some (.ref g :: rest)
structure Md (nm : Nm) (cl : Nat → Addr) (P : Prg) (cal : Cal) (n : Nat) (prog : Program) (w : World) (K : PySem.W.Frag) (mg : Str → Option Value) (base : Heap) : Prop where
  fn : ∀ f : Nat, f < nm.nf → FnR prog w K mg base (L2.CX prog w) (3 * n) (fa cl f) (spC nm mg ⟨K, cl⟩ (cal f))
  bad : ∀ f : Nat, ¬ f < nm.nf → ∀ vs S, cal f vs S = .bad
  gf : ∀ (f : Nat) (x : Str), nm.fns[f]? = some x → f < nm.nf ∧ mg x = some (.ref (fa cl f)) ∧ PySem.W.keepIn K (.ref (fa cl f)) = true
  gl : ∀ (g : Nat) (x : Str) (d : D), nm.globs[g]? = some x → P.globs[g]? = some d → ∃ (u : Value) (v : V), mg x = some u ∧ RelV v u ∧ ∀ G, Rep ⟨K, cl⟩ G d v
  bt : ∀ b : Bi, mg (biName b) = none
  bo : ∀ x ∈ (["isinstance", "range", "zip", "enumerate", "bool", "dict", "sorted"] : List Str), mg x = none
  op : ∀ (o : BOp) (c f : Nat), P.opf o c = some f → OpInt K (cl c) (fa cl f) (bop o)
  eq : ∀ c f : Nat, P.eqf c = some f → PySem.W.findIn K (.ref (cl c)) "__eq__" = some (some (.ref (fa cl f))) ∧ PySem.W.isFn K (.ref (fa cl f)) = true ∧ PySem.W.findIn K (.ref (cl c)) "__ne__" = some (some (.builtin "object.__ne__")) ∧ PySem.W.plainOver K (cl c) = true
  ln : ∀ c f : Nat, P.lnf c = some f → PySem.W.findIn K (.ref (cl c)) "__len__" = some (some (.ref (fa cl f))) ∧ PySem.W.isFn K (.ref (fa cl f)) = true
  bl : ∀ c f : Nat, P.bof c = some f → PySem.W.findIn K (.ref (cl c)) "__bool__" = some (some (.ref (fa cl f))) ∧ PySem.W.isFn K (.ref (fa cl f)) = true
  mkk : ∀ (j : Nat) (q : Nat × Nat), P.mks[j]? = some q → q.2 < nm.nf ∧ Mk K (cl q.1) (fa cl q.2)
  mn : ∀ (j : Nat) (q : Nat × Nat) (x : Str), P.mks[j]? = some q → nm.mks[j]? = some x → mg x = some (.ref (cl q.1))
  sl : ∀ (j : Nat) (q : Nat × Nat) (x : Str), P.sls[j]? = some q → nm.sls[j]? = some x → SlX.SCls K (cl q.1) ∧ ∃ p, SlX.Slot1 K (cl q.1) x p q.2
  mt : ∀ (j : Nat) (q : Nat × Nat) (x : Str), P.mts[j]? = some q → nm.mts[j]? = some x → q.2 < nm.nf ∧ SlX.SCls K (cl q.1) ∧ Meth K (cl q.1) x (fa cl q.2)
  pr : ∀ (j : Nat) (q : Nat × Nat) (x : Str), P.prs[j]? = some q → nm.prs[j]? = some x → q.2 < nm.nf ∧ SlX.SCls K (cl q.1) ∧ ∃ p, PrK K (cl q.1) x p (fa cl q.2)
  cm : ∀ (j : Nat) (q : Nat × Nat) (c x : Str), P.cms[j]? = some q → nm.cms[j]? = some (c, x) → q.2 < nm.nf ∧ mg c = some (.ref (cl q.1)) ∧ ∃ mc p, ClX.CRead K (cl q.1) mc ∧ ClX.CMet K (cl q.1) mc x p (fa cl q.2)
  is : ∀ (j : Nat) (x : Str), nm.cls[j]? = some x → mg x = some (.ref (cl j)) ∧ (∀ T ∈ (["NoneType", "bool", "int", "str", "tuple", "list", "dict"] : List String), PySem.W.kitOne K (.type T) (.ref (cl j)) = some false)
  isc : ∀ (j : Nat) (x : Str) (c : Nat) (b : Bool), nm.cls[j]? = some x → P.isc c j = some b → IsC K cl b j c
structure Ck (nm : Nm) (cl : Nat → Addr) (P : Prg) (cal : Cal) (n : Nat) (X : Cx) (W : WX) : Prop where
  calm : X.calm = true
  nodup : X.N.Nodup
  tk : Takes X W
  po : PassesOwn (model X.prog X.w) X.A X.env X.xe
  room : Room (3 * n + 2) X.A
  md : Md nm cl P cal n X.prog X.w X.K X.mg X.base
abbrev TX (nm : Nm) (cl : Nat → Addr) (X : Cx) (W : WX) (f : Ev → Hs → R Vl) : TE := tX nm.excs X.mg (kx cl X) W (RepV (kx cl X)) f
abbrev TXs (nm : Nm) (cl : Nat → Addr) (X : Cx) (W : WX) (f : Ev → Hs → R (List Vl)) : TA := tX nm.excs X.mg (kx cl X) W (RVs (kx cl X)) f
section
variable {nm : Nm} {cl : Nat → Addr} {P : Prg} {cal : Cal} {n : Nat} {X : Cx} {W : WX} {e l r : Expr} {es : List Expr} {pos : Pos} {x y z : Ex}
theorem okN_d {s : Str} (h : okN s = true) : (s == ("__debug__" : Str)) = false ∧ (s == ("__classdict__" : Str)) = false ∧ s ≠ ("__name__" : Str) := by
  unfold okN at h
  simp only [Bool.and_eq_true, Bool.not_eq_true', decide_eq_false_iff_not] at h
  exact ⟨h.1.1, h.1.2, h.2⟩
theorem visB_d {sc : Scope} {s : Str} (h : visB sc s = true) : Vis sc s := by
  unfold visB at h
  split at h
  · exact .inl (by assumption)
  · exact .inr (.inl (by assumption))
  · exact .inr (.inr (by assumption))
  · cases h
theorem glB_d {sc : Scope} {s : Str} (h : glB sc s = true) : sc.names.lookup s = some .globalImplicit := of_decide_eq_true h
theorem e_var {i : Nat} {s : Str} (hN : X.N[i]? = some s) (hv : visB X.env.scope s = true) (ho : okN s = true) : PE X (.Name s pos) (TX nm cl X W (ev P cal (.var i))) := by
  refine PE.imp (pe_var hN (visB_d hv) (okN_d ho).1 (okN_d ho).2.1) fun σ H Q ⟨F, G, m, r, S, rl, rv, o⟩ => ?_
  simp only [ev] at o
  split at o
  · rename_i x hr
    obtain ⟨u, h1, h2⟩ := rv.2 i _ hr (fun _ _ z => by cases z)
    exact ⟨u, h1, o G m H u .refl rl (Rep.wk h2)⟩
  · rename_i x hr
    obtain ⟨u, h1, h2⟩ := rv.2 i _ hr (fun _ _ z => by cases z)
    exact ⟨u, h1, o G m H u .refl rl h2⟩
  · exact o.elim
theorem e_varp {i : Nat} {s : Str} (hN : X.N[i]? = some s) (hv : visB X.env.scope s = true) (ho : okN s = true) : PE X (.Name s pos) (TX nm cl X W (ev P cal (.varp i))) := by
  refine PE.imp (pe_var hN (visB_d hv) (okN_d ho).1 (okN_d ho).2.1) fun σ H Q ⟨F, G, m, r, S, rl, rv, o⟩ => ?_
  simp only [ev] at o
  split at o
  · rename_i x hr
    obtain ⟨u, h1, h2⟩ := rv.2 i _ hr (fun _ _ z => by cases z)
    exact ⟨u, h1, o G m H u .refl rl h2⟩
  · exact o.elim
theorem e_glob {g : Nat} {s : Str} (C : Ck nm cl P cal n X W) (hg : nm.globs[g]? = some s) (h1 : glB X.env.scope s = true) (ho : okN s = true) : PE X (.Name s pos) (TX nm cl X W (ev P cal (.glob g))) := by
  cases e : P.globs[g]? with
  | none => exact ⟨fun pins s σ H Q I ⟨F, G, m, r, S, rl, rv, o⟩ => by simp only [ev, e] at o; exact o.elim⟩
  | some d =>
    obtain ⟨u, v, q1, q2, q3⟩ := C.md.gl g s d hg e
    refine PE.imp (pe_glob (glB_d h1) q1 q2 (okN_d ho).1) fun σ H Q ⟨F, G, m, r, S, rl, rv, o⟩ => ?_
    simp only [ev, e] at o
    exact o G m H v .refl rl (q3 G)
theorem e_const {c : PySem.Const} {j : Nat} {v : V} {d : D} (h : PE X (.Constant c j pos) (tC v)) (hx : ∀ r S, ev P cal x r S = .ok (.d d) S) (hr : ∀ G, Rep (kx cl X) G d v) : PE X (.Constant c j pos) (TX nm cl X W (ev P cal x)) := by
  refine PE.imp h fun σ H Q ⟨F, G, m, r, S, rl, rv, o⟩ => ?_
  rw [hx] at o
  exact o G m H v .refl rl (hr G)
theorem Out.wish {xs : List Xc} {mg : Str → Option Value} {K : Fg} {W : WX} {σ : L2.St} {F G : Hp} {m : List Addr} {Q : VK} {x : R Vl} (h : OutV xs mg K W F σ G m Q x) : OutV xs mg K (fun cls d _ H => WE W σ cls d H) F [] G m Q x := by
  cases x with
  | ok v S => exact h
  | exc c fs S => exact h
  | bad => exact h
/-- a def of the program, as it may be called here -/
theorem Ck.go (C : Ck nm cl P cal n X W) {f : Nat} : ∃ sp : Sp, (f < nm.nf → FnR X.prog X.w X.K X.mg X.base (L2.CX X.prog X.w) (3 * n) (fa cl f) sp) ∧
    ∀ (σ : L2.St) (F G : Hp) (m : List Addr) (vs : List Vl) (us : List V) (S : Hs) (H : Hp) (Q : VK), Rl (kx cl X) F G m S H → RVs (kx cl X) G m vs us → OutV nm.excs X.mg (kx cl X) W F σ G m Q (cal f vs S) → f < nm.nf ∧ sp us H Q (WE W σ) := by
  by_cases hf : f < nm.nf
  · exact ⟨_, fun _ => C.md.fn f hf, fun σ F G m vs us S H Q l r out => ⟨hf, F, G, m, vs, S, l, r, Out.wish out⟩⟩
  · exact ⟨fun _ _ _ _ => True, fun h => absurd h hf, fun σ F G m vs us S H Q l r out => by rw [C.md.bad f hf] at out; exact out.elim⟩
theorem rep_slt {K : Fg} {G H : Hp} {c : Nat} {fs : List D} {u : V} (e : Ext G H) (r : Rep K G (.ins c fs) u) : ∃ a dx vs, u = .ref a ∧ SlX.Slt H a (K.cl c) dx vs := by
  cases r with
  | ins h1 h2 _ _ => exact ⟨_, _, _, rfl, .inr ⟨e _ _ h1, e _ _ h2⟩⟩
/-- an operator by a def of the class -/
def rOwnB (nm : Nm) (cl : Nat → Addr) (P : Prg) (cal : Cal) (X : Cx) (W : WX) (o : BOp) : L2.St → V → V → Hp → VK → Prop := fun σ x y H Q =>
  ∃ (c f : Nat) (F G : Hp) (m : List Addr) (fs : List D) (d : D) (S : Hs), P.opf o c = some f ∧ okR c d = true ∧ Rl (kx cl X) F G m S H ∧ Rep (kx cl X) G (.ins c fs) x ∧ Rep (kx cl X) G d y ∧ OutV nm.excs X.mg (kx cl X) W F σ G m Q (cal f [.d (.ins c fs), .d d] S)
theorem op_ownB {o : BOp} (C : Ck nm cl P cal n X W) {pins : List (Addr × Obj)} {s : Shared} {σ : L2.St} {H : Hp} {x y : V} {v u : Value} {Q : VK} (I : Inv X pins σ H s) (rx : RelV x v) (ry : RelV y u) (h : rOwnB nm cl P cal X W o σ x y H Q) :
    wpAny (model X.prog X.w) X.A (binaryOp (bop o) v u) (EP X pins σ Q) X.xe s := by
  obtain ⟨c, f, F, G, m, fs, d, S, hp, ho, l, r1, r2, out⟩ := h
  obtain ⟨sp, g1, g2⟩ := C.go (f := f)
  obtain ⟨hf, hs⟩ := g2 σ F G m [.d (.ins c fs), .d d] [x, y] S H Q l (.cons r1 (.cons r2 .nil)) out
  obtain ⟨a, dx, vs, rfl, sl⟩ := rep_slt l.ext r1
  obtain rfl : v = Value.ref a := rx
  have k := C.md.op o c f hp
  cases d with
  | ins c' fs' =>
    have e : c' = c := eq_of_beq ho
    subst e
    obtain ⟨b, dy, ws, rfl, sl'⟩ := rep_slt l.ext r2
    obtain rfl : u = Value.ref b := ry
    exact bin_ins k.toOpOwn (g1 hf) (C.room.mono (by omega)) (passAt C.tk σ) I sl sl' hs
  | int i =>
    cases r2
    exact bin_int k (g1 hf) (C.room.mono (by omega)) (passAt C.tk σ) I sl ry hs
  | _ => cases ho
theorem e_bin {o : BOp} (C : Ck nm cl P cal n X W) (ha : PE X l (TX nm cl X W (ev P cal x))) (hb : PE X r (TX nm cl X W (ev P cal y))) : PE X (.BinOp l (bop o) r pos) (TX nm cl X W (ev P cal (.bin o x y))) := by
  refine PE.imp (pe_opS (rd := fun σ x y H Q => rB (kx cl X) o x y H Q ∨ rOwnB nm cl P cal X W o σ x y H Q) ha hb fun pins s σ H x y v u Q I rx ry h => h.elim (op_rB (cl := cl) o pins s σ H x y v u Q I rx ry) (op_ownB C I rx ry)) fun σ H Q ⟨F, G, m, r, S, rl, rv, out⟩ => ?_
  simp only [ev] at out
  refine tX.bind rl rv out fun u1 H1 G1 m1 v1 S1 g1 l1 rv1 r1 out => ?_
  refine tX.bind l1 rv1 out fun u2 H2 G2 m2 v2 S2 g2 l2 rv2 r2 out => ?_
  cases v1 with
  | loc _ => exact out.elim
  | xc _ _ => exact out.elim
  | d a =>
  cases v2 with
  | loc _ => cases a <;> exact out.elim
  | xc _ _ => cases a <;> exact out.elim
  | d b =>
  cases a with
  | ins c fs =>
    dsimp only at out
    by_cases hk : okR c b = true
    · rw [if_pos hk] at out
      cases hf : P.opf o c with
      | none => rw [hf] at out; exact out.elim
      | some f => rw [hf] at out; exact .inr ⟨c, f, F, G2, m2, fs, b, S2, hf, hk, l2, Rep.mono g2.1 r1, r2, out⟩
    · rw [if_neg hk] at out; exact out.elim
  | _ =>
    obtain ⟨d, hd, g⟩ := Out.optD out l2
    exact .inl ⟨G2, _, _, d, l2.ext, Rep.mono g2.1 r1, r2, hd, g⟩
theorem e_neg (ha : PE X l (TX nm cl X W (ev P cal x))) : PE X (.UnaryOp .USub l pos) (TX nm cl X W (ev P cal (.neg x))) := by
  refine PE.imp (pe_un un_neg ha) fun σ H Q ⟨F, G, m, r, S, rl, rv, out⟩ => ?_
  simp only [ev] at out
  refine tX.bind rl rv out fun u1 H1 G1 m1 v1 S1 g1 l1 rv1 r1 out => ?_
  split at out
  · cases r1; exact ⟨_, rfl, (Out.gives out l1).here (.int _)⟩
  · exact out.elim
theorem behind_e {sc : Scope} {N : List Str} (h : isE nm N sc y r = true) (op : CmpOp) : behindInMarks op r = false := by
  cases r with
  | Set _ _ _ => cases y <;> cases h
  | _ => rfl
/-- == and != by the class's __eq__ -/
def rOwnC (nm : Nm) (cl : Nat → Addr) (P : Prg) (cal : Cal) (X : Cx) (W : WX) (o : COp) : L2.St → V → V → Hp → VK → Prop := fun σ x y H Q =>
  ∃ (c f : Nat) (F G : Hp) (m : List Addr) (fs : List D) (d : D) (S : Hs), P.eqf c = some f ∧ okE c d = true ∧ Rl (kx cl X) F G m S H ∧ Rep (kx cl X) G (.ins c fs) x ∧ Rep (kx cl X) G d y ∧
    ((o = .eq ∧ OutV nm.excs X.mg (kx cl X) W F σ G m Q (cal f [.d (.ins c fs), .d d] S)) ∨
     (o = .ne ∧ OutV nm.excs X.mg (kx cl X) W F σ G m (fun z H' => ∃ k, z = .bl k ∧ Q (.bl (!k)) H') (cal f [.d (.ins c fs), .d d] S)))
theorem op_ownC {o : COp} (C : Ck nm cl P cal n X W) {pins : List (Addr × Obj)} {s : Shared} {σ : L2.St} {H : Hp} {x y : V} {v u : Value} {Q : VK} (I : Inv X pins σ H s) (rx : RelV x v) (ry : RelV y u) (h : rOwnC nm cl P cal X W o σ x y H Q) :
    wpAny (model X.prog X.w) X.A (compareOp (cop o) v u) (EP X pins σ Q) X.xe s := by
  obtain ⟨c, f, F, G, m, fs, d, S, hp, ho, l, r1, r2, h⟩ := h
  obtain ⟨sp, g1, g2⟩ := C.go (f := f)
  obtain ⟨k1, k2, k3, k4⟩ := C.md.eq c f hp
  obtain ⟨a, dx, vs, rfl, sl⟩ := rep_slt l.ext r1
  obtain rfl : v = Value.ref a := rx
  cases d with
  | ins c' fs' =>
    have e : c' = c := eq_of_beq ho
    subst e
    obtain ⟨b, dy, ws, rfl, sl'⟩ := rep_slt l.ext r2
    obtain rfl : u = Value.ref b := ry
    rcases h with ⟨rfl, out⟩ | ⟨rfl, out⟩
    · obtain ⟨hf, hs⟩ := g2 σ F G m [.d (.ins c' fs), .d (.ins c' fs')] [.ref a, .ref b] S H Q l (.cons r1 (.cons r2 .nil)) out
      exact eq_ins (op := .Eq) (fun _ _ => rfl) k1 k2 (by unfold PySem.W.notFirst; simp) (g1 hf) (C.room.mono (by omega)) (passAt C.tk σ) I sl sl' hs
    · obtain ⟨hf, hs⟩ := g2 σ F G m [.d (.ins c' fs), .d (.ins c' fs')] [.ref a, .ref b] S H _ l (.cons r1 (.cons r2 .nil)) out
      exact ne_ins k1 k2 k3 k4 (g1 hf) (C.room.mono (by omega)) (passAt C.tk σ) I sl sl' hs
  | _ => cases ho
theorem cmp_read {o : COp} {σ : L2.St} {H : Hp} {Q : VK} (h : TX nm cl X W (ev P cal (.cmp o x y)) σ H Q) :
    TX nm cl X W (ev P cal x) σ H fun a H1 => TX nm cl X W (ev P cal y) σ H1 fun b H2 => rC (kx cl X) o a b H2 Q ∨ rOwnC nm cl P cal X W o σ a b H2 Q := by
  obtain ⟨F, G, m, r, S, rl, rv, out⟩ := h
  simp only [ev] at out
  refine tX.bind rl rv out fun u1 H1 G1 m1 v1 S1 g1 l1 rv1 r1 out => ?_
  refine tX.bind l1 rv1 out fun u2 H2 G2 m2 v2 S2 g2 l2 rv2 r2 out => ?_
  cases ea : rdV v1 S2 with
  | none => rw [ea] at out; exact out.elim
  | some a =>
  cases eb : rdV v2 S2 with
  | none => rw [ea, eb] at out; cases a <;> exact out.elim
  | some b =>
  rw [ea, eb] at out
  have q1 := rdV_rd l2 (r1.mono g2) ea
  have q2 := rdV_rd l2 r2 eb
  cases a with
  | ins c fs =>
    dsimp only at out
    by_cases hk : okE c b = true
    · rw [if_pos hk] at out
      cases hf : P.eqf c with
      | none => rw [hf] at out; exact out.elim
      | some f =>
        rw [hf] at out
        have z1 : Rep (kx cl X) G2 (.ins c fs) u1 := by
          rcases q1 with q | ⟨_, _, _, q, _⟩
          · exact q
          · cases q
        have z2 : Rep (kx cl X) G2 b u2 := by
          rcases q2 with q | ⟨_, _, _, q, _⟩
          · exact q
          · subst q; cases hk
        refine .inr ⟨c, f, F, G2, m2, fs, b, S2, hf, hk, l2, z1, z2, ?_⟩
        cases o with
        | eq => exact .inl ⟨rfl, out⟩
        | ne =>
          refine .inr ⟨rfl, (Out.bind (RR := RepV (kx cl X)) out).imp fun u' H' ⟨G3, m3, v3, S3, g3, l3, r3, o3⟩ => ?_⟩
          cases v3 with
          | loc _ => exact o3.elim
          | xc _ _ => exact o3.elim
          | d w =>
            cases w with
            | bl k => cases r3; exact ⟨k, rfl, (Out.gives o3 l3).here (.bl _)⟩
            | _ => exact o3.elim
        | _ => exact out.elim
    · rw [if_neg hk] at out; exact out.elim
  | _ =>
    refine .inl ?_
    cases hk : cmpD o _ b with
    | none => dsimp only at out; rw [hk] at out; exact out.elim
    | some k =>
      dsimp only at out
      rw [hk] at out
      exact ⟨G2, _, b, k, l2.ext, q1, q2, hk, (Out.gives out l2).here (.bl k)⟩
theorem pc_own {o : COp} (C : Ck nm cl P cal n X W) (ha : PE X l (TX nm cl X W (ev P cal x))) (hb : PE X r (TX nm cl X W (ev P cal y))) :
    PC X (cop o) l r (fun σ H Q => TX nm cl X W (ev P cal x) σ H fun a H1 => TX nm cl X W (ev P cal y) σ H1 fun b H2 => rC (kx cl X) o a b H2 Q ∨ rOwnC nm cl P cal X W o σ a b H2 Q) :=
  pc_S ha hb fun pins s σ H x y v u Q I rx ry h => h.elim (op_rC (cl := cl) o C.room.units pins s σ H x y v u Q I rx ry) (op_ownC C I rx ry)
theorem e_cmp {o : COp} (C : Ck nm cl P cal n X W) (hm : behindInMarks (cop o) r = false) (ha : PE X l (TX nm cl X W (ev P cal x))) (hb : PE X r (TX nm cl X W (ev P cal y))) :
    PE X (.Compare l [cop o] [r] pos) (TX nm cl X W (ev P cal (.cmp o x y))) := PE.imp (pe_cmp (pc_own C ha hb) hm) fun _ _ _ h => cmp_read h
theorem t_cmp {o : COp} (C : Ck nm cl P cal n X W) (hm : behindInMarks (cop o) r = false) (ha : PE X l (TX nm cl X W (ev P cal x))) (hb : PE X r (TX nm cl X W (ev P cal y))) :
    PT X (.Compare l [cop o] [r] pos) (tB (TX nm cl X W (ev P cal (.cmp o x y)))) := PT.imp (pt_cmp (pc_own C ha hb) hm) fun _ _ _ h => cmp_read h
theorem chain_read {o o' : COp} {σ : L2.St} {H : Hp} {Q : VK} (h : TX nm cl X W (ev P cal (.chain o o' x y z)) σ H Q) :
    tChain (rC (kx cl X) o) (rC (kx cl X) o') (TX nm cl X W (ev P cal x)) (TX nm cl X W (ev P cal y)) (TX nm cl X W (ev P cal z)) σ H Q := by
  obtain ⟨F, G, m, r, S, rl, rv, out⟩ := h
  simp only [ev] at out
  refine tX.bind rl rv out fun u1 H1 G1 m1 v1 S1 g1 l1 rv1 r1 out => ?_
  refine tX.bind l1 rv1 out fun u2 H2 G2 m2 v2 S2 g2 l2 rv2 r2 out => ?_
  cases v1 with
  | d a =>
    cases v2 with
    | d b =>
      dsimp only at out
      cases hk : cmpD o a b with
      | none => rw [hk] at out; exact out.elim
      | some k =>
        rw [hk] at out
        cases k with
        | true =>
          refine ⟨G2, _, _, true, l2.ext, .inl (Rep.mono g2.1 r1), .inl r2, hk, true, rfl, iteT ?_⟩
          refine tX.bind l2 rv2 out fun u3 H3 G3 m3 v3 S3 g3 l3 rv3 r3 out => ?_
          cases v3 with
          | d c =>
            dsimp only at out
            cases hk2 : cmpD o' b c with
            | none => rw [hk2] at out; exact out.elim
            | some k =>
              rw [hk2] at out
              exact ⟨G3, _, _, k, l3.ext, .inl (Rep.mono g3.1 r2), .inl r3, hk2, (Out.gives out l3).here (.bl k)⟩
          | loc _ => exact out.elim
          | xc _ _ => exact out.elim
        | false => exact ⟨G2, _, _, false, l2.ext, .inl (Rep.mono g2.1 r1), .inl r2, hk, false, rfl, iteF ((Out.gives out l2).here (.bl false))⟩
    | loc _ => exact out.elim
    | xc _ _ => exact out.elim
  | loc _ => exact out.elim
  | xc _ _ => exact out.elim
theorem e_chain {o o' : COp} {r' : Expr} (C : Ck nm cl P cal n X W) (hm : behindInMarks (cop o') r' = false) (ha : PE X l (TX nm cl X W (ev P cal x))) (hb : PE X r (TX nm cl X W (ev P cal y))) (hc : PE X r' (TX nm cl X W (ev P cal z))) :
    PE X (.Compare l [cop o, cop o'] [r, r'] pos) (TX nm cl X W (ev P cal (.chain o o' x y z))) :=
  PE.imp (pe_chain (op_rC (cl := cl) o C.room.units) (op_rC (cl := cl) o' C.room.units) ha hb hc (by exact hm)) fun _ _ _ h => chain_read h
theorem t_chain {o o' : COp} {r' : Expr} (C : Ck nm cl P cal n X W) (hm : behindInMarks (cop o') r' = false) (ha : PE X l (TX nm cl X W (ev P cal x))) (hb : PE X r (TX nm cl X W (ev P cal y))) (hc : PE X r' (TX nm cl X W (ev P cal z))) :
    PT X (.Compare l [cop o, cop o'] [r, r'] pos) (tB (TX nm cl X W (ev P cal (.chain o o' x y z)))) :=
  PT.imp (pt_chain (op_rC (cl := cl) o C.room.units) (op_rC (cl := cl) o' C.room.units) ha hb hc (by exact hm)) fun _ _ _ h => chain_read h
theorem t_not (ha : PT X l (tB (TX nm cl X W (ev P cal x)))) : PT X (.UnaryOp .Not l pos) (tB (TX nm cl X W (ev P cal (.not x)))) := by
  refine PT.imp (pt_not ha) fun σ H Q ⟨F, G, m, r, S, rl, rv, out⟩ => ?_
  simp only [ev] at out
  refine tX.bind rl rv out fun u1 H1 G1 m1 v1 S1 g1 l1 rv1 r1 out => ?_
  split at out
  · cases r1
    obtain ⟨c, e, q⟩ := (Out.gives out l1).here (.bl _)
    cases e
    exact ⟨_, rfl, q⟩
  · exact out.elim
theorem e_not (ha : PE X l (TX nm cl X W (ev P cal x))) : PE X (.UnaryOp .Not l pos) (TX nm cl X W (ev P cal (.not x))) := by
  refine PE.imp (pe_not ha) fun σ H Q ⟨F, G, m, r, S, rl, rv, out⟩ => ?_
  simp only [ev] at out
  refine tX.bind rl rv out fun u1 H1 G1 m1 v1 S1 g1 l1 rv1 r1 out => ?_
  split at out
  · cases r1
    exact ⟨_, rfl, (Out.gives out l1).here (.bl _)⟩
  · exact out.elim
theorem e_and (ha : PE X l (TX nm cl X W (ev P cal x))) (hb : PE X (.BoolOp .And (r :: es) pos) (TX nm cl X W (ev P cal y))) : PE X (.BoolOp .And (l :: r :: es) pos) (TX nm cl X W (ev P cal (.and x y))) := by
  refine PE.imp (pe_and ha hb) fun σ H Q ⟨F, G, m, r, S, rl, rv, out⟩ => ?_
  simp only [ev] at out
  refine tX.bind rl rv out fun u1 H1 G1 m1 v1 S1 g1 l1 rv1 r1 out => ?_
  split at out
  · cases r1; exact ⟨true, rfl, iteT (⟨F, G1, m1, r, S1, l1, rv1, out⟩)⟩
  · cases r1; exact ⟨false, rfl, iteF ((Out.gives out l1).here (.bl false))⟩
  · exact out.elim
theorem e_or (ha : PE X l (TX nm cl X W (ev P cal x))) (hb : PE X (.BoolOp .Or (r :: es) pos) (TX nm cl X W (ev P cal y))) : PE X (.BoolOp .Or (l :: r :: es) pos) (TX nm cl X W (ev P cal (.or x y))) := by
  refine PE.imp (pe_or ha hb) fun σ H Q ⟨F, G, m, r, S, rl, rv, out⟩ => ?_
  simp only [ev] at out
  refine tX.bind rl rv out fun u1 H1 G1 m1 v1 S1 g1 l1 rv1 r1 out => ?_
  split at out
  · cases r1; exact ⟨true, rfl, iteT ((Out.gives out l1).here (.bl true))⟩
  · cases r1; exact ⟨false, rfl, iteF (⟨F, G1, m1, r, S1, l1, rv1, out⟩)⟩
  · exact out.elim
theorem w_and (ha : PT X l (tB (TX nm cl X W (ev P cal x)))) (hb : PW X (.BoolOp .And (r :: es) pos) (tB (TX nm cl X W (ev P cal y)))) : PW X (.BoolOp .And (l :: r :: es) pos) (tB (TX nm cl X W (ev P cal (.and x y)))) := by
  refine ⟨fun wh pins s σ H Q I ⟨F, G, m, r, S, rl, rv, out⟩ => (pw_and ha hb).run wh pins s σ H Q I ?_⟩
  simp only [ev] at out
  refine tX.bind rl rv out fun u1 H1 G1 m1 v1 S1 g1 l1 rv1 r1 out => ?_
  split at out
  · cases r1; exact ⟨true, rfl, iteT (⟨F, G1, m1, r, S1, l1, rv1, out⟩)⟩
  · cases r1
    obtain ⟨c, e, q⟩ := (Out.gives out l1).here (.bl false)
    cases e
    exact ⟨false, rfl, iteF (q)⟩
  · exact out.elim
theorem w_or (ha : PT X l (tB (TX nm cl X W (ev P cal x)))) (hb : PW X (.BoolOp .Or (r :: es) pos) (tB (TX nm cl X W (ev P cal y)))) : PW X (.BoolOp .Or (l :: r :: es) pos) (tB (TX nm cl X W (ev P cal (.or x y)))) := by
  refine ⟨fun wh pins s σ H Q I ⟨F, G, m, r, S, rl, rv, out⟩ => (pw_or ha hb).run wh pins s σ H Q I ?_⟩
  simp only [ev] at out
  refine tX.bind rl rv out fun u1 H1 G1 m1 v1 S1 g1 l1 rv1 r1 out => ?_
  split at out
  · cases r1
    obtain ⟨c, e, q⟩ := (Out.gives out l1).here (.bl true)
    cases e
    exact ⟨true, rfl, iteT (q)⟩
  · cases r1; exact ⟨false, rfl, iteF (⟨F, G1, m1, r, S1, l1, rv1, out⟩)⟩
  · exact out.elim
theorem e_ite {c : Expr} (hc : PT X c (tB (TX nm cl X W (ev P cal x)))) (ha : PE X l (TX nm cl X W (ev P cal y))) (hb : PE X r (TX nm cl X W (ev P cal z))) : PE X (.IfExp c l r pos) (TX nm cl X W (ev P cal (.ite x y z))) := by
  refine PE.imp (pe_ifExp hc ha hb) fun σ H Q ⟨F, G, m, r, S, rl, rv, out⟩ => ?_
  simp only [ev] at out
  refine tX.bind rl rv out fun u1 H1 G1 m1 v1 S1 g1 l1 rv1 r1 out => ?_
  split at out
  · cases r1; exact ⟨true, rfl, iteT (⟨F, G1, m1, r, S1, l1, rv1, out⟩)⟩
  · cases r1; exact ⟨false, rfl, iteF (⟨F, G1, m1, r, S1, l1, rv1, out⟩)⟩
  · exact out.elim
/-! ### arguments, displays, calls -/
theorem star_e {sc : Scope} {N : List Str} {env : Env} (h : isE nm N sc x e = true) : starEach (e :: es) env = (false, eval e env) :: starEach es env := by
  cases e with
  | Starred _ _ => cases x <;> cases h
  | _ => rfl
theorem base_e {env : Env} {s : Str} {t : Sem Value} (h : noC0 e = true) : attributeBase e s env t = t := by
  cases e with
  | Call f as ks p =>
    cases as with
    | nil => cases h
    | cons _ _ => cases f <;> rfl
  | _ => rfl
theorem any_star {sc : Scope} {N : List Str} {env : Env} {pos : Pos} : ∀ {x : Ex} {es : List Expr}, isA nm N sc x es = true → (backTo pos (starEach es env)).any (fun x => x.1) = false ∧ (backTo pos (starEach es env)).all (fun x => !x.1) = true
  | .nil, [], h => ⟨rfl, rfl⟩
  | .nil, _ :: _, h => by cases h
  | .cons x xs, [], h => by cases h
  | .cons x xs, e :: es, h => by
    have g := Bool.and_eq_true_iff.mp h
    obtain ⟨i1, i2⟩ := any_star (env := env) (pos := pos) g.2
    rw [star_e g.1]
    exact ⟨by show (false || (backTo pos (starEach es env)).any (fun x => x.1)) = false; rw [i1]; rfl, by show (!false && (backTo pos (starEach es env)).all (fun x => !x.1)) = true; rw [i2]; rfl⟩
  | .var _, _, h => by cases h
theorem a_nil : PA X [] (TXs nm cl X W (evs P cal .nil)) := PA.imp pa_nil fun σ H Q ⟨F, G, m, r, S, rl, rv, out⟩ => by
  simp only [evs] at out
  exact out G m H [] .refl rl .nil
theorem a_cons {xs : Ex} {sc : Scope} {N : List Str} (hs : isE nm N sc x e = true) (ha : PE X e (TX nm cl X W (ev P cal x))) (hb : PA X es (TXs nm cl X W (evs P cal xs))) : PA X (e :: es) (TXs nm cl X W (evs P cal (.cons x xs))) := by
  refine PA.imp (pa_cons ha hb (star_e hs)) fun σ H Q ⟨F, G, m, r, S, rl, rv, out⟩ => ?_
  simp only [evs] at out
  refine tX.bind rl rv out fun u1 H1 G1 m1 v1 S1 g1 l1 rv1 r1 out => ?_
  refine tX.bind l1 rv1 out fun u2 H2 G2 m2 v2 S2 g2 l2 rv2 r2 out => ?_
  exact out G2 m2 H2 _ .refl l2 (.cons (r1.mono g2) r2)
theorem RVs.length {K : Fg} {G : Hp} {m : List Addr} {vs : List Vl} {us : List V} (r : RVs K G m vs us) : vs.length = us.length := Paired.length r
theorem e_tup {k : Nat} (ha : PA X es (TXs nm cl X W (evs P cal x))) : PE X (.Tuple es k pos) (TX nm cl X W (ev P cal (.tup x))) := by
  refine PE.imp (pe_tup ha) fun σ H Q ⟨F, G, m, r, S, rl, rv, out⟩ => ?_
  simp only [ev] at out
  refine tX.bind rl rv out fun u1 H1 G1 m1 v1 S1 g1 l1 rv1 r1 out => ?_
  split at out
  · rename_i xs hx
    split at out
    · rename_i hz
      exact ⟨by rw [← r1.length]; exact small_line hz, fun p hp => (Out.gives out l1).newT l1.ext (dsOf_reps r1 hx) hp⟩
    · exact out.elim
  · exact out.elim
theorem e_lst (ha : PA X es (TXs nm cl X W (evs P cal x))) : PE X (.List es pos) (TX nm cl X W (ev P cal (.lst x))) := by
  refine PE.imp (pe_lst ha) fun σ H Q ⟨F, G, m, r, S, rl, rv, out⟩ => ?_
  simp only [ev] at out
  refine tX.bind rl rv out fun u1 H1 G1 m1 v1 S1 g1 l1 rv1 r1 out => ?_
  split at out
  · rename_i xs hx
    split at out
    · rename_i hz
      exact ⟨by rw [← r1.length]; exact small_line hz, fun p hp => (Out.gives out l1).newL l1.ext (dsOf_reps r1 hx) hp⟩
    · exact out.elim
  · exact out.elim
theorem star_args {sc : Scope} {N : List Str} {x : Ex} {pos : Pos} (hs : isA nm N sc x (e :: es) = true) : starEach (e :: es) X.env = (false, eval e X.env) :: starEach es X.env ∧ (backTo pos (starEach es X.env)).any (fun x => x.1) = false := by
  cases x with
  | cons x xs => exact ⟨star_e (Bool.and_eq_true_iff.mp hs).1, (any_star (Bool.and_eq_true_iff.mp hs).2).1⟩
  | _ => cases hs
theorem e_call {f : Nat} {s : Str} {p : Pos} {sc : Scope} {N : List Str} (C : Ck nm cl P cal n X W) (hf : nm.fns[f]? = some s) (h1 : glB X.env.scope s = true) (ho : okN s = true) (hs : isA nm N sc x (e :: es) = true)
    (ha : PA X (e :: es) (TXs nm cl X W (evs P cal x))) : PE X (.Call (.Name s p) (e :: es) [] pos) (TX nm cl X W (ev P cal (.call f x))) := by
  obtain ⟨q1, q2, q3⟩ := C.md.gf f s hf
  obtain ⟨sp, g1, g2⟩ := C.go (f := f)
  obtain ⟨s1, s2⟩ := star_args (X := X) (pos := pos) hs
  refine PE.imp (pe_fn (g1 q1) (C.room.mono (by omega)) (glB_d h1) q2 q3 (fun σ => passAt C.tk σ) ha (okN_d ho).1 s1 s2) fun σ H Q ⟨F, G, m, r, S, rl, rv, out⟩ => ?_
  simp only [ev] at out
  refine tX.bind rl rv out fun u1 H1 G1 m1 v1 S1 g1 l1 rv1 r1 out => ?_
  exact (g2 σ F G1 m1 v1 u1 S1 H1 Q l1 r1 out).2
theorem e_call0 {f : Nat} {s : Str} {p : Pos} (C : Ck nm cl P cal n X W) (hf : nm.fns[f]? = some s) (h1 : glB X.env.scope s = true) (ho : okN s = true) : PE X (.Call (.Name s p) [] [] pos) (TX nm cl X W (ev P cal (.call0 f))) := by
  obtain ⟨q1, q2, q3⟩ := C.md.gf f s hf
  obtain ⟨sp, g1, g2⟩ := C.go (f := f)
  refine PE.imp (pe_fn0 (g1 q1) (C.room.mono (by omega)) (glB_d h1) q2 q3 (fun σ => passAt C.tk σ) (okN_d ho).1) fun σ H Q ⟨F, G, m, r, S, rl, rv, out⟩ => ?_
  simp only [ev] at out
  exact (g2 σ F G m [] [] S H Q rl .nil out).2
end
end Iv
end
section
set_option autoImplicit false
set_option maxRecDepth 100000
set_option maxHeartbeats 4000000
namespace Iv
open PySem L2
section
variable {nm : Nm} {cl : Nat → Addr} {P : Prg} {cal : Cal} {n : Nat} {X : Cx} {W : WX} {e l r : Expr} {es : List Expr} {pos : Pos} {x y z : Ex}
theorem e_bi {b : Bi} {p : Pos} {sc : Scope} {N : List Str} (C : Ck nm cl P cal n X W) (h1 : glB X.env.scope (biName b) = true) (hs : isA nm N sc x (e :: es) = true)
    (ha : PA X (e :: es) (TXs nm cl X W (evs P cal x))) : PE X (.Call (.Name (biName b) p) (e :: es) [] pos) (TX nm cl X W (ev P cal (.bi b x))) := by
  have s1 : starEach (e :: es) X.env = (false, eval e X.env) :: starEach es X.env := by
    cases x with
    | cons x xs => exact star_e (Bool.and_eq_true_iff.mp hs).1
    | _ => cases hs
  have s2 : (backTo pos (starEach es X.env)).any (fun x => x.1) = false := by
    cases x with
    | cons x xs => exact (any_star (Bool.and_eq_true_iff.mp hs).2).1
    | _ => cases hs
  have key : PE X (.Call (.Name (biName b) p) (e :: es) [] pos) (tCB (rBi (kx cl X) b) (TXs nm cl X W (evs P cal x))) := by
    have hc := cr_bi (cl := cl) (X := X) C.calm b
    have hm := C.md.bt b
    cases b
    · exact pe_callB hc (glB_d h1) hm (by decide +kernel) ha (by decide +kernel) (by decide +kernel) s1 s2
    · exact pe_callTy hc (glB_d h1) hm (by decide +kernel) ha (by decide +kernel) (by decide +kernel) s1 s2
    · exact pe_callTy hc (glB_d h1) hm (by decide +kernel) ha (by decide +kernel) (by decide +kernel) s1 s2
    · exact pe_callB hc (glB_d h1) hm (by decide +kernel) ha (by decide +kernel) (by decide +kernel) s1 s2
    · exact pe_callB hc (glB_d h1) hm (by decide +kernel) ha (by decide +kernel) (by decide +kernel) s1 s2
    · exact pe_callB hc (glB_d h1) hm (by decide +kernel) ha (by decide +kernel) (by decide +kernel) s1 s2
    · exact pe_callB hc (glB_d h1) hm (by decide +kernel) ha (by decide +kernel) (by decide +kernel) s1 s2
    · exact pe_callB hc (glB_d h1) hm (by decide +kernel) ha (by decide +kernel) (by decide +kernel) s1 s2
    · exact pe_callTy hc (glB_d h1) hm (by decide +kernel) ha (by decide +kernel) (by decide +kernel) s1 s2
    · exact pe_callTy hc (glB_d h1) hm (by decide +kernel) ha (by decide +kernel) (by decide +kernel) s1 s2
    · exact pe_callB hc (glB_d h1) hm (by decide +kernel) ha (by decide +kernel) (by decide +kernel) s1 s2
    · exact pe_callB hc (glB_d h1) hm (by decide +kernel) ha (by decide +kernel) (by decide +kernel) s1 s2
    · exact pe_callB hc (glB_d h1) hm (by decide +kernel) ha (by decide +kernel) (by decide +kernel) s1 s2
    · exact pe_callB hc (glB_d h1) hm (by decide +kernel) ha (by decide +kernel) (by decide +kernel) s1 s2
    · exact pe_callTy hc (glB_d h1) hm (by decide +kernel) ha (by decide +kernel) (by decide +kernel) s1 s2
  refine PE.imp key fun σ H Q ⟨F, G, m, r, S, rl, rv, out⟩ => ?_
  simp only [ev] at out
  refine tX.bind rl rv out fun u1 H1 G1 m1 v1 S1 g1 l1 rv1 r1 out => ?_
  split at out
  · rename_i xs hx
    obtain ⟨d, hd, g⟩ := Out.optD out l1
    exact ⟨G1, xs, d, l1.ext, rdVs_rd l1 r1 hx, hd, g⟩
  · exact out.elim
theorem e_isi {t : Ty} {p p2 : Pos} {sc : Scope} {N : List Str} (C : Ck nm cl P cal n X W) (h1 : glB X.env.scope ("isinstance" : Str) = true) (h2 : glB X.env.scope (Str.ofString (tyN t)) = true) (hb : X.mg (Str.ofString (tyN t)) = none) (hs : isE nm N sc x e = true)
    (ha : PE X e (TX nm cl X W (ev P cal x))) : PE X (.Call (.Name ("isinstance" : Str) p) [e, .Name (Str.ofString (tyN t)) p2] [] pos) (TX nm cl X W (ev P cal (.isi x t))) := by
  have ht : PE X (.Name (Str.ofString (tyN t)) p2) (tC (.ty (tyN t))) := by
    refine pe_bltn (u := .type (tyN t)) (glB_d h2) hb ?_ rfl ?_ ?_ <;> cases t <;> decide +kernel
  refine PE.imp (pe_callB (call_isi (X := X)) (glB_d h1) (C.md.bo _ (by decide)) (by decide +kernel) (pa_cons ha (pa_cons ht pa_nil) (star_e hs)) (by decide +kernel) (by decide +kernel) (star_e hs) rfl) fun σ H Q ⟨F, G, m, r, S, rl, rv, out⟩ => ?_
  simp only [ev] at out
  refine tX.bind rl rv out fun u1 H1 G1 m1 v1 S1 g1 l1 rv1 r1 out => ?_
  cases v1 with
  | d a =>
    obtain ⟨d, hd, g⟩ := Out.optD out l1
    have h3 : bareD a = true ∧ d = .bl (isTy t a) := by
      cases a <;> first | (cases hd; done) | (cases hd; exact ⟨rfl, rfl⟩)
    obtain ⟨h3, rfl⟩ := h3
    exact ⟨_, _, _, _, _, rfl, .ty _, tyX_D (Rep.mono l1.ext r1) h3, kit_ty (kit_D t a h3), g.here (.bl _)⟩
  | loc _ => exact out.elim
  | xc _ _ => exact out.elim
theorem e_meth {m : Mt} {ap : Pos} {sc sc' : Scope} {N N' : List Str} (h0 : noC0 l = true) (hl : (ap.endLine == pos.line) = true) (hz : es.length < 20) (hs : isA nm N' sc' y (e :: es) = true)
    (ha : PE X l (TX nm cl X W (ev P cal x))) (hb : PA X (e :: es) (TXs nm cl X W (evs P cal y))) : PE X (.Call (.Attribute l (mtName m) ap) (e :: es) [] pos) (TX nm cl X W (ev P cal (.meth m x y))) := by
  have s1 : starEach (e :: es) X.env = (false, eval e X.env) :: starEach es X.env := by
    cases y with
    | cons x xs => exact star_e (Bool.and_eq_true_iff.mp hs).1
    | _ => cases hs
  have s2 : (backTo pos (starEach es X.env)).any (fun x => x.1) = false := by
    cases y with
    | cons x xs => exact (any_star (Bool.and_eq_true_iff.mp hs).2).1
    | _ => cases hs
  have s3 : (((backTo pos (starEach (e :: es) X.env)).all fun x => !x.1) && ((backToKw pos (keywordEach [] X.env)).all fun x => x.1.isSome) && decide ((e :: es).length + ([] : List Keyword).length + (if ([] : List Keyword).isEmpty then 0 else 1) < 30)) = true := by
    rw [(any_star hs).2]
    have : decide ((e :: es).length + ([] : List Keyword).length + (if ([] : List Keyword).isEmpty then 0 else 1) < 30) = true := decide_eq_true (by simp; omega)
    rw [this]; rfl
  have key : PE X (.Call (.Attribute l (mtName m) ap) (e :: es) [] pos) (tBM (kx cl X) "str" (rMt (kx cl X) m) (TX nm cl X W (ev P cal x)) (TXs nm cl X W (evs P cal y))) := by
    have hr := mr_mt (cl := cl) (X := X) m
    cases m
    · exact pe_bm PySem.F.plainAttrs_str PySem.F.slot_str_split PySem.F.type_str_split hr ha hb (base_e h0) s3 hl s1 s2
    · exact pe_bm PySem.F.plainAttrs_str PySem.F.slot_str_join PySem.F.type_str_join hr ha hb (base_e h0) s3 hl s1 s2
    · exact pe_bm PySem.F.plainAttrs_str PySem.F.slot_str_startswith PySem.F.type_str_startswith hr ha hb (base_e h0) s3 hl s1 s2
  refine PE.imp key fun σ H Q ⟨F, G, m', r, S, rl, rv, out⟩ => ?_
  simp only [ev] at out
  refine tX.bind rl rv out fun u1 H1 G1 m1 v1 S1 g1 l1 rv1 r1 out => ?_
  split at out
  · cases r1 with
    | str s os =>
      refine ⟨rfl, tX.bind l1 rv1 out fun u2 H2 G2 m2 v2 S2 g2 l2 rv2 r2 out => ?_⟩
      split at out
      · rename_i xs hx
        obtain ⟨d, hd, g⟩ := Out.optD out l2
        exact ⟨G2, _, xs, d, l2.ext, .str _ os, rdVs_rd l2 r2 hx, hd, g⟩
      · exact out.elim
  · exact out.elim
theorem e_ix (hp : PlainIx r) (ha : PE X l (TX nm cl X W (ev P cal x))) (hb : PE X r (TX nm cl X W (ev P cal y))) : PE X (.Subscript l r pos) (TX nm cl X W (ev P cal (.ix x y))) := by
  refine PE.imp (pe_ix (ix_D (cl := cl)) ha hb hp) fun σ H Q ⟨F, G, m, r, S, rl, rv, out⟩ => ?_
  simp only [ev] at out
  refine tX.bind rl rv out fun u1 H1 G1 m1 v1 S1 g1 l1 rv1 r1 out => ?_
  refine tX.bind l1 rv1 out fun u2 H2 G2 m2 v2 S2 g2 l2 rv2 r2 out => ?_
  split at out
  · rename_i a b ea
    obtain ⟨d, hd, g⟩ := Out.optD out l2
    exact ⟨G2, _, _, d, l2.ext, rdV_rd l2 (r1.mono g2) ea, r2, hd, fun v rv => g.here rv⟩
  · exact out.elim
theorem plainIx_e {sc : Scope} {N : List Str} (h : isE nm N sc x e = true) : PlainIx e := by
  cases e with
  | Slice _ _ _ _ => cases x <;> cases h
  | _ => exact fun _ _ => rfl
theorem o_none : PO X none (tX nm.excs X.mg (kx cl X) W (fun _ _ (a : Option Int) (b : Option Int) => a = b) (evo P cal .no)) := PO.imp po_none fun σ H Q ⟨F, G, m, r, S, rl, rv, out⟩ => by
  simp only [evo] at out
  exact out G m H none .refl rl rfl
theorem o_some (ha : PE X e (TX nm cl X W (ev P cal x))) : PO X (some e) (tX nm.excs X.mg (kx cl X) W (fun _ _ (a : Option Int) (b : Option Int) => a = b) (evo P cal (.one x))) := by
  refine PO.imp (po_some ha) fun σ H Q ⟨F, G, m, r, S, rl, rv, out⟩ => ?_
  simp only [evo] at out
  refine tX.bind rl rv out fun u1 H1 G1 m1 v1 S1 g1 l1 rv1 r1 out => ?_
  split at out
  · cases r1; exact ⟨_, rfl, out G1 m1 H1 _ .refl l1 rfl⟩
  · exact out.elim
theorem e_sl {lo hi : Option Expr} {p2 : Pos} (ha : PE X l (TX nm cl X W (ev P cal x))) (hb : PO X lo (tX nm.excs X.mg (kx cl X) W (fun _ _ (a : Option Int) (b : Option Int) => a = b) (evo P cal y))) (hc : PO X hi (tX nm.excs X.mg (kx cl X) W (fun _ _ (a : Option Int) (b : Option Int) => a = b) (evo P cal z))) :
    PE X (.Subscript l (.Slice lo hi none p2) pos) (TX nm cl X W (ev P cal (.sl x y z))) := by
  refine PE.imp (pe_slice (sl_D (cl := cl)) ha hb hc) fun σ H Q ⟨F, G, m, r, S, rl, rv, out⟩ => ?_
  simp only [ev] at out
  refine tX.bind rl rv out fun u1 H1 G1 m1 v1 S1 g1 l1 rv1 r1 out => ?_
  refine tX.bind l1 rv1 out fun u2 H2 G2 m2 v2 S2 g2 l2 rv2 r2 out => ?_
  refine tX.bind l2 rv2 out fun u3 H3 G3 m3 v3 S3 g3 l3 rv3 r3 out => ?_
  cases r2; cases r3
  cases ea : rdV v1 S3 with
  | none => rw [ea] at out; exact out.elim
  | some a =>
    rw [ea] at out
    obtain ⟨d, hd, g⟩ := Out.optD out l3
    exact ⟨G3, _, d, l3.ext, rdV_rd l3 (r1.mono (g2.trans g3)) ea, hd, g⟩
end
end Iv
end
section
set_option autoImplicit false
set_option maxRecDepth 100000
set_option maxHeartbeats 4000000
namespace Iv
open PySem L2
/-! ### targets -/
def tgR (K : Fg) (t : Tg) : TG := fun v σ H Q => ∃ (G : Hp) (m : List Addr) (r r' : Ev) (d : D), Ext G H ∧ RlV K G m r σ ∧ Rep K G d v ∧ asgD t d r = some r' ∧ ∀ σ', RlV K G m r' σ' → (∀ own, tgIn own t = true → L2.wipe σ' own = L2.wipe σ own) → Q σ' H
def tgRs (K : Fg) (t : Tg) : TGs := fun vs σ H Q => ∃ (G : Hp) (m : List Addr) (r r' : Ev) (xs : List D), Ext G H ∧ RlV K G m r σ ∧ Reps K G xs vs ∧ asgL t xs r = some r' ∧ ∀ σ', RlV K G m r' σ' → (∀ own, tgIn own t = true → L2.wipe σ' own = L2.wipe σ own) → Q σ' H
theorem PG.imp {X : Cx} {e : Expr} {t t' : TG} (h : PG X e t) (k : ∀ v σ H Q, t' v σ H Q → t v σ H Q) : PG X e t' := ⟨fun pins s σ H v u Q I r hw => h.run pins s σ H v u Q I r (k _ _ _ _ hw)⟩
theorem PGs.imp {X : Cx} {e : List Expr} {t t' : TGs} (h : PGs X e t) (k : ∀ v σ H Q, t' v σ H Q → t v σ H Q) : PGs X e t' := ⟨fun pins s σ H v u Q I r hw => h.run pins s σ H v u Q I r (k _ _ _ _ hw)⟩
theorem wipe_set {σ : L2.St} {own : List Nat} {i : Nat} {v : Option V} (h : i ∈ own) : L2.wipe (σ.set i v) own = L2.wipe σ own := by
  induction own with
  | nil => simp at h
  | cons a own ih =>
    show (L2.wipe (σ.set i v) own).set a none = (L2.wipe σ own).set a none
    by_cases hm : i ∈ own
    · rw [ih hm]
    · have e : i = a := by
        rcases List.mem_cons.mp h with z | z
        · exact z
        · exact absurd z hm
      subst e
      clear ih h
      have : ∀ own : List Nat, i ∉ own → (L2.wipe (σ.set i v) own).set i none = (L2.wipe σ own).set i none := by
        intro own hm
        induction own with
        | nil => show (σ.set i v).set i none = σ.set i none; rw [List.set_set]
        | cons b own ih =>
          have h1 : i ≠ b := fun q => hm (by rw [q]; exact List.mem_cons_self)
          have h2 : i ∉ own := fun q => hm (List.mem_cons_of_mem _ q)
          show ((L2.wipe (σ.set i v) own).set b none).set i none = ((L2.wipe σ own).set b none).set i none
          rw [List.set_comm _ _ (fun q => h1 q.symm), ih h2, List.set_comm _ _ h1]
      exact this own hm
theorem RlV.set {K : Fg} {G : Hp} {m : List Addr} {r : Ev} {σ : L2.St} (h : RlV K G m r σ) (i : Nat) {v : Vl} {u : V} (q : RepV K G m v u) : RlV K G m (r.set i (some v)) (σ.set i (some u)) := by
  refine ⟨by simp [h.1], fun j w e n => ?_⟩
  by_cases hj : i = j
  · subst hj
    by_cases hl : i < r.length
    · rw [List.getElem?_set_self hl] at e
      cases e
      exact ⟨u, by rw [List.getElem?_set_self (by rw [← h.1]; exact hl)], q⟩
    · rw [List.getElem?_eq_none (by simp; omega)] at e
      cases e
  · rw [List.getElem?_set_ne hj] at e
    obtain ⟨u', h1, h2⟩ := h.2 j w e n
    exact ⟨u', by rw [List.getElem?_set_ne hj]; exact h1, h2⟩
theorem RlV.unset {K : Fg} {G : Hp} {m : List Addr} {r : Ev} {σ : L2.St} (h : RlV K G m r σ) (i : Nat) (o : Option V) : RlV K G m (r.set i none) (σ.set i o) := by
  refine ⟨by simp [h.1], fun j w e n => ?_⟩
  by_cases hj : i = j
  · subst hj
    by_cases hl : i < r.length
    · rw [List.getElem?_set_self hl] at e; cases e
    · rw [List.getElem?_eq_none (by simp; omega)] at e; cases e
  · rw [List.getElem?_set_ne hj] at e
    obtain ⟨u', h1, h2⟩ := h.2 j w e n
    exact ⟨u', by rw [List.getElem?_set_ne hj]; exact h1, h2⟩
theorem each_cons {N : List Str} {fn : Bool} {sc : Scope} {env : Env} (a : Tg) (e : Expr) (es : List Expr) (h : isG N fn sc a e = true) : (assignEach (e :: es) env).map (fun x => x.2) = assign e env :: (assignEach es env).map (fun x => x.2) := by
  cases e with
  | Starred _ _ => cases a <;> cases h
  | _ => rfl
theorem each_len {N : List Str} {fn : Bool} {sc : Scope} {env : Env} : ∀ (t : Tg) (es : List Expr), isGs N fn sc t es = true → (assignEach es env).length = es.length
  | .nil, [], h => rfl
  | .nil, _ :: _, h => by cases h
  | .cons a b, [], h => by cases h
  | .cons a b, e :: es, h => by
    have g := Bool.and_eq_true_iff.mp h
    have := congrArg List.length (each_cons (env := env) a e es g.1)
    simp only [List.length_map, List.length_cons] at this
    rw [this, each_len b es g.2]; rfl
  | .nm _, _, h => by cases h
  | .tp _, _, h => by cases h
theorem each_star {N : List Str} {fn : Bool} {sc : Scope} {env : Env} : ∀ (t : Tg) (es : List Expr), isGs N fn sc t es = true → (assignEach es env).findIdx? (fun x => x.1) = none
  | .nil, [], h => rfl
  | .nil, _ :: _, h => by cases h
  | .cons a b, [], h => by cases h
  | .cons a b, e :: es, h => by
    have g := Bool.and_eq_true_iff.mp h
    have e1 : assignEach (e :: es) env = (false, assign e env) :: assignEach es env := by
      cases e with
      | Starred _ _ => cases a <;> cases g.1
      | _ => rfl
    rw [e1, List.findIdx?_cons, each_star b es g.2]; rfl
  | .nm _, _, h => by cases h
  | .tp _, _, h => by cases h
theorem asgL_len {N : List Str} {fn : Bool} {sc : Scope} : ∀ (t : Tg) (es : List Expr) (xs : List D) (r r' : Ev), isGs N fn sc t es = true → asgL t xs r = some r' → xs.length = es.length
  | .nil, [], [], r, r', h, ha => rfl
  | .nil, [], _ :: _, r, r', h, ha => by cases ha
  | .nil, _ :: _, xs, r, r', h, ha => by cases h
  | .cons a b, [], xs, r, r', h, ha => by cases h
  | .cons a b, e :: es, [], r, r', h, ha => by cases ha
  | .cons a b, e :: es, x :: xs, r, r', h, ha => by
    have g := Bool.and_eq_true_iff.mp h
    simp only [asgL] at ha
    cases e1 : asgD a x r with
    | none => rw [e1] at ha; cases ha
    | some r1 => rw [e1] at ha; rw [List.length_cons, List.length_cons, asgL_len b es xs r1 r' g.2 ha]
  | .nm _, _, _, _, _, h, _ => by cases h
  | .tp _, _, _, _, _, h, _ => by cases h
section
variable {cl : Nat → Addr} {X : Cx}
theorem stB_d {fn : Bool} {sc : Scope} {x : Str} (h : stB fn sc x = true) : L2.Loc sc x ∧ (sc.names.lookup x = some .local ∨ fn = true) := by
  unfold stB at h
  rw [Bool.or_eq_true, Bool.and_eq_true, decide_eq_true_eq, decide_eq_true_eq] at h
  rcases h with h | ⟨h1, h2⟩
  · exact ⟨.inl h, .inl h⟩
  · exact ⟨.inr h2, .inr h1⟩
mutual
theorem g_tg (hc : X.calm = true) (nd : X.N.Nodup) {fn : Bool} (hf : fn = true → ∀ x, X.fn x = true) : ∀ (t : Tg) (e : Expr), isG X.N fn X.env.scope t e = true → PG X e (tgR (kx cl X) t)
  | .nm i, e, h => by
    cases e with
    | Name x p =>
      have g := Bool.and_eq_true_iff.mp h
      obtain ⟨l1, l2⟩ := stB_d g.2
      refine PG.imp (pg_name nd (of_decide_eq_true g.1) l1 (l2.elim .inr fun z => .inl (hf z x))) fun v σ H Q ⟨G, m, r, r', d, e, rv, hr, ha, q⟩ => ?_
      cases ha
      exact q _ (rv.set i (v := .d d) hr) fun own ho => wipe_set (by simpa [tgIn] using ho)
    | _ => cases h
  | .tp ts, e, h => by
    cases e with
    | Tuple es k p =>
      refine PG.imp (pg_tup hc (gs_tg hc nd hf ts es h) (n := es.length) ?_ ?_) fun v σ H Q ⟨G, m, r, r', d, e, rv, hr, ha, q⟩ => ?_
      · exact each_len ts es h
      · exact each_star ts es h
      · cases hr with
        | tup h1 h2 =>
          exact ⟨_, _, rfl, h1.ext e, by rw [← h2.length]; exact asgL_len ts es _ _ _ h ha, G, m, r, r', _, e, rv, h2, ha, q⟩
        | _ => cases ha
    | _ => cases h
  | .nil, e, h => by cases h
  | .cons _ _, e, h => by cases h
theorem gs_tg (hc : X.calm = true) (nd : X.N.Nodup) {fn : Bool} (hf : fn = true → ∀ x, X.fn x = true) : ∀ (t : Tg) (es : List Expr), isGs X.N fn X.env.scope t es = true → PGs X es (tgRs (kx cl X) t)
  | .nil, es, h => by
    cases es with
    | nil =>
      refine PGs.imp pgs_nil fun v σ H Q ⟨G, m, r, r', xs, e, rv, hr, ha, q⟩ => ?_
      cases hr with
      | nil => cases ha; exact ⟨rfl, q _ rv fun _ _ => rfl⟩
      | cons _ _ => cases ha
    | cons _ _ => cases h
  | .cons a b, es, h => by
    cases es with
    | nil => cases h
    | cons e es =>
      have g := Bool.and_eq_true_iff.mp h
      refine PGs.imp (pgs_cons (g_tg hc nd hf a e g.1) (gs_tg hc nd hf b es g.2) (each_cons a e es g.1)) fun v σ H Q ⟨G, m, r, r', xs, e, rv, hr, ha, q⟩ => ?_
      cases hr with
      | nil => cases ha
      | @cons x u xs us r1 r2 =>
        simp only [asgL] at ha
        cases e1 : asgD a x r with
        | none => rw [e1] at ha; cases ha
        | some r1' =>
          rw [e1] at ha
          exact ⟨_, _, rfl, G, m, r, r1', _, e, rv, r1, e1, fun σ' rv' k1 => ⟨G, m, r1', r', _, e, rv', r2, ha, fun σ'' rv'' k2 => q σ'' rv'' fun own ho => by
            have ho' := Bool.and_eq_true_iff.mp ho
            rw [k2 own ho'.2, k1 own ho'.1]⟩⟩
  | .nm _, es, h => by cases h
  | .tp _, es, h => by cases h
end
end
/-! ### what is walked -/
/-- the iterator J walks the data xs -/
structure ItR (K : Fg) (G : Hp) (xs : List D) (J : It) : Prop where
  go : ∀ (i : Nat) (H : Hp), Ext G H → i < xs.length → J.go i H
  stop : ∀ (i : Nat) (H : Hp), Ext G H → xs.length ≤ i → J.stop i H
  yld : ∀ (i : Nat) (G1 H : Hp) (x : V) (H' : Hp) (d : D), Ext G G1 → Ext G1 H → xs[i]? = some d → J.yld i H x H' → ∃ G2, Al G1 H G2 H' ∧ Rep K G2 d x
abbrev TI' (nm : Nm) (cl : Nat → Addr) (X : Cx) (W : WX) (f : Ev → Hs → R (List D)) : TI := fun σ H Rr => tX nm.excs X.mg (kx cl X) W (fun G _ xs J => ItR (kx cl X) G xs J) f σ H Rr
theorem itr_list {K : Fg} {G : Hp} {a : Addr} {xs : List D} {vs : List V} (h : SqL K G a vs) (r : Reps K G xs vs) : ItR K G xs (Itl K a) where
  go := fun i H e hi => ⟨vs, vs[i]'(by rw [← r.length]; exact hi), h.ext e, by simp⟩
  stop := fun i H e hi => ⟨vs, h.ext e, by rw [← r.length]; exact hi⟩
  yld := fun i G1 H x H' d e1 e2 hd ⟨q1, q2⟩ => by
    subst q1
    have := q2 vs ((h.ext e1).ext e2)
    obtain ⟨v, h1, h2⟩ := r.get hd
    rw [this] at h1; cases h1
    exact ⟨G1, .refl, h2.mono e1⟩
theorem itr_tup {K : Fg} {G : Hp} {a : Addr} {xs : List D} {vs : List V} (h : SqT K G a vs) (r : Reps K G xs vs) : ItR K G xs (Itt K a) where
  go := fun i H e hi => ⟨vs, vs[i]'(by rw [← r.length]; exact hi), h.ext e, by simp⟩
  stop := fun i H e hi => ⟨vs, h.ext e, by rw [← r.length]; exact hi⟩
  yld := fun i G1 H x H' d e1 e2 hd ⟨q1, q2⟩ => by
    subst q1
    have := q2 vs ((h.ext e1).ext e2)
    obtain ⟨v, h1, h2⟩ := r.get hd
    rw [this] at h1; cases h1
    exact ⟨G1, .refl, h2.mono e1⟩
theorem itr_str {K : Fg} {G : Hp} {s : Cs} (o : Okc s) : ItR K G (s.map fun c => .str [c]) (Its (S' s)) where
  go := fun i H e hi => by show i < (S' s).cps.size; simpa [S'] using hi
  stop := fun i H e hi => by show (S' s).cps.size ≤ i; simpa [S'] using hi
  yld := fun i G1 H x H' d e1 e2 hd ⟨q1, c, q2, q3⟩ => by
    subst q1; subst q3
    have q2' : s[i]? = some c := by simpa [S'] using q2
    rw [List.getElem?_map, q2'] at hd
    cases hd
    exact ⟨G1, .refl, .str [c] fun c' hc' => by simp at hc'; subst hc'; exact o _ (List.mem_of_getElem? q2')⟩
theorem upTo_get : ∀ (n : Nat) (a : Int) (i : Nat), (upTo n a)[i]? = if i < n then some (.int (a + i)) else none
  | 0, a, i => by simp [upTo]
  | n + 1, a, 0 => by simp [upTo]
  | n + 1, a, i + 1 => by
    simp only [upTo, List.getElem?_cons_succ, upTo_get n (a + 1) i]
    by_cases h : i < n
    · rw [if_pos h, if_pos (by omega)]; have q : a + 1 + (i : Int) = a + ((i + 1 : Nat) : Int) := by omega
      rw [q]
    · rw [if_neg h, if_neg (by omega)]
theorem upTo_len : ∀ (n : Nat) (a : Int), (upTo n a).length = n
  | 0, a => rfl
  | n + 1, a => by simp [upTo, upTo_len n (a + 1)]
theorem itr_rng {K : Fg} {G : Hp} (a : Int) (n : Nat) : ItR K G (upTo n a) (Itr a n) where
  go := fun i H e hi => by show i < n; rw [upTo_len] at hi; exact hi
  stop := fun i H e hi => by show n ≤ i; rw [upTo_len] at hi; exact hi
  yld := fun i G1 H x H' d e1 e2 hd ⟨q1, q2⟩ => by
    subst q1; subst q2
    rw [upTo_get] at hd
    split at hd
    · cases hd; exact ⟨G1, .refl, .int _⟩
    · cases hd
/-! ### dicts -/
theorem kyOf_inj {a b : Ky} (h : kyOf a = kyOf b) : a = b := by
  cases a <;> cases b <;> simp only [kyOf, Sum.inl.injEq, Sum.inr.injEq, reduceCtorEq] at h
  · rw [h]
  · rw [S'_inj h]
theorem RepKs.length {K : Fg} {G : Hp} : ∀ {xs : List (Ky × D)} {kvs : List (Key × V)}, RepKs K G xs kvs → xs.length = kvs.length
  | _, _, .nil => rfl
  | _, _, .cons _ _ r => by simp [RepKs.length r]
theorem kV_rep {K : Fg} {G : Hp} {k : Ky} (o : okK k) : Rep K G (kyD k) (kV (kyOf k)) := by
  cases k with
  | i n => exact .int n
  | s x => exact .str x o
theorem RepKs.get {K : Fg} {G : Hp} : ∀ {xs : List (Ky × D)} {kvs : List (Key × V)} {i : Nat} {k : Ky} {x : D}, RepKs K G xs kvs → xs[i]? = some (k, x) → ∃ v, kvs[i]? = some (kyOf k, v) ∧ okK k ∧ Rep K G x v
  | _, _, _, _, _, .nil, e => by simp at e
  | _, _, 0, _, _, .cons o h _, e => by simp at e; obtain ⟨rfl, rfl⟩ := e; exact ⟨_, rfl, o, h⟩
  | _, _, i + 1, k, x, .cons _ _ r, e => by
    obtain ⟨v, h1, h2⟩ := RepKs.get (i := i) (k := k) (x := x) r (by simpa using e)
    exact ⟨v, by simpa using h1, h2⟩
theorem RepKs.val {K : Fg} {G : Hp} (k : Ky) : ∀ {xs : List (Ky × D)} {kvs : List (Key × V)}, RepKs K G xs kvs →
    (kget k xs = none ∧ valV kvs (kyOf k) = none) ∨ ∃ x v, kget k xs = some x ∧ valV kvs (kyOf k) = some v ∧ Rep K G x v
  | _, _, .nil => .inl ⟨rfl, rfl⟩
  | (k', x) :: xs, (_, v) :: kvs, .cons o h r => by
    by_cases e : k' = k
    · subst e
      refine .inr ⟨x, v, ?_, ?_, h⟩
      · simp [kget]
      · simp [valV]
    · have e2 : ¬ kyOf k' = kyOf k := fun q => e (kyOf_inj q)
      have h1 : kget k ((k', x) :: xs) = kget k xs := by simp [kget, e]
      have h2 : valV ((kyOf k', v) :: kvs) (kyOf k) = valV kvs (kyOf k) := by simp [valV, e2]
      rw [h1, h2]
      exact RepKs.val k r
theorem itr_keys {K : Fg} {G : Hp} {a : Addr} {o : Obj} {xs : List (Ky × D)} {kvs : List (Key × V)} (h : G a = some (.frz o (.dK kvs))) (r : RepKs K G xs kvs) : ItR K G (xs.map fun p => kyD p.1) (Itk a o kvs) where
  go := fun i H e hi => ⟨e _ _ h, by rw [← r.length]; simpa using hi⟩
  stop := fun i H e hi => ⟨e _ _ h, by rw [← r.length]; simpa using hi⟩
  yld := fun i G1 H x H' d e1 e2 hd ⟨q1, k, v, q2, q3⟩ => by
    subst q1; subst q3
    rw [List.getElem?_map] at hd
    cases hx : xs[i]? with
    | none => rw [hx] at hd; cases hd
    | some p =>
      rw [hx] at hd; cases hd
      obtain ⟨v', h1, h2, h3⟩ := r.get (k := p.1) (x := p.2) hx
      rw [q2] at h1; cases h1
      exact ⟨G1, .refl, kV_rep h2⟩
theorem itr_items {K : Fg} {G : Hp} {a : Addr} {o : Obj} {xs : List (Ky × D)} {kvs : List (Key × V)} (h : G a = some (.frz o (.dK kvs))) (r : RepKs K G xs kvs) : ItR K G (xs.map fun p => .tup [kyD p.1, p.2]) (Iti a o kvs) where
  go := fun i H e hi => ⟨e _ _ h, by rw [← r.length]; simpa using hi⟩
  stop := fun i H e hi => ⟨e _ _ h, by rw [← r.length]; simpa using hi⟩
  yld := fun i G1 H x H' d e1 e2 hd ⟨T, k, v, q2, q3, q4, q5⟩ => by
    subst q3; subst q5
    rw [List.getElem?_map] at hd
    cases hx : xs[i]? with
    | none => rw [hx] at hd; cases hd
    | some p =>
      rw [hx] at hd; cases hd
      obtain ⟨v', h1, h2, h3⟩ := r.get (k := p.1) (x := p.2) hx
      rw [q2] at h1; cases h1
      have al : Al G1 H (upd G1 T (.tup [kV (kyOf p.1), v])) (upd H T (.tup [kV (kyOf p.1), v])) := Al.one q4
      have ex := (al.ext e2).2.1
      exact ⟨_, al, .tup (.of upd_same) (.cons (kV_rep h2) (.cons ((h3.mono e1).mono ex) .nil))⟩
theorem zipD_len : ∀ (xs ys : List D), (zipD xs ys).length = min xs.length ys.length
  | [], ys => by simp [zipD]
  | x :: xs, [] => by simp [zipD]
  | x :: xs, y :: ys => by simp only [zipD, List.length_cons, zipD_len xs ys]; omega
theorem zipD_get : ∀ (xs ys : List D) (i : Nat) (d : D), (zipD xs ys)[i]? = some d → ∃ x y, xs[i]? = some x ∧ ys[i]? = some y ∧ d = .tup [x, y]
  | [], ys, i, d, h => by simp [zipD] at h
  | x :: xs, [], i, d, h => by simp [zipD] at h
  | x :: xs, y :: ys, 0, d, h => by simp [zipD] at h; exact ⟨x, y, rfl, rfl, h.symm⟩
  | x :: xs, y :: ys, i + 1, d, h => by
    simp only [zipD, List.getElem?_cons_succ] at h
    simpa using zipD_get xs ys i d h
theorem enumD_len : ∀ (n : Nat) (xs : List D), (enumD n xs).length = xs.length
  | n, [] => rfl
  | n, x :: xs => by simp [enumD, enumD_len (n + 1) xs]
theorem enumD_get : ∀ (n : Nat) (xs : List D) (i : Nat) (d : D), (enumD n xs)[i]? = some d → ∃ x, xs[i]? = some x ∧ d = .tup [.int ((n + i : Nat) : Int), x]
  | n, [], i, d, h => by simp [enumD] at h
  | n, x :: xs, 0, d, h => by simp [enumD] at h; exact ⟨x, rfl, h.symm⟩
  | n, x :: xs, i + 1, d, h => by
    simp only [enumD, List.getElem?_cons_succ] at h
    obtain ⟨y, h1, h2⟩ := enumD_get (n + 1) xs i d h
    exact ⟨y, by simpa using h1, by rw [h2]; congr 3; omega⟩
theorem itr_zip {K : Fg} {G : Hp} {a b : Addr} {xs ys : List D} {vs ws : List V} (h : SqL K G a vs) (r : Reps K G xs vs) (h' : SqL K G b ws) (r' : Reps K G ys ws) : ItR K G (zipD xs ys) (Itz K a b) where
  go := fun i H e hi => by
    rw [zipD_len] at hi
    exact ⟨vs, ws, vs[i]'(by rw [← r.length]; omega), ws[i]'(by rw [← r'.length]; omega), h.ext e, h'.ext e, by simp, by simp⟩
  stop := fun i H e hi => by
    rw [zipD_len] at hi
    exact ⟨vs, ws, h.ext e, h'.ext e, by rw [← r.length, ← r'.length]; omega⟩
  yld := fun i G1 H x H' d e1 e2 hd ⟨T, u1, u2, q1, q2, q3, q4, q5⟩ => by
    subst q1; subst q3
    obtain ⟨x, y, g1, g2, rfl⟩ := zipD_get xs ys i d hd
    have t1 := q4 vs ((h.ext e1).ext e2)
    have t2 := q5 ws ((h'.ext e1).ext e2)
    obtain ⟨v1, w1, z1⟩ := r.get g1
    obtain ⟨v2, w2, z2⟩ := r'.get g2
    rw [t1] at w1; cases w1
    rw [t2] at w2; cases w2
    have al : Al G1 H (upd G1 T (.tup [u1, u2])) (upd H T (.tup [u1, u2])) := Al.one q2
    have ex := (al.ext e2).2.1
    exact ⟨_, al, .tup (.of upd_same) (.cons ((z1.mono e1).mono ex) (.cons ((z2.mono e1).mono ex) .nil))⟩
theorem itr_enum {K : Fg} {G : Hp} {a : Addr} {xs : List D} {vs : List V} (h : SqL K G a vs) (r : Reps K G xs vs) : ItR K G (enumD 0 xs) (Ite K a) where
  go := fun i H e hi => by
    rw [enumD_len] at hi
    exact ⟨vs, vs[i]'(by rw [← r.length]; omega), h.ext e, by simp⟩
  stop := fun i H e hi => by
    rw [enumD_len] at hi
    exact ⟨vs, h.ext e, by rw [← r.length]; omega⟩
  yld := fun i G1 H x H' d e1 e2 hd ⟨T, u1, q1, q2, q3, q4⟩ => by
    subst q1; subst q3
    obtain ⟨x, g1, rfl⟩ := enumD_get 0 xs i d hd
    have t1 := q4 vs ((h.ext e1).ext e2)
    obtain ⟨v1, w1, z1⟩ := r.get g1
    rw [t1] at w1; cases w1
    have al : Al G1 H (upd G1 T (.tup [.int (i : Int), u1])) (upd H T (.tup [.int (i : Int), u1])) := Al.one q2
    have ex := (al.ext e2).2.1
    exact ⟨_, al, .tup (.of upd_same) (.cons (by rw [Nat.zero_add]; exact .int _) (.cons ((z1.mono e1).mono ex) .nil))⟩
section
variable {nm : Nm} {cl : Nat → Addr} {P : Prg} {cal : Cal} {n : Nat} {X : Cx} {W : WX} {e l r tg : Expr} {es : List Expr} {pos : Pos} {x y z : Ex}
theorem i_one (ha : PE X e (TX nm cl X W (ev P cal x))) : PI X tg e (TI' nm cl X W (evi P cal (.one x))) := by
  refine ⟨fun pins s σ H Rr I ⟨F, G, m, r, S, rl, rv, out⟩ => ?_⟩
  simp only [evi] at out
  cases hx : ev P cal x r S with
  | bad => rw [hx] at out; exact out.elim
  | exc c fs S1 =>
    rw [hx] at out
    exact (pi_list ha).run pins s σ H Rr I ⟨F, G, m, r, S, rl, rv, by rw [hx]; exact out⟩
  | ok v S1 =>
    rw [hx] at out
    cases v with
    | d d =>
      cases d with
      | lst xs =>
        refine (pi_list ha).run pins s σ H Rr I ⟨F, G, m, r, S, rl, rv, ?_⟩
        rw [hx]
        intro G' m' H' u g l1 r1
        cases r1 with
        | lst h1 h2 => exact ⟨_, rfl, ⟨_, .of (l1.ext _ _ h1)⟩, out G' m' H' _ g l1 (itr_list (.of h1) h2)⟩
      | tup xs =>
        refine (pi_tup ha).run pins s σ H Rr I ⟨F, G, m, r, S, rl, rv, ?_⟩
        rw [hx]
        intro G' m' H' u g l1 r1
        cases r1 with
        | tup h1 h2 => exact ⟨_, rfl, ⟨_, h1.ext l1.ext⟩, out G' m' H' _ g l1 (itr_tup h1 h2)⟩
      | str t =>
        refine (pi_str ha).run pins s σ H Rr I ⟨F, G, m, r, S, rl, rv, ?_⟩
        rw [hx]
        intro G' m' H' u g l1 r1
        cases r1 with
        | str _ o => exact ⟨_, rfl, out G' m' H' _ g l1 (itr_str o)⟩
      | ro xs =>
        refine (pi_list ha).run pins s σ H Rr I ⟨F, G, m, r, S, rl, rv, ?_⟩
        rw [hx]
        intro G' m' H' u g l1 r1
        cases r1 with
        | ro h1 h2 => exact ⟨_, rfl, ⟨_, h1.ext l1.ext⟩, out G' m' H' _ g l1 (itr_list h1 h2)⟩
      | dct xs =>
        refine (pi_keys ha).run pins s σ H Rr I ⟨F, G, m, r, S, rl, rv, ?_⟩
        rw [hx]
        intro G' m' H' u g l1 r1
        cases r1 with
        | dct h1 h2 => exact ⟨_, _, rfl, .inl ⟨_, l1.ext _ _ h1, out G' m' H' _ g l1 (itr_keys h1 h2)⟩⟩
      | _ => exact out.elim
    | _ => exact out.elim
theorem i_itm {ap p tp : Pos} {k : Nat} {ts : List Expr} (h0 : noC0 e = true) (hl : (ap.endLine == p.line) = true) (ha : PE X e (TX nm cl X W (ev P cal x))) :
    PI X (.Tuple ts k tp) (.Call (.Attribute e ("items" : Str) ap) [] [] p) (TI' nm cl X W (evi P cal (.itm x))) := by
  refine ⟨fun pins s σ H Rr I ⟨F, G, m, r, S, rl, rv, out⟩ => (pi_items ha (base_e h0) hl).run pins s σ H Rr I ?_⟩
  simp only [evi] at out
  refine tX.bind rl rv out fun u1 H1 G1 m1 v1 S1 g1 l1 rv1 r1 out => ?_
  split at out
  · cases r1 with
    | dct a1 a2 => exact ⟨_, _, _, rfl, l1.ext _ _ a1, out G1 m1 H1 _ .refl l1 (itr_items a1 a2)⟩
  · exact out.elim
theorem PI.imp {tg iter : Expr} {t t' : TI} (h : PI X tg iter t) (k : ∀ σ H Q, t' σ H Q → t σ H Q) : PI X tg iter t' := ⟨fun pins s σ H Q I hw => h.run pins s σ H Q I (k _ _ _ hw)⟩
theorem i_rng {p : Pos} {sc : Scope} {N : List Str} (C : Ck nm cl P cal n X W) (h1 : glB X.env.scope ("range" : Str) = true) (hs : isE nm N sc x e = true) (ha : PE X e (TX nm cl X W (ev P cal x))) :
    PI X tg (.Call (.Name ("range" : Str) p) [e] [] pos) (TI' nm cl X W (evi P cal (.rng x))) := by
  refine PI.imp (pi_range1 (glB_d h1) (C.md.bo _ (by decide)) (pa_cons ha pa_nil (star_e hs)) (star_e hs)) fun σ H Rr ⟨F, G, m, r, S, rl, rv, out⟩ => ?_
  simp only [evi] at out
  refine tX.bind rl rv out fun u1 H1 G1 m1 v1 S1 g1 l1 rv1 r1 out => ?_
  split at out
  · cases r1
    split at out
    · rename_i hz
      exact ⟨_, rfl, by omega, by omega, out G1 m1 H1 _ .refl l1 (itr_rng 0 _)⟩
    · exact out.elim
  · exact out.elim
theorem i_rng2 {p : Pos} {sc : Scope} {N : List Str} (C : Ck nm cl P cal n X W) (h1 : glB X.env.scope ("range" : Str) = true) (hs : isE nm N sc x l = true) (hs2 : isE nm N sc y r = true) (ha : PE X l (TX nm cl X W (ev P cal x))) (hb : PE X r (TX nm cl X W (ev P cal y))) :
    PI X tg (.Call (.Name ("range" : Str) p) [l, r] [] pos) (TI' nm cl X W (evi P cal (.rng2 x y))) := by
  refine PI.imp (pi_range2 (glB_d h1) (C.md.bo _ (by decide)) (pa_cons ha (pa_cons hb pa_nil (star_e hs2)) (star_e hs)) (by rw [star_e hs, star_e hs2]; rfl) (star_e hs2)) fun σ H Rr ⟨F, G, m, r, S, rl, rv, out⟩ => ?_
  simp only [evi] at out
  refine tX.bind rl rv out fun u1 H1 G1 m1 v1 S1 g1 l1 rv1 r1 out => ?_
  refine tX.bind l1 rv1 out fun u2 H2 G2 m2 v2 S2 g2 l2 rv2 r2 out => ?_
  split at out
  · cases r1; cases r2
    split at out
    · rename_i hz
      exact ⟨_, _, rfl, ⟨by omega, by omega, by omega, by omega⟩, out G2 m2 H2 _ .refl l2 (itr_rng _ _)⟩
    · exact out.elim
  · exact out.elim
theorem i_zip {p tp : Pos} {k : Nat} {ts : List Expr} {sc : Scope} {N : List Str} (C : Ck nm cl P cal n X W) (h1 : glB X.env.scope ("zip" : Str) = true) (hs : isE nm N sc x l = true) (hs2 : isE nm N sc y r = true) (ha : PE X l (TX nm cl X W (ev P cal x))) (hb : PE X r (TX nm cl X W (ev P cal y))) :
    PI X (.Tuple ts k tp) (.Call (.Name ("zip" : Str) p) [l, r] [] pos) (TI' nm cl X W (evi P cal (.zip x y))) := by
  refine PI.imp (pi_zip (glB_d h1) (C.md.bo _ (by decide)) (pa_cons ha (pa_cons hb pa_nil (star_e hs2)) (star_e hs)) (star_e hs) (by rw [star_e hs2]; rfl)) fun σ H Rr ⟨F, G, m, r, S, rl, rv, out⟩ => ?_
  simp only [evi] at out
  refine tX.bind rl rv out fun u1 H1 G1 m1 v1 S1 g1 l1 rv1 r1 out => ?_
  refine tX.bind l1 rv1 out fun u2 H2 G2 m2 v2 S2 g2 l2 rv2 r2 out => ?_
  split at out
  · cases r1 with
    | lst a1 a2 =>
      cases r2 with
      | lst b1 b2 =>
        exact ⟨_, _, _, _, rfl, .of (l2.ext _ _ (g2.1 _ _ a1)), .of (l2.ext _ _ b1), out G2 m2 H2 _ .refl l2 (itr_zip (.of (g2.1 _ _ a1)) (a2.mono g2.1) (.of b1) b2)⟩
  · exact out.elim
theorem i_enm {p tp : Pos} {k : Nat} {ts : List Expr} {sc : Scope} {N : List Str} (C : Ck nm cl P cal n X W) (h1 : glB X.env.scope ("enumerate" : Str) = true) (hs : isE nm N sc x l = true) (ha : PE X l (TX nm cl X W (ev P cal x))) :
    PI X (.Tuple ts k tp) (.Call (.Name ("enumerate" : Str) p) [l] [] pos) (TI' nm cl X W (evi P cal (.enm x))) := by
  refine PI.imp (pi_enum (glB_d h1) (C.md.bo _ (by decide)) (pa_cons ha pa_nil (star_e hs)) (star_e hs)) fun σ H Rr ⟨F, G, m, r, S, rl, rv, out⟩ => ?_
  simp only [evi] at out
  refine tX.bind rl rv out fun u1 H1 G1 m1 v1 S1 g1 l1 rv1 r1 out => ?_
  split at out
  · cases r1 with
    | lst a1 a2 => exact ⟨_, _, rfl, .of (l1.ext _ _ a1), out G1 m1 H1 _ .refl l1 (itr_enum (.of a1) a2)⟩
  · exact out.elim
end
end Iv
end
section
set_option autoImplicit false
set_option maxRecDepth 100000
set_option maxHeartbeats 4000000
namespace Iv
open PySem L2
/-! ### list comprehensions -/
theorem wipes_len (r : Ev) : ∀ own : List Nat, (wipes r own).length = r.length
  | [] => rfl
  | v :: vs => by simp [wipes, wipes_len r vs]
theorem RlV.wipe {K : Fg} {G : Hp} {m : List Addr} {r : Ev} {σ : L2.St} (h : RlV K G m r σ) : ∀ own : List Nat, RlV K G m (wipes r own) (L2.wipe σ own)
  | [] => h
  | v :: vs => (RlV.wipe h vs).unset v none
theorem wipe_twice (σ : L2.St) (own : List Nat) : L2.wipe (L2.wipe σ own) own = L2.wipe σ own := by
  have all : ∀ (o2 : List Nat), (∀ x ∈ o2, x ∈ own) → L2.wipe (L2.wipe σ o2) own = L2.wipe σ own := by
    intro o2
    induction o2 with
    | nil => intro _; rfl
    | cons a o2 ih =>
      intro h
      show L2.wipe ((L2.wipe σ o2).set a none) own = _
      rw [wipe_set (h a List.mem_cons_self)]
      exact ih fun x hx => h x (List.mem_cons_of_mem _ hx)
  exact all own fun _ h => h
/-- a frame with one thing more -/
theorem Rl.framed {K : Fg} {F G H : Hp} {m : List Addr} {S : Hs} {p : Addr} {o : HO} (l : Rl K F G m S H) (hp : H p = none) : Rl K (upd F p o) G m S (upd H p o) := by
  have gp : G p = none := by
    cases e : G p with
    | none => rfl
    | some q => rw [l.ext _ _ e] at hp; cases hp
  have ex : Ext H (upd H p o) := Ext.upd hp
  refine ⟨l.ext.trans ex, fun a q h => ?_, fun a q h => ?_, fun a ha => let ⟨q, z⟩ := l.mh a ha; ⟨q, ex _ _ z⟩, l.len, l.nd, fun n a q h1 h2 => ?_⟩
  · by_cases e : a = p
    · subst e; rw [upd_same] at h ⊢; exact h
    · rw [upd_ne e] at h ⊢; exact l.fr _ _ h
  · by_cases e : a = p
    · subst e
      refine ⟨gp, fun hm => ?_⟩
      obtain ⟨q, z⟩ := l.mh _ hm
      rw [z] at hp; cases hp
    · rw [upd_ne e] at h; exact l.fd _ _ h
  · rcases l.ob n a q h1 h2 with w | ⟨z1, vs, z2, z3⟩
    · exact .inl w
    · exact .inr ⟨z1, vs, ex _ _ z2, z3⟩
/-- what the frame bears is changed -/
theorem Rl.reframe {K : Fg} {F G H : Hp} {m : List Addr} {S : Hs} {p : Addr} {o o' : HO} (l : Rl K (upd F p o) G m S H) : Rl K (upd F p o') G m S (upd H p o') := by
  obtain ⟨gp, mp⟩ := l.fd p o upd_same
  refine ⟨fun a q h => ?_, fun a q h => ?_, fun a q h => ?_, fun a ha => ?_, l.len, l.nd, fun n a q h1 h2 => ?_⟩
  · have : a ≠ p := fun e => by rw [e, gp] at h; cases h
    rw [upd_ne this]; exact l.ext _ _ h
  · by_cases e : a = p
    · subst e; rw [upd_same] at h ⊢; exact h
    · rw [upd_ne e] at h ⊢
      exact l.fr _ _ (by rw [upd_ne e]; exact h)
  · by_cases e : a = p
    · subst e; exact ⟨gp, mp⟩
    · rw [upd_ne e] at h
      exact l.fd a q (by rw [upd_ne e]; exact h)
  · have : a ≠ p := fun e => mp (e ▸ ha)
    rw [upd_ne this]; exact l.mh a ha
  · have ne : a ≠ p := fun e => mp (e ▸ List.mem_of_getElem? h1)
    rcases l.ob n a q h1 h2 with w | ⟨z1, vs, z2, z3⟩
    · exact .inl w
    · exact .inr ⟨z1, vs, by rw [upd_ne ne]; exact z2, z3⟩
/-- the frame's thing is frozen: from now on it is data -/
theorem Rl.unframe {K : Fg} {F G H : Hp} {m : List Addr} {S : Hs} {p : Addr} {o : HO} (hF : F p = none) (l : Rl K (upd F p o) G m S H) : Rl K F (upd G p o) m S H ∧ Ext G (upd G p o) := by
  obtain ⟨gp, mp⟩ := l.fd p o upd_same
  have hp : H p = some o := l.fr _ _ upd_same
  have ex : Ext G (upd G p o) := Ext.upd gp
  refine ⟨⟨fun a q h => ?_, fun a q h => ?_, fun a q h => ?_, l.mh, l.len, l.nd, fun n a q h1 h2 => ?_⟩, ex⟩
  · by_cases e : a = p
    · subst e; rw [upd_same] at h; cases h; exact hp
    · rw [upd_ne e] at h; exact l.ext _ _ h
  · have : a ≠ p := fun e => by rw [e, hF] at h; cases h
    exact l.fr a q (by rw [upd_ne this]; exact h)
  · have : a ≠ p := fun e => by rw [e, hF] at h; cases h
    obtain ⟨z1, z2⟩ := l.fd a q (by rw [upd_ne this]; exact h)
    exact ⟨by rw [upd_ne this]; exact z1, z2⟩
  · have ne : a ≠ p := fun e => mp (e ▸ List.mem_of_getElem? h1)
    rcases l.ob n a q h1 h2 with w | ⟨z1, vs, z2, z3⟩
    · exact .inl w
    · exact .inr ⟨by rw [upd_ne ne]; exact z1, vs, z2, z3.mono ex⟩
/-- a new list of the small heap -/
theorem Rl.new {K : Fg} {F G H : Hp} {m : List Addr} {S : Hs} {p : Addr} {ob : Ob} {ho : HO} (l : Rl K F G m S H) (hp : H p = none) (r : ObV K G p ob ho) : Rl K F G (m ++ [p]) (S ++ [ob]) (upd H p ho) := by
  have ex : Ext H (upd H p ho) := Ext.upd hp
  have gp : G p = none := by
    cases e : G p with
    | none => rfl
    | some q => rw [l.ext _ _ e] at hp; cases hp
  have pm : p ∉ m := fun h => by
    obtain ⟨q, z⟩ := l.mh _ h
    rw [z] at hp; cases hp
  refine ⟨l.ext.trans ex, l.fr.trans ex, fun a q h => ⟨(l.fd a q h).1, fun hm => ?_⟩, fun a ha => ?_, by simp [l.len], ?_, fun n a q h1 h2 => ?_⟩
  · rcases List.mem_append.mp hm with z | z
    · exact (l.fd a q h).2 z
    · simp at z; subst z; rw [l.fr _ _ h] at hp; cases hp
  · rcases List.mem_append.mp ha with z | z
    · obtain ⟨q, z⟩ := l.mh a z; exact ⟨q, ex _ _ z⟩
    · simp at z; subst z; exact ⟨_, upd_same⟩
  · rw [List.nodup_append]
    exact ⟨l.nd, by simp, fun a ha b hb => by simp at hb; subst hb; exact fun e => pm (e ▸ ha)⟩
  · by_cases hn : n < m.length
    · rw [List.getElem?_append_left hn] at h1
      rw [List.getElem?_append_left (by rw [← l.len]; exact hn)] at h2
      rcases l.ob n a q h1 h2 with w | ⟨z1, vs, z2, z3⟩
      · exact .inl w
      · exact .inr ⟨z1, vs, ex _ _ z2, z3⟩
    · rw [List.getElem?_append_right (by omega)] at h1
      rw [List.getElem?_append_right (by rw [← l.len]; omega), ← l.len] at h2
      cases e : n - m.length with
      | zero =>
        rw [e] at h1 h2
        simp at h1 h2
        subst h1; subst h2
        exact .inr ⟨gp, _, upd_same, r⟩
      | succ k => rw [e] at h1; simp at h1
/-- what stands in the small heap becomes data -/
theorem Rl.still {K : Fg} {F G H : Hp} {m : List Addr} {S : Hs} {n : Nat} {a : Addr} {ho : HO} (l : Rl K F G m S H) (hn : m[n]? = some a) (ga : G a = none) (ha : H a = some ho) :
    Ext G (upd G a ho) ∧ Rl K F (upd G a ho) m (S.set n .dead) H := by
  have ex : Ext G (upd G a ho) := Ext.upd ga
  refine ⟨ex, ⟨fun b q h => ?_, l.fr, fun b q h => ?_, l.mh, by simp [l.len], l.nd, fun k b q h1 h2 => ?_⟩⟩
  · by_cases e : b = a
    · subst e; rw [upd_same] at h; cases h; exact ha
    · rw [upd_ne e] at h; exact l.ext _ _ h
  · obtain ⟨z1, z2⟩ := l.fd b q h
    have : b ≠ a := fun e => z2 (e ▸ List.mem_of_getElem? hn)
    exact ⟨by rw [upd_ne this]; exact z1, z2⟩
  · by_cases e : n = k
    · subst e
      rw [List.getElem?_set_self (by rw [← l.len]; exact (List.getElem?_eq_some_iff.mp hn).1)] at h2
      cases h2; exact .inl rfl
    · rw [List.getElem?_set_ne e] at h2
      have ne : b ≠ a := fun q => e ((List.getElem?_inj (List.getElem?_eq_some_iff.mp hn).1 l.nd).mp (by rw [hn, h1, q]))
      rcases l.ob k b q h1 h2 with w | ⟨z1, vs, z2, z3⟩
      · exact .inl w
      · exact .inr ⟨by rw [upd_ne ne]; exact z1, vs, z2, z3.mono ex⟩
theorem Rl.freeze {K : Fg} {F G H : Hp} {m : List Addr} {S : Hs} {n : Nat} {a : Addr} {xs : List D} (l : Rl K F G m S H) (hn : m[n]? = some a) (hs : S[n]? = some (.lst xs)) :
    ∃ G', Ext G G' ∧ Rl K F G' m (S.set n .dead) H ∧ Rep K G' (.lst xs) (.ref a) := by
  obtain ⟨ga, vs, ha, r⟩ := (l.ob n a _ hn hs).lst
  obtain ⟨ex, l'⟩ := l.still hn ga ha
  exact ⟨_, ex, l', .lst upd_same (r.mono ex)⟩
/-- a thing of the small heap is changed -/
theorem Rl.turn {K : Fg} {F G H : Hp} {m : List Addr} {S : Hs} {n : Nat} {a : Addr} {ob : Ob} {ho : HO} (l : Rl K F G m S H) (hn : m[n]? = some a) (ga : G a = none) (r : ObV K G a ob ho) :
    Rl K F G m (S.set n ob) (upd H a ho) := by
  have am : a ∈ m := List.mem_of_getElem? hn
  refine ⟨fun b q h => ?_, fun b q h => ?_, l.fd, fun b hb => ?_, by simp [l.len], l.nd, fun k b q h1 h2 => ?_⟩
  · have : b ≠ a := fun e => by rw [e, ga] at h; cases h
    rw [upd_ne this]; exact l.ext _ _ h
  · have : b ≠ a := fun e => (l.fd b q h).2 (e ▸ am)
    rw [upd_ne this]; exact l.fr _ _ h
  · by_cases e : b = a
    · subst e; exact ⟨_, upd_same⟩
    · rw [upd_ne e]; exact l.mh b hb
  · by_cases e : n = k
    · subst e
      rw [List.getElem?_set_self (by rw [← l.len]; exact (List.getElem?_eq_some_iff.mp hn).1)] at h2
      cases h2
      rw [hn] at h1; cases h1
      exact .inr ⟨ga, _, upd_same, r⟩
    · rw [List.getElem?_set_ne e] at h2
      have ne : b ≠ a := fun q => e ((List.getElem?_inj (List.getElem?_eq_some_iff.mp hn).1 l.nd).mp (by rw [hn, h1, q]))
      rcases l.ob k b q h1 h2 with w | ⟨z1, vs, z2, z3⟩
      · exact .inl w
      · exact .inr ⟨z1, vs, by rw [upd_ne ne]; exact z2, z3⟩
theorem Rl.newl {K : Fg} {F G H : Hp} {m : List Addr} {S : Hs} {p : Addr} {xs : List D} {vs : List V} (l : Rl K F G m S H) (hp : H p = none) (r : Reps K G xs vs) : Rl K F G (m ++ [p]) (S ++ [.lst xs]) (upd H p (.lst vs)) := l.new hp (.lst r)
theorem Rl.change {K : Fg} {F G H : Hp} {m : List Addr} {S : Hs} {n : Nat} {a : Addr} {xs ys : List D} {ws : List V} (l : Rl K F G m S H) (hn : m[n]? = some a) (hs : S[n]? = some (.lst xs)) (r : Reps K G ys ws) :
    Rl K F G m (S.set n (.lst ys)) (upd H a (.lst ws)) := l.turn hn (l.ob n a _ hn hs).lst.1 (.lst r)
section
variable {nm : Nm} {cl : Nat → Addr} {P : Prg} {cal : Cal} {n : Nat} {X : Cx} {W : WX} {e l r : Expr} {es : List Expr} {pos : Pos} {x y z : Ex}
theorem e_newl (ha : PA X es (TXs nm cl X W (evs P cal x))) : PE X (.List es pos) (TX nm cl X W (ev P cal (.newl x))) := by
  refine PE.imp (pe_lst ha) fun σ H Q ⟨F, G, m, r, S, rl, rv, out⟩ => ?_
  simp only [ev] at out
  refine tX.bind rl rv out fun u1 H1 G1 m1 v1 S1 g1 l1 rv1 r1 out => ?_
  split at out
  · rename_i xs hx
    split at out
    · rename_i hz
      refine ⟨by rw [← r1.length]; exact small_line hz, fun p hp => ?_⟩
      refine out G1 (m1 ++ [p]) _ _ ⟨fun _ _ h => h, fun n a h => ?_⟩ (l1.newl hp (dsOf_reps r1 hx)) ⟨p, ?_, rfl⟩
      · rw [List.getElem?_append_left (List.getElem?_eq_some_iff.mp h).1]; exact h
      · rw [← l1.len]; simp
    · exact out.elim
  · exact out.elim
theorem e_frz {i : Nat} {s : Str} (hN : X.N[i]? = some s) (hv : visB X.env.scope s = true) (ho : okN s = true) : PE X (.Name s pos) (TX nm cl X W (ev P cal (.frz i))) := by
  refine PE.imp (pe_var hN (visB_d hv) (okN_d ho).1 (okN_d ho).2.1) fun σ H Q ⟨F, G, m, r, S, rl, rv, o⟩ => ?_
  simp only [ev] at o
  split at o
  · rename_i k hr
    obtain ⟨u, h1, h2⟩ := rv.2 i _ hr (fun _ _ z => by cases z)
    obtain ⟨a, h2, rfl⟩ := h2
    split at o
    · rename_i xs hs
      obtain ⟨G', ex, l', rp⟩ := rl.freeze h2 hs
      exact ⟨_, h1, o G' m H _ ⟨ex, fun _ _ h => h⟩ l' rp⟩
    · exact o.elim
  · exact o.elim
end
end Iv
end
section
set_option autoImplicit false
set_option maxRecDepth 100000
set_option maxHeartbeats 4000000
namespace Iv
open PySem L2
/-- one turn of a comprehension -/
def cmpF (P : Prg) (cal : Cal) (own : List Nat) (t : Tg) (c e : Ex) (r : Ev) : D → Hs → R (Option D) := fun x S2 => match asgD t x (wipes r own) with
  | none => .bad
  | some r1 => (ev P cal c r1 S2).bind fun k S3 => match k with
    | .d (.bl true) => (ev P cal e r1 S3).bind fun y S4 => match y with
      | .d y => .ok (some y) S4
      | _ => .bad
    | .d (.bl false) => .ok none S3
    | _ => .bad
theorem ev_comp {P : Prg} {cal : Cal} {own : List Nat} {t : Tg} {it c e : Ex} {r : Ev} {S : Hs} : ev P cal (.comp own t it c e) r S = (evi P cal it r S).bind fun xs S1 => if big < xs.length then .bad else
    (compL (cmpF P cal own t c e r) xs [] S1).bind fun ys S5 => .ok (.d (.lst ys)) S5 := rfl
section
variable {nm : Nm} {cl : Nat → Addr} {P : Prg} {cal : Cal} {n : Nat} {X : Cx} {W : WX}
abbrev noW : WX := fun _ _ _ _ => False
/-- the reading of a comprehension, whatever is made of the items -/
theorem comp_gen {wi : TI} {own : List Nat} {t : Tg} {it c e : Ex} {σ : L2.St} {H : Hp} {Q : VK} {kk : List D → Hs → R Vl} (hw : wi = TI' nm cl X W (evi P cal it)) (ht : tgIn own t = true)
    (fin : ∀ (F G2 : Hp) (m2 : List Addr) (S2 : Hs) (H2 : Hp) (acc : List D) (vacc : List V) (Da : Addr), F Da = none → Rl (kx cl X) (upd F Da (.lst vacc)) G2 m2 S2 H2 → Reps (kx cl X) G2 acc vacc → OutV nm.excs X.mg (kx cl X) W F σ G2 m2 Q (kk acc S2) → Q (.ref Da) H2)
    (h : ∃ (F G : Hp) (m : List Addr) (r : Ev) (S : Hs), Rl (kx cl X) F G m S H ∧ RlV (kx cl X) G m r σ ∧ OutV nm.excs X.mg (kx cl X) W F σ G m Q ((evi P cal it r S).bind fun xs S1 => if big < xs.length then .bad else
      (compL (cmpF P cal own t c e r) xs [] S1).bind kk)) : tLc wi (tgR (kx cl X) t) (tB (TX nm cl X noW (ev P cal c))) (TX nm cl X noW (ev P cal e)) own σ H Q := by
  subst hw
  obtain ⟨F, G, m, r, S, rl, rv, out⟩ := h
  refine tX.bind rl rv out fun J H1 G1 m1 xs S1 g1 l1 rv1 r1 out => ?_
  intro Da hD
  by_cases hbig : big < xs.length
  · rw [if_pos hbig] at out; exact out.elim
  rw [if_neg hbig] at out
  have hF : F Da = none := by
    cases q : F Da with
    | none => rfl
    | some o => rw [l1.fr _ _ q] at hD; cases hD
  let IV : Nat → Hp → Prop := fun i H => i ≤ xs.length ∧ ∃ (G2 : Hp) (m2 : List Addr) (S2 : Hs) (acc : List D) (vacc : List V), Grow G1 m1 G2 m2 ∧ Rl (kx cl X) (upd F Da (.lst vacc)) G2 m2 S2 H ∧ Reps (kx cl X) G2 acc vacc ∧ acc.length ≤ i ∧
    OutV nm.excs X.mg (kx cl X) W F σ G2 m2 Q ((compL (cmpF P cal own t c e r) (xs.drop i) acc S2).bind kk)
  refine ⟨fun i k H => k = xs.length - i ∧ IV i H, ⟨xs.length, by simp, Nat.zero_le _, G1, m1, S1, [], [], .refl, l1.framed hD, .nil, Nat.le_refl _, by simpa using out⟩, ?_⟩
  rintro i k H2 ⟨rfl, hi, G2, m2, S2, acc, vacc, g2, l2, racc, hacc, out2⟩
  by_cases hlt : i < xs.length
  · right
    refine ⟨r1.go i H2 (g2.1.trans l2.ext) hlt, IV (i + 1), fun H' iv => ⟨xs.length - (i + 1), by omega, rfl, iv⟩, fun x H3 hy => ?_⟩
    have hd : xs[i]? = some xs[i] := by simp [hlt]
    obtain ⟨G3, al, rep⟩ := r1.yld i G2 H2 x H3 _ g2.1 l2.ext hd hy
    have l3 := l2.al al
    have gr3 : Grow G2 m2 G3 m2 := al.grow l2.ext
    have hdrop : xs.drop i = xs[i] :: xs.drop (i + 1) := List.drop_eq_getElem_cons hlt
    rw [hdrop] at out2
    simp only [compL] at out2
    cases hf : cmpF P cal own t c e r xs[i] S2 with
    | bad => rw [hf] at out2; exact out2.elim
    | exc _ _ _ => rw [hf] at out2; exact out2.elim
    | ok o S4 =>
      rw [hf] at out2
      unfold cmpF at hf
      cases ha : asgD t xs[i] (wipes r own) with
      | none => rw [ha] at hf; cases hf
      | some r2 =>
        rw [ha] at hf
        dsimp only at hf
        refine ⟨G3, m2, wipes r own, r2, _, l3.ext, (rv1.mono (g2.trans gr3)).wipe own, rep, ha, fun σ2 rv2 keep => ⟨by rw [keep own ht]; exact wipe_twice _ _, ?_⟩⟩
        cases hc : ev P cal c r2 S2 with
        | bad => rw [hc] at hf; cases hf
        | exc _ _ _ => rw [hc] at hf; cases hf
        | ok kv S5 =>
          rw [hc] at hf
          simp only [R.bind] at hf
          refine ⟨_, G3, m2, r2, S2, l3, rv2, ?_⟩
          rw [hc]
          intro G5 m5 H5 u g5 l5 r5
          split at hf
          · cases r5
            refine ⟨true, rfl, iteT ?_⟩
            cases he : ev P cal e r2 S5 with
            | bad => rw [he] at hf; cases hf
            | exc _ _ _ => rw [he] at hf; cases hf
            | ok yv S6 =>
              rw [he] at hf
              simp only [R.bind] at hf
              refine ⟨_, G5, m5, r2, S5, l5, rv2.mono g5, ?_⟩
              rw [he]
              intro G6 m6 H6 u6 g6 l6 r6
              split at hf
              · cases hf
                refine ⟨vacc, l6.fr _ _ upd_same, ?_, by omega, G6, m6, _, _, _, (g2.trans gr3).trans (g5.trans g6), l6.reframe, ((racc.mono gr3.1).mono (g5.trans g6).1).append (.cons r6 .nil), ?_, Out.grow (gr3.trans (g5.trans g6)) out2⟩
                · rw [← racc.length, sizeLine_eq]
                  have : xs.length ≤ 1000000 := Nat.le_of_not_lt hbig
                  omega
                · rw [List.length_append]; simp; omega
              · cases hf
          · cases r5
            refine ⟨false, rfl, iteF ?_⟩
            cases hf
            exact ⟨by omega, G5, m5, _, _, vacc, (g2.trans gr3).trans g5, l5, (racc.mono gr3.1).mono g5.1, by omega, Out.grow (gr3.trans g5) out2⟩
          · cases hf
  · left
    have e : i = xs.length := by omega
    subst e
    refine ⟨r1.stop _ H2 (g2.1.trans l2.ext) (Nat.le_refl _), ?_⟩
    rw [List.drop_length] at out2
    simp only [compL, R.bind] at out2
    exact fin F G2 m2 S2 H2 acc vacc Da hF l2 racc out2
/-- the reading of a comprehension -/
theorem comp_read {wi : TI} {own : List Nat} {t : Tg} {it c e : Ex} {σ : L2.St} {H : Hp} {Q : VK} (hw : wi = TI' nm cl X W (evi P cal it)) (ht : tgIn own t = true)
    (h : TX nm cl X W (ev P cal (.comp own t it c e)) σ H Q) : tLc wi (tgR (kx cl X) t) (tB (TX nm cl X noW (ev P cal c))) (TX nm cl X noW (ev P cal e)) own σ H Q := by
  refine comp_gen (kk := fun ys S5 => .ok (.d (.lst ys)) S5) hw ht (fun F G2 m2 S2 H2 acc vacc Da hF l2 racc out2 => ?_) ?_
  · obtain ⟨l3, ex⟩ := l2.unframe hF
    exact out2 _ m2 H2 _ ⟨ex, fun _ _ h => h⟩ l3 (.lst upd_same (racc.mono ex))
  · obtain ⟨F, G, m, r, S, rl, rv, out⟩ := h
    rw [ev_comp] at out
    exact ⟨F, G, m, r, S, rl, rv, out⟩
/-- what the frame bears goes into the small heap -/
theorem Rl.unframeM {K : Fg} {F G H : Hp} {m : List Addr} {S : Hs} {p : Addr} {xs : List D} {vs : List V} (hF : F p = none) (l : Rl K (upd F p (.lst vs)) G m S H) (r : Reps K G xs vs) : Rl K F G (m ++ [p]) (S ++ [.lst xs]) H := by
  obtain ⟨gp, mp⟩ := l.fd p _ upd_same
  have hp : H p = some (.lst vs) := l.fr _ _ upd_same
  refine ⟨l.ext, fun a q h => ?_, fun a q h => ?_, fun a ha => ?_, by simp [l.len], ?_, fun n a q h1 h2 => ?_⟩
  · have : a ≠ p := fun e => by rw [e, hF] at h; cases h
    exact l.fr a q (by rw [upd_ne this]; exact h)
  · have : a ≠ p := fun e => by rw [e, hF] at h; cases h
    obtain ⟨z1, z2⟩ := l.fd a q (by rw [upd_ne this]; exact h)
    exact ⟨z1, fun hm => by
      rcases List.mem_append.mp hm with z | z
      · exact z2 z
      · simp at z; exact this z⟩
  · rcases List.mem_append.mp ha with z | z
    · exact l.mh a z
    · simp at z; subst z; exact ⟨_, hp⟩
  · rw [List.nodup_append]
    exact ⟨l.nd, by simp, fun a ha b hb => by simp at hb; subst hb; exact fun e => mp (e ▸ ha)⟩
  · by_cases hn : n < m.length
    · rw [List.getElem?_append_left hn] at h1
      rw [List.getElem?_append_left (by rw [← l.len]; exact hn)] at h2
      exact l.ob n a q h1 h2
    · rw [List.getElem?_append_right (by omega)] at h1
      rw [List.getElem?_append_right (by rw [← l.len]; omega), ← l.len] at h2
      cases e : n - m.length with
      | zero =>
        rw [e] at h1 h2
        simp at h1 h2
        subst h1; subst h2
        exact .inr ⟨gp, _, hp, .lst r⟩
      | succ k => rw [e] at h1; simp at h1
theorem ev_newc {own : List Nat} {t : Tg} {it c e : Ex} {r : Ev} {S : Hs} : ev P cal (.newc own t it c e) r S = (evi P cal it r S).bind fun xs S1 => if big < xs.length then .bad else
    (compL (cmpF P cal own t c e r) xs [] S1).bind fun ys S5 => .ok (.loc S5.length) (S5 ++ [.lst ys]) := rfl
theorem newc_read {wi : TI} {own : List Nat} {t : Tg} {it c e : Ex} {σ : L2.St} {H : Hp} {Q : VK} (hw : wi = TI' nm cl X W (evi P cal it)) (ht : tgIn own t = true)
    (h : TX nm cl X W (ev P cal (.newc own t it c e)) σ H Q) : tLc wi (tgR (kx cl X) t) (tB (TX nm cl X noW (ev P cal c))) (TX nm cl X noW (ev P cal e)) own σ H Q := by
  refine comp_gen (kk := fun ys S5 => .ok (.loc S5.length) (S5 ++ [.lst ys])) hw ht (fun F G2 m2 S2 H2 acc vacc Da hF l2 racc out2 => ?_) ?_
  · have l3 := l2.unframeM hF racc
    refine out2 G2 (m2 ++ [Da]) H2 _ ⟨fun _ _ h => h, fun n a h => ?_⟩ l3 ⟨Da, ?_, rfl⟩
    · rw [List.getElem?_append_left (List.getElem?_eq_some_iff.mp h).1]; exact h
    · rw [← l2.len]; simp
  · obtain ⟨F, G, m, r, S, rl, rv, out⟩ := h
    rw [ev_newc] at out
    exact ⟨F, G, m, r, S, rl, rv, out⟩
end
end Iv
end
section
set_option autoImplicit false
set_option maxRecDepth 100000
set_option maxHeartbeats 4000000
namespace Iv
open PySem L2
/-! ### dicts -/
theorem RepKs.append {K : Fg} {G : Hp} : ∀ {xs ys : List (Ky × D)} {vs ws : List (Key × V)}, RepKs K G xs vs → RepKs K G ys ws → RepKs K G (xs ++ ys) (vs ++ ws)
  | _, _, _, _, .nil, s => s
  | _, _, _, _, .cons o h r, s => .cons o h (RepKs.append r s)
theorem kput_val {K : Fg} {G : Hp} {k : Ky} {x : D} {v : V} (ok : okK k) (r : Rep K G x v) {xs : List (Ky × D)} {kvs : List (Key × V)} (h : RepKs K G xs kvs) : RepKs K G (kput k x xs) (putK kvs (kyOf k) v) := by
  have dec : ∀ k' : Ky, decide (kyOf k' = kyOf k) = decide (k' = k) := fun k' => by
    by_cases e : k' = k
    · subst e; simp
    · rw [decide_eq_false e, decide_eq_false (fun q => e (kyOf_inj q))]
  have any_in : ∀ (xs : List (Ky × D)) (kvs : List (Key × V)), RepKs K G xs kvs → (kvs.any fun kv => decide (kv.1 = kyOf k)) = xs.any fun p => decide (p.1 = k) := by
    intro xs
    induction xs with
    | nil => intro kvs h; cases h; rfl
    | cons p xs ih =>
      intro kvs h
      cases h with
      | cons _ _ t => rw [List.any_cons, List.any_cons, ih _ t, dec]
  have mapped : ∀ (xs : List (Ky × D)) (kvs : List (Key × V)), RepKs K G xs kvs → RepKs K G (xs.map fun p => if p.1 = k then (p.1, x) else p) (kvs.map fun kv => if kv.1 = kyOf k then (kv.1, v) else kv) := by
    intro xs
    induction xs with
    | nil => intro kvs h; cases h; exact .nil
    | cons p xs ih =>
      intro kvs h
      cases h with
      | @cons k' _ _ _ _ o' r' t =>
        rw [List.map_cons, List.map_cons]
        by_cases e : k' = k
        · subst e
          rw [if_pos rfl, if_pos rfl]
          exact .cons o' r (ih _ t)
        · rw [if_neg e, if_neg fun q => e (kyOf_inj q)]
          exact .cons o' r' (ih _ t)
  unfold kput putK
  rw [any_in xs kvs h]
  by_cases ha : (xs.any fun p => decide (p.1 = k)) = true
  · rw [if_pos ha, if_pos ha]; exact mapped _ _ h
  · rw [if_neg ha, if_neg ha]; exact h.append (.cons ok r .nil)
theorem keyD_V {K : Fg} {G : Hp} {d : D} {u : V} {q : Ky} (r : Rep K G d u) (h : keyD d = some q) : u = kV (kyOf q) ∧ okK q := by
  cases r with
  | int i => cases h; exact ⟨rfl, trivial⟩
  | str s o => cases h; exact ⟨rfl, o⟩
  | _ => cases h
/-- a dict that is read -/
theorem rdK_rd {K : Fg} {F G H : Hp} {m : List Addr} {S : Hs} {v : Vl} {u : V} {xs : List (Ky × D)} (l : Rl K F G m S H) (r : RepV K G m v u) (h : rdK v S = some xs) : ∃ a ks, u = .ref a ∧ Rd H a (.dK ks) ∧ RepKs K G xs ks := by
  unfold rdK at h
  split at h
  · cases h
    cases r with
    | dct h1 h2 => exact ⟨_, _, rfl, .inr ⟨_, l.ext _ _ h1⟩, h2⟩
  · rename_i n
    obtain ⟨a, ha, rfl⟩ := r
    split at h
    · rename_i kvs hs
      cases h
      obtain ⟨_, ks, h2, h3⟩ := (l.ob n a _ ha hs).dct
      exact ⟨a, ks, rfl, .inl h2, h3⟩
    · cases h
  · cases h
/-- a new dict is locked for ever -/
theorem pe_lock {X : Cx} {e : Expr} {t : TE} (h : PE X e t) : PE X e (fun σ H Q => t σ H fun x H1 => ∃ p kvs, x = .ref p ∧ H1 p = some (.dK kvs) ∧ ∀ o, Q x (upd H1 p (.frz o (.dK kvs)))) := by
  refine ⟨fun pins s σ H Q I hw => thn (h.run pins s σ H _ I hw) fun v s' ⟨x, H1, I1, rx, p, kvs, ex, hp, q⟩ => ?_⟩
  obtain ⟨od, I2⟩ := I1.lock hp trivial
  exact ⟨x, _, I2, rx, q od⟩
theorem upd_upd {H : Hp} {p : Addr} {a b : HO} : upd (upd H p a) p b = upd H p b := by
  funext q
  by_cases e : q = p
  · subst e; rw [upd_same, upd_same]
  · rw [upd_ne e, upd_ne e, upd_ne e]
section
variable {nm : Nm} {cl : Nat → Addr} {P : Prg} {cal : Cal} {n : Nat} {X : Cx} {W : WX} {e l r : Expr} {es : List Expr} {pos : Pos} {x y z : Ex}
theorem e_dct0 : PE X (.Dict [] [] pos) (TX nm cl X W (ev P cal .dct0)) := by
  refine PE.imp (pe_lock pe_dnewK) fun σ H Q ⟨F, G, m, r, S, rl, rv, out⟩ => ?_
  simp only [ev] at out
  intro p hp
  refine ⟨p, [], rfl, upd_same, fun o => ?_⟩
  rw [upd_upd]
  exact Out.gives out rl _ _ _ (Al.one hp) (.dct upd_same .nil)
theorem e_newd : PE X (.Dict [] [] pos) (TX nm cl X W (ev P cal .newd)) := by
  refine PE.imp pe_dnewK fun σ H Q ⟨F, G, m, r, S, rl, rv, out⟩ => ?_
  simp only [ev] at out
  intro p hp
  refine out G (m ++ [p]) _ _ ⟨fun _ _ h => h, fun n a h => ?_⟩ (rl.new hp (.dct .nil)) ⟨p, ?_, rfl⟩
  · rw [List.getElem?_append_left (List.getElem?_eq_some_iff.mp h).1]; exact h
  · rw [← rl.len]; simp
theorem e_dix (C : Ck nm cl P cal n X W) (hp : PlainIx r) (ha : PE X l (TX nm cl X W (ev P cal x))) (hb : PE X r (TX nm cl X W (ev P cal y))) : PE X (.Subscript l r pos) (TX nm cl X W (ev P cal (.dix x y))) := by
  refine PE.imp (pe_dget (Nat.lt_of_le_of_lt (by omega) C.room.units) ha hb hp) fun σ H Q ⟨F, G, m, r, S, rl, rv, out⟩ => ?_
  simp only [ev] at out
  refine tX.bind rl rv out fun u1 H1 G1 m1 v1 S1 g1 l1 rv1 r1 out => ?_
  refine tX.bind l1 rv1 out fun u2 H2 G2 m2 v2 S2 g2 l2 rv2 r2 out => ?_
  split at out
  · rename_i kvs b ea
    obtain ⟨d, hd, g⟩ := Out.optD out l2
    obtain ⟨a, ks, rfl, h1, h2⟩ := rdK_rd l2 (r1.mono g2) ea
    cases hk : keyD b with
    | none => rw [hk] at hd; cases hd
    | some q =>
      rw [hk] at hd
      obtain ⟨rfl, ok⟩ := keyD_V r2 hk
      rcases h2.val q with ⟨e1, _⟩ | ⟨w, v, e1, e2, e3⟩
      · rw [Option.bind_some, e1] at hd; cases hd
      · rw [Option.bind_some, e1] at hd; cases hd
        exact ⟨a, v, rfl, .inl ⟨ks, _, h1, rfl, e2.symm⟩, g.here e3⟩
  · exact out.elim
theorem din_read {ng : Bool} {σ : L2.St} {H : Hp} {Q : VK} (h : TX nm cl X W (ev P cal (.din ng x y)) σ H Q) :
    TX nm cl X W (ev P cal x) σ H fun y' H1 => TX nm cl X W (ev P cal y) σ H1 fun x' H2 => ∃ a o, x' = .ref a ∧ DGet H2 a y' o ∧ Q (.bl (if ng then !o.isSome else o.isSome)) H2 := by
  obtain ⟨F, G, m, r, S, rl, rv, out⟩ := h
  simp only [ev] at out
  refine tX.bind rl rv out fun u1 H1 G1 m1 v1 S1 g1 l1 rv1 r1 out => ?_
  refine tX.bind l1 rv1 out fun u2 H2 G2 m2 v2 S2 g2 l2 rv2 r2 out => ?_
  cases v1 with
  | loc _ => cases hq : rdK v2 S2 <;> rw [hq] at out <;> exact out.elim
  | xc _ _ => cases hq : rdK v2 S2 <;> rw [hq] at out <;> exact out.elim
  | d b =>
  cases ea : rdK v2 S2 with
  | none => rw [ea] at out; exact out.elim
  | some kvs =>
    rw [ea] at out
    dsimp only at out
    obtain ⟨a, ks, rfl, h1, h2⟩ := rdK_rd l2 r2 ea
    cases hk : keyD b with
    | none => rw [hk] at out; exact out.elim
    | some q =>
      rw [hk] at out
      obtain ⟨rfl, ok⟩ := keyD_V (Rep.mono g2.1 r1) hk
      have hb : ((valV ks (kyOf q)).isSome) = (kget q kvs).isSome := by
        rcases h2.val q with ⟨e1, e2⟩ | ⟨w, v, e1, e2, e3⟩
        · rw [e1, e2]; rfl
        · rw [e1, e2]; rfl
      refine ⟨a, _, rfl, .inl ⟨ks, _, h1, rfl, rfl⟩, ?_⟩
      rw [hb]
      exact (Out.gives out l2).here (.bl _)
theorem e_din {ng : Bool} (C : Ck nm cl P cal n X W) (hm : behindInMarks (if ng then .NotIn else .In) r = false) (ha : PE X l (TX nm cl X W (ev P cal x))) (hb : PE X r (TX nm cl X W (ev P cal y))) : PE X (.Compare l [if ng then .NotIn else .In] [r] pos) (TX nm cl X W (ev P cal (.din ng x y))) := by
  have hu : X.A.units + 1 < cLine := Nat.lt_of_le_of_lt (by omega) C.room.units
  have key : PE X (.Compare l [if ng then .NotIn else .In] [r] pos) (fun σ H Q => TX nm cl X W (ev P cal x) σ H fun y' H1 => TX nm cl X W (ev P cal y) σ H1 fun x' H2 => ∃ a o, x' = .ref a ∧ DGet H2 a y' o ∧ Q (.bl (if ng then !o.isSome else o.isSome)) H2) := by
    cases ng with
    | true => exact pe_cmp (pc_dnotin hu ha hb) hm
    | false => exact pe_cmp (pc_din hu ha hb) hm
  exact PE.imp key fun σ H Q h => din_read h
theorem t_din {ng : Bool} (C : Ck nm cl P cal n X W) (hm : behindInMarks (if ng then .NotIn else .In) r = false) (ha : PE X l (TX nm cl X W (ev P cal x))) (hb : PE X r (TX nm cl X W (ev P cal y))) : PT X (.Compare l [if ng then .NotIn else .In] [r] pos) (tB (TX nm cl X W (ev P cal (.din ng x y)))) := by
  have hu : X.A.units + 1 < cLine := Nat.lt_of_le_of_lt (by omega) C.room.units
  have key : PT X (.Compare l [if ng then .NotIn else .In] [r] pos) (tB fun σ H Q => TX nm cl X W (ev P cal x) σ H fun y' H1 => TX nm cl X W (ev P cal y) σ H1 fun x' H2 => ∃ a o, x' = .ref a ∧ DGet H2 a y' o ∧ Q (.bl (if ng then !o.isSome else o.isSome)) H2) := by
    cases ng with
    | true => exact pt_cmp (pc_dnotin hu ha hb) hm
    | false => exact pt_cmp (pc_din hu ha hb) hm
  exact PT.imp key fun σ H Q h => din_read h
theorem e_dgt {a1 a2 : Expr} {ap : Pos} {sc : Scope} {N : List Str} (C : Ck nm cl P cal n X W) (h0 : noC0 l = true) (hl : (ap.endLine == pos.line) = true) (hs : isE nm N sc y a1 = true) (hs2 : isE nm N sc z a2 = true)
    (ha : PE X l (TX nm cl X W (ev P cal x))) (hb : PE X a1 (TX nm cl X W (ev P cal y))) (hc : PE X a2 (TX nm cl X W (ev P cal z))) : PE X (.Call (.Attribute l "get" ap) [a1, a2] [] pos) (TX nm cl X W (ev P cal (.dgt x y z))) := by
  have m : M2 X l "get" ap a1 a2 pos := ⟨base_e h0, by rw [star_e hs, star_e hs2]; rfl, hl, by rw [star_e hs, star_e hs2]; rfl⟩
  refine PE.imp (pe_dget2 (Nat.lt_of_le_of_lt (by omega) C.room.units) ha hb hc m) fun σ H Q ⟨F, G, m, r, S, rl, rv, out⟩ => ?_
  simp only [ev] at out
  refine tX.bind rl rv out fun u1 H1 G1 m1 v1 S1 g1 l1 rv1 r1 out => ?_
  split at out
  · rename_i kvs0 ea0
    obtain ⟨a, ks0, rfl, h1, h2⟩ := rdK_rd l1 r1 ea0
    refine ⟨a, rfl, .inl ⟨_, h1⟩, tX.bind l1 rv1 out fun u2 H2 G2 m2 v2 S2 g2 l2 rv2 r2 out => ?_⟩
    refine tX.bind l2 rv2 out fun u3 H3 G3 m3 v3 S3 g3 l3 rv3 r3 out => ?_
    cases v2 with
    | loc _ => cases hq : rdK v1 S3 <;> rw [hq] at out <;> exact out.elim
    | xc _ _ => cases hq : rdK v1 S3 <;> rw [hq] at out <;> exact out.elim
    | d b =>
    cases v3 with
    | loc _ => cases hq : rdK v1 S3 <;> rw [hq] at out <;> exact out.elim
    | xc _ _ => cases hq : rdK v1 S3 <;> rw [hq] at out <;> exact out.elim
    | d w =>
    cases ea : rdK v1 S3 with
    | none => rw [ea] at out; exact out.elim
    | some kvs =>
      rw [ea] at out
      dsimp only at out
      obtain ⟨a', ks, e', h3, h4⟩ := rdK_rd l3 (r1.mono (g2.trans g3)) ea
      cases e'
      cases hk : keyD b with
      | none => rw [hk] at out; exact out.elim
      | some q =>
        rw [hk] at out
        obtain ⟨rfl, ok⟩ := keyD_V (Rep.mono g3.1 r2) hk
        rcases h4.val q with ⟨e1, e2⟩ | ⟨w', v, e1, e2, e3⟩
        · refine ⟨none, .inl ⟨ks, _, h3, rfl, e2.symm⟩, ?_⟩
          have o2 := Out.gives (d := w) (by simpa [e1, R.opt] using out) l3
          exact o2.here r3
        · refine ⟨some v, .inl ⟨ks, _, h3, rfl, e2.symm⟩, ?_⟩
          have o2 := Out.gives (d := w') (by simpa [e1, R.opt] using out) l3
          exact o2.here e3
  · exact out.elim
/-- one turn of a dict comprehension -/
def dcmF (P : Prg) (cal : Cal) (own : List Nat) (t : Tg) (c k e : Ex) (r : Ev) : D → Hs → R (Option (Ky × D)) := fun x S2 => match asgD t x (wipes r own) with
  | none => .bad
  | some r1 => (ev P cal c r1 S2).bind fun b S3 => match b with
    | .d (.bl true) => (ev P cal k r1 S3).bind fun y S4 => (ev P cal e r1 S4).bind fun z S5 => match y, z with
      | .d y, .d z => match keyD y with
        | some q => .ok (some (q, z)) S5
        | none => .bad
      | _, _ => .bad
    | .d (.bl false) => .ok none S3
    | _ => .bad
theorem ev_dcmp {own : List Nat} {t : Tg} {it c k e : Ex} {r : Ev} {S : Hs} : ev P cal (.dcmp own t it c k e) r S = (evi P cal it r S).bind fun xs S1 => if big < xs.length then .bad else
    (dcmpL (dcmF P cal own t c k e r) xs [] S1).bind fun ys S5 => .ok (.d (.dct ys)) S5 := rfl
theorem kput_len (k : Ky) (x : D) (xs : List (Ky × D)) : (kput k x xs).length ≤ xs.length + 1 := by
  unfold kput
  split
  · rw [List.length_map]; omega
  · rw [List.length_append]; simp
/-- the reading of a dict comprehension -/
theorem dcmp_read {wi : TI} {own : List Nat} {t : Tg} {it c k e : Ex} {σ : L2.St} {H : Hp} {Q : VK} (hw : wi = TI' nm cl X W (evi P cal it)) (ht : tgIn own t = true)
    (h : TX nm cl X W (ev P cal (.dcmp own t it c k e)) σ H Q) : tDc wi (tgR (kx cl X) t) (tB (TX nm cl X noW (ev P cal c))) (TX nm cl X noW (ev P cal k)) (TX nm cl X noW (ev P cal e)) own σ H
      fun x H1 => ∃ p kvs, x = .ref p ∧ H1 p = some (.dK kvs) ∧ ∀ o, Q x (upd H1 p (.frz o (.dK kvs))) := by
  subst hw
  obtain ⟨F, G, m, r, S, rl, rv, out⟩ := h
  rw [ev_dcmp] at out
  refine tX.bind rl rv out fun J H1 G1 m1 xs S1 g1 l1 rv1 r1 out => ?_
  intro Da hD
  by_cases hbig : big < xs.length
  · rw [if_pos hbig] at out; exact out.elim
  rw [if_neg hbig] at out
  have hF : F Da = none := by
    cases q : F Da with
    | none => rfl
    | some o => rw [l1.fr _ _ q] at hD; cases hD
  let IV : Nat → Hp → Prop := fun i H => i ≤ xs.length ∧ ∃ (G2 : Hp) (m2 : List Addr) (S2 : Hs) (acc : List (Ky × D)) (vacc : List (Key × V)), Grow G1 m1 G2 m2 ∧ Rl (kx cl X) (upd F Da (.dK vacc)) G2 m2 S2 H ∧ RepKs (kx cl X) G2 acc vacc ∧ acc.length ≤ i ∧
    OutV nm.excs X.mg (kx cl X) W F σ G2 m2 Q ((dcmpL (dcmF P cal own t c k e r) (xs.drop i) acc S2).bind fun ys S5 => .ok (.d (.dct ys)) S5)
  refine ⟨fun i k H => k = xs.length - i ∧ IV i H, ⟨xs.length, by simp, Nat.zero_le _, G1, m1, S1, [], [], .refl, l1.framed hD, .nil, Nat.le_refl _, by simpa using out⟩, ?_⟩
  rintro i kk H2 ⟨rfl, hi, G2, m2, S2, acc, vacc, g2, l2, racc, hacc, out2⟩
  by_cases hlt : i < xs.length
  · right
    refine ⟨r1.go i H2 (g2.1.trans l2.ext) hlt, IV (i + 1), fun H' iv => ⟨xs.length - (i + 1), by omega, rfl, iv⟩, fun x H3 hy => ?_⟩
    have hd : xs[i]? = some xs[i] := by simp [hlt]
    obtain ⟨G3, al, rep⟩ := r1.yld i G2 H2 x H3 _ g2.1 l2.ext hd hy
    have l3 := l2.al al
    have gr3 : Grow G2 m2 G3 m2 := al.grow l2.ext
    have hdrop : xs.drop i = xs[i] :: xs.drop (i + 1) := List.drop_eq_getElem_cons hlt
    rw [hdrop] at out2
    simp only [dcmpL] at out2
    cases hf : dcmF P cal own t c k e r xs[i] S2 with
    | bad => rw [hf] at out2; exact out2.elim
    | exc _ _ _ => rw [hf] at out2; exact out2.elim
    | ok o S4 =>
      rw [hf] at out2
      unfold dcmF at hf
      cases ha : asgD t xs[i] (wipes r own) with
      | none => rw [ha] at hf; cases hf
      | some r2 =>
        rw [ha] at hf
        dsimp only at hf
        refine ⟨G3, m2, wipes r own, r2, _, l3.ext, (rv1.mono (g2.trans gr3)).wipe own, rep, ha, fun σ2 rv2 keep => ⟨by rw [keep own ht]; exact wipe_twice _ _, ?_⟩⟩
        cases hc : ev P cal c r2 S2 with
        | bad => rw [hc] at hf; cases hf
        | exc _ _ _ => rw [hc] at hf; cases hf
        | ok kv S5 =>
          rw [hc] at hf
          simp only [R.bind] at hf
          refine ⟨_, G3, m2, r2, S2, l3, rv2, ?_⟩
          rw [hc]
          intro G5 m5 H5 u g5 l5 r5
          split at hf
          · cases r5
            refine ⟨true, rfl, iteT ?_⟩
            cases he : ev P cal k r2 S5 with
            | bad => rw [he] at hf; cases hf
            | exc _ _ _ => rw [he] at hf; cases hf
            | ok yv S6 =>
              rw [he] at hf
              dsimp only at hf
              refine ⟨_, G5, m5, r2, S5, l5, rv2.mono g5, ?_⟩
              rw [he]
              intro G6 m6 H6 u6 g6 l6 r6
              cases hz : ev P cal e r2 S6 with
              | bad => rw [hz] at hf; cases hf
              | exc _ _ _ => rw [hz] at hf; cases hf
              | ok zv S7 =>
                rw [hz] at hf
                dsimp only at hf
                refine ⟨_, G6, m6, r2, S6, l6, rv2.mono (g5.trans g6), ?_⟩
                rw [hz]
                intro G7 m7 H7 u7 g7 l7 r7
                cases yv with
                | loc _ => cases hf
                | xc _ _ => cases hf
                | d y =>
                cases zv with
                | loc _ => cases hf
                | xc _ _ => cases hf
                | d zz =>
                dsimp only at hf
                cases hk : keyD y with
                | none => rw [hk] at hf; cases hf
                | some q =>
                  rw [hk] at hf
                  cases hf
                  obtain ⟨rfl, ok⟩ := keyD_V r6 hk
                  refine ⟨vacc, kyOf q, rfl, l7.fr _ _ upd_same, ?_, by omega, G7, m7, _, _, _, (g2.trans gr3).trans ((g5.trans g6).trans g7), l7.reframe, kput_val ok r7 ((racc.mono gr3.1).mono ((g5.trans g6).trans g7).1), ?_, Out.grow (gr3.trans ((g5.trans g6).trans g7)) out2⟩
                  · rw [← racc.length, sizeLine_eq]
                    have : xs.length ≤ 1000000 := Nat.le_of_not_lt hbig
                    omega
                  · have := kput_len q zz acc; omega
          · cases r5
            refine ⟨false, rfl, iteF ?_⟩
            cases hf
            exact ⟨by omega, G5, m5, _, _, vacc, (g2.trans gr3).trans g5, l5, (racc.mono gr3.1).mono g5.1, by omega, Out.grow (gr3.trans g5) out2⟩
          · cases hf
  · left
    have e : i = xs.length := by omega
    subst e
    refine ⟨r1.stop _ H2 (g2.1.trans l2.ext) (Nat.le_refl _), Da, vacc, rfl, l2.fr _ _ upd_same, fun o => ?_⟩
    rw [List.drop_length] at out2
    simp only [dcmpL, R.bind] at out2
    have l2' := l2.reframe (o' := .frz o (.dK vacc))
    obtain ⟨l3, ex⟩ := l2'.unframe hF
    exact out2 _ m2 _ _ ⟨ex, fun _ _ h => h⟩ l3 (.dct upd_same (racc.mono ex))
end
end Iv
end
section
set_option autoImplicit false
set_option maxRecDepth 100000
set_option maxHeartbeats 4000000
namespace Iv
open PySem L2
/-! ### tuples whose object is known -/
/-- the object of a new tuple -/
abbrev tupO (us : List Value) : Obj := { cls := .type "tuple", data := .seq us.toArray }
section
variable {X : Cx} {es : List Expr} {t : TA} {pos : Pos}
theorem pe_tupP {k : Nat} (h : PA X es t) : PE X (.Tuple es k pos) (fun σ H Q => t σ H fun xs H1 => xs.length ≤ sizeLine ∧ ∀ p us, H1 p = none → Q (.ref p) (upd H1 p (.frz (tupO us) (.tup xs)))) := by
  refine ⟨fun pins s σ H Q I hq => wpAny_Tuple_spliced (thn (h.run pos pins s σ H _ I hq) fun us s1 ⟨xs, H1, I1, r, z, q⟩ => ⟨by rw [← r.length]; exact z, ?_⟩)⟩
  have fr : H1 s1.heap.objs.size = none := I1.hok.fresh (Nat.le_refl _)
  have at_ : (s1.heap.push (tupO us)).get? s1.heap.objs.size = some (tupO us) := Heap.get?_push_size _ rfl
  exact ⟨.ref s1.heap.objs.size, _, I1.laid (t' := s1.toks) (o := .frz (tupO us) (.tup xs)) (fun b u e => Heap.get?_push_of_some _ e) (Nat.le_refl _) ⟨at_, z, us, r, ⟨_, at_, rfl, _, rfl⟩⟩, rfl, q _ us fr⟩
theorem call_tupP : CallR X (.type "tuple") (fun xs H Q => ∃ p ys, xs = [.ref p] ∧ SqL X.K H p ys ∧ (ys.length ≤ sizeLine → ∀ l us, H l = none → Q (.ref l) (upd H l (.frz (tupO us) (.tup ys))))) := by
  intro pins s σ H xs us Q I r h
  obtain ⟨p, ys, rfl, hq, q⟩ := h
  obtain rfl := Vals.ref1 r
  obtain ⟨its, r', pl, hz⟩ := I.list hq
  have hlen := r'.length
  refine call_tuple_list pl.isList (fun h' kp => ?_) (by simp only [List.size_toArray]; omega)
  have I1 : Inv X pins σ H { s with heap := h' } := I.kept (t' := s.toks) kp
  have at_ : (h'.push (tupO its)).get? h'.objs.size = some (tupO its) := Heap.get?_push_size _ rfl
  exact ⟨.ref h'.objs.size, _, I1.laid (t' := s.toks) (o := .frz (tupO its) (.tup ys)) (fun b o e => Heap.get?_push_of_some _ e) (Nat.le_refl _) ⟨at_, hz, its, r', ⟨_, at_, rfl, _, rfl⟩⟩, rfl, q hz _ its (I1.hok.fresh (Nat.le_refl _))⟩
/-! ### dict(pairs) -/
end
theorem list_choose {α β : Type} (l : List α) (R : Nat → α → β → Prop) (h : ∀ (j : Nat) (a : α), l[j]? = some a → ∃ b, R j a b) : ∃ bs : List β, bs.length = l.length ∧ ∀ (j : Nat) (a : α) (b : β), l[j]? = some a → bs[j]? = some b → R j a b := by
  induction l generalizing R with
  | nil => exact ⟨[], rfl, fun j a b e => by simp at e⟩
  | cons x l ih =>
    obtain ⟨bs, h1, h2⟩ := ih (fun j => R (j + 1)) fun j a e => h (j + 1) a (by simpa using e)
    obtain ⟨b, hb⟩ := h 0 x rfl
    refine ⟨b :: bs, by simp [h1], fun j a c e1 e2 => ?_⟩
    cases j with
    | zero => simp at e1 e2; subst e1; subst e2; exact hb
    | succ j => exact h2 j a c (by simpa using e1) (by simpa using e2)
section
variable {X : Cx} {es : List Expr} {t : TA} {pos : Pos}
/-- the pairs of a tuple whose object is known -/
theorem call_dofP (hc : X.calm = true) : CallR X (.type "dict") (fun xs H Q => ∃ (a : Addr) (ps : List Addr) (kvs : List (Key × V)), xs = [.ref a] ∧ SqP X.K H a (ps.map V.ref) ∧ Paired (fun p kv => SqT X.K H p [kV kv.1, kv.2]) ps kvs ∧
    ∀ p, H p = none → Q (.ref p) (upd H p (.dK (mergeK [] kvs)))) := by
  intro pins s σ H xs us Q I r h
  obtain ⟨a, ps, kvs, rfl, hq, hp, q⟩ := h
  obtain rfl := Vals.ref1 r
  obtain ⟨prs, rel, hl, hpr⟩ := pairs_of I hp
  obtain ⟨o, its, n, h1, h2, h3, h4, hz⟩ := hq
  have hget : s.heap.get? a = some o ∧ Vals (ps.map V.ref) its := by
    rcases h1 with h1 | ⟨h1, h6⟩
    · obtain ⟨e1, e2⟩ := (show ObjOk X.prog X.w H s.heap a (.frz o (.tup (ps.map V.ref))) from I.hok a _ h1)
      obtain ⟨_, its', rv, o', ho', hc', n', hd'⟩ := e2
      rw [e1] at ho'; cases ho'
      rw [h4] at hd'
      injection hd' with d1 _
      have : its = its' := by simpa using congrArg Array.toList d1
      subst this
      exact ⟨e1, rv⟩
    · exact ⟨I.kIn a o h1, h6⟩
  obtain ⟨hget, rv⟩ := hget
  have ei := refs_at rv
  subst ei
  rw [List.length_map] at hz
  obtain ⟨us, hul, hus⟩ := list_choose prs (fun j q u => ∃ b, ps[j]? = some b ∧ PyProof.Rows.IsTup s.heap b #[u, q.2] ∧ keyIs q.1 u = true) fun j q e => by
    obtain ⟨b, u, e1, e2, e3⟩ := hpr j q e
    exact ⟨u, b, e1, e2, e3⟩
  have zl : (us.zip (prs.map (·.2))).length = prs.length := by simp [hul]
  have zg : ∀ (j : Nat) (k v : Value), (us.zip (prs.map (·.2)))[j]? = some (k, v) → ∃ q, prs[j]? = some q ∧ us[j]? = some k ∧ v = q.2 := fun j k v e => by
    rw [List.getElem?_zip_eq_some] at e
    obtain ⟨e1, e2⟩ := e
    rw [List.getElem?_map] at e2
    cases e3 : prs[j]? with
    | none => rw [e3] at e2; cases e2
    | some q => rw [e3] at e2; cases e2; exact ⟨q, rfl, e1, rfl⟩
  refine PySem.call_dict_pairs (knd := mixKind X.prog X.w) (kvs := prs) (PairArg.tuple a ((ps.map Value.ref).toArray) (fun j => (ps[j]?).getD 0) (us.zip (prs.map (·.2)))) (I.ok.hd hc) ⟨⟨o, n, hget, h2, h3, h4⟩, by simp [hul, hl], fun j k v e => ?_⟩ ⟨zl.symm, fun j k v e => ?_⟩ (by rw [zl, hl]; exact hz) fun h' tk hd' hk => ?_
  · obtain ⟨q, e1, e2, rfl⟩ := zg j k v e
    obtain ⟨b, e3, e4, _⟩ := hus j q k e1 e2
    refine ⟨by simp [e3], .inl ?_⟩
    show s.heap.IsTuple ((ps[j]?).getD 0) _
    rw [e3]
    exact e4
  · obtain ⟨q, e1, e2, rfl⟩ := zg j k v e
    obtain ⟨b, _, _, e5⟩ := hus j q k e1 e2
    exact ⟨q.1, e1, e5⟩
  · have hm : (s.heap.objs.size == sysModules) = false := beq_eq_false_iff_ne.mpr (Nat.ne_of_gt I.big)
    have hlen : (mergeK [] kvs).length ≤ sizeLine := by
      refine Nat.le_trans (length_mergeK kvs []) ?_
      rw [List.length_nil, Nat.zero_add, rel.length, hl]
      exact hz
    have kp : ∀ b o, s.heap.get? b = some o → h'.get? b = some o := fun b o e => hk b o (by simp) e
    exact ⟨.ref s.heap.objs.size, _, I.laid (t' := tk) (o := .dK (mergeK [] kvs)) kp (Nat.le_refl _) ⟨hlen, hm, _, KV.merge rel .nil, hd'⟩, rfl, q _ (I.hok.fresh (Nat.le_refl _))⟩
/-! ### d == {} -/
theorem op_deq0 {ng : Bool} (hu : X.A.units < cLine) : OpR X (compareOp (if ng then .NotEq else .Eq)) (fun x y H Q => ∃ a b ks, x = .ref a ∧ y = .ref b ∧ Rd H a (.dK ks) ∧ H b = some (.dK []) ∧ Q (.bl (if ng then !ks.isEmpty else ks.isEmpty)) H) := by
  intro pins s σ H x y v u Q I rx ry h
  obtain ⟨a, b, ks, rfl, rfl, ea, eb, q⟩ := h
  obtain rfl : v = Value.ref a := rx
  obtain rfl : u = Value.ref b := ry
  obtain ⟨_, ya, va, ra, da⟩ := dk_rd I.hok ea
  obtain ⟨_, yb, vb, rb, db⟩ := dk_rd I.hok (.inl eb)
  cases rb
  have em : ∀ r : Bool, (va.length = ([] : List (Key × Value)).length → r = true) → (va.length == ([] : List (Key × Value)).length && r) = ks.isEmpty := fun r hr => by
    have e1 : ks.length = va.length := ra.length
    cases ks with
    | nil => cases va with
      | nil => rw [hr rfl]; rfl
      | cons _ _ => simp at e1
    | cons _ _ => cases va with
      | nil => simp at e1
      | cons _ _ => rfl
  have hits : va.length = ([] : List (Key × Value)).length → PySem.W.KeqHits X.A.in1 s ([] : List (Key × Value)) va true := fun h => by
    cases va with
    | nil => exact .nil
    | cons _ _ => simp at h
  cases ng with
  | false => exact PySem.W.keq_eq (knd := mixKind X.prog X.w) (r := true) ya yb da db hu hits (by rw [em true fun _ => rfl]; exact ⟨.bl _, H, I, rfl, q⟩)
  | true => exact PySem.W.keq_ne (knd := mixKind X.prog X.w) (r := true) ya yb da db hu hits (by rw [em true fun _ => rfl]; exact ⟨.bl _, H, I, rfl, q⟩)
end
/-! ### sorted -/
mutual
theorem lt_py : ∀ (x y : D) (n m : Nat), D.plain x n = true → D.plain y m = true → D.alike x y = true → PySem.W.alike (toPy x) (toPy y) = true ∧ PySem.W.dataLt (toPy x) (toPy y) = D.lt x y
  | .int i, y, n, m, h1, h2, h => by
    cases y with
    | int j => exact ⟨rfl, PySem.W.dataLt_int _ _⟩
    | _ => cases h
  | .bl b, y, n, m, h1, h2, h => by
    cases y with
    | bl c => exact ⟨rfl, by rw [show toPy (.bl b) = .bool b from rfl, show toPy (.bl c) = .bool c from rfl, PySem.W.dataLt_bool]; cases b <;> cases c <;> decide⟩
    | _ => cases h
  | .str s, y, n, m, h1, h2, h => by
    cases y with
    | str t => exact ⟨rfl, by rw [show toPy (.str s) = .str (S' s) from rfl, show toPy (.str t) = .str (S' t) from rfl, PySem.W.dataLt_str, S'_list, S'_list, ← ltCs_iff]; rfl⟩
    | _ => cases h
  | .tup xs, y, n, m, h1, h2, h => by
    cases y with
    | tup ys =>
      cases n with
      | zero => cases h1
      | succ n => cases m with
        | zero => cases h2
        | succ m =>
          obtain ⟨a1, a2⟩ := lts_py xs ys n m h1 h2 h
          exact ⟨a1, by rw [show toPy (.tup xs) = .tuple (toPys xs) from rfl, show toPy (.tup ys) = .tuple (toPys ys) from rfl, PySem.W.dataLt_tuple, a2]; rfl⟩
    | _ => cases h
  | .lst xs, y, n, m, h1, h2, h => by
    cases y with
    | lst ys =>
      cases n with
      | zero => cases h1
      | succ n => cases m with
        | zero => cases h2
        | succ m =>
          obtain ⟨a1, a2⟩ := lts_py xs ys n m h1 h2 h
          exact ⟨a1, by rw [show toPy (.lst xs) = .list (toPys xs) from rfl, show toPy (.lst ys) = .list (toPys ys) from rfl, PySem.W.dataLt_list, a2]; rfl⟩
    | _ => cases h
  | .non, y, n, m, h1, h2, h => by cases y <;> cases h
  | .dct _, y, n, m, h1, h2, h => by cases h1
  | .ins _ _, y, n, m, h1, h2, h => by cases h1
  | .cls _, y, n, m, h1, h2, h => by cases h1
  | .ro _, y, n, m, h1, h2, h => by cases h1
  | .ptp _, y, n, m, h1, h2, h => by cases h1
theorem lts_py : ∀ (xs ys : List D) (n m : Nat), D.plains xs n = true → D.plains ys m = true → D.alikes xs ys = true → PySem.W.alikeAll (toPys xs) (toPys ys) = true ∧ PyProof.Rows.lexLt PyProof.Rows.itemOrd (PySem.W.keyToksAll (toPys xs)) (PySem.W.keyToksAll (toPys ys)) = D.lts xs ys
  | [], [], n, m, h1, h2, h => ⟨rfl, by rfl⟩
  | [], _ :: _, n, m, h1, h2, h => ⟨rfl, by rfl⟩
  | x :: xs, [], n, m, h1, h2, h => ⟨rfl, by rfl⟩
  | x :: xs, y :: ys, n, m, h1, h2, h => by
    have g1 := Bool.and_eq_true_iff.mp h1
    have g2 := Bool.and_eq_true_iff.mp h2
    have g3 := Bool.and_eq_true_iff.mp h
    obtain ⟨a1, a2⟩ := lt_py x y n m g1.1 g2.1 g3.1
    obtain ⟨b1, b2⟩ := lts_py xs ys n m g1.2 g2.2 g3.2
    refine ⟨by show (PySem.W.alike (toPy x) (toPy y) && PySem.W.alikeAll (toPys xs) (toPys ys)) = true; rw [a1, b1]; rfl, ?_⟩
    show PyProof.Rows.lexLt PyProof.Rows.itemOrd (PySem.W.keyToksAll (toPy x :: toPys xs)) (PySem.W.keyToksAll (toPy y :: toPys ys)) = _
    rw [PySem.W.dataLt_cons a1, eqv_py x y n m g1.1 g2.1, b2, a2]
    rfl
end
/-- what sortOk says -/
theorem sortOk_py {xs : List D} (h : sortOk xs = true) : PySem.W.AllAlike (xs.map toPy) ∧ PySem.W.Sortable (xs.map toPy) ∧ xs.length ≤ sizeLine ∧ (∀ x ∈ xs, x.plain 30 = true) ∧ xs.mergeSort (PySem.W.dataLe false toPy) = sortD xs := by
  unfold sortOk at h
  simp only [Bool.and_eq_true] at h
  obtain ⟨⟨⟨h1, h2⟩, h3⟩, h4⟩ := h
  have pl : ∀ x ∈ xs, x.plain 30 = true := fun x hx => List.all_eq_true.mp h2 x hx
  have al : ∀ x ∈ xs, ∀ y ∈ xs, D.alike x y = true := fun x hx y hy => List.all_eq_true.mp (List.all_eq_true.mp h1 x hx) y hy
  refine ⟨fun d hd e he => ?_, ?_, Nat.le_trans (of_decide_eq_true h4) (by decide), pl, ?_⟩
  · obtain ⟨x, hx, rfl⟩ := List.mem_map.mp hd
    obtain ⟨y, hy, rfl⟩ := List.mem_map.mp he
    exact (lt_py x y 30 30 (pl x hx) (pl y hy) (al x hx y hy)).1
  · rcases Bool.or_eq_true_iff.mp h3 with h | h
    · refine .inr fun d hd => ?_
      obtain ⟨x, hx, rfl⟩ := List.mem_map.mp hd
      have h5 := List.all_eq_true.mp h x hx
      have h6 := al x hx x hx
      cases x <;> first | (cases h5; done) | (cases h6; done) | exact ⟨(fun z => by cases z), (fun xs z => by cases z)⟩
    · refine .inl fun d hd => ?_
      obtain ⟨x, hx, rfl⟩ := List.mem_map.mp hd
      have h5 := List.all_eq_true.mp h x hx
      match x, h5 with
      | .tup (y :: ys), _ => exact ⟨toPy y, toPys ys, rfl⟩
  · unfold sortD
    refine PySem.W.sort_congr fun a ha b hb => ?_
    rw [PySem.W.dataLe_eq]
    show (!PySem.W.dataLt (toPy b) (toPy a)) = _
    rw [(lt_py b a 30 30 (pl b hb) (pl a ha) (al b hb a ha)).2]
theorem each_get {α β : Type} {R : α → β → Prop} : ∀ {as : List α} {bs : List β}, as.length = bs.length → (∀ (j : Nat) (a : α) (b : β), as[j]? = some a → bs[j]? = some b → R a b) → PySem.W.EachIs R as bs
  | [], [], _, _ => .nil
  | [], _ :: _, h, _ => by simp at h
  | _ :: _, [], h, _ => by simp at h
  | a :: as, b :: bs, h, q => .cons (q 0 a b rfl rfl) (each_get (by simpa using h) fun j c d h1 h2 => q (j + 1) c d (by simpa using h1) (by simpa using h2))
theorem each_at {α β : Type} {R : α → β → Prop} {as : List α} {bs : List β} (h : PySem.W.EachIs R as bs) : ∀ {j : Nat} {a : α} {b : β}, as[j]? = some a → bs[j]? = some b → R a b := by
  induction h with
  | nil => intro j a b e; simp at e
  | cons h _ ih =>
    intro j a b e1 e2
    cases j with
    | zero => simp at e1 e2; subst e1; subst e2; exact h
    | succ j => exact ih (j := j) (by simpa using e1) (by simpa using e2)
theorem each_reps {K : Fg} {G : Hp} : ∀ {us : List Value} {xs : List D}, PySem.W.EachIs (fun v d => ∃ x, RelV x v ∧ Rep K G d x) us xs → ∃ vs, Vals vs us ∧ Reps K G xs vs
  | _, _, .nil => ⟨[], .nil, .nil⟩
  | _, _, .cons ⟨x, h1, h2⟩ t => by
    obtain ⟨vs, h3, h4⟩ := each_reps t
    exact ⟨x :: vs, .cons h1 h3, .cons h2 h4⟩
theorem reps_each {K : Fg} {G : Hp} : ∀ {us : List Value} {vs : List V} {xs : List D}, Vals vs us → Reps K G xs vs → PySem.W.EachIs (fun v d => ∃ x, RelV x v ∧ Rep K G d x) us xs
  | _, _, _, .nil, .nil => .nil
  | _, _, _, .cons h t, .cons r q => .cons ⟨_, h, r⟩ (reps_each t q)
theorem depth_py {K : Fg} {G : Hp} {x : D} {v : V} (r : Rep K G x v) (h : x.plain 30 = true) : (toPy x).depth ≤ 61 := (shape_py x v 30 r h).2
/-- tracked, one after another, on one heap -/
theorem takeA {X : Cx} {pins : List (Addr × Obj)} {σ : L2.St} {H0 : Hp} {s : Shared} {h' : Heap} {tk : Nat} (I0 : Inv X pins σ H0 s) : ∀ (L : List (Addr × HO)) (G1 H1 : Hp), Inv X pins σ H1 { s with heap := h', toks := tk } → (L.map (·.1)).Nodup →
    (∀ p ∈ L, s.heap.objs.size ≤ p.1 ∧ H1 p.1 = none ∧ ∀ H2, ObjOk X.prog X.w H2 h' p.1 p.2) → ∃ G2 H2, Inv X pins σ H2 { s with heap := h', toks := tk } ∧ Al G1 H1 G2 H2 ∧ (∀ p ∈ L, G2 p.1 = some p.2) ∧ ∀ b, (∀ p ∈ L, p.1 ≠ b) → H2 b = H1 b
  | [], G1, H1, I1, _, _ => ⟨G1, H1, I1, .refl, (fun _ h => by simp at h), fun _ _ => rfl⟩
  | p :: L, G1, H1, I1, nd, h => by
    obtain ⟨h1, h2, h3⟩ := h p List.mem_cons_self
    have I2 : Inv X pins σ (upd H1 p.1 p.2) { s with heap := h', toks := tk } := I1.take (h' := h') (t' := tk) (fun b ob _ e => e) (I0.fpOk h1 h2) (h3 _)
    rw [List.map_cons, List.nodup_cons] at nd
    have ne : ∀ q ∈ L, q.1 ≠ p.1 := fun q hq e => nd.1 (e ▸ List.mem_map_of_mem hq)
    obtain ⟨G2, H2, I3, al, got, off⟩ := takeA I0 L (upd G1 p.1 p.2) (upd H1 p.1 p.2) I2 nd.2 fun q hq => by
      obtain ⟨c1, c2, c3⟩ := h q (List.mem_cons_of_mem _ hq)
      exact ⟨c1, by rw [upd_ne (ne q hq)]; exact c2, c3⟩
    refine ⟨G2, H2, I3, (Al.one h2).trans al, fun q hq => ?_, fun b hb => by rw [off b fun q hq => hb q (List.mem_cons_of_mem _ hq), upd_ne (Ne.symm (hb p List.mem_cons_self))]⟩
    rcases List.mem_cons.mp hq with rfl | hq
    · have key : ∀ (L : List (Addr × HO)) (G H G2 H2 : Hp), Al G H G2 H2 → ∀ b o, G b = some o → H b = some o → G2 b = some o := by
        intro _ G H G2 H2 al b o g1 g2
        induction al with
        | refl => exact g1
        | @new G3 H3 q u a hq ih => rw [upd_ne (ne_of_none (a.extH _ _ g2) hq)]; exact ih
      exact key [] _ _ _ _ al _ _ upd_same upd_same
    · exact got q hq
/-- sorted(l), l a list of data -/
theorem cr_srtL {cl : Nat → Addr} {X : Cx} (hu : X.A.units + 64 < cLine) : CallR X (.builtin "sorted") (fun us H Q => ∃ (G : Hp) (xs : List D) (x : V), us = [x] ∧ Ext G H ∧ Rd' (kx cl X) G H (.lst xs) x ∧ sortOk xs = true ∧ Gives (kx cl X) G H (.lst (sortD xs)) Q) := by
  intro pins s σ H us vs Q I r h
  obtain ⟨G, xs, x, rfl, ex, rd, hs, g⟩ := h
  obtain ⟨a, ws, rfl, ha, hr⟩ := rd.lst ex
  obtain rfl := Vals.ref1 r
  obtain ⟨o1, o2, o3, o4, o5⟩ := sortOk_py hs
  obtain ⟨its, rv, pl, hz⟩ := I.list (.of ha)
  have e1 := reps_each rv hr
  have er : PySem.W.EachIs (fun v b => ∃ as, Reads s.heap v (toPy b) as) its xs := (PySem.W.each_mem e1).mono fun v d ⟨⟨u, h1, h2⟩, hm⟩ => Dp.reads I (toPy d) u v ((h2.mono ex).dp (o4 d hm)) h1
  have dp : ∀ d ∈ xs, (toPy d).depth ≤ 61 := fun d hd => by
    obtain ⟨j, hj⟩ := List.mem_iff_getElem?.mp hd
    obtain ⟨u, _, h2⟩ := hr.get hj
    exact depth_py h2 (o4 d hd)
  refine PySem.W.sorted_data (R := fun v d => ∃ x, RelV x v ∧ Rep (kx cl X) G d x) pl.isList e1 er o1 o2 o3 (fun d hd => ?_) fun out hl hout => ?_
  · have := dp d hd; omega
  rw [o5] at hout
  obtain ⟨ys, hv, hp⟩ := each_reps hout
  obtain ⟨ep, he'⟩ := PyProof.Rows.sortedAll_at s.heap its out.toArray
  have hlen : ys.length ≤ sizeLine := by rw [hv.length, hl]; exact o3
  exact ⟨.ref _, upd H (s.heap.objs.size + 1) (.lst ys), I.laid (t' := s.toks) (fun _ _ => PyProof.Rows.sortedAll_old) (Nat.le_succ _) ⟨hlen, out, ep, hv, he'⟩, rfl, g.newL ex hp (I.hok.fresh (Nat.le_succ _))⟩
/-- a key, read -/
theorem key_reads {h : Heap} {k : Ky} {v : Value} (hv : RelV (kV (kyOf k)) v) : Reads h v (toPy (kyD k)) [] := by
  cases k with
  | i n => obtain ⟨t, rfl⟩ := hv; exact .int n t
  | s x => obtain ⟨t, rfl⟩ := hv; exact .str _ t
theorem rep_key {K : Fg} {G : Hp} {k : Ky} (ok : okK k) : Rep K G (kyD k) (kV (kyOf k)) := by
  cases k with
  | i n => exact .int n
  | s x => exact .str x ok
theorem RepKs.keyAt {K : Fg} {G : Hp} : ∀ {xs : List (Ky × D)} {ks : List (Key × V)} {j : Nat} {p : Ky × D}, RepKs K G xs ks → xs[j]? = some p → ∃ q, ks[j]? = some q ∧ q.1 = kyOf p.1 ∧ okK p.1 ∧ Rep K G p.2 q.2
  | _, _, _, _, .nil, e => by simp at e
  | _, _, 0, _, .cons o h _, e => by simp at e; subst e; exact ⟨_, rfl, rfl, o, h⟩
  | _, _, j + 1, p, .cons _ _ t, e => by simpa using RepKs.keyAt (j := j) t (by simpa using e)
theorem RepKs.len {K : Fg} {G : Hp} : ∀ {xs : List (Ky × D)} {ks : List (Key × V)}, RepKs K G xs ks → xs.length = ks.length
  | _, _, .nil => rfl
  | _, _, .cons _ _ t => by simp [RepKs.len t]
theorem kv_at {ks : List (Key × V)} {vs : List (Key × Value)} (h : KV ks vs) : ∀ {j : Nat} {q : Key × V}, ks[j]? = some q → ∃ p, vs[j]? = some p ∧ q.1 = p.1 ∧ RelV q.2 p.2 := by
  induction h with
  | nil => intro j q e; simp at e
  | cons h t ih =>
    intro j q e
    cases j with
    | zero => simp at e; subst e; exact ⟨_, rfl, h⟩
    | succ j => simpa using ih (j := j) (by simpa using e)
/-- a new list at l is sorted: its items are flat, or tuples of such -/
theorem sort_new {cl : Nat → Addr} {X : Cx} {pins : List (Addr × Obj)} {σ : L2.St} {G H : Hp} {s : Shared} {h' : Heap} {tk : Nat} {l : Addr} {vs : List Value} {xs : List D} {L : List (Addr × HO)} {Q : VK} (hu : X.A.units + 64 < cLine) (I : Inv X pins σ H s) (ex : Ext G H)
    (hk : ∀ b o, s.heap.get? b = some o → h'.get? b = some o) (hl : s.heap.objs.size ≤ l) (hob : h'.get? l = some (PyProof.Rows.seqObj "list" vs.toArray 0)) (hs : sortOk xs = true) (hd : ∀ d ∈ xs, (toPy d).depth ≤ 61)
    (er : PySem.W.EachIs (fun v b => Reads h' v (toPy b) []) vs xs) (nd : (L.map (·.1)).Nodup) (hL : ∀ p ∈ L, s.heap.objs.size ≤ p.1 ∧ p.1 ≠ l ∧ ∀ (h2 : Heap) (H2 : Hp), (∀ o, h'.get? p.1 = some o → h2.get? p.1 = some o) → ObjOk X.prog X.w H2 h2 p.1 p.2)
    (hlt : ∀ p ∈ L, p.1 < h'.objs.size) (eR : ∀ G2, Ext G G2 → (∀ p ∈ L, G2 p.1 = some p.2) → PySem.W.EachIs (fun v d => ∃ x, RelV x v ∧ Rep (kx cl X) G2 d x) vs xs) (g : Gives (kx cl X) G H (.lst (sortD xs)) Q) :
    wpAny (model X.prog X.w) X.A.in1 (call (.builtin "list.sort") [.ref l]) (fun _ s' => EP X pins σ Q (.ref l) s') X.xe { s with heap := h', toks := tk } := by
  obtain ⟨o1, o2, o3, o4, o5⟩ := sortOk_py hs
  refine PySem.W.list_sort_data (s := { s with heap := h', toks := tk }) (R := fun v d => ∀ G2, Ext G G2 → (∀ p ∈ L, G2 p.1 = some p.2) → ∃ x, RelV x v ∧ Rep (kx cl X) G2 d x) hob ?_ (er.mono fun v b r => ⟨[], r, by simp⟩) o1 o2 o3 (fun d hm => ?_) fun out hlo hout => ?_
  · have len : vs.length = xs.length := er.length
    refine each_get len fun j v d h1 h2 G2 e1 e2 => ?_
    exact each_at (eR G2 e1 e2) h1 h2
  · have := hd d hm
    show X.A.units + 1 + 1 + _ < _
    omega
  · rw [o5] at hout
    have old : ∀ b o, b ≠ l → h'.get? b = some o → (PyProof.Rows.sortedHeap h' l vs out.toArray).get? b = some o := fun b o hb e => by rw [PyProof.Rows.sortedHeap_old hb (Heap.lt_size e)]; exact e
    have ho : ∀ b o, s.heap.get? b = some o → (PyProof.Rows.sortedHeap h' l vs out.toArray).get? b = some o := fun b o e => old b o (Nat.ne_of_lt (Nat.lt_of_lt_of_le (Heap.lt_size e) hl)) (hk b o e)
    have I1 : Inv X pins σ H { s with heap := PyProof.Rows.sortedHeap h' l vs out.toArray, toks := tk } := I.kept ho
    obtain ⟨G2, H2, I2, al, got, off⟩ := takeA (h' := PyProof.Rows.sortedHeap h' l vs out.toArray) (tk := tk) I L G H I1 nd fun p hp => by
      obtain ⟨c1, c2, c3⟩ := hL p hp
      exact ⟨c1, I.hok.fresh c1, fun H2 => c3 _ H2 fun o e => old _ o c2 e⟩
    obtain ⟨x1, x2, x3⟩ := al.ext ex
    obtain ⟨ys, hv, hp⟩ := each_reps (hout.mono fun v d q => q G2 x2 got)
    obtain ⟨ep, he'⟩ := PyProof.Rows.sortedHeap_at (vs := vs) (out := out.toArray) hob
    have fl : H2 l = none := by rw [off l fun p hp => (hL p hp).2.1]; exact I.hok.fresh hl
    have hlen : ys.length ≤ sizeLine := by rw [hv.length, hlo]; exact o3
    have I3 : Inv X pins σ (upd H2 l (.lst ys)) { s with heap := PyProof.Rows.sortedHeap h' l vs out.toArray, toks := tk } := I2.take (h' := PyProof.Rows.sortedHeap h' l vs out.toArray) (t' := tk) (fun b ob _ e => e) (I.fpOk hl fl) ⟨hlen, out, ep, hv, he'⟩
    refine ⟨.ref l, _, I3, rfl, ?_⟩
    exact g _ _ _ (al.trans (Al.one fl)) (.lst upd_same (hp.mono (Ext.upd (by
      cases q : G2 l with
      | none => rfl
      | some o => rw [x1 _ _ q] at fl; cases fl))))
/-- sorted(d), d a dict -/
theorem cr_srtK {cl : Nat → Addr} {X : Cx} (hc : X.calm = true) (hu : X.A.units + 64 < cLine) : CallR X (.builtin "sorted") (fun us H Q => ∃ (G : Hp) (xs : List (Ky × D)) (a : Addr) (ks : List (Key × V)), us = [.ref a] ∧ Ext G H ∧ Rd H a (.dK ks) ∧ RepKs (kx cl X) G xs ks ∧ sortOk (xs.map fun p => kyD p.1) = true ∧
    Gives (kx cl X) G H (.lst (sortD (xs.map fun p => kyD p.1))) Q) := by
  intro pins s σ H us ws Q I r h
  obtain ⟨G, xs, a, ks, rfl, ex, rd, hr, hs, g⟩ := h
  obtain rfl := Vals.ref1 r
  obtain ⟨z, lo, vs, rel, dd⟩ := dk_rd I.hok rd
  obtain ⟨ep, hat⟩ := dd.dictAt
  have l1 : ks.length = vs.length := rel.length
  have l2 := hr.len
  refine Calls.call_function_entry PyProof.Rows.kind_sorted PyProof.Rows.plain_sorted PyProof.Rows.entry_sorted (PyProof.Rows.args_sorted1 _) ?_
  unfold Builtin.«sorted»
  refine wpAny_bind (m := checkCount "sorted" 1 1 _) (wpAny_pure ?_)
  refine wpAny_bind (PySem.W.kdu_collect (A := X.A.in1) (PySem.W.kdl_dict (knd := mixKind X.prog X.w) (kvs := vs) (ep := ep) lo) (I.ok.hd hc) hat (by omega) fun h' tk acc hk hacc => ?_)
  have keyAt : ∀ (j : Nat) (v : Value) (p : Ky × D), acc.toList[j]? = some v → xs[j]? = some p → RelV (kV (kyOf p.1)) v ∧ okK p.1 := fun j v p e1 e2 => by
    obtain ⟨k, x, f1, f2⟩ := hacc.2 j v (by rw [← Array.getElem?_toList]; exact e1)
    obtain ⟨q, f3, f4, f5, _⟩ := hr.keyAt e2
    obtain ⟨q', f6, f7, _⟩ := kv_at rel f3
    rw [f1] at f6; cases f6
    refine ⟨?_, f5⟩
    rw [← f4, f7]
    exact relV_key f2
  have len : acc.toList.length = xs.length := by rw [Array.length_toList, hacc.1, l2, l1]
  have len' : acc.toList.length = (xs.map fun p => kyD p.1).length := by rw [List.length_map, len]
  refine wpAny_bind (wpAny_newList ?_ (by rw [len, l2]; exact z))
  have hob : (h'.push (PyProof.Rows.seqObj "list" acc.toList.toArray 0)).get? h'.objs.size = some (PyProof.Rows.seqObj "list" acc.toList.toArray 0) := Heap.get?_push_size _ rfl
  have I1 : Inv X pins σ H { s with heap := h', toks := tk } := I.kept hk
  have key := sort_new (cl := cl) (Q := Q) (h' := h'.push (PyProof.Rows.seqObj "list" acc.toList.toArray 0)) (tk := tk) (l := h'.objs.size) (vs := acc.toList) (L := []) hu I1 ex (fun b o e => Heap.get?_push_of_some _ e) (Nat.le_refl _) hob hs
    (fun d hd => by
      obtain ⟨p, _, rfl⟩ := List.mem_map.mp hd
      cases p.1 <;> exact Nat.zero_le _)
    (each_get len' fun j v d e1 e2 => by
      rw [List.getElem?_map] at e2
      cases e3 : xs[j]? with
      | none => rw [e3] at e2; cases e2
      | some p => rw [e3] at e2; cases e2; exact key_reads (keyAt j v p e1 e3).1)
    List.nodup_nil (fun _ h => by simp at h) (fun _ h => by simp at h)
    (fun G2 _ _ => each_get len' fun j v d e1 e2 => by
      rw [List.getElem?_map] at e2
      cases e3 : xs[j]? with
      | none => rw [e3] at e2; cases e2
      | some p => rw [e3] at e2; cases e2; exact ⟨_, (keyAt j v p e1 e3).1, rep_key (keyAt j v p e1 e3).2⟩) g
  refine wpAny_bind (wpAny_holding (wpAny_mono key (fun _ s' x => ?_) fun _ _ e => e))
  exact wpAny_pure ⟨_, rfl, x⟩
/-! ### sorted(d.items()) -/
theorem mt_itemsK {X : Cx} : MtR X "dict.items" (fun x xs H Q => ∃ (a : Addr) (ks : List (Key × V)), x = .ref a ∧ xs = [] ∧ H a = some (.dK ks) ∧ ∀ p, H p = none → Q (.ref p) (upd H p (L2.DX.itemsO p a))) := by
  intro pins s σ H x xs v us Q I rx rxs h
  obtain ⟨a, ks, rfl, rfl, ha, q⟩ := h
  cases rx
  cases rxs
  obtain ⟨z, hd, xs', rel, o, es, ep, ho, hx, hdat, _⟩ := dk_rd I.hok (.inl ha)
  refine DT.callItems (es := es) (ep := ep) hd ⟨o, ho, hx, hdat⟩ ?_
  have at_ := Heap.get?_push_size s.heap (o := { cls := .type "dict_items", data := .fields #[.ref a] }) rfl
  exact ⟨.ref s.heap.objs.size, _, I.laid (t' := s.toks) (o := L2.DX.itemsO s.heap.objs.size a) (fun b u e => Heap.get?_push_of_some _ e) (Nat.le_refl _) (L2.DX.itemsO_ok at_), rfl, q _ (I.hok.fresh (Nat.le_refl _))⟩
/-- a flat value, read -/
theorem flat_reads {K : Fg} {G : Hp} {h : Heap} {d : D} {x : V} {v : Value} (r : Rep K G d x) (hf : d.flat = true) (hv : RelV x v) : Reads h v (toPy d) [] := by
  cases r with
  | non => cases hv; exact .none
  | bl b => cases hv; exact .bool b
  | int i => obtain ⟨t, rfl⟩ := hv; exact .int i t
  | str s _ => obtain ⟨t, rfl⟩ := hv; exact .str _ t
  | _ => cases hf
theorem pairs_at {P : Program} {w : World} {es : List DictEntry} {vs : List (Key × Value)} (h : Pairs (mixKind P w) es vs) : ∀ {j : Nat} {q : Key × Value} {e : DictEntry}, vs[j]? = some q → es[j]? = some e → keyIs q.1 e.key = true ∧ e.val = q.2 := by
  induction h with
  | nil => intro j q e h; simp at h
  | cons h1 h2 _ ih =>
    intro j q e e1 e2
    cases j with
    | zero => simp at e1 e2; subst e1; subst e2; exact ⟨h1, h2⟩
    | succ j => exact ih (j := j) (by simpa using e1) (by simpa using e2)
theorem cr_srtI {cl : Nat → Addr} {X : Cx} (hc : X.calm = true) (hu : X.A.units + 64 < cLine) : CallR X (.builtin "sorted") (fun us H Q => ∃ (G : Hp) (xs : List (Ky × D)) (p a : Addr) (ks : List (Key × V)), us = [.ref p] ∧ Ext G H ∧ H p = some (L2.DX.itemsO p a) ∧ Rd H a (.dK ks) ∧ RepKs (kx cl X) G xs ks ∧ sortOk (xs.map pairD) = true ∧
    (∀ q ∈ xs, q.2.flat = true) ∧ Gives (kx cl X) G H (.lst (sortD (xs.map pairD))) Q) := by
  intro pins s σ H us ws Q I r h
  obtain ⟨G, xs, p, a, ks, rfl, ex, hp, rd, hr, hs, hf, g⟩ := h
  obtain rfl := Vals.ref1 r
  have view : s.heap.IsItemsView p a := (show ObjOk X.prog X.w H s.heap p (L2.DX.itemsO p a) from I.hok p _ hp).1
  obtain ⟨z, lo, vs, rel, o, es, ep, ho, hx, hdat, _, hprs, _⟩ := dk_rd I.hok rd
  have l1 : ks.length = vs.length := rel.length
  have l2 := hr.len
  have l3 : es.size = vs.length := by rw [← hprs.length, Array.length_toList]
  refine DT.sortedI (es := es) (ep := ep) (I.ok.hd hc) view ⟨o, ho, hx, hdat⟩ (by omega) fun h' tk as hk hlt hl made => ?_
  have nd : as.Nodup := List.Pairwise.imp (fun h => Nat.ne_of_lt h) made.rise
  -- the pairs
  have pr : ∀ (j : Nat) (b : Addr) (q : Ky × D), as[j]? = some b → xs[j]? = some q → ∃ (kv vv : Value) (x : V), h'.get? b = some { cls := .type "tuple", data := .seq #[kv, vv] } ∧ RelV (kV (kyOf q.1)) kv ∧ RelV x vv ∧ okK q.1 ∧ Rep (kx cl X) G q.2 x := by
    intro j b q e1 e2
    obtain ⟨en, he, hg⟩ := made.pairs j b e1
    obtain ⟨q', f3, f4, f5, f6⟩ := hr.keyAt e2
    obtain ⟨q2, f7, f8, f9⟩ := kv_at rel f3
    obtain ⟨g1, g2⟩ := pairs_at hprs f7 (by rw [Array.getElem?_toList]; exact he)
    refine ⟨en.key, en.val, q'.2, hg, ?_, by rw [g2]; exact f9, f5, f6⟩
    rw [← f4, f8]
    exact relV_key g1
  have la : as.length = xs.length := by omega
  obtain ⟨us, hul, hus⟩ := list_choose (as.zip xs) (fun j (e : Addr × (Ky × D)) (x : V) => ∃ (kv vv : Value), h'.get? e.1 = some { cls := .type "tuple", data := .seq #[kv, vv] } ∧ RelV (kV (kyOf e.2.1)) kv ∧ RelV x vv ∧ okK e.2.1 ∧ Rep (kx cl X) G e.2.2 x) fun j e he => by
    rw [List.getElem?_zip_eq_some] at he
    obtain ⟨kv, vv, x, q1, q2, q3, q4, q5⟩ := pr j e.1 e.2 he.1 he.2
    exact ⟨x, kv, vv, q1, q2, q3, q4, q5⟩
  have zl : (as.zip xs).length = xs.length := by simp [la]
  -- what is laid
  let L : List (Addr × HO) := ((as.zip xs).zip us).map fun e => (e.1.1, HO.tup [kV (kyOf e.1.2.1), e.2])
  have Lm : L.map (·.1) = as := by
    show (((as.zip xs).zip us).map _).map _ = as
    rw [List.map_map]
    have e1 : ((fun x : Addr × HO => x.1) ∘ fun e : (Addr × (Ky × D)) × V => (e.1.1, HO.tup [kV (kyOf e.1.2.1), e.2])) = (fun y : Addr × (Ky × D) => y.1) ∘ Prod.fst := rfl
    rw [e1, ← List.map_map, List.map_fst_zip (by rw [hul]; exact Nat.le_refl _), show (fun y : Addr × (Ky × D) => y.1) = Prod.fst from rfl, List.map_fst_zip (by omega)]
  have Lat : ∀ (j : Nat) (b : Addr) (q : Ky × D), as[j]? = some b → xs[j]? = some q → ∃ (kv vv : Value) (x : V), h'.get? b = some { cls := .type "tuple", data := .seq #[kv, vv] } ∧ RelV (kV (kyOf q.1)) kv ∧ RelV x vv ∧ okK q.1 ∧ Rep (kx cl X) G q.2 x ∧ (b, HO.tup [kV (kyOf q.1), x]) ∈ L := by
    intro j b q e1 e2
    have ez : (as.zip xs)[j]? = some (b, q) := by rw [List.getElem?_zip_eq_some]; exact ⟨e1, e2⟩
    have : j < us.length := by rw [hul]; exact (List.getElem?_eq_some_iff.mp ez).1
    obtain ⟨x, hx'⟩ : ∃ x, us[j]? = some x := ⟨us[j], List.getElem?_eq_getElem this⟩
    obtain ⟨kv, vv, q1, q2, q3, q4, q5⟩ := hus j _ _ ez hx'
    refine ⟨kv, vv, x, q1, q2, q3, q4, q5, List.mem_map.mpr ⟨((b, q), x), List.mem_of_getElem? (i := j) ?_, rfl⟩⟩
    rw [List.getElem?_zip_eq_some]; exact ⟨ez, hx'⟩
  have Lin : ∀ e ∈ L, ∃ (j : Nat) (q : Ky × D) (kv vv : Value) (x : V), as[j]? = some e.1 ∧ h'.get? e.1 = some { cls := .type "tuple", data := .seq #[kv, vv] } ∧ RelV (kV (kyOf q.1)) kv ∧ RelV x vv ∧ e.2 = .tup [kV (kyOf q.1), x] := by
    intro e he
    obtain ⟨t, ht, rfl⟩ := List.mem_map.mp he
    obtain ⟨j, hj⟩ := List.mem_iff_getElem?.mp ht
    rw [List.getElem?_zip_eq_some] at hj
    obtain ⟨kv, vv, q1, q2, q3, q4, q5⟩ := hus j _ _ hj.1 hj.2
    have hj1 := hj.1
    rw [List.getElem?_zip_eq_some] at hj1
    exact ⟨j, t.1.2, kv, vv, t.2, hj1.1, q1, q2, q3, rfl⟩
  have hob : (h'.push { cls := .type "list", data := .seq (as.map Value.ref).toArray }).get? h'.objs.size = some (PyProof.Rows.seqObj "list" (as.map Value.ref).toArray 0) := Heap.get?_push_size _ rfl
  have len : (as.map Value.ref).length = (xs.map pairD).length := by simp [la]
  have ref_at : ∀ (j : Nat) (v : Value), (as.map Value.ref)[j]? = some v → ∃ b, as[j]? = some b ∧ v = .ref b := fun j v e => by
    rw [List.getElem?_map] at e
    cases e3 : as[j]? with
    | none => rw [e3] at e; cases e
    | some b => rw [e3] at e; cases e; exact ⟨b, rfl, rfl⟩
  have pair_at : ∀ (j : Nat) (d : D), (xs.map pairD)[j]? = some d → ∃ q, xs[j]? = some q ∧ d = pairD q := fun j d e => by
    rw [List.getElem?_map] at e
    cases e3 : xs[j]? with
    | none => rw [e3] at e; cases e
    | some b => rw [e3] at e; cases e; exact ⟨b, rfl, rfl⟩
  refine sort_new (cl := cl) (Q := Q) (L := L) hu I ex (fun b o e => Heap.get?_push_of_some _ (hk b o e)) (Nat.le_of_lt hlt) hob hs ?_ ?_ (by rw [Lm]; exact nd) ?_ ?_ ?_ g
  · intro d hd
    obtain ⟨q, hq, rfl⟩ := List.mem_map.mp hd
    have h1 := hf q hq
    have h2 : (toPy q.2).depth = 0 := by
      cases e : q.2 <;> rw [e] at h1 <;> first | rfl | cases h1
    have h3 : (toPy (kyD q.1)).depth = 0 := by cases q.1 <;> rfl
    show PyData.depthAll [toPy (kyD q.1), toPy q.2] + 1 ≤ 61
    show max (toPy (kyD q.1)).depth (max (toPy q.2).depth 0) + 1 ≤ 61
    omega
  · refine each_get len fun j v d e1 e2 => ?_
    obtain ⟨b, e3, rfl⟩ := ref_at j v e1
    obtain ⟨q, e4, rfl⟩ := pair_at j d e2
    obtain ⟨kv, vv, x, q1, q2, q3, q4, q5, _⟩ := Lat j b q e3 e4
    exact .tuple (Heap.get?_push_of_some _ q1) rfl rfl (.cons (key_reads q2) (.cons (flat_reads q5 (hf q (List.mem_of_getElem? e4)) q3) .nil))
  · intro e he
    obtain ⟨j, q, kv, vv, x, q0, q1, q2, q3, q4⟩ := Lin e he
    refine ⟨Nat.le_of_lt (made.above _ (List.mem_of_getElem? q0)), Nat.ne_of_lt (Heap.lt_size q1), fun h2 H2 kp => ?_⟩
    rw [q4]
    exact ⟨by show 2 ≤ sizeLine; decide, [kv, vv], .cons q2 (.cons q3 .nil), _, kp _ (Heap.get?_push_of_some _ q1), rfl, 0, rfl⟩
  · intro e he
    obtain ⟨j, q, kv, vv, x, q0, q1, _⟩ := Lin e he
    exact Heap.lt_size (Heap.get?_push_of_some _ q1)
  · intro G2 e2 got
    refine each_get len fun j v d e1 e3 => ?_
    obtain ⟨b, e4, rfl⟩ := ref_at j v e1
    obtain ⟨q, e5, rfl⟩ := pair_at j d e3
    obtain ⟨kv, vv, x, q1, q2, q3, q4, q5, q6⟩ := Lat j b q e4 e5
    exact ⟨.ref b, rfl, .tup (.inl (.inl (got _ q6))) (.cons (rep_key q4) (.cons (q5.mono e2) .nil))⟩
end Iv
end
section
set_option autoImplicit false
set_option maxRecDepth 100000
set_option maxHeartbeats 4000000
namespace Iv
open PySem L2
/-! ### bool of an instance -/
theorem bool_new_in {prog : Program} {w : World} {x : Value} : MeetsIn prog w (Builtin.«bool.__new__» ⟨[.type "bool", x], []⟩) (fun A R s => wpAny (model prog w) A.in1 (truthy x) (fun b s' => R (.ok (.ret (.bool b))) s') (fun e s' => R (.error e) s') s) := by
  refine MeetsIn.of_wp fun A R s hs => ?_
  have f1 := PySem.F.conv_sub_bool
  repeat (any_goals (first | assumption | (with_reducible refine wpAny_mono hs ?_ ?_) | wp_step))
  all_goals first | exact fun b s' q => wpAny_pure ⟨_, rfl, q⟩ | exact fun _ _ e => e | skip
section
variable {X : Cx} {CX : CXT} {pins : List (Addr × Obj)} {σ : L2.St} {H : Hp} {s : Shared} {n : Nat} {g C a dx : Addr} {vs : List (Option V)} {sp : Sp} {E : XK}
theorem bool_ins {Q : VK} (hs : PySem.W.findIn X.K (.ref C) "__bool__" = some (some (.ref g))) (hf : PySem.W.isFn X.K (.ref g) = true) (F : FnR X.prog X.w X.K X.mg X.base CX n g sp) (hr : Room (n + 2) X.A) (hx : PassesAt CX X σ E) (I : Inv X pins σ H s) (ha : SlX.Slt H a C dx vs)
    (h : sp [.ref a] H (fun z H' => ∃ b, z = .bl b ∧ Q (.bl b) H') E) : wpAny (model X.prog X.w) X.A (call (.type "bool") [.ref a]) (EP X pins σ Q) X.xe s := by
  obtain ⟨sl, od, _, J, _⟩ := SlX.slt_inst I ha
  obtain ⟨m, hF⟩ := I.fr
  refine PySem.callType_newIn PySem.F.called_bool PySem.F.newNe_bool (PySem.F.typeCall_bool_1 _) (PySem.F.newCall_bool_1 _) (fun obj => PySem.F.args_object_init_2 obj _) PySem.F.entry_bool_new bool_new_in ?_
  refine PySem.W.truthy_K hF I.ok.mod.kin J hs hf ?_
  refine thn (runW (us := [.ref a]) (ws := [.ref a]) F hr.in1.in1 I.env0.in1.in1 hx I (.cons rfl .nil) h) fun w s' ⟨z, H', I', rz, b, eb, qz⟩ => ?_
  subst eb
  cases (show w = Value.bool b from rz)
  exact ⟨typeIs_bool _ _, .bl b, H', I', rfl, qz⟩
end
/-! ### calls that look at the slots -/
def rd1 (f : V → Hp → Prop) : List V → Hp → Prop
  | [v], H => f v H
  | _, _ => False
theorem rd1_d {f : V → Hp → Prop} {vs : List V} {H : Hp} (h : rd1 f vs H) : ∃ v, vs = [v] ∧ f v H := by
  match vs, h with
  | [v], h => exact ⟨v, rfl, h⟩
section
variable {X : Cx} {e : Expr} {x : Str} {p pos : Pos} {ta : TE}
theorem pe_callBS {id : String} {rd : L2.St → V → Hp → VK → Prop} (hc : ∀ (pins : List (Addr × Obj)) (s : Shared) (σ : L2.St) (H : Hp) (v : V) (u : Value) (Q : VK), Inv X pins σ H s → RelV v u → rd σ v H Q → wpAny (model X.prog X.w) X.A (call (.builtin id) [u]) (EP X pins σ Q) X.xe s)
    (hg : Gl X x) (hm : X.mg x = none) (hv : bootBuiltins x = some (.builtin id)) (ha : PE X e ta) (hn : x ≠ "__name__") (hdb : (x == ("__debug__" : Str)) = false) (he : starEach [e] X.env = [(false, eval e X.env)]) :
    PE X (.Call (.Name x p) [e] [] pos) (fun σ H Q => ta σ H fun v H1 => rd σ v H1 Q) := by
  refine ⟨fun pins s σ H Q I h => wpAny_Call_Name_kw (ld_blt I hg hm hv ?_ hn hdb)⟩
  have h' : (tCons ta tNil) σ H (rd1 fun v H1 => rd σ v H1 Q) := h
  refine PyProof.Rows.callWith_builtin1 (thn ((pa_cons ha pa_nil he).run pos pins s σ H _ I h') fun us s1 ⟨vs, H1, I1, r1, q1⟩ => ?_) he rfl
  obtain ⟨v, rfl, q⟩ := rd1_d q1
  obtain ⟨u, rfl, ru⟩ := vals1 r1
  exact hc pins s1 σ H1 v u Q I1 ru q
theorem pe_callTS {T : String} {rd : L2.St → V → Hp → VK → Prop} (hc : ∀ (pins : List (Addr × Obj)) (s : Shared) (σ : L2.St) (H : Hp) (v : V) (u : Value) (Q : VK), Inv X pins σ H s → RelV v u → rd σ v H Q → wpAny (model X.prog X.w) X.A (call (.type T) [u]) (EP X pins σ Q) X.xe s)
    (hg : Gl X x) (hm : X.mg x = none) (hv : bootBuiltins x = some (.type T)) (ha : PE X e ta) (hn : x ≠ "__name__") (hdb : (x == ("__debug__" : Str)) = false) (he : starEach [e] X.env = [(false, eval e X.env)]) :
    PE X (.Call (.Name x p) [e] [] pos) (fun σ H Q => ta σ H fun v H1 => rd σ v H1 Q) := by
  refine ⟨fun pins s σ H Q I h => wpAny_Call_Name_kw (ld_blt I hg hm hv ?_ hn hdb)⟩
  have h' : (tCons ta tNil) σ H (rd1 fun v H1 => rd σ v H1 Q) := h
  refine PyProof.Rows.callWith_type1 (thn ((pa_cons ha pa_nil he).run pos pins s σ H _ I h') fun us s1 ⟨vs, H1, I1, r1, q1⟩ => ?_) he rfl
  obtain ⟨v, rfl, q⟩ := rd1_d q1
  obtain ⟨u, rfl, ru⟩ := vals1 r1
  exact hc pins s1 σ H1 v u Q I1 ru q
end
section
variable {X : Cx} {CX : CXT} {n i : Nat} {f C : Addr} {sp : Sp} {x : Str} {e : Expr} {es : List Expr} {ps pos : Pos} {t : TA} {ES : L2.St → XK}
/-- c(..), c a local name that holds a class -/
theorem pe_mkV (M : Mk X.K C f) (F : FnR X.prog X.w X.K X.mg X.base CX n f sp) (hr : Room (n + 1) X.A) (hN : X.N[i]? = some x) (hv : Vis X.env.scope x) (hx : ∀ σ, PassesAt CX X σ (ES σ)) (ha : PA X (e :: es) t)
    (hd : (x == ("__debug__" : Str)) = false) (hcd : (x == ("__classdict__" : Str)) = false) (h1 : starEach (e :: es) X.env = (false, eval e X.env) :: starEach es X.env) (h2 : (backTo pos (starEach es X.env)).any (·.1) = false) :
    PE X (.Call (.Name x ps) (e :: es) [] pos) (fun σ H Q => σ[i]? = some (some (.ref C)) ∧ t σ H fun vs H1 => ∀ x dx, H1 x = none → H1 dx = none → dx ≠ x → sp (V.ref x :: vs) (upd (upd H1 dx (.xd [])) x (SlX.SlO x C dx [])) (fun v H2 => v = .non ∧ Q (.ref x) H2) (ES σ)) := by
  refine ⟨fun pins s σ H Q I ⟨hs, hw⟩ => wpAny_Call_Name_kw (thn ((pe_var (pos := ps) (i := i) hN hv hd hcd).run pins s σ H (fun v H1 => v = .ref C ∧ H1 = H) I ⟨.ref C, hs, rfl, rfl⟩) fun u s1 ⟨v, H1, I1, r1, ev, eH⟩ => ?_)⟩
  subst ev
  rw [eH] at I1
  cases r1
  refine PySem.W.callWith_K (h₀ := X.base) I.ok.mod.kin M.kp ?_ h1 h2
  exact thn (ha.run pos pins s1 σ H _ I1 hw) fun us s2 ⟨vs, H2, I2, r, q⟩ => ⟨I2.kIn, runMake M F hr (hx σ) I2 r q⟩
/-- x unpacks to these -/
def StarV (K : PySem.W.Frag) (H : Hp) (x : V) (ys : List V) : Prop := ∃ a, x = .ref a ∧ (SqT K H a ys ∨ SqL K H a ys ∨ ∃ ks : List (Key × V), Rd H a (.dK ks) ∧ ys = ks.map fun q => kV q.1)
theorem star_V {pins : List (Addr × Obj)} {σ : L2.St} {H : Hp} {s : Shared} {a : Addr} {ys : List V} {E : Value → Shared → Prop} {Q : List Value → Shared → Prop} (hc : X.calm = true) (I : Inv X pins σ H s) (h : SqT X.K H a ys ∨ SqL X.K H a ys ∨ ∃ ks : List (Key × V), Rd H a (.dK ks) ∧ ys = ks.map fun q => kV q.1)
    (hQ : ∀ us s', Inv X pins σ H s' → Vals ys us → Q us s') : PySem.W.StarOf (model X.prog X.w) X.A E (.ref a) Q s := by
  rcases h with h | h | ⟨ks, rd, rfl⟩
  · exact StX.star_any I (.inl h) hQ
  · exact StX.star_any I (.inr h) hQ
  · obtain ⟨z, lo, vs, rel, dd⟩ := dk_rd I.hok rd
    obtain ⟨ep, hat⟩ := dd.dictAt
    have l1 : ks.length = vs.length := rel.length
    have col : wpAny (model X.prog X.w) X.A (collect (.ref a)) Q E s := by
      refine PySem.W.kdu_collect (A := X.A) (PySem.W.kdl_dict (knd := mixKind X.prog X.w) (kvs := vs) (ep := ep) lo) (I.ok.hd hc) hat (by omega) fun h' tk acc hk hacc => ?_
      refine hQ _ _ (I.kept (t' := tk) hk) ?_
      have len : acc.toList.length = ks.length := by rw [Array.length_toList, hacc.1, l1]
      have all : PySem.W.EachIs (fun (u : Value) (q : Key × V) => RelV (kV q.1) u) acc.toList ks := each_get len fun j v q e1 e2 => by
        obtain ⟨k, x, f1, f2⟩ := hacc.2 j v (by rw [← Array.getElem?_toList]; exact e1)
        obtain ⟨q', f6, f7, _⟩ := kv_at rel e2
        rw [f1] at f6; cases f6
        rw [f7]
        exact relV_key f2
      have mk : ∀ {us : List Value} {qs : List (Key × V)}, PySem.W.EachIs (fun (u : Value) (q : Key × V) => RelV (kV q.1) u) us qs → Vals (qs.map fun q => kV q.1) us := by
        intro us qs h
        induction h with
        | nil => exact .nil
        | cons h _ ih => exact .cons h ih
      exact mk all
    unfold PySem.W.StarOf notIterableAtAll
    exact wpAny_bind (wpAny_specialOf dd.typeIs PySem.F.slot_dict_iter.lookup (wpAny_pure ⟨rfl, col⟩))
theorem pa_starV {te : TE} {p : Pos} (hc : X.calm = true) (he : PE X e te) (hr : PA X es t) (hs : starEach (.Starred e p :: es) X.env = (true, eval e X.env) :: starEach es X.env) :
    PA X (.Starred e p :: es) (fun σ H Q => te σ H fun x H1 => ∃ ys, StarV X.K H1 x ys ∧ t σ H1 fun zs H2 => Q (ys ++ zs) H2) := by
  refine ⟨fun pos pins s σ H Q I h => PySem.W.items_star (thn (he.run pins s σ H _ I h) fun v s1 ⟨y, H1, I1, ry, ys, ⟨a, ey, hx⟩, q⟩ => ?_) hs⟩
  subst ey
  obtain rfl : v = Value.ref a := ry
  refine star_V hc I1 hx fun us s2 I2 rv => ?_
  exact thn (hr.run pos pins s2 σ H1 _ I2 q) fun ws s3 ⟨vs, H3, I3, r3, q3⟩ => ⟨ys ++ vs, H3, I3, rv.append r3, q3⟩
end
end Iv
end
section
set_option autoImplicit false
set_option maxRecDepth 100000
set_option maxHeartbeats 4000000
namespace Iv
open PySem L2
theorem Rl.take {K : Fg} {F G H : Hp} {m : List Addr} {S : Hs} (l : Rl K F G m S H) (k : Nat) : Rl K F G (m.take k) (S.take k) H := by
  refine ⟨l.ext, l.fr, fun a o h => ⟨(l.fd a o h).1, fun hm => (l.fd a o h).2 (List.mem_of_mem_take hm)⟩, fun a ha => l.mh a (List.mem_of_mem_take ha), by simp [l.len], (List.take_sublist k m).nodup l.nd, fun n a o h1 h2 => ?_⟩
  by_cases hn : n < k
  · rw [List.getElem?_take_of_lt hn] at h1 h2
    exact l.ob n a o h1 h2
  · rw [List.getElem?_take_eq_none (by omega)] at h1; cases h1
theorem Grow.take {G G' : Hp} {m m' : List Addr} (g : Grow G m G' m') : Grow G m G' (m'.take m.length) := by
  refine ⟨g.1, fun n a h => ?_⟩
  rw [List.getElem?_take_of_lt (List.getElem?_eq_some_iff.mp h).1]
  exact g.2 n a h
/-- an instance that is met -/
theorem insOf_slt {K : Fg} {F G H : Hp} {m : List Addr} {S : Hs} {c : Nat} {v : Vl} {u : V} (l : Rl K F G m S H) (r : RepV K G m v u) (h : insOf c v S = true) : ∃ a dx vs, u = .ref a ∧ SlX.Slt H a (K.cl c) dx vs := by
  unfold insOf at h
  split at h
  · have e := eq_of_beq h
    subst e
    exact rep_slt l.ext r
  · rename_i n
    obtain ⟨a, ha, rfl⟩ := r
    split at h
    · rename_i c' fs hs
      have e := eq_of_beq h
      subst e
      obtain ⟨_, dx, vs, h2, h3, _, _⟩ := (l.ob n a _ ha hs).ins
      exact ⟨a, dx, vs, rfl, .inr ⟨h2, l.ext _ _ h3⟩⟩
    · cases h
  · cases h
theorem repOs_get {K : Fg} {G : Hp} {fs : List (Option D)} {vs : List (Option V)} (h : RepOs K G fs vs) : ∀ {k : Nat} {d : D}, fs[k]? = some (some d) → ∃ v, vs[k]? = some (some v) ∧ Rep K G d v := by
  induction h with
  | nil => intro k d e; simp at e
  | none _ ih =>
    intro k d e
    cases k with
    | zero => simp at e
    | succ k => simpa using ih (k := k) (by simpa using e)
  | some r _ ih =>
    intro k d e
    cases k with
    | zero => simp at e; subst e; exact ⟨_, rfl, r⟩
    | succ k => simpa using ih (k := k) (by simpa using e)
theorem fldOf_slt {K : Fg} {F G H : Hp} {m : List Addr} {S : Hs} {c k : Nat} {v : Vl} {u : V} {d : D} (l : Rl K F G m S H) (r : RepV K G m v u) (h : fldOf c k v S = some d) : ∃ a dx vs w, u = .ref a ∧ SlX.Slt H a (K.cl c) dx vs ∧ vs[k]? = some (some w) ∧ Rep K G d w := by
  unfold fldOf at h
  split at h
  · rename_i c' fs
    split at h
    · rename_i e
      subst e
      cases r with
      | ins h1 h2 _ q =>
        obtain ⟨w, e1, e2⟩ := q.get h
        exact ⟨_, _, _, w, rfl, .inr ⟨l.ext _ _ h1, l.ext _ _ h2⟩, by rw [List.getElem?_map, e1]; rfl, e2⟩
    · cases h
  · rename_i n
    obtain ⟨a, ha, rfl⟩ := r
    split at h
    · rename_i c' fs hs
      split at h
      · rename_i e
        subst e
        obtain ⟨_, dx, vs, h2, h3, _, h5⟩ := (l.ob n a _ ha hs).ins
        cases e1 : fs[k]? with
        | none => rw [e1] at h; cases h
        | some o =>
          rw [e1] at h
          cases o with
          | none => cases h
          | some d' =>
            cases h
            obtain ⟨w, e2, e3⟩ := repOs_get h5 e1
            exact ⟨a, dx, vs, w, rfl, .inr ⟨h2, l.ext _ _ h3⟩, e2, e3⟩
      · cases h
    · cases h
  · cases h
theorem allD_reps {K : Fg} {G : Hp} {fs : List (Option D)} {vs : List (Option V)} (h : RepOs K G fs vs) : ∀ {xs : List D}, allD fs = some xs → ∃ ws, vs = ws.map some ∧ Reps K G xs ws := by
  induction h with
  | nil => intro xs e; cases e; exact ⟨[], rfl, .nil⟩
  | none _ _ => intro xs e; cases e
  | @some x v fs vs r _ ih =>
    intro xs e
    simp only [allD] at e
    cases q : allD fs with
    | none => rw [q] at e; cases e
    | some ys =>
      rw [q] at e; cases e
      obtain ⟨ws, e1, e2⟩ := ih q
      exact ⟨v :: ws, by rw [e1]; rfl, .cons r e2⟩
/-- dict(pairs) -/
theorem dofL_rep {K : Fg} {G H : Hp} (ex : Ext G H) : ∀ {xs : List D} {vs : List V} {acc kvs : List (Ky × D)} {ks : List (Key × V)}, Reps K G xs vs → RepKs K G acc ks → dofL xs acc = some kvs →
    ∃ (ps : List Addr) (qs : List (Key × V)), vs = ps.map V.ref ∧ Paired (fun p kv => SqT K H p [kV kv.1, kv.2]) ps qs ∧ RepKs K G kvs (mergeK ks qs)
  | [], _, acc, kvs, ks, .nil, ra, h => by simp only [dofL, Option.some.injEq] at h; subst h; exact ⟨[], [], rfl, .nil, ra⟩
  | x :: xs, _, acc, kvs, ks, .cons r t, ra, h => by
    match x, r, h with
    | .tup [k, v], r, h =>
      simp only [dofL] at h
      cases r with
      | tup hs q =>
        cases q with
        | cons q1 q => cases q with
          | cons q2 q =>
            cases q
            cases hk : keyD k with
            | none => rw [hk] at h; cases h
            | some ky =>
              rw [hk] at h
              obtain ⟨rfl, ok⟩ := keyD_V q1 hk
              obtain ⟨ps, qs, e1, e2, e3⟩ := dofL_rep ex t (kput_val ok q2 ra) h
              exact ⟨_ :: ps, (kyOf ky, _) :: qs, by rw [e1]; rfl, .cons (hs.ext ex) e2, e3⟩
section
variable {nm : Nm} {cl : Nat → Addr} {P : Prg} {cal : Cal} {n : Nat} {X : Cx} {W : WX} {e l r : Expr} {es : List Expr} {pos : Pos} {x y z : Ex}
theorem star1 {sc : Scope} {N : List Str} (h : isE nm N sc x e = true) : starEach [e] X.env = [(false, eval e X.env)] := star_e h
theorem e_ptup {k : Nat} (ha : PA X es (TXs nm cl X W (evs P cal x))) : PE X (.Tuple es k pos) (TX nm cl X W (ev P cal (.ptup x))) := by
  refine PE.imp (pe_tupP ha) fun σ H Q ⟨F, G, m, r, S, rl, rv, out⟩ => ?_
  simp only [ev] at out
  refine tX.bind rl rv out fun u1 H1 G1 m1 v1 S1 g1 l1 rv1 r1 out => ?_
  split at out
  · rename_i xs hx
    split at out
    · rename_i hz
      have hl : u1.length ≤ sizeLine := by rw [← r1.length]; exact small_line hz
      have al : ∀ p us, H1 p = none → Al G1 H1 _ _ := fun p us hp => Al.one (o := .frz (tupO us) (.tup u1)) hp
      exact ⟨hl, fun p us hp => Out.gives out l1 _ _ _ (al p us hp) (.ptp ⟨tupO us, us, 0, .inl upd_same, rfl, rfl, rfl, hl⟩ ((dsOf_reps r1 hx).mono ((al p us hp).ext l1.ext).2.1))⟩
    · exact out.elim
  · exact out.elim
theorem e_ptl {p : Pos} {sc : Scope} {N : List Str} (C : Ck nm cl P cal n X W) (h1 : glB X.env.scope ("tuple" : Str) = true) (hs : isE nm N sc x e = true) (ha : PE X e (TX nm cl X W (ev P cal x))) :
    PE X (.Call (.Name ("tuple" : Str) p) [e] [] pos) (TX nm cl X W (ev P cal (.ptl x))) := by
  refine PE.imp (pe_callTy call_tupP (glB_d h1) (C.md.bt .tuple) (by decide +kernel) (pa_cons ha pa_nil (star_e hs)) (by decide +kernel) (by decide +kernel) (star_e hs) rfl) fun σ H Q ⟨F, G, m, r, S, rl, rv, out⟩ => ?_
  simp only [ev] at out
  refine tX.bind rl rv out fun u1 H1 G1 m1 v1 S1 g1 l1 rv1 r1 out => ?_
  split at out
  · cases r1 with
    | lst h1 h2 =>
      refine ⟨_, _, rfl, .of (l1.ext _ _ h1), fun hz q us hq => ?_⟩
      rename_i ws
      have al : Al G1 H1 _ _ := Al.one (o := .frz (tupO us) (.tup ws)) hq
      exact Out.gives out l1 _ _ _ al (.ptp ⟨tupO us, us, 0, .inl upd_same, rfl, rfl, rfl, hz⟩ (h2.mono (al.ext l1.ext).2.1))
  · exact out.elim
theorem e_dof {p : Pos} {sc : Scope} {N : List Str} (C : Ck nm cl P cal n X W) (h1 : glB X.env.scope ("dict" : Str) = true) (hs : isE nm N sc x e = true) (ha : PE X e (TX nm cl X W (ev P cal x))) :
    PE X (.Call (.Name ("dict" : Str) p) [e] [] pos) (TX nm cl X W (ev P cal (.dof x))) := by
  have both : CallR X (.type "dict") (fun xs H Q => (∃ (a : Addr) (ps : List Addr) (kvs : List (Key × V)), xs = [.ref a] ∧ SqP X.K H a (ps.map V.ref) ∧ Paired (fun p kv => SqT X.K H p [kV kv.1, kv.2]) ps kvs ∧ ∀ p, H p = none → Q (.ref p) (upd H p (.dK (mergeK [] kvs)))) ∨
      (∃ (a : Addr) (ps : List Addr) (kvs : List (Key × V)), xs = [.ref a] ∧ SqL X.K H a (ps.map V.ref) ∧ Paired (fun p kv => SqT X.K H p [kV kv.1, kv.2]) ps kvs ∧ ∀ p, H p = none → Q (.ref p) (upd H p (.dK (mergeK [] kvs))))) :=
    fun pins s σ H xs us Q I r h => h.elim (call_dofP C.calm pins s σ H xs us Q I r) (call_dictP C.calm pins s σ H xs us Q I r)
  refine PE.imp (pe_lock (pe_callTy both (glB_d h1) (C.md.bo _ (by decide)) (by decide +kernel) (pa_cons ha pa_nil (star_e hs)) (by decide +kernel) (by decide +kernel) (star_e hs) rfl)) fun σ H Q ⟨F, G, m, r, S, rl, rv, out⟩ => ?_
  simp only [ev] at out
  refine tX.bind rl rv out fun u1 H1 G1 m1 v1 S1 g1 l1 rv1 r1 out => ?_
  have fin : ∀ (xs : List D) (vs : List V), Reps (kx cl X) G1 xs vs → OutV nm.excs X.mg (kx cl X) W F σ G1 m1 Q (R.opt ((dofL xs []).map fun kvs => .d (.dct kvs)) S1) → ∃ (ps : List Addr) (qs : List (Key × V)), vs = ps.map V.ref ∧ Paired (fun p kv => SqT X.K H1 p [kV kv.1, kv.2]) ps qs ∧
      ∀ p, H1 p = none → ∃ p' kvs, V.ref p = .ref p' ∧ upd H1 p (.dK (mergeK [] qs)) p' = some (.dK kvs) ∧ ∀ o, Q (V.ref p) (upd (upd H1 p (.dK (mergeK [] qs))) p' (.frz o (.dK kvs))) := by
    intro xs vs hr out
    cases hd : dofL xs [] with
    | none => rw [hd] at out; exact out.elim
    | some kvs =>
      rw [hd] at out
      obtain ⟨ps, qs, e1, e2, e3⟩ := dofL_rep (K := kx cl X) l1.ext hr .nil hd
      refine ⟨ps, qs, e1, e2, fun p hp => ⟨p, _, rfl, upd_same, fun o => ?_⟩⟩
      rw [upd_upd]
      have al : Al G1 H1 _ _ := Al.one (o := .frz o (.dK (mergeK [] qs))) hp
      exact Out.gives out l1 _ _ _ al (.dct upd_same (e3.mono (al.ext l1.ext).2.1))
  split at out
  · cases r1 with
    | ptp h1 h2 =>
      obtain ⟨ps, qs, rfl, e2, e3⟩ := fin _ _ h2 out
      exact .inl ⟨_, ps, qs, rfl, h1.ext l1.ext, e2, e3⟩
  · cases r1 with
    | lst h1 h2 =>
      obtain ⟨ps, qs, rfl, e2, e3⟩ := fin _ _ h2 out
      exact .inr ⟨_, ps, qs, rfl, .of (l1.ext _ _ h1), e2, e3⟩
  · exact out.elim
end
end Iv
end
section
set_option autoImplicit false
set_option maxRecDepth 100000
set_option maxHeartbeats 4000000
namespace Iv
open PySem L2
section
variable {nm : Nm} {cl : Nat → Addr} {P : Prg} {cal : Cal} {n : Nat} {X : Cx} {W : WX} {e l r : Expr} {es : List Expr} {pos : Pos} {x y z : Ex}
/-! ### d == {} -/
theorem deq0_read {ng : Bool} {σ : L2.St} {H : Hp} {Q : VK} (h : TX nm cl X W (ev P cal (.deq0 ng x)) σ H Q) :
    TX nm cl X W (ev P cal x) σ H fun a H1 => ∀ p, H1 p = none → ∃ a' b ks, a = .ref a' ∧ V.ref p = .ref b ∧ Rd (upd H1 p (.dK [])) a' (.dK ks) ∧ upd H1 p (.dK []) b = some (.dK []) ∧ Q (.bl (if ng then !ks.isEmpty else ks.isEmpty)) (upd H1 p (.dK [])) := by
  obtain ⟨F, G, m, r, S, rl, rv, out⟩ := h
  simp only [ev] at out
  refine tX.bind rl rv out fun u1 H1 G1 m1 v1 S1 g1 l1 rv1 r1 out p hp => ?_
  split at out
  · cases r1 with
    | dct h1 h2 =>
      have al : Al G1 H1 _ _ := Al.one (o := .dK []) hp
      have em : ∀ {xs : List (Ky × D)} {ks : List (Key × V)}, RepKs (kx cl X) G1 xs ks → ks.isEmpty = xs.isEmpty := fun h => by cases h <;> rfl
      refine ⟨_, p, _, rfl, rfl, .inr ⟨_, by rw [upd_ne (ne_of_none (l1.ext _ _ h1) hp)]; exact l1.ext _ _ h1⟩, upd_same, ?_⟩
      rw [em h2]
      exact Out.gives out l1 _ _ _ al (.bl _)
  · exact out.elim
theorem pc_deq0 {ng : Bool} {p : Pos} (C : Ck nm cl P cal n X W) (ha : PE X l (TX nm cl X W (ev P cal x))) : PC X (if ng then .NotEq else .Eq) l (.Dict [] [] p) (TX nm cl X W (ev P cal (.deq0 ng x))) := by
  have key := pc_S (X := X) (op := if ng then .NotEq else .Eq) ha (pe_dnewK (pos := p)) (fun pins s σ H x y v u Q I rx ry h => op_deq0 (ng := ng) (Nat.lt_of_le_of_lt (by omega) C.room.units) pins s σ H x y v u Q I rx ry h)
  exact ⟨fun pins s σ H Q I hw => key.run pins s σ H Q I (deq0_read hw)⟩
theorem e_deq0 {ng : Bool} {p : Pos} (C : Ck nm cl P cal n X W) (ha : PE X l (TX nm cl X W (ev P cal x))) : PE X (.Compare l [if ng then .NotEq else .Eq] [.Dict [] [] p] pos) (TX nm cl X W (ev P cal (.deq0 ng x))) := pe_cmp (pc_deq0 C ha) (by cases ng <;> rfl)
theorem t_deq0 {ng : Bool} {p : Pos} (C : Ck nm cl P cal n X W) (ha : PE X l (TX nm cl X W (ev P cal x))) : PT X (.Compare l [if ng then .NotEq else .Eq] [.Dict [] [] p] pos) (tB (TX nm cl X W (ev P cal (.deq0 ng x)))) := pt_cmp (pc_deq0 C ha) (by cases ng <;> rfl)
/-! ### sorted -/
theorem e_srt {p : Pos} {sc : Scope} {N : List Str} (C : Ck nm cl P cal n X W) (h1 : glB X.env.scope ("sorted" : Str) = true) (hs : isE nm N sc x e = true) (ha : PE X e (TX nm cl X W (ev P cal x))) :
    PE X (.Call (.Name ("sorted" : Str) p) [e] [] pos) (TX nm cl X W (ev P cal (.srt x))) := by
  have both := fun (pins : List (Addr × Obj)) (s : Shared) (σ : L2.St) (H : Hp) (xs : List V) (us : List Value) (Q : VK) (I : Inv X pins σ H s) (r : Vals xs us)
      (h : (∃ (G : Hp) (xs' : List D) (x : V), xs = [x] ∧ Ext G H ∧ Rd' (kx cl X) G H (.lst xs') x ∧ sortOk xs' = true ∧ Gives (kx cl X) G H (.lst (sortD xs')) Q) ∨
        (∃ (G : Hp) (xs' : List (Ky × D)) (a : Addr) (ks : List (Key × V)), xs = [.ref a] ∧ Ext G H ∧ Rd H a (.dK ks) ∧ RepKs (kx cl X) G xs' ks ∧ sortOk (xs'.map fun p => kyD p.1) = true ∧ Gives (kx cl X) G H (.lst (sortD (xs'.map fun p => kyD p.1))) Q)) =>
    h.elim (cr_srtL (cl := cl) C.room.units pins s σ H xs us Q I r) (cr_srtK (cl := cl) C.calm C.room.units pins s σ H xs us Q I r)
  refine PE.imp (pe_callB both (glB_d h1) (C.md.bo _ (by decide)) (by decide +kernel) (pa_cons ha pa_nil (star_e hs)) (by decide +kernel) (by decide +kernel) (star_e hs) rfl) fun σ H Q ⟨F, G, m, r, S, rl, rv, out⟩ => ?_
  simp only [ev] at out
  refine tX.bind rl rv out fun u1 H1 G1 m1 v1 S1 g1 l1 rv1 r1 out => ?_
  unfold srtL at out
  cases ek : rdK v1 S1 with
  | some kvs =>
    rw [ek] at out
    dsimp only at out
    split at out
    · rename_i hso
      obtain ⟨a, ks, rfl, q1, q2⟩ := rdK_rd l1 r1 ek
      exact .inr ⟨G1, kvs, a, ks, rfl, l1.ext, q1, q2, hso, Out.gives out l1⟩
    · exact out.elim
  | none =>
    rw [ek] at out
    cases ev : rdV v1 S1 with
    | none => rw [ev] at out; exact out.elim
    | some d =>
      rw [ev] at out
      cases d with
      | lst xs =>
        dsimp only at out
        split at out
        · rename_i hso
          exact .inl ⟨G1, xs, u1, rfl, l1.ext, rdV_rd l1 r1 ev, hso, Out.gives out l1⟩
        · exact out.elim
      | _ => exact out.elim
theorem e_srti {p ap p2 : Pos} {sc : Scope} {N : List Str} (C : Ck nm cl P cal n X W) (h1 : glB X.env.scope ("sorted" : Str) = true) (h0 : noC0 e = true) (hl : (ap.endLine == p2.line) = true) (ha : PE X e (TX nm cl X W (ev P cal x))) :
    PE X (.Call (.Name ("sorted" : Str) p) [.Call (.Attribute e ("items" : Str) ap) [] [] p2] [] pos) (TX nm cl X W (ev P cal (.srti x))) := by
  have it := pe_bm0 (X := X) (cpos := p2) (apos := ap) PySem.F.plainAttrs_dict PySem.F.slot_dict_items PySem.F.type_dict_items mt_itemsK ha (base_e h0) hl
  refine PE.imp (pe_callB (cr_srtI (cl := cl) C.calm C.room.units) (glB_d h1) (C.md.bo _ (by decide)) (by decide +kernel) (pa_cons it pa_nil rfl) (by decide +kernel) (by decide +kernel) rfl rfl) fun σ H Q ⟨F, G, m, r, S, rl, rv, out⟩ => ?_
  simp only [ev] at out
  refine tX.bind rl rv out fun u1 H1 G1 m1 v1 S1 g1 l1 rv1 r1 out => ?_
  cases v1 with
  | d _ => exact out.elim
  | xc _ _ => exact out.elim
  | loc k =>
    obtain ⟨a, ha, rfl⟩ := r1
    dsimp only at out
    cases es : S1[k]? with
    | none => rw [es] at out; exact out.elim
    | some ob =>
      rw [es] at out
      cases ob with
      | dct kvs =>
        dsimp only at out
        split at out
        · rename_i hso
          have hso := Bool.and_eq_true_iff.mp hso
          obtain ⟨ga, ks, q2, q3⟩ := (l1.ob k a _ ha es).dct
          refine ⟨.inr (.inr (.inl ⟨rfl, .inl ⟨ks, q2⟩⟩)), a, ks, rfl, rfl, q2, fun q hq => ?_⟩
          have al : Al G1 H1 _ _ := Al.one (o := L2.DX.itemsO q a) hq
          have l2 := l1.al al
          refine ⟨_, kvs, q, a, ks, rfl, l2.ext, upd_same, .inl (by rw [upd_ne (ne_of_none q2 hq)]; exact q2), q3.mono (al.ext l1.ext).2.1, hso.1, fun z hz => List.all_eq_true.mp hso.2 z hz, ?_⟩
          exact Out.gives (Out.grow (al.grow l1.ext) out) l2
        · exact out.elim
      | _ => exact out.elim
/-! ### [*a, *b] -/
theorem starL_V {K : Fg} {F G H : Hp} {m : List Addr} {v : Vl} {u : V} {xs : List D} (ex : Ext G H) (r : RepV K G m v u) (h : starL v = some xs) : ∃ ys, StarV K H u ys ∧ Reps K G xs ys := by
  unfold starL at h
  split at h
  · cases h
    cases r with
    | lst h1 h2 => exact ⟨_, ⟨_, rfl, .inr (.inl (.of (ex _ _ h1)))⟩, h2⟩
  · cases h
    cases r with
    | tup h1 h2 => exact ⟨_, ⟨_, rfl, .inl (h1.ext ex)⟩, h2⟩
  · cases h
    cases r with
    | dct h1 h2 =>
      refine ⟨_, ⟨_, rfl, .inr (.inr ⟨_, .inr ⟨_, ex _ _ h1⟩, rfl⟩)⟩, ?_⟩
      have all : ∀ {xs : List (Ky × D)} {ks : List (Key × V)}, RepKs K G xs ks → Reps K G (xs.map fun p => kyD p.1) (ks.map fun q => kV q.1) := by
        intro xs
        induction xs with
        | nil => intro ks h; cases h; exact .nil
        | cons p xs ih =>
          intro ks h
          cases h with
          | cons o _ t => exact .cons (rep_key o) (ih t)
      exact all h2
  · cases h
theorem e_stars {p1 p2 : Pos} (C : Ck nm cl P cal n X W) (ha : PE X l (TX nm cl X W (ev P cal x))) (hb : PE X r (TX nm cl X W (ev P cal y))) : PE X (.List [.Starred l p1, .Starred r p2] pos) (TX nm cl X W (ev P cal (.stars x y))) := by
  refine PE.imp (pe_lst (pa_starV C.calm ha (pa_starV C.calm hb pa_nil rfl) rfl)) fun σ H Q ⟨F, G, m, r, S, rl, rv, out⟩ => ?_
  simp only [ev] at out
  refine tX.bind rl rv out fun u1 H1 G1 m1 v1 S1 g1 l1 rv1 r1 out => ?_
  cases e1 : starL v1 with
  | none => rw [e1] at out; exact out.elim
  | some xs =>
    obtain ⟨ys, q1, q2⟩ := starL_V (F := F) l1.ext r1 e1
    rw [e1] at out
    refine ⟨ys, q1, tX.bind l1 rv1 out fun u2 H2 G2 m2 v2 S2 g2 l2 rv2 r2 out => ?_⟩
    cases e2 : starL v2 with
    | none => rw [e2] at out; exact out.elim
    | some zs =>
      rw [e2] at out
      dsimp only at out
      obtain ⟨ws, q3, q4⟩ := starL_V (F := F) l2.ext r2 e2
      refine ⟨ws, q3, ?_⟩
      split at out
      · rename_i hz
        refine ⟨?_, fun p hp => ?_⟩
        · rw [List.append_nil, List.length_append, ← q2.length, ← q4.length]; exact small_line hz
        · rw [List.append_nil]
          exact (Out.gives out l2).newL l2.ext ((q2.mono g2.1).append q4) hp
      · exact out.elim
end
end Iv
end
section
set_option autoImplicit false
set_option maxRecDepth 100000
set_option maxHeartbeats 4000000
namespace Iv
open PySem L2
section
variable {nm : Nm} {cl : Nat → Addr} {P : Prg} {cal : Cal} {n : Nat} {X : Cx} {W : WX} {e l r : Expr} {es : List Expr} {pos : Pos} {x y z : Ex}
/-! ### fields -/
theorem e_slt {j : Nat} {s : Str} (C : Ck nm cl P cal n X W) (hj : nm.sls[j]? = some s) (h0 : noC0 e = true) (ha : PE X e (TX nm cl X W (ev P cal x))) : PE X (.Attribute e s pos) (TX nm cl X W (ev P cal (.slt j x))) := by
  refine PE.imp (SlX.pe_sl ha (base_e h0)) fun σ H Q ⟨F, G, m, r, S, rl, rv, out⟩ => ?_
  simp only [ev] at out
  refine tX.bind rl rv out fun u1 H1 G1 m1 v1 S1 g1 l1 rv1 r1 out => ?_
  cases hq : P.sls[j]? with
  | none => rw [hq] at out; exact out.elim
  | some q =>
    rw [hq] at out
    dsimp only at out
    obtain ⟨k1, p, k2⟩ := C.md.sl j q s hq hj
    cases hf : fldOf q.1 q.2 v1 S1 with
    | none => rw [hf] at out; exact out.elim
    | some d =>
      rw [hf] at out
      obtain ⟨a, dx, vs, w, rfl, q1, q2, q3⟩ := fldOf_slt l1 r1 hf
      exact ⟨a, _, dx, p, vs, _, w, rfl, q1, k1, k2, q2, (Out.gives out l1).here q3.wk⟩
theorem e_sltp {j : Nat} {s : Str} (C : Ck nm cl P cal n X W) (hj : nm.sls[j]? = some s) (h0 : noC0 e = true) (ha : PE X e (TX nm cl X W (ev P cal x))) : PE X (.Attribute e s pos) (TX nm cl X W (ev P cal (.sltp j x))) := by
  refine PE.imp (SlX.pe_sl ha (base_e h0)) fun σ H Q ⟨F, G, m, r, S, rl, rv, out⟩ => ?_
  simp only [ev] at out
  refine tX.bind rl rv out fun u1 H1 G1 m1 v1 S1 g1 l1 rv1 r1 out => ?_
  cases hq : P.sls[j]? with
  | none => rw [hq] at out; exact out.elim
  | some q =>
    rw [hq] at out
    dsimp only at out
    obtain ⟨k1, p, k2⟩ := C.md.sl j q s hq hj
    cases hf : fldOf q.1 q.2 v1 S1 with
    | none => rw [hf] at out; exact out.elim
    | some d =>
      rw [hf] at out
      obtain ⟨a, dx, vs, w, rfl, q1, q2, q3⟩ := fldOf_slt l1 r1 hf
      exact ⟨a, _, dx, p, vs, _, w, rfl, q1, k1, k2, q2, (Out.gives out l1).here q3⟩
/-! ### C(..) -/
/-- what a make asks, when the arguments are there -/
theorem mk_read {F G H : Hp} {m : List Addr} {S : Hs} {c f : Nat} {vs : List Vl} {us : List V} {σ : L2.St} {Q : VK} {sp : Sp} (l : Rl (kx cl X) F G m S H) (r : RVs (kx cl X) G m vs us) (out : OutV nm.excs X.mg (kx cl X) W F σ G m Q (mkV cal c f vs S))
    (g2 : ∀ (σ : L2.St) (F G : Hp) (m : List Addr) (vs : List Vl) (us : List V) (S : Hs) (H : Hp) (Q : VK), Rl (kx cl X) F G m S H → RVs (kx cl X) G m vs us → OutV nm.excs X.mg (kx cl X) W F σ G m Q (cal f vs S) → f < nm.nf ∧ sp us H Q (WE W σ)) :
    ∀ x dx, H x = none → H dx = none → dx ≠ x → f < nm.nf ∧ sp (V.ref x :: us) (upd (upd H dx (.xd [])) x (SlX.SlO x (cl c) dx [])) (fun v H2 => v = .non ∧ Q (.ref x) H2) (WE W σ) := by
  intro x dx hx hdx hne
  have al : Al G H _ _ := Al.one (o := .xd []) hdx
  have l1 := l.al al
  have hx1 : (upd H dx (.xd [])) x = none := by rw [upd_ne (Ne.symm hne)]; exact hx
  have l2 := l1.new (p := x) (ob := .ins c []) (ho := SlX.SlO x (cl c) dx []) hx1 (ObV.ins (K := kx cl X) upd_same hne .nil)
  have gr : Grow G m (upd G dx (.xd [])) (m ++ [x]) := ⟨(al.ext l.ext).2.1, fun k a h => by rw [List.getElem?_append_left (List.getElem?_eq_some_iff.mp h).1]; exact h⟩
  have hself : (m ++ [x])[S.length]? = some x := by rw [← l.len]; simp
  have rv : RVs (kx cl X) (upd G dx (.xd [])) (m ++ [x]) (.loc S.length :: vs) (V.ref x :: us) := by
    refine .cons ⟨x, hself, rfl⟩ ?_
    have mono : ∀ {vs : List Vl} {us : List V}, RVs (kx cl X) G m vs us → RVs (kx cl X) (upd G dx (.xd [])) (m ++ [x]) vs us := by
      intro vs us h
      induction h with
      | nil => exact .nil
      | cons h _ ih => exact .cons (h.mono gr) ih
    exact mono r
  refine g2 σ F _ _ _ _ _ _ _ l2 rv ?_
  unfold mkV at out
  cases hcal : cal f (.loc S.length :: vs) (S ++ [.ins c []]) with
  | bad => rw [hcal] at out; exact out.elim
  | exc c' fs S3 => rw [hcal] at out; exact fun G' m' H' cls d g' => out G' m' H' cls d (gr.trans g')
  | ok v3 S3 =>
  rw [hcal] at out
  simp only [R.bind] at out
  have o3 := out
  intro G3 m3 H2 u g3 l3 r3
  cases v3 with
  | loc _ => exact o3.elim
  | xc _ _ => exact o3.elim
  | d d =>
  cases d with
  | non =>
    cases r3
    refine ⟨rfl, ?_⟩
    have hm3 : m3[S.length]? = some x := g3.2 _ _ hself
    cases hs : S3[S.length]? with
    | none => rw [hs] at o3; exact o3.elim
    | some ob =>
      rw [hs] at o3
      cases ob with
      | ins c' fs =>
        dsimp only at o3
        split at o3
        · rename_i hc
          subst hc
          cases ha : allD fs with
          | none => rw [ha] at o3; exact o3.elim
          | some xs =>
            rw [ha] at o3
            obtain ⟨z1, dx', vs', z2, z3, z4, z5⟩ := (l3.ob _ x _ hm3 hs).ins
            obtain ⟨ws, rfl, z6⟩ := allD_reps z5 ha
            obtain ⟨ex, l4⟩ := l3.still hm3 z1 z2
            have l5 := l4.take S.length
            rw [List.take_set_of_le (Nat.le_refl _)] at l5
            have gg : Grow G m _ m3 := (gr.trans g3).trans ⟨ex, fun _ _ h => h⟩
            have gt := gg.take
            rw [l.len] at gt
            exact o3 _ _ H2 (.ref x) gt l5 (Rep.ins (K := kx cl X) upd_same (ex _ _ z3) z4 (z6.mono ex))
        · exact o3.elim
      | _ => exact o3.elim
  | _ => exact o3.elim
theorem nil_isA {sc : Scope} {N : List Str} (hs : isA nm N sc x [] = true) : x = .nil := by
  cases x <;> first | rfl | cases hs
theorem e_mk {j : Nat} {s : Str} {p : Pos} {sc : Scope} {N : List Str} (C : Ck nm cl P cal n X W) (hj : nm.mks[j]? = some s) (h1 : glB X.env.scope s = true) (ho : okN s = true) (hs : isA nm N sc x es = true) (ha : PA X es (TXs nm cl X W (evs P cal x))) :
    PE X (.Call (.Name s p) es [] pos) (TX nm cl X W (ev P cal (.mk j x))) := by
  cases hq : P.mks[j]? with
  | none => exact ⟨fun pins s σ H Q I ⟨F, G, m, r, S, rl, rv, out⟩ => by simp only [ev, hq] at out; exact out.elim⟩
  | some q =>
    obtain ⟨sp, g1, g2⟩ := C.go (f := q.2)
    obtain ⟨hf, mk⟩ := C.md.mkk j q hq
    cases es with
    | nil =>
      refine PE.imp (pe_mk0 (ES := WE W) mk (g1 hf) (C.room.mono (by omega)) (glB_d h1) (C.md.mn j q s hq hj) (fun σ => passAt C.tk σ) (okN_d ho).1) fun σ H Q ⟨F, G, m, r, S, rl, rv, out⟩ => ?_
      have e1 := nil_isA hs
      subst e1
      simp only [ev, hq, evs, R.bind] at out
      exact fun a dx z1 z2 z3 => (mk_read rl .nil out g2 a dx z1 z2 z3).2
    | cons e es =>
      obtain ⟨s1, s2⟩ := star_args (X := X) (pos := pos) hs
      refine PE.imp (pe_mk (ES := WE W) mk (g1 hf) (C.room.mono (by omega)) (glB_d h1) (C.md.mn j q s hq hj) (fun σ => passAt C.tk σ) ha (okN_d ho).1 s1 s2) fun σ H Q ⟨F, G, m, r, S, rl, rv, out⟩ => ?_
      simp only [ev, hq] at out
      refine tX.bind rl rv out fun u1 H1 G1 m1 v1 S1 g1 l1 rv1 r1 out => ?_
      exact fun a dx z1 z2 z3 => (mk_read l1 r1 out g2 a dx z1 z2 z3).2
theorem e_mkc {i j : Nat} {s : Str} {p : Pos} {sc : Scope} {N : List Str} (C : Ck nm cl P cal n X W) (hN : X.N[i]? = some s) (hv : visB X.env.scope s = true) (ho : okN s = true) (hs : isA nm N sc x (e :: es) = true) (ha : PA X (e :: es) (TXs nm cl X W (evs P cal x))) :
    PE X (.Call (.Name s p) (e :: es) [] pos) (TX nm cl X W (ev P cal (.mkc i j x))) := by
  cases hq : P.mks[j]? with
  | none => exact ⟨fun pins s σ H Q I ⟨F, G, m, r, S, rl, rv, out⟩ => by
      simp only [ev, hq] at out
      split at out
      · rename_i h; cases h
      · exact out.elim⟩
  | some q =>
    obtain ⟨sp, g1, g2⟩ := C.go (f := q.2)
    obtain ⟨hf, mk⟩ := C.md.mkk j q hq
    obtain ⟨s1, s2⟩ := star_args (X := X) (pos := pos) hs
    refine PE.imp (pe_mkV (ES := WE W) mk (g1 hf) (C.room.mono (by omega)) hN (visB_d hv) (fun σ => passAt C.tk σ) ha (okN_d ho).1 (okN_d ho).2.1 s1 s2) fun σ H Q ⟨F, G, m, r, S, rl, rv, out⟩ => ?_
    simp only [ev, hq] at out
    split at out
    · rename_i c q' hr hq'
      cases hq'
      split at out
      · rename_i hc
        obtain ⟨u, z1, z2⟩ := rv.2 i _ hr (fun _ _ z => by cases z)
        subst hc
        cases z2
        refine ⟨z1, tX.bind rl rv out fun u1 H1 G1 m1 v1 S1 g1 l1 rv1 r1 out => ?_⟩
        exact fun a dx z1 z2 z3 => (mk_read l1 r1 out g2 a dx z1 z2 z3).2
      · exact out.elim
    · exact out.elim
/-! ### methods -/
theorem form_args {sc : Scope} {N : List Str} (hs : isA nm N sc x (e :: es) = true) (hz : es.length < 20) : methodCallForm ((e :: es).length + ([] : List Keyword).length) (backTo pos (starEach (e :: es) X.env)) (backToKw pos (keywordEach [] X.env)) = true := by
  have this : decide ((e :: es).length + ([] : List Keyword).length + 0 < 30) = true := decide_eq_true (by simp; omega)
  show ((backTo pos (starEach (e :: es) X.env)).all (fun x => !x.1) && true && decide ((e :: es).length + ([] : List Keyword).length + 0 < 30)) = true
  rw [(any_star hs).2, this]; rfl
theorem e_mth {j : Nat} {s : Str} {ap : Pos} {sc : Scope} {N : List Str} (C : Ck nm cl P cal n X W) (hj : nm.mts[j]? = some s) (h0 : noC0 l = true) (hl : (ap.endLine == pos.line) = true) (hz : es.length < 20) (hs : isA nm N sc y es = true)
    (ha : PE X l (TX nm cl X W (ev P cal x))) (hb : PA X es (TXs nm cl X W (evs P cal y))) : PE X (.Call (.Attribute l s ap) es [] pos) (TX nm cl X W (ev P cal (.mth j x y))) := by
  cases hq : P.mts[j]? with
  | none => exact ⟨fun pins s σ H Q I ⟨F, G, m, r, S, rl, rv, out⟩ => by simp only [ev, hq] at out; exact out.elim⟩
  | some q =>
    obtain ⟨sp, g1, g2⟩ := C.go (f := q.2)
    obtain ⟨hf, k1, k2⟩ := C.md.mt j q s hq hj
    cases es with
    | nil =>
      refine PE.imp (pe_mth0 (ES := WE W) ha k1 k2 (g1 hf) (C.room.mono (by omega)) (fun σ => passAt C.tk σ) (base_e h0) hl) fun σ H Q ⟨F, G, m, r, S, rl, rv, out⟩ => ?_
      have e1 := nil_isA hs
      subst e1
      simp only [ev, hq] at out
      refine tX.bind rl rv out fun u1 H1 G1 m1 v1 S1 g1 l1 rv1 r1 out => ?_
      split at out
      · rename_i hi
        obtain ⟨a, dx, vs, rfl, sl⟩ := insOf_slt l1 r1 hi
        simp only [evs, R.bind] at out
        exact ⟨a, dx, vs, rfl, sl, (g2 σ F G1 m1 _ _ S1 H1 Q l1 (.cons r1 .nil) out).2⟩
      · exact out.elim
    | cons e es =>
      obtain ⟨s1, s2⟩ := star_args (X := X) (pos := pos) hs
      refine PE.imp (pe_mth (ES := WE W) ha k1 k2 (g1 hf) (C.room.mono (by omega)) (fun σ => passAt C.tk σ) hb s1 s2 (base_e h0) (form_args hs (by simp at hz; omega)) hl) fun σ H Q ⟨F, G, m, r, S, rl, rv, out⟩ => ?_
      simp only [ev, hq] at out
      refine tX.bind rl rv out fun u1 H1 G1 m1 v1 S1 g1 l1 rv1 r1 out => ?_
      split at out
      · rename_i hi
        obtain ⟨a, dx, vs, rfl, sl⟩ := insOf_slt l1 r1 hi
        refine ⟨a, dx, vs, rfl, sl, tX.bind l1 rv1 out fun u2 H2 G2 m2 v2 S2 gg2 l2 rv2 r2 out => ?_⟩
        exact (g2 σ F G2 m2 _ _ S2 H2 Q l2 (.cons (r1.mono gg2) r2) out).2
      · exact out.elim
theorem e_prp {j : Nat} {s : Str} (C : Ck nm cl P cal n X W) (hj : nm.prs[j]? = some s) (h0 : noC0 e = true) (ha : PE X e (TX nm cl X W (ev P cal x))) : PE X (.Attribute e s pos) (TX nm cl X W (ev P cal (.prp j x))) := by
  cases hq : P.prs[j]? with
  | none => exact ⟨fun pins s σ H Q I ⟨F, G, m, r, S, rl, rv, out⟩ => by simp only [ev, hq] at out; exact out.elim⟩
  | some q =>
    obtain ⟨hf, k1, p, k2⟩ := C.md.pr j q s hq hj
    have F := C.md.fn q.2 hf
    refine PE.imp (SlX.pe_propSl (E := fun _ _ _ => False) ha k1 k2.at_ k2.get k2.tk k2.rc F (C.room.mono (by omega)) (fun H s e s' c => by obtain ⟨_, _, _, _, _, _, _, _, _, _, _, _, h⟩ := c; exact h) (base_e h0)) fun σ H Q ⟨F, G, m, r, S, rl, rv, out⟩ => ?_
    simp only [ev, hq] at out
    refine tX.bind rl rv out fun u1 H1 G1 m1 v1 S1 g1 l1 rv1 r1 out => ?_
    split at out
    · rename_i hi
      obtain ⟨a, dx, vs, rfl, sl⟩ := insOf_slt l1 r1 hi
      refine ⟨a, dx, vs, rfl, sl, F, G1, m1, [v1], S1, l1, .cons r1 .nil, ?_⟩
      cases hc : cal q.2 [v1] S1 with
      | ok v S2 => rw [hc] at out; exact out
      | exc _ _ _ => rw [hc] at out; exact out.elim
      | bad => rw [hc] at out; exact out.elim
    · exact out.elim
theorem e_cme {j : Nat} {c s : Str} {ap p : Pos} {sc : Scope} {N : List Str} (C : Ck nm cl P cal n X W) (hj : nm.cms[j]? = some (c, s)) (h1 : glB X.env.scope c = true) (ho : okN c = true) (hl : (ap.endLine == pos.line) = true) (hz : es.length < 20) (hs : isA nm N sc y es = true)
    (hb : PA X es (TXs nm cl X W (evs P cal y))) : PE X (.Call (.Attribute (.Name c p) s ap) es [] pos) (TX nm cl X W (ev P cal (.cme j y))) := by
  cases hq : P.cms[j]? with
  | none => exact ⟨fun pins s σ H Q I ⟨F, G, m, r, S, rl, rv, out⟩ => by simp only [ev, hq] at out; exact out.elim⟩
  | some q =>
    obtain ⟨sp, g1, g2⟩ := C.go (f := q.2)
    obtain ⟨hf, k0, mc, q', k1, k2⟩ := C.md.cm j q c s hq hj
    have hn : PE X (.Name c p) (tC (.ref (cl q.1))) := pe_glob (glB_d h1) k0 rfl (okN_d ho).1
    cases es with
    | nil =>
      refine PE.imp (pe_cm0 (ES := WE W) hn k1 k2 (g1 hf) (C.room.mono (by omega)) (fun σ => passAt C.tk σ) rfl hl) fun σ H Q ⟨F, G, m, r, S, rl, rv, out⟩ => ?_
      have e1 := nil_isA hs
      subst e1
      simp only [ev, hq, evs, R.bind] at out
      exact ⟨rfl, (g2 σ F G m _ _ S H Q rl (.cons (show RepV (kx cl X) G m (.d (.cls q.1)) (.ref (cl q.1)) from Rep.cls (K := kx cl X) q.1) .nil) out).2⟩
    | cons e es =>
      obtain ⟨s1, s2⟩ := star_args (X := X) (pos := pos) hs
      refine PE.imp (pe_cm (ES := WE W) hn k1 k2 (g1 hf) (C.room.mono (by omega)) (fun σ => passAt C.tk σ) hb s1 s2 rfl (form_args hs (by simp at hz; omega)) hl) fun σ H Q ⟨F, G, m, r, S, rl, rv, out⟩ => ?_
      simp only [ev, hq] at out
      refine ⟨rfl, tX.bind rl rv out fun u1 H1 G1 m1 v1 S1 gg1 l1 rv1 r1 out => ?_⟩
      exact (g2 σ F G1 m1 _ _ S1 H1 Q l1 (.cons (show RepV (kx cl X) G1 m1 (.d (.cls q.1)) (.ref (cl q.1)) from Rep.cls (K := kx cl X) q.1) r1) out).2
/-! ### isinstance, len, bool -/
theorem e_isc {j : Nat} {s : Str} {p p2 : Pos} {sc : Scope} {N : List Str} (C : Ck nm cl P cal n X W) (hj : nm.cls[j]? = some s) (h1 : glB X.env.scope ("isinstance" : Str) = true) (h2 : glB X.env.scope s = true) (ho : okN s = true) (hs : isE nm N sc x e = true)
    (ha : PE X e (TX nm cl X W (ev P cal x))) : PE X (.Call (.Name ("isinstance" : Str) p) [e, .Name s p2] [] pos) (TX nm cl X W (ev P cal (.isc j x))) := by
  obtain ⟨k0, k1⟩ := C.md.is j s hj
  have hn : PE X (.Name s p2) (tC (.ref (cl j))) := pe_glob (glB_d h2) k0 rfl (okN_d ho).1
  have both : CallR X (.builtin "isinstance") (fun xs H Q => SlX.rIsiSl X.K (.ref (cl j)) xs H Q ∨ rIsi X.K xs H Q) := fun pins s σ H xs us Q I r h => h.elim (SlX.call_isiSl (.ref (cl j)) pins s σ H xs us Q I r) (call_isi pins s σ H xs us Q I r)
  refine PE.imp (pe_callB both (glB_d h1) (C.md.bo _ (by decide)) (by decide +kernel) (pa_cons ha (pa_cons hn pa_nil) (star_e hs)) (by decide +kernel) (by decide +kernel) (star_e hs) rfl) fun σ H Q ⟨F, G, m, r, S, rl, rv, out⟩ => ?_
  simp only [ev] at out
  refine tX.bind rl rv out fun u1 H1 G1 m1 v1 S1 g1 l1 rv1 r1 out => ?_
  cases v1 with
  | loc _ => exact out.elim
  | xc _ _ => exact out.elim
  | d d =>
  by_cases hb : bareD d = true
  · refine .inr ⟨u1, _, _, _, false, rfl, .own (cl j), tyX_D (Rep.mono l1.ext r1) hb, k1 _ ?_, ?_⟩
    · cases d <;> first | (cases hb; done) | simp [tyD]
    · cases d <;> first | (cases hb; done) | exact (Out.gives out l1).here (.bl false)
  · cases d with
    | ins c fs =>
      dsimp only at out
      cases hi : P.isc c j with
      | none => rw [hi] at out; exact out.elim
      | some b =>
        rw [hi] at out
        obtain ⟨a, dx, vs, rfl, sl⟩ := rep_slt l1.ext r1
        have k := C.md.isc j s c b hj hi
        exact .inl ⟨a, cl c, dx, vs, .ref (cl j), b, rfl, rfl, fun _ h => h, sl, k.s, k.i, k.k, (Out.gives out l1).here (.bl b)⟩
    | _ => first | exact absurd rfl hb | (dsimp only at out; rw [if_neg hb] at out; exact out.elim)
theorem e_olen {p : Pos} {sc : Scope} {N : List Str} (C : Ck nm cl P cal n X W) (h1 : glB X.env.scope ("len" : Str) = true) (hs : isE nm N sc x e = true) (ha : PE X e (TX nm cl X W (ev P cal x))) :
    PE X (.Call (.Name ("len" : Str) p) [e] [] pos) (TX nm cl X W (ev P cal (.olen x))) := by
  refine PE.imp (pe_callBS (id := "len") (rd := fun σ v H Q => ∃ (c f : Nat) (F G : Hp) (m : List Addr) (fs : List D) (S : Hs), P.lnf c = some f ∧ Rl (kx cl X) F G m S H ∧ Rep (kx cl X) G (.ins c fs) v ∧
      OutV nm.excs X.mg (kx cl X) W F σ G m (fun z H' => ∃ i : Int, z = .int i ∧ (0 ≤ i ∧ i < 2 ^ 63) ∧ Q (.int i) H') (cal f [.d (.ins c fs)] S)) (fun pins s σ H v u Q I rv h => ?_) (glB_d h1) (C.md.bt .len) (by decide +kernel) ha (by decide +kernel) (by decide +kernel) (star_e hs)) fun σ H Q ⟨F, G, m, r, S, rl, rv, out⟩ => ?_
  · obtain ⟨c, f, F, G, m, fs, S, hp, l, r1, out⟩ := h
    obtain ⟨sp, g1, g2⟩ := C.go (f := f)
    obtain ⟨k1, k2⟩ := C.md.ln c f hp
    obtain ⟨hf, hs⟩ := g2 σ F G m [.d (.ins c fs)] [v] S H _ l (.cons r1 .nil) out
    obtain ⟨a, dx, vs, rfl, sl⟩ := rep_slt l.ext r1
    obtain rfl : u = Value.ref a := rv
    exact len_ins k1 k2 (g1 hf) (C.room.mono (by omega)) (passAt C.tk σ) I sl hs
  · simp only [ev] at out
    refine tX.bind rl rv out fun u1 H1 G1 m1 v1 S1 g1 l1 rv1 r1 out => ?_
    cases v1 with
    | loc _ => exact out.elim
    | xc _ _ => exact out.elim
    | d d =>
    cases d with
    | ins c fs =>
      dsimp only at out
      cases hp : P.lnf c with
      | none => rw [hp] at out; exact out.elim
      | some f =>
        rw [hp] at out
        refine ⟨c, f, F, G1, m1, fs, S1, hp, l1, r1, (Out.bind (RR := RepV (kx cl X)) out).imp fun u' H' ⟨G3, m3, v3, S3, g3, l3, r3, o3⟩ => ?_⟩
        cases v3 with
        | loc _ => exact o3.elim
        | xc _ _ => exact o3.elim
        | d w =>
        cases w with
        | int i =>
          dsimp only at o3
          split at o3
          · rename_i hz
            cases r3
            exact ⟨i, rfl, hz, (Out.gives o3 l3).here (.int i)⟩
          · exact o3.elim
        | _ => exact o3.elim
    | _ => exact out.elim
theorem e_obool {p : Pos} {sc : Scope} {N : List Str} (C : Ck nm cl P cal n X W) (h1 : glB X.env.scope ("bool" : Str) = true) (hs : isE nm N sc x e = true) (ha : PE X e (TX nm cl X W (ev P cal x))) :
    PE X (.Call (.Name ("bool" : Str) p) [e] [] pos) (TX nm cl X W (ev P cal (.obool x))) := by
  refine PE.imp (pe_callTS (T := "bool") (rd := fun σ v H Q => ∃ (c f : Nat) (F G : Hp) (m : List Addr) (fs : List D) (S : Hs), P.bof c = some f ∧ Rl (kx cl X) F G m S H ∧ Rep (kx cl X) G (.ins c fs) v ∧
      OutV nm.excs X.mg (kx cl X) W F σ G m (fun z H' => ∃ b, z = .bl b ∧ Q (.bl b) H') (cal f [.d (.ins c fs)] S)) (fun pins s σ H v u Q I rv h => ?_) (glB_d h1) (C.md.bt .bool) (by decide +kernel) ha (by decide +kernel) (by decide +kernel) (star_e hs)) fun σ H Q ⟨F, G, m, r, S, rl, rv, out⟩ => ?_
  · obtain ⟨c, f, F, G, m, fs, S, hp, l, r1, out⟩ := h
    obtain ⟨sp, g1, g2⟩ := C.go (f := f)
    obtain ⟨k1, k2⟩ := C.md.bl c f hp
    obtain ⟨hf, hs⟩ := g2 σ F G m [.d (.ins c fs)] [v] S H _ l (.cons r1 .nil) out
    obtain ⟨a, dx, vs, rfl, sl⟩ := rep_slt l.ext r1
    obtain rfl : u = Value.ref a := rv
    exact bool_ins k1 k2 (g1 hf) C.room (passAt C.tk σ) I sl hs
  · simp only [ev] at out
    refine tX.bind rl rv out fun u1 H1 G1 m1 v1 S1 g1 l1 rv1 r1 out => ?_
    cases v1 with
    | loc _ => exact out.elim
    | xc _ _ => exact out.elim
    | d d =>
    cases d with
    | ins c fs =>
      dsimp only at out
      cases hp : P.bof c with
      | none => rw [hp] at out; exact out.elim
      | some f =>
        rw [hp] at out
        refine ⟨c, f, F, G1, m1, fs, S1, hp, l1, r1, (Out.bind (RR := RepV (kx cl X)) out).imp fun u' H' ⟨G3, m3, v3, S3, g3, l3, r3, o3⟩ => ?_⟩
        cases v3 with
        | loc _ => exact o3.elim
        | xc _ _ => exact o3.elim
        | d w =>
        cases w with
        | bl b => cases r3; exact ⟨b, rfl, (Out.gives o3 l3).here (.bl b)⟩
        | _ => exact o3.elim
    | _ => exact out.elim
end
end Iv
end
section
set_option autoImplicit false
set_option maxRecDepth 100000
set_option maxHeartbeats 4000000
namespace Iv
open PySem L2
section
variable (nm : Nm) (cl : Nat → Addr) (P : Prg) (cal : Cal) (n : Nat)
def SE (x : Ex) : Prop := ∀ (X : Cx) (W : WX) (e : Expr), Ck nm cl P cal n X W → isE nm X.N X.env.scope x e = true → PE X e (TX nm cl X W (ev P cal x))
def ST (x : Ex) : Prop := ∀ (X : Cx) (W : WX) (e : Expr), Ck nm cl P cal n X W → isE nm X.N X.env.scope x e = true → tOk x = true → PT X e (tB (TX nm cl X W (ev P cal x)))
def SW (x : Ex) : Prop := ∀ (X : Cx) (W : WX) (o : PySem.BoolOp) (es : List Expr) (p : Pos), Ck nm cl P cal n X W → isE nm X.N X.env.scope x (.BoolOp o es p) = true → tOk x = true → PW X (.BoolOp o es p) (tB (TX nm cl X W (ev P cal x)))
def SA (x : Ex) : Prop := ∀ (X : Cx) (W : WX) (es : List Expr), Ck nm cl P cal n X W → isA nm X.N X.env.scope x es = true → PA X es (TXs nm cl X W (evs P cal x))
def SO (x : Ex) : Prop := ∀ (X : Cx) (W : WX) (e : Option Expr), Ck nm cl P cal n X W → isO nm X.N X.env.scope x e = true → PO X e (tX nm.excs X.mg (kx cl X) W (fun _ _ (a : Option Int) (b : Option Int) => a = b) (evo P cal x))
def SI (x : Ex) : Prop := ∀ (X : Cx) (W : WX) (tg e : Expr), Ck nm cl P cal n X W → isI nm X.N X.env.scope x tg e = true → PI X tg e (TI' nm cl X W (evi P cal x)) ∧ ∀ v, foldedSetIterable e X.env v = pure v
def SC (x : Ex) : Prop := ∀ (X : Cx) (W : WX) (es : List Expr), Ck nm cl P cal n X W → isC nm X.N X.env.scope x es = true → PTs X es (tB (TX nm cl X W (ev P cal x)))
structure Snd (x : Ex) : Prop where
  e : SE nm cl P cal n x
  t : ST nm cl P cal n x
  w : SW nm cl P cal n x
  a : SA nm cl P cal n x
  o : SO nm cl P cal n x
  i : SI nm cl P cal n x
  c : SC nm cl P cal n x
end
section
variable {nm : Nm} {cl : Nat → Addr} {P : Prg} {cal : Cal} {n : Nat}
theorem Ck.blk {X : Cx} {W : WX} (C : Ck nm cl P cal n X W) {s : Shared} {H : Hp} {scope : Scope} {Ca : Addr} {ce : List (Str × Addr)} {fp : List Addr} : Ck nm cl P cal n (X.blk s H scope (compEnvC scope ce Ca X.env) fp) noW :=
  ⟨C.calm, C.nodup, takes0, PassesOwn.never, C.room, C.md⟩
theorem ownN_map (N : List Str) (own : List Nat) : (ownN N own).map (fun x => x.2) = own := by
  unfold ownN; rw [List.map_map]; conv => rhs; rw [← List.map_id own]
  rfl
theorem t_plain {X : Cx} {W : WX} {e : Expr} {x : Ex} (h : PE X e (TX nm cl X W (ev P cal x))) (he : ∀ whole, PySem.isTrue e X.env whole = (do let v ← whole; standAt e.pos; holding [v] (truthy v))) : PT X e (tB (TX nm cl X W (ev P cal x))) := pt_val h he
theorem folded_e {sc : Scope} {N : List Str} {x : Ex} {e : Expr} {env : Env} {v : Value} (h : isE nm N sc x e = true) : foldedSetIterable e env v = pure v := by
  cases e with
  | Set _ _ _ => cases x <;> cases h
  | _ => rfl
theorem s_comp {own : List Nat} {t : Tg} {it c x : Ex} (hi : SI nm cl P cal n it) (hc : SC nm cl P cal n c) (hx : SE nm cl P cal n x) {X : Cx} {W : WX} {elt tg iter : Expr} {ifs : List Expr} {scope : Scope} {pos : Pos} (C : Ck nm cl P cal n X W)
    (h1 : isI nm X.N X.env.scope it tg iter = true) (h2 : blkC X.N X.env.scope scope (ownN X.N own) = true) (h3 : isG X.N false (rl X.env.scope scope) t tg = true) (h4 : isC nm X.N (rl X.env.scope scope) c ifs = true) (h5 : isE nm X.N (rl X.env.scope scope) x elt = true) (h6 : tgIn own t = true) :
    PE X (.ListComp elt [⟨tg, iter, ifs, 0⟩] scope pos) (TX nm cl X W (ev P cal (.comp own t it c x))) := by
  obtain ⟨q1, q2⟩ := hi X W tg iter C h1
  have key := pe_lc (X := X) (pos := pos) (own := ownN X.N own) (g := tgR (kx cl X) t) (tt := tB (TX nm cl X noW (ev P cal c))) (te := TX nm cl X noW (ev P cal x)) C.calm C.nodup q1 (blkOk_by h2)
    (fun s H Ca ce fp => g_tg (X := X.blk s H scope (compEnvC scope ce Ca X.env) fp) C.calm C.nodup (fn := false) (fun z => by cases z) t tg h3)
    (fun s H Ca ce fp => hc (X.blk s H scope (compEnvC scope ce Ca X.env) fp) noW ifs C.blk h4)
    (fun s H Ca ce fp => hx (X.blk s H scope (compEnvC scope ce Ca X.env) fp) noW elt C.blk h5) q2
  rw [ownN_map] at key
  exact PE.imp key fun σ H Q h => comp_read rfl h6 h
theorem s_newc {own : List Nat} {t : Tg} {it c x : Ex} (hi : SI nm cl P cal n it) (hc : SC nm cl P cal n c) (hx : SE nm cl P cal n x) {X : Cx} {W : WX} {elt tg iter : Expr} {ifs : List Expr} {scope : Scope} {pos : Pos} (C : Ck nm cl P cal n X W)
    (h1 : isI nm X.N X.env.scope it tg iter = true) (h2 : blkC X.N X.env.scope scope (ownN X.N own) = true) (h3 : isG X.N false (rl X.env.scope scope) t tg = true) (h4 : isC nm X.N (rl X.env.scope scope) c ifs = true) (h5 : isE nm X.N (rl X.env.scope scope) x elt = true) (h6 : tgIn own t = true) :
    PE X (.ListComp elt [⟨tg, iter, ifs, 0⟩] scope pos) (TX nm cl X W (ev P cal (.newc own t it c x))) := by
  obtain ⟨q1, q2⟩ := hi X W tg iter C h1
  have key := pe_lc (X := X) (pos := pos) (own := ownN X.N own) (g := tgR (kx cl X) t) (tt := tB (TX nm cl X noW (ev P cal c))) (te := TX nm cl X noW (ev P cal x)) C.calm C.nodup q1 (blkOk_by h2)
    (fun s H Ca ce fp => g_tg (X := X.blk s H scope (compEnvC scope ce Ca X.env) fp) C.calm C.nodup (fn := false) (fun z => by cases z) t tg h3)
    (fun s H Ca ce fp => hc (X.blk s H scope (compEnvC scope ce Ca X.env) fp) noW ifs C.blk h4)
    (fun s H Ca ce fp => hx (X.blk s H scope (compEnvC scope ce Ca X.env) fp) noW elt C.blk h5) q2
  rw [ownN_map] at key
  exact PE.imp key fun σ H Q h => newc_read rfl h6 h
theorem s_dcmp {own : List Nat} {t : Tg} {it c k v : Ex} (hi : SI nm cl P cal n it) (hc : SC nm cl P cal n c) (hk : SE nm cl P cal n k) (hv : SE nm cl P cal n v) {X : Cx} {W : WX} {key val tg iter : Expr} {ifs : List Expr} {scope : Scope} {pos : Pos} (C : Ck nm cl P cal n X W)
    (h1 : isI nm X.N X.env.scope it tg iter = true) (h2 : blkC X.N X.env.scope scope (ownN X.N own) = true) (h3 : isG X.N false (rl X.env.scope scope) t tg = true) (h4 : isC nm X.N (rl X.env.scope scope) c ifs = true) (h5 : isE nm X.N (rl X.env.scope scope) k key = true) (h5' : isE nm X.N (rl X.env.scope scope) v val = true) (h6 : tgIn own t = true) :
    PE X (.DictComp key val [⟨tg, iter, ifs, 0⟩] scope pos) (TX nm cl X W (ev P cal (.dcmp own t it c k v))) := by
  obtain ⟨q1, q2⟩ := hi X W tg iter C h1
  have key := pe_dc (X := X) (pos := pos) (own := ownN X.N own) (g := tgR (kx cl X) t) (tt := tB (TX nm cl X noW (ev P cal c))) (tk := TX nm cl X noW (ev P cal k)) (tv := TX nm cl X noW (ev P cal v)) C.calm C.nodup q1 (blkOk_by h2)
    (fun s H Ca ce fp => g_tg (X := X.blk s H scope (compEnvC scope ce Ca X.env) fp) C.calm C.nodup (fn := false) (fun z => by cases z) t tg h3)
    (fun s H Ca ce fp => hc (X.blk s H scope (compEnvC scope ce Ca X.env) fp) noW ifs C.blk h4)
    (fun s H Ca ce fp => hk (X.blk s H scope (compEnvC scope ce Ca X.env) fp) noW key C.blk h5)
    (fun s H Ca ce fp => hv (X.blk s H scope (compEnvC scope ce Ca X.env) fp) noW val C.blk h5') q2
  rw [ownN_map] at key
  exact PE.imp (pe_lock key) fun σ H Q h => dcmp_read rfl h6 h
theorem snd_leaf {x : Ex} (he : SE nm cl P cal n x) (ht : ST nm cl P cal n x) (h0 : ∀ N sc es, isA nm N sc x es = false) (h1 : ∀ N sc e, isO nm N sc x e = false) (h2 : ∀ N sc a b, isI nm N sc x a b = false) (h3 : ∀ N sc es, isC nm N sc x es = false) (h4 : ∀ N sc o es p, isE nm N sc x (.BoolOp o es p) = false) : Snd nm cl P cal n x :=
  ⟨he, ht, fun X W o es p C h => (by rw [h4] at h; cases h), fun X W es C h => (by rw [h0] at h; cases h), fun X W e C h => (by rw [h1] at h; cases h), fun X W a b C h => (by rw [h2] at h; cases h), fun X W es C h => (by rw [h3] at h; cases h)⟩
def plainT : Expr → Bool
  | .UnaryOp .Not _ _ => false
  | .BoolOp _ _ _ => false
  | .IfExp _ _ _ _ => false
  | .Compare _ _ _ _ => false
  | _ => true
theorem plainT_d {e : Expr} (h : plainT e = true) (env : Env) (whole : Sem Value) : PySem.isTrue e env whole = (do let v ← whole; standAt e.pos; holding [v] (truthy v)) := by
  cases e with
  | UnaryOp o a p => cases o <;> first | rfl | cases h
  | BoolOp _ _ _ => cases h
  | IfExp _ _ _ _ => cases h
  | Compare _ _ _ _ => cases h
  | _ => rfl
/-- of a term that stands for expressions of a plain make -/
theorem ST.of {x : Ex} (he : SE nm cl P cal n x) (hp : ∀ N sc e, isE nm N sc x e = true → plainT e = true) : ST nm cl P cal n x :=
  fun X W e C h _ => t_plain (he X W e C h) (plainT_d (hp _ _ _ h) X.env)
theorem snd_main : ∀ x : Ex, Snd nm cl P cal n x := by
  intro x
  induction x with
  | var i =>
    have he : SE nm cl P cal n (.var i) := fun X W e C h => by
      cases e with
      | Name s p =>
        simp only [isE, Bool.and_eq_true] at h
        exact e_var (of_decide_eq_true h.1.1) h.1.2 h.2
      | _ => cases h
    exact snd_leaf he (.of he fun N sc e h => by cases e <;> first | rfl | cases h) (fun _ _ _ => rfl) (fun _ _ _ => rfl) (fun _ _ _ _ => rfl) (fun _ _ _ => rfl) (fun _ _ _ _ _ => rfl)
  | glob g =>
    have he : SE nm cl P cal n (.glob g) := fun X W e C h => by
      cases e with
      | Name s p =>
        simp only [isE, Bool.and_eq_true] at h
        exact e_glob C (of_decide_eq_true h.1.1) h.1.2 h.2
      | _ => cases h
    exact snd_leaf he (.of he fun N sc e h => by cases e <;> first | rfl | cases h) (fun _ _ _ => rfl) (fun _ _ _ => rfl) (fun _ _ _ _ => rfl) (fun _ _ _ => rfl) (fun _ _ _ _ _ => rfl)
  | non =>
    have he : SE nm cl P cal n .non := fun X W e C h => by
      cases e with
      | Constant c j p =>
        cases c with
        | none => exact e_const pe_non (fun _ _ => rfl) fun _ => .non
        | _ => cases h
      | _ => cases h
    exact snd_leaf he (.of he fun N sc e h => by cases e <;> first | rfl | cases h) (fun _ _ _ => rfl) (fun _ _ _ => rfl) (fun _ _ _ _ => rfl) (fun _ _ _ => rfl) (fun _ _ _ _ _ => rfl)
  | bl b =>
    have he : SE nm cl P cal n (.bl b) := fun X W e C h => by
      cases e with
      | Constant c j p =>
        cases c with
        | bool c =>
          have : b = c := eq_of_beq h
          subst this
          exact e_const pe_bl (fun _ _ => rfl) fun _ => .bl b
        | _ => cases h
      | _ => cases h
    refine ⟨he, .of he fun N sc e h => (by cases e <;> first | rfl | cases h), fun X W o es p C h => (by cases h), fun X W es C h => (by cases h), fun X W e C h => (by cases h), fun X W a b C h => (by cases h), fun X W es C h => ?_⟩
    cases b with
    | false => cases h
    | true =>
      cases es with
      | nil =>
        exact ⟨fun pins s σ H Q I ⟨F, G, m, r, S, rl, rv, out⟩ => pts_nil.run pins s σ H Q I (by
          obtain ⟨k, e, q⟩ := out G m H (.bl true) .refl rl (.bl true)
          cases e
          exact q)⟩
      | cons _ _ => cases h
  | int i =>
    have he : SE nm cl P cal n (.int i) := fun X W e C h => by
      cases e with
      | Constant c j p =>
        cases c with
        | int c =>
          have : i = c := of_decide_eq_true h
          subst this
          exact e_const pe_int (fun _ _ => rfl) fun _ => .int i
        | _ => cases h
      | _ => cases h
    exact snd_leaf he (.of he fun N sc e h => by cases e <;> first | rfl | cases h) (fun _ _ _ => rfl) (fun _ _ _ => rfl) (fun _ _ _ _ => rfl) (fun _ _ _ => rfl) (fun _ _ _ _ _ => rfl)
  | str s =>
    have he : SE nm cl P cal n (.str s) := fun X W e C h => by
      cases e with
      | Constant c j p =>
        cases c with
        | str c =>
          simp only [isE, Bool.and_eq_true] at h
          have : c = S' s := of_decide_eq_true h.1
          subst this
          exact e_const pe_str (fun _ _ => rfl) fun _ => .str s fun c hc => by simpa using List.all_eq_true.mp h.2 c hc
        | _ => cases h
      | _ => cases h
    exact snd_leaf he (.of he fun N sc e h => by cases e <;> first | rfl | cases h) (fun _ _ _ => rfl) (fun _ _ _ => rfl) (fun _ _ _ _ => rfl) (fun _ _ _ => rfl) (fun _ _ _ _ _ => rfl)
  | nil =>
    have he : SE nm cl P cal n .nil := fun X W e C h => by cases h
    refine ⟨he, fun X W e C h => (by cases h), fun X W o es p C h => (by cases h), fun X W es C h => ?_, fun X W e C h => (by cases h), fun X W a b C h => (by cases h), fun X W es C h => (by cases h)⟩
    cases es with
    | nil => exact a_nil
    | cons _ _ => cases h
  | cons x xs ih1 ih2 =>
    have he : SE nm cl P cal n (.cons x xs) := fun X W e C h => by cases h
    refine ⟨he, fun X W e C h => (by cases h), fun X W o es p C h => (by cases h), fun X W es C h => ?_, fun X W e C h => (by cases h), fun X W a b C h => (by cases h), fun X W es C h => (by cases h)⟩
    cases es with
    | nil => cases h
    | cons e es =>
      simp only [isA, Bool.and_eq_true] at h
      exact a_cons h.1 (ih1.e X W e C h.1) (ih2.a X W es C h.2)
  | tup es ih =>
    have he : SE nm cl P cal n (.tup es) := fun X W e C h => by
      cases e with
      | Tuple l k p => exact e_tup (ih.a X W l C h)
      | _ => cases h
    exact snd_leaf he (.of he fun N sc e h => by cases e <;> first | rfl | cases h) (fun _ _ _ => rfl) (fun _ _ _ => rfl) (fun _ _ _ _ => rfl) (fun _ _ _ => rfl) (fun _ _ _ _ _ => rfl)
  | lst es ih =>
    have he : SE nm cl P cal n (.lst es) := fun X W e C h => by
      cases e with
      | List l p => exact e_lst (ih.a X W l C h)
      | _ => cases h
    exact snd_leaf he (.of he fun N sc e h => by cases e <;> first | rfl | cases h) (fun _ _ _ => rfl) (fun _ _ _ => rfl) (fun _ _ _ _ => rfl) (fun _ _ _ => rfl) (fun _ _ _ _ _ => rfl)
  | newl es ih =>
    have he : SE nm cl P cal n (.newl es) := fun X W e C h => by
      cases e with
      | List l p => exact e_newl (ih.a X W l C h)
      | _ => cases h
    exact snd_leaf he (.of he fun N sc e h => by cases e <;> first | rfl | cases h) (fun _ _ _ => rfl) (fun _ _ _ => rfl) (fun _ _ _ _ => rfl) (fun _ _ _ => rfl) (fun _ _ _ _ _ => rfl)
  | frz i =>
    have he : SE nm cl P cal n (.frz i) := fun X W e C h => by
      cases e with
      | Name s p =>
        simp only [isE, Bool.and_eq_true] at h
        exact e_frz (of_decide_eq_true h.1.1) h.1.2 h.2
      | _ => cases h
    exact snd_leaf he (.of he fun N sc e h => by cases e <;> first | rfl | cases h) (fun _ _ _ => rfl) (fun _ _ _ => rfl) (fun _ _ _ _ => rfl) (fun _ _ _ => rfl) (fun _ _ _ _ _ => rfl)
  | bin o a b ih1 ih2 =>
    have he : SE nm cl P cal n (.bin o a b) := fun X W e C h => by
      cases e with
      | BinOp l op r p =>
        simp only [isE, Bool.and_eq_true] at h
        have : op = bop o := of_decide_eq_true h.1.1
        subst this
        exact e_bin C (ih1.e X W l C h.1.2) (ih2.e X W r C h.2)
      | _ => cases h
    exact snd_leaf he (.of he fun N sc e h => by cases e <;> first | rfl | cases h) (fun _ _ _ => rfl) (fun _ _ _ => rfl) (fun _ _ _ _ => rfl) (fun _ _ _ => rfl) (fun _ _ _ _ _ => rfl)
  | neg a ih =>
    have he : SE nm cl P cal n (.neg a) := fun X W e C h => by
      cases e with
      | UnaryOp op l p =>
        cases op with
        | USub => exact e_neg (ih.e X W l C h)
        | _ => cases h
      | _ => cases h
    exact snd_leaf he (.of he fun N sc e h => by
      cases e with
      | UnaryOp op l p => cases op <;> first | rfl | cases h
      | _ => first | rfl | cases h) (fun _ _ _ => rfl) (fun _ _ _ => rfl) (fun _ _ _ _ => rfl) (fun _ _ _ => rfl) (fun _ _ _ _ _ => rfl)
  | cmp o a b ih1 ih2 =>
    have he : SE nm cl P cal n (.cmp o a b) := fun X W e C h => by
      cases e with
      | Compare l ops rs p =>
        match ops, rs, h with
        | [op], [r], h =>
          simp only [isE, Bool.and_eq_true] at h
          have : op = cop o := of_decide_eq_true h.1.1
          subst this
          exact e_cmp C (behind_e h.2 _) (ih1.e X W l C h.1.2) (ih2.e X W r C h.2)
        | [], _, h => cases h
        | [_], [], h => cases h
        | [_], _ :: _ :: _, h => cases h
        | _ :: _ :: _, _, h => cases h
      | _ => cases h
    have ht : ST nm cl P cal n (.cmp o a b) := fun X W e C h _ => by
      cases e with
      | Compare l ops rs p =>
        match ops, rs, h with
        | [op], [r], h =>
          simp only [isE, Bool.and_eq_true] at h
          have : op = cop o := of_decide_eq_true h.1.1
          subst this
          exact t_cmp C (behind_e h.2 _) (ih1.e X W l C h.1.2) (ih2.e X W r C h.2)
        | [], _, h => cases h
        | [_], [], h => cases h
        | [_], _ :: _ :: _, h => cases h
        | _ :: _ :: _, _, h => cases h
      | _ => cases h
    exact snd_leaf he ht (fun _ _ _ => rfl) (fun _ _ _ => rfl) (fun _ _ _ _ => rfl) (fun _ _ _ => rfl) (fun _ _ _ _ _ => rfl)
  | chain o o' a b c ih1 ih2 ih3 =>
    have he : SE nm cl P cal n (.chain o o' a b c) := fun X W e C h => by
      cases e with
      | Compare l ops rs p =>
        match ops, rs, h with
        | [op, op'], [r, r'], h =>
          simp only [isE, Bool.and_eq_true] at h
          have e1 : op = cop o := of_decide_eq_true h.1.1.1.1
          have e2 : op' = cop o' := of_decide_eq_true h.1.1.1.2
          subst e1; subst e2
          exact e_chain C (behind_e h.2 _) (ih1.e X W l C h.1.1.2) (ih2.e X W r C h.1.2) (ih3.e X W r' C h.2)
        | [], _, h => cases h
        | [_], _, h => cases h
        | [_, _], [], h => cases h
        | [_, _], [_], h => cases h
        | [_, _], _ :: _ :: _ :: _, h => cases h
        | _ :: _ :: _ :: _, _, h => cases h
      | _ => cases h
    have ht : ST nm cl P cal n (.chain o o' a b c) := fun X W e C h _ => by
      cases e with
      | Compare l ops rs p =>
        match ops, rs, h with
        | [op, op'], [r, r'], h =>
          simp only [isE, Bool.and_eq_true] at h
          have e1 : op = cop o := of_decide_eq_true h.1.1.1.1
          have e2 : op' = cop o' := of_decide_eq_true h.1.1.1.2
          subst e1; subst e2
          exact t_chain C (behind_e h.2 _) (ih1.e X W l C h.1.1.2) (ih2.e X W r C h.1.2) (ih3.e X W r' C h.2)
        | [], _, h => cases h
        | [_], _, h => cases h
        | [_, _], [], h => cases h
        | [_, _], [_], h => cases h
        | [_, _], _ :: _ :: _ :: _, h => cases h
        | _ :: _ :: _ :: _, _, h => cases h
      | _ => cases h
    exact snd_leaf he ht (fun _ _ _ => rfl) (fun _ _ _ => rfl) (fun _ _ _ _ => rfl) (fun _ _ _ => rfl) (fun _ _ _ _ _ => rfl)
  | not a ih =>
    have he : SE nm cl P cal n (.not a) := fun X W e C h => by
      cases e with
      | UnaryOp op l p =>
        cases op with
        | Not => exact e_not (ih.e X W l C h)
        | _ => cases h
      | _ => cases h
    have ht : ST nm cl P cal n (.not a) := fun X W e C h ho => by
      cases e with
      | UnaryOp op l p =>
        cases op with
        | Not => exact t_not (ih.t X W l C h ho)
        | _ => cases h
      | _ => cases h
    exact snd_leaf he ht (fun _ _ _ => rfl) (fun _ _ _ => rfl) (fun _ _ _ _ => rfl) (fun _ _ _ => rfl) (fun _ _ _ _ _ => rfl)
  | and a b ih1 ih2 =>
    have he : SE nm cl P cal n (.and a b) := fun X W e C h => by
      cases e with
      | BoolOp op es p =>
        match op, es, h with
        | .And, l :: r :: rs, h =>
          simp only [isE, Bool.and_eq_true] at h
          exact e_and (ih1.e X W l C h.1) (ih2.e X W _ C h.2)
        | .And, [], h => cases h
        | .And, [_], h => cases h
        | .Or, _, h => cases h
      | _ => cases h
    have hw : SW nm cl P cal n (.and a b) := fun X W op es p C h ho => by
      match op, es, h with
      | .And, l :: r :: rs, h =>
        simp only [isE, Bool.and_eq_true] at h
        simp only [tOk, Bool.and_eq_true] at ho
        exact w_and (ih1.t X W l C h.1 ho.1) (ih2.w X W _ _ _ C h.2 ho.2)
      | .And, [], h => cases h
      | .And, [_], h => cases h
      | .Or, _, h => cases h
    exact ⟨he, fun X W e C h ho => (by
      cases e with
      | BoolOp op es p => exact (hw X W op es p C h ho).pt
      | _ => cases h), hw, fun X W es C h => (by cases h), fun X W e C h => (by cases h), fun X W a b C h => (by cases h), fun X W es C h => (by cases h)⟩
  | or a b ih1 ih2 =>
    have he : SE nm cl P cal n (.or a b) := fun X W e C h => by
      cases e with
      | BoolOp op es p =>
        match op, es, h with
        | .Or, l :: r :: rs, h =>
          simp only [isE, Bool.and_eq_true] at h
          exact e_or (ih1.e X W l C h.1) (ih2.e X W _ C h.2)
        | .Or, [], h => cases h
        | .Or, [_], h => cases h
        | .And, _, h => cases h
      | _ => cases h
    have hw : SW nm cl P cal n (.or a b) := fun X W op es p C h ho => by
      match op, es, h with
      | .Or, l :: r :: rs, h =>
        simp only [isE, Bool.and_eq_true] at h
        simp only [tOk, Bool.and_eq_true] at ho
        exact w_or (ih1.t X W l C h.1 ho.1) (ih2.w X W _ _ _ C h.2 ho.2)
      | .Or, [], h => cases h
      | .Or, [_], h => cases h
      | .And, _, h => cases h
    exact ⟨he, fun X W e C h ho => (by
      cases e with
      | BoolOp op es p => exact (hw X W op es p C h ho).pt
      | _ => cases h), hw, fun X W es C h => (by cases h), fun X W e C h => (by cases h), fun X W a b C h => (by cases h), fun X W es C h => (by cases h)⟩
  | one a ih =>
    have he : SE nm cl P cal n (.one a) := fun X W e C h => by
      cases e with
      | BoolOp op es p =>
        match es, h with
        | [l], h => exact pe_one (ih.e X W l C h)
        | [], h => cases h
        | _ :: _ :: _, h => cases h
      | _ => cases h
    have hw : SW nm cl P cal n (.one a) := fun X W op es p C h ho => by
      match es, h with
      | [l], h =>
        cases op with
        | And => exact pw_and1 (ih.t X W l C h ho)
        | Or => exact pw_or1 (ih.t X W l C h ho)
      | [], h => cases h
      | _ :: _ :: _, h => cases h
    refine ⟨he, fun X W e C h ho => (by
      cases e with
      | BoolOp op es p => exact (hw X W op es p C h ho).pt
      | _ => cases h), hw, fun X W es C h => (by cases h), fun X W e C h => ?_, fun X W a b C h => ⟨i_one (ih.e X W b C h), fun v => folded_e h⟩, fun X W es C h => ?_⟩
    · cases e with
      | none => cases h
      | some e => exact o_some (ih.e X W e C h)
    · match es, h with
      | [e], h =>
        simp only [isC, Bool.and_eq_true] at h
        exact pts_one (ih.t X W e C h.1 h.2)
      | [], h => cases h
      | _ :: _ :: _, h => cases h
  | ite c a b ih1 ih2 ih3 =>
    have he : SE nm cl P cal n (.ite c a b) := fun X W e C h => by
      cases e with
      | IfExp t l r p =>
        simp only [isE, Bool.and_eq_true] at h
        exact e_ite (ih1.t X W t C h.1.1.1 h.1.1.2) (ih2.e X W l C h.1.2) (ih3.e X W r C h.2)
      | _ => cases h
    exact snd_leaf he (fun X W e C h ho => by cases ho) (fun _ _ _ => rfl) (fun _ _ _ => rfl) (fun _ _ _ _ => rfl) (fun _ _ _ => rfl) (fun _ _ _ _ _ => rfl)
  | call f es ih =>
    have he : SE nm cl P cal n (.call f es) := fun X W e C h => by
      match e, h with
      | .Call (.Name s p) (l :: ls) [] p2, h =>
        simp only [isE, Bool.and_eq_true] at h
        exact e_call C (of_decide_eq_true h.1.1.1) h.1.1.2 h.1.2 h.2 (ih.a X W _ C h.2)
    exact snd_leaf he (.of he fun N sc e h => by cases e <;> first | rfl | cases h) (fun _ _ _ => rfl) (fun _ _ _ => rfl) (fun _ _ _ _ => rfl) (fun _ _ _ => rfl) (fun _ _ _ _ _ => rfl)
  | call0 f =>
    have he : SE nm cl P cal n (.call0 f) := fun X W e C h => by
      match e, h with
      | .Call (.Name s p) [] [] p2, h =>
        simp only [isE, Bool.and_eq_true] at h
        exact e_call0 C (of_decide_eq_true h.1.1) h.1.2 h.2
    exact snd_leaf he (.of he fun N sc e h => by cases e <;> first | rfl | cases h) (fun _ _ _ => rfl) (fun _ _ _ => rfl) (fun _ _ _ _ => rfl) (fun _ _ _ => rfl) (fun _ _ _ _ _ => rfl)
  | bi b es ih =>
    have he : SE nm cl P cal n (.bi b es) := fun X W e C h => by
      match e, h with
      | .Call (.Name s p) (l :: ls) [] p2, h =>
        simp only [isE, Bool.and_eq_true] at h
        have : s = biName b := of_decide_eq_true h.1.1
        subst this
        exact e_bi C h.1.2 h.2 (ih.a X W _ C h.2)
    exact snd_leaf he (.of he fun N sc e h => by cases e <;> first | rfl | cases h) (fun _ _ _ => rfl) (fun _ _ _ => rfl) (fun _ _ _ _ => rfl) (fun _ _ _ => rfl) (fun _ _ _ _ _ => rfl)
  | isi a t ih =>
    have he : SE nm cl P cal n (.isi a t) := fun X W e C h => by
      match e, h with
      | .Call (.Name s p) [l, .Name y p3] [] p2, h =>
        simp only [isE, Bool.and_eq_true] at h
        have e1 : s = ("isinstance" : Str) := of_decide_eq_true h.1.1.1.1
        have e2 : y = Str.ofString (tyN t) := of_decide_eq_true h.1.1.2
        subst e1; subst e2
        exact e_isi C h.1.1.1.2 h.1.2 (by cases t <;> first | exact C.md.bt .int | exact C.md.bt .str | exact C.md.bt .tuple | exact C.md.bt .list | exact C.md.bo _ (by decide)) h.2 (ih.e X W l C h.2)
    exact snd_leaf he (.of he fun N sc e h => by cases e <;> first | rfl | cases h) (fun _ _ _ => rfl) (fun _ _ _ => rfl) (fun _ _ _ _ => rfl) (fun _ _ _ => rfl) (fun _ _ _ _ _ => rfl)
  | meth m o es ih1 ih2 =>
    have he : SE nm cl P cal n (.meth m o es) := fun X W e C h => by
      match e, h with
      | .Call (.Attribute ob s ap) (l :: ls) [] p2, h =>
        simp only [isE, Bool.and_eq_true] at h
        have : s = mtName m := of_decide_eq_true h.1.1.1.1.1
        subst this
        exact e_meth (sc := X.env.scope) (N := X.N) h.1.1.1.1.2 h.1.2 (of_decide_eq_true h.2) h.1.1.2 (ih1.e X W ob C h.1.1.1.2) (ih2.a X W _ C h.1.1.2)
    exact snd_leaf he (.of he fun N sc e h => by cases e <;> first | rfl | cases h) (fun _ _ _ => rfl) (fun _ _ _ => rfl) (fun _ _ _ _ => rfl) (fun _ _ _ => rfl) (fun _ _ _ _ _ => rfl)
  | ix a i ih1 ih2 =>
    have he : SE nm cl P cal n (.ix a i) := fun X W e C h => by
      cases e with
      | Subscript l r p =>
        simp only [isE, Bool.and_eq_true] at h
        exact e_ix (plainIx_e h.2) (ih1.e X W l C h.1) (ih2.e X W r C h.2)
      | _ => cases h
    exact snd_leaf he (.of he fun N sc e h => by cases e <;> first | rfl | cases h) (fun _ _ _ => rfl) (fun _ _ _ => rfl) (fun _ _ _ _ => rfl) (fun _ _ _ => rfl) (fun _ _ _ _ _ => rfl)
  | sl a lo hi ih1 ih2 ih3 =>
    have he : SE nm cl P cal n (.sl a lo hi) := fun X W e C h => by
      match e, h with
      | .Subscript l (.Slice x y none p3) p2, h =>
        simp only [isE, Bool.and_eq_true] at h
        exact e_sl (ih1.e X W l C h.1.1) (ih2.o X W x C h.1.2) (ih3.o X W y C h.2)
    exact snd_leaf he (.of he fun N sc e h => by cases e <;> first | rfl | cases h) (fun _ _ _ => rfl) (fun _ _ _ => rfl) (fun _ _ _ _ => rfl) (fun _ _ _ => rfl) (fun _ _ _ _ _ => rfl)
  | no =>
    refine ⟨fun X W e C h => (by cases h), fun X W e C h => (by cases h), fun X W o es p C h => (by cases h), fun X W es C h => (by cases h), fun X W e C h => ?_, fun X W a b C h => (by cases h), fun X W es C h => (by cases h)⟩
    cases e with
    | none => exact o_none
    | some _ => cases h
  | rng a ih =>
    refine ⟨fun X W e C h => (by cases h), fun X W e C h => (by cases h), fun X W o es p C h => (by cases h), fun X W es C h => (by cases h), fun X W e C h => (by cases h), fun X W tg e C h => ?_, fun X W es C h => (by cases h)⟩
    match e, h with
    | .Call (.Name s p) [l] [] p2, h =>
      simp only [isI, Bool.and_eq_true] at h
      have : s = ("range" : Str) := of_decide_eq_true h.1.1
      subst this
      exact ⟨i_rng C h.1.2 h.2 (ih.e X W l C h.2), fun _ => rfl⟩
  | rng2 a b ih1 ih2 =>
    refine ⟨fun X W e C h => (by cases h), fun X W e C h => (by cases h), fun X W o es p C h => (by cases h), fun X W es C h => (by cases h), fun X W e C h => (by cases h), fun X W tg e C h => ?_, fun X W es C h => (by cases h)⟩
    match e, h with
    | .Call (.Name s p) [l, r] [] p2, h =>
      simp only [isI, Bool.and_eq_true] at h
      have : s = ("range" : Str) := of_decide_eq_true h.1.1.1
      subst this
      exact ⟨i_rng2 C h.1.1.2 h.1.2 h.2 (ih1.e X W l C h.1.2) (ih2.e X W r C h.2), fun _ => rfl⟩
  | zip a b ih1 ih2 =>
    refine ⟨fun X W e C h => (by cases h), fun X W e C h => (by cases h), fun X W o es p C h => (by cases h), fun X W es C h => (by cases h), fun X W e C h => (by cases h), fun X W tg e C h => ?_, fun X W es C h => (by cases h)⟩
    match e, tg, h with
    | .Call (.Name s p) [l, r] [] p2, .Tuple _ _ _, h =>
      simp only [isI, Bool.and_eq_true] at h
      have : s = ("zip" : Str) := of_decide_eq_true h.1.1.1
      subst this
      exact ⟨i_zip C h.1.1.2 h.1.2 h.2 (ih1.e X W l C h.1.2) (ih2.e X W r C h.2), fun _ => rfl⟩
  | enm a ih =>
    refine ⟨fun X W e C h => (by cases h), fun X W e C h => (by cases h), fun X W o es p C h => (by cases h), fun X W es C h => (by cases h), fun X W e C h => (by cases h), fun X W tg e C h => ?_, fun X W es C h => (by cases h)⟩
    match e, tg, h with
    | .Call (.Name s p) [l] [] p2, .Tuple _ _ _, h =>
      simp only [isI, Bool.and_eq_true] at h
      have : s = ("enumerate" : Str) := of_decide_eq_true h.1.1
      subst this
      exact ⟨i_enm C h.1.2 h.2 (ih.e X W l C h.2), fun _ => rfl⟩
  | comp own t it c x ih1 ih2 ih3 =>
    have he : SE nm cl P cal n (.comp own t it c x) := fun X W e C h => by
      match e, h with
      | .ListComp elt [⟨tg, iter, ifs, as⟩] scope p, h =>
        simp only [isE, Bool.and_eq_true] at h
        have : as = 0 := of_decide_eq_true h.1.1.1.1.1.1
        subst this
        exact s_comp ih1.i ih2.c ih3.e C h.1.1.1.1.1.2 h.1.1.1.1.2 h.1.1.1.2 h.1.1.2 h.1.2 h.2
    exact snd_leaf he (.of he fun N sc e h => by cases e <;> first | rfl | cases h) (fun _ _ _ => rfl) (fun _ _ _ => rfl) (fun _ _ _ _ => rfl) (fun _ _ _ => rfl) (fun _ _ _ _ _ => rfl)
  | varp i =>
    have he : SE nm cl P cal n (.varp i) := fun X W e C h => by
      cases e with
      | Name s p =>
        simp only [isE, Bool.and_eq_true] at h
        exact e_varp (of_decide_eq_true h.1.1) h.1.2 h.2
      | _ => cases h
    exact snd_leaf he (.of he fun N sc e h => by cases e <;> first | rfl | cases h) (fun _ _ _ => rfl) (fun _ _ _ => rfl) (fun _ _ _ _ => rfl) (fun _ _ _ => rfl) (fun _ _ _ _ _ => rfl)
  | ptup es ih =>
    have he : SE nm cl P cal n (.ptup es) := fun X W e C h => by
      cases e with
      | Tuple l k p => exact e_ptup (ih.a X W l C h)
      | _ => cases h
    exact snd_leaf he (.of he fun N sc e h => by cases e <;> first | rfl | cases h) (fun _ _ _ => rfl) (fun _ _ _ => rfl) (fun _ _ _ _ => rfl) (fun _ _ _ => rfl) (fun _ _ _ _ _ => rfl)
  | ptl a ih =>
    have he : SE nm cl P cal n (.ptl a) := fun X W e C h => by
      match e, h with
      | .Call (.Name s p) [l] [] p2, h =>
        simp only [isE, Bool.and_eq_true] at h
        have : s = ("tuple" : Str) := of_decide_eq_true h.1.1
        subst this
        exact e_ptl C h.1.2 h.2 (ih.e X W l C h.2)
    exact snd_leaf he (.of he fun N sc e h => by cases e <;> first | rfl | cases h) (fun _ _ _ => rfl) (fun _ _ _ => rfl) (fun _ _ _ _ => rfl) (fun _ _ _ => rfl) (fun _ _ _ _ _ => rfl)
  | dix a i ih1 ih2 =>
    have he : SE nm cl P cal n (.dix a i) := fun X W e C h => by
      cases e with
      | Subscript l r p =>
        simp only [isE, Bool.and_eq_true] at h
        exact e_dix C (plainIx_e h.2) (ih1.e X W l C h.1) (ih2.e X W r C h.2)
      | _ => cases h
    exact snd_leaf he (.of he fun N sc e h => by cases e <;> first | rfl | cases h) (fun _ _ _ => rfl) (fun _ _ _ => rfl) (fun _ _ _ _ => rfl) (fun _ _ _ => rfl) (fun _ _ _ _ _ => rfl)
  | dgt d k z ih1 ih2 ih3 =>
    have he : SE nm cl P cal n (.dgt d k z) := fun X W e C h => by
      match e, h with
      | .Call (.Attribute ob s ap) [a1, a2] [] p2, h =>
        simp only [isE, Bool.and_eq_true] at h
        have : s = ("get" : Str) := of_decide_eq_true h.1.1.1.1.1
        subst this
        exact e_dgt C h.1.1.1.1.2 h.2 h.1.1.2 h.1.2 (ih1.e X W ob C h.1.1.1.2) (ih2.e X W a1 C h.1.1.2) (ih3.e X W a2 C h.1.2)
    exact snd_leaf he (.of he fun N sc e h => by cases e <;> first | rfl | cases h) (fun _ _ _ => rfl) (fun _ _ _ => rfl) (fun _ _ _ _ => rfl) (fun _ _ _ => rfl) (fun _ _ _ _ _ => rfl)
  | din ng a b ih1 ih2 =>
    have he : SE nm cl P cal n (.din ng a b) := fun X W e C h => by
      match e, h with
      | .Compare l [op] [r] p, h =>
        simp only [isE, Bool.and_eq_true] at h
        have : op = if ng then .NotIn else .In := of_decide_eq_true h.1.1
        subst this
        exact e_din C (behind_e h.2 _) (ih1.e X W l C h.1.2) (ih2.e X W r C h.2)
    have ht : ST nm cl P cal n (.din ng a b) := fun X W e C h _ => by
      match e, h with
      | .Compare l [op] [r] p, h =>
        simp only [isE, Bool.and_eq_true] at h
        have : op = if ng then .NotIn else .In := of_decide_eq_true h.1.1
        subst this
        exact t_din C (behind_e h.2 _) (ih1.e X W l C h.1.2) (ih2.e X W r C h.2)
    exact snd_leaf he ht (fun _ _ _ => rfl) (fun _ _ _ => rfl) (fun _ _ _ _ => rfl) (fun _ _ _ => rfl) (fun _ _ _ _ _ => rfl)
  | dct0 =>
    have he : SE nm cl P cal n .dct0 := fun X W e C h => by
      match e, h with
      | .Dict [] [] p, h => exact e_dct0
    exact snd_leaf he (.of he fun N sc e h => by cases e <;> first | rfl | cases h) (fun _ _ _ => rfl) (fun _ _ _ => rfl) (fun _ _ _ _ => rfl) (fun _ _ _ => rfl) (fun _ _ _ _ _ => rfl)
  | newd =>
    have he : SE nm cl P cal n .newd := fun X W e C h => by
      match e, h with
      | .Dict [] [] p, h => exact e_newd
    exact snd_leaf he (.of he fun N sc e h => by cases e <;> first | rfl | cases h) (fun _ _ _ => rfl) (fun _ _ _ => rfl) (fun _ _ _ _ => rfl) (fun _ _ _ => rfl) (fun _ _ _ _ _ => rfl)
  | dcmp own t it c k v ih1 ih2 ih3 ih4 =>
    have he : SE nm cl P cal n (.dcmp own t it c k v) := fun X W e C h => by
      match e, h with
      | .DictComp key val [⟨tg, iter, ifs, as⟩] scope p, h =>
        simp only [isE, Bool.and_eq_true] at h
        have : as = 0 := of_decide_eq_true h.1.1.1.1.1.1.1
        subst this
        exact s_dcmp ih1.i ih2.c ih3.e ih4.e C h.1.1.1.1.1.1.2 h.1.1.1.1.1.2 h.1.1.1.1.2 h.1.1.1.2 h.1.1.2 h.1.2 h.2
    exact snd_leaf he (.of he fun N sc e h => by cases e <;> first | rfl | cases h) (fun _ _ _ => rfl) (fun _ _ _ => rfl) (fun _ _ _ _ => rfl) (fun _ _ _ => rfl) (fun _ _ _ _ _ => rfl)
  | itm a ih =>
    refine ⟨fun X W e C h => (by cases h), fun X W e C h => (by cases h), fun X W o es p C h => (by cases h), fun X W es C h => (by cases h), fun X W e C h => (by cases h), fun X W tg e C h => ?_, fun X W es C h => (by cases h)⟩
    match e, tg, h with
    | .Call (.Attribute ob s ap) [] [] p2, .Tuple _ _ _, h =>
      simp only [isI, Bool.and_eq_true] at h
      have : s = ("items" : Str) := of_decide_eq_true h.1.1.1
      subst this
      exact ⟨i_itm h.1.1.2 h.1.2 (ih.e X W ob C h.2), fun _ => rfl⟩
  | dof a ih =>
    have he : SE nm cl P cal n (.dof a) := fun X W e C h => by
      match e, h with
      | .Call (.Name s p) [l] [] p2, h =>
        simp only [isE, Bool.and_eq_true] at h
        have : s = ("dict" : Str) := of_decide_eq_true h.1.1
        subst this
        exact e_dof C h.1.2 h.2 (ih.e X W l C h.2)
    exact snd_leaf he (.of he fun N sc e h => by cases e <;> first | rfl | cases h) (fun _ _ _ => rfl) (fun _ _ _ => rfl) (fun _ _ _ _ => rfl) (fun _ _ _ => rfl) (fun _ _ _ _ _ => rfl)
  | deq0 ng a ih =>
    have he : SE nm cl P cal n (.deq0 ng a) := fun X W e C h => by
      match e, h with
      | .Compare l [op] [.Dict [] [] p2] p, h =>
        simp only [isE, Bool.and_eq_true] at h
        have : op = if ng then .NotEq else .Eq := of_decide_eq_true h.1
        subst this
        exact e_deq0 C (ih.e X W l C h.2)
    have ht : ST nm cl P cal n (.deq0 ng a) := fun X W e C h _ => by
      match e, h with
      | .Compare l [op] [.Dict [] [] p2] p, h =>
        simp only [isE, Bool.and_eq_true] at h
        have : op = if ng then .NotEq else .Eq := of_decide_eq_true h.1
        subst this
        exact t_deq0 C (ih.e X W l C h.2)
    exact snd_leaf he ht (fun _ _ _ => rfl) (fun _ _ _ => rfl) (fun _ _ _ _ => rfl) (fun _ _ _ => rfl) (fun _ _ _ _ _ => rfl)
  | srt a ih =>
    have he : SE nm cl P cal n (.srt a) := fun X W e C h => by
      match e, h with
      | .Call (.Name s p) [l] [] p2, h =>
        simp only [isE, Bool.and_eq_true] at h
        have : s = ("sorted" : Str) := of_decide_eq_true h.1.1
        subst this
        exact e_srt C h.1.2 h.2 (ih.e X W l C h.2)
    exact snd_leaf he (.of he fun N sc e h => by cases e <;> first | rfl | cases h) (fun _ _ _ => rfl) (fun _ _ _ => rfl) (fun _ _ _ _ => rfl) (fun _ _ _ => rfl) (fun _ _ _ _ _ => rfl)
  | srti a ih =>
    have he : SE nm cl P cal n (.srti a) := fun X W e C h => by
      match e, h with
      | .Call (.Name s p) [.Call (.Attribute ob y ap) [] [] p3] [] p2, h =>
        simp only [isE, Bool.and_eq_true] at h
        have : s = ("sorted" : Str) := of_decide_eq_true h.1.1.1.1.1
        subst this
        have : y = ("items" : Str) := of_decide_eq_true h.1.1.1.2
        subst this
        exact e_srti (sc := X.env.scope) (N := X.N) C h.1.1.1.1.2 h.1.1.2 h.1.2 (ih.e X W ob C h.2)
    exact snd_leaf he (.of he fun N sc e h => by cases e <;> first | rfl | cases h) (fun _ _ _ => rfl) (fun _ _ _ => rfl) (fun _ _ _ _ => rfl) (fun _ _ _ => rfl) (fun _ _ _ _ _ => rfl)
  | stars a b ih1 ih2 =>
    have he : SE nm cl P cal n (.stars a b) := fun X W e C h => by
      match e, h with
      | .List [.Starred l p1, .Starred r p2] p, h =>
        simp only [isE, Bool.and_eq_true] at h
        exact e_stars C (ih1.e X W l C h.1) (ih2.e X W r C h.2)
    exact snd_leaf he (.of he fun N sc e h => by cases e <;> first | rfl | cases h) (fun _ _ _ => rfl) (fun _ _ _ => rfl) (fun _ _ _ _ => rfl) (fun _ _ _ => rfl) (fun _ _ _ _ _ => rfl)
  | mk j es ih =>
    have he : SE nm cl P cal n (.mk j es) := fun X W e C h => by
      match e, h with
      | .Call (.Name s p) ls [] p2, h =>
        simp only [isE, Bool.and_eq_true] at h
        exact e_mk C (of_decide_eq_true h.1.1.1) h.1.1.2 h.1.2 h.2 (ih.a X W ls C h.2)
    exact snd_leaf he (.of he fun N sc e h => by cases e <;> first | rfl | cases h) (fun _ _ _ => rfl) (fun _ _ _ => rfl) (fun _ _ _ _ => rfl) (fun _ _ _ => rfl) (fun _ _ _ _ _ => rfl)
  | mkc i j es ih =>
    have he : SE nm cl P cal n (.mkc i j es) := fun X W e C h => by
      match e, h with
      | .Call (.Name s p) (l :: ls) [] p2, h =>
        simp only [isE, Bool.and_eq_true] at h
        exact e_mkc C (of_decide_eq_true h.1.1.1) h.1.1.2 h.1.2 h.2 (ih.a X W (l :: ls) C h.2)
    exact snd_leaf he (.of he fun N sc e h => by cases e <;> first | rfl | cases h) (fun _ _ _ => rfl) (fun _ _ _ => rfl) (fun _ _ _ _ => rfl) (fun _ _ _ => rfl) (fun _ _ _ _ _ => rfl)
  | slt j o ih =>
    have he : SE nm cl P cal n (.slt j o) := fun X W e C h => by
      cases e with
      | Attribute ob s p =>
        simp only [isE, Bool.and_eq_true] at h
        exact e_slt C (of_decide_eq_true h.1.1) h.1.2 (ih.e X W ob C h.2)
      | _ => cases h
    exact snd_leaf he (.of he fun N sc e h => by cases e <;> first | rfl | cases h) (fun _ _ _ => rfl) (fun _ _ _ => rfl) (fun _ _ _ _ => rfl) (fun _ _ _ => rfl) (fun _ _ _ _ _ => rfl)
  | sltp j o ih =>
    have he : SE nm cl P cal n (.sltp j o) := fun X W e C h => by
      cases e with
      | Attribute ob s p =>
        simp only [isE, Bool.and_eq_true] at h
        exact e_sltp C (of_decide_eq_true h.1.1) h.1.2 (ih.e X W ob C h.2)
      | _ => cases h
    exact snd_leaf he (.of he fun N sc e h => by cases e <;> first | rfl | cases h) (fun _ _ _ => rfl) (fun _ _ _ => rfl) (fun _ _ _ _ => rfl) (fun _ _ _ => rfl) (fun _ _ _ _ _ => rfl)
  | mth j o es ih1 ih2 =>
    have he : SE nm cl P cal n (.mth j o es) := fun X W e C h => by
      match e, h with
      | .Call (.Attribute ob s ap) ls [] p2, h =>
        simp only [isE, Bool.and_eq_true] at h
        exact e_mth C (of_decide_eq_true h.1.1.1.1.1) h.1.1.1.1.2 h.1.2 (of_decide_eq_true h.2) h.1.1.2 (ih1.e X W ob C h.1.1.1.2) (ih2.a X W ls C h.1.1.2)
    exact snd_leaf he (.of he fun N sc e h => by cases e <;> first | rfl | cases h) (fun _ _ _ => rfl) (fun _ _ _ => rfl) (fun _ _ _ _ => rfl) (fun _ _ _ => rfl) (fun _ _ _ _ _ => rfl)
  | prp j o ih =>
    have he : SE nm cl P cal n (.prp j o) := fun X W e C h => by
      cases e with
      | Attribute ob s p =>
        simp only [isE, Bool.and_eq_true] at h
        exact e_prp C (of_decide_eq_true h.1.1) h.1.2 (ih.e X W ob C h.2)
      | _ => cases h
    exact snd_leaf he (.of he fun N sc e h => by cases e <;> first | rfl | cases h) (fun _ _ _ => rfl) (fun _ _ _ => rfl) (fun _ _ _ _ => rfl) (fun _ _ _ => rfl) (fun _ _ _ _ _ => rfl)
  | cme j es ih =>
    have he : SE nm cl P cal n (.cme j es) := fun X W e C h => by
      match e, h with
      | .Call (.Attribute (.Name c p3) s ap) ls [] p2, h =>
        simp only [isE, Bool.and_eq_true] at h
        exact e_cme C (of_decide_eq_true h.1.1.1.1.1) h.1.1.1.1.2 h.1.1.1.2 h.1.2 (of_decide_eq_true h.2) h.1.1.2 (ih.a X W ls C h.1.1.2)
    exact snd_leaf he (.of he fun N sc e h => by cases e <;> first | rfl | cases h) (fun _ _ _ => rfl) (fun _ _ _ => rfl) (fun _ _ _ _ => rfl) (fun _ _ _ => rfl) (fun _ _ _ _ _ => rfl)
  | isc j o ih =>
    have he : SE nm cl P cal n (.isc j o) := fun X W e C h => by
      match e, h with
      | .Call (.Name s p) [l, .Name y p3] [] p2, h =>
        simp only [isE, Bool.and_eq_true] at h
        have e1 : s = ("isinstance" : Str) := of_decide_eq_true h.1.1.1.1.1
        subst e1
        exact e_isc C (of_decide_eq_true h.1.1.1.2) h.1.1.1.1.2 h.1.1.2 h.1.2 h.2 (ih.e X W l C h.2)
    exact snd_leaf he (.of he fun N sc e h => by cases e <;> first | rfl | cases h) (fun _ _ _ => rfl) (fun _ _ _ => rfl) (fun _ _ _ _ => rfl) (fun _ _ _ => rfl) (fun _ _ _ _ _ => rfl)
  | olen o ih =>
    have he : SE nm cl P cal n (.olen o) := fun X W e C h => by
      match e, h with
      | .Call (.Name s p) [l] [] p2, h =>
        simp only [isE, Bool.and_eq_true] at h
        have : s = ("len" : Str) := of_decide_eq_true h.1.1
        subst this
        exact e_olen C h.1.2 h.2 (ih.e X W l C h.2)
    exact snd_leaf he (.of he fun N sc e h => by cases e <;> first | rfl | cases h) (fun _ _ _ => rfl) (fun _ _ _ => rfl) (fun _ _ _ _ => rfl) (fun _ _ _ => rfl) (fun _ _ _ _ _ => rfl)
  | obool o ih =>
    have he : SE nm cl P cal n (.obool o) := fun X W e C h => by
      match e, h with
      | .Call (.Name s p) [l] [] p2, h =>
        simp only [isE, Bool.and_eq_true] at h
        have : s = ("bool" : Str) := of_decide_eq_true h.1.1
        subst this
        exact e_obool C h.1.2 h.2 (ih.e X W l C h.2)
    exact snd_leaf he (.of he fun N sc e h => by cases e <;> first | rfl | cases h) (fun _ _ _ => rfl) (fun _ _ _ => rfl) (fun _ _ _ _ => rfl) (fun _ _ _ => rfl) (fun _ _ _ _ _ => rfl)
  | newc own t it c x ih1 ih2 ih3 =>
    have he : SE nm cl P cal n (.newc own t it c x) := fun X W e C h => by
      match e, h with
      | .ListComp elt [⟨tg, iter, ifs, as⟩] scope p, h =>
        simp only [isE, Bool.and_eq_true] at h
        have : as = 0 := of_decide_eq_true h.1.1.1.1.1.1
        subst this
        exact s_newc ih1.i ih2.c ih3.e C h.1.1.1.1.1.2 h.1.1.1.1.2 h.1.1.1.2 h.1.1.2 h.1.2 h.2
    exact snd_leaf he (.of he fun N sc e h => by cases e <;> first | rfl | cases h) (fun _ _ _ => rfl) (fun _ _ _ => rfl) (fun _ _ _ _ => rfl) (fun _ _ _ => rfl) (fun _ _ _ _ _ => rfl)
  | fld i k =>
    exact ⟨fun X W e C h => (by cases h), fun X W e C h => (by cases h), fun X W o es p C h => (by cases h), fun X W es C h => (by cases h), fun X W e C h => (by cases h), fun X W a b C h => (by cases h), fun X W es C h => (by cases h)⟩
  | fjoin es ih =>
    exact ⟨fun X W e C h => (by cases h), fun X W e C h => (by cases h), fun X W o es p C h => (by cases h), fun X W es C h => (by cases h), fun X W e C h => (by cases h), fun X W a b C h => (by cases h), fun X W es C h => (by cases h)⟩
  | fmt e ih =>
    exact ⟨fun X W e C h => (by cases h), fun X W e C h => (by cases h), fun X W o es p C h => (by cases h), fun X W es C h => (by cases h), fun X W e C h => (by cases h), fun X W a b C h => (by cases h), fun X W es C h => (by cases h)⟩
  | fmt02 e ih =>
    exact ⟨fun X W e C h => (by cases h), fun X W e C h => (by cases h), fun X W o es p C h => (by cases h), fun X W es C h => (by cases h), fun X W e C h => (by cases h), fun X W a b C h => (by cases h), fun X W es C h => (by cases h)⟩
end
end Iv
end
section
/-! Ivx: statements and calls of the interpreter. -/
namespace Iv
inductive St where
  | skip | seq (a b : St)
  | never
  | asg (i : Nat) (e : Ex)
  | asgT (t : Tg) (e : Ex)
  | par2 (i j : Nat) (a b : Ex)
  | par3 (i j k : Nat) (a b c : Ex)
  | aug (i : Nat) (o : BOp) (e : Ex)
  | setix (i : Nat) (ix e : Ex)
  | app (i : Nat) (e : Ex)
  | setd (i : Nat) (k e : Ex)
  | setsl (j : Nat) (o e : Ex)
  | frzv (i : Nat) (b : St)
  | expr (e : Ex)
  | ret (e : Ex) | retN
  | ite (c : Ex) (a b : St)
  | whl (c : Ex) (b : St)
  | loop (t : Tg) (it : Ex) (b : St)
  | brk | cnt
  | rse (c : Nat) (es : Ex)
  | tri (b : St) (c : Nat) (i : Nat) (h : St)

inductive RS where
  | nx (r : Ev) (S : Hs) | ret (v : Vl) (S : Hs) | brk (r : Ev) (S : Hs) | cnt (r : Ev) (S : Hs)
  | exc (c : Nat) (fs : List D) (r : Ev) (S : Hs) | bad

/-- how the arguments come: as they are; with defaults behind; the rest as a tuple -/
inductive Ad where
  | all | dfl (ds : List D) | star
structure Fn where
  np : Nat
  ns : Nat
  body : St
  ad : Ad := .all
def adapt (ad : Ad) (np : Nat) (vs : List Vl) : Option (List Vl) :=
  match ad with
  | .all => some vs
  | .dfl ds => some (vs ++ ds.map .d)
  | .star => match np with
    | 2 => match vs with
      | v :: rest => if rest.length ≤ 5 then (dsOf rest).map fun xs => [v, .d (.tup xs)] else none
      | [] => none
    | _ => none
/-- a slot is set -/
def putF (i : Nat) (x : D) (fs : List (Option D)) : List (Option D) := (fs ++ List.replicate (i + 1 - fs.length) none).set i (some x)
section
variable (P : Prg) (cal : Cal)
def forL (t : Tg) (f : Ev → Hs → RS) : List D → Ev → Hs → RS
  | [], r, S => .nx r S
  | x :: xs, r, S => match asgD t x r with
    | none => .bad
    | some r1 => match f r1 S with
      | .nx r2 S2 => forL t f xs r2 S2
      | .cnt r2 S2 => forL t f xs r2 S2
      | .brk r2 S2 => .nx r2 S2
      | .ret v S2 => .ret v S2
      | .exc c fs r2 S2 => .exc c fs r2 S2
      | .bad => .bad
def whlL (c : Ev → Hs → R Vl) (f : Ev → Hs → RS) : Nat → Ev → Hs → RS
  | 0, _, _ => .bad
  | n + 1, r, S => match c r S with
    | .ok (.d (.bl true)) S1 => match f r S1 with
      | .nx r2 S2 => whlL c f n r2 S2
      | .cnt r2 S2 => whlL c f n r2 S2
      | .brk r2 S2 => .nx r2 S2
      | .ret v S2 => .ret v S2
      | .exc c fs r2 S2 => .exc c fs r2 S2
      | .bad => .bad
    | .ok (.d (.bl false)) S1 => .nx r S1
    | .ok _ _ => .bad
    | .exc c fs S1 => .exc c fs r S1
    | .bad => .bad
/-- an expression's end within a statement -/
def R.st {α : Type} (x : R α) (r : Ev) (k : α → Hs → RS) : RS :=
  match x with
  | .ok a S => k a S
  | .exc c fs S => .exc c fs r S
  | .bad => .bad
def exec : St → Ev → Hs → RS
  | .skip, r, S => .nx r S
  | .never, _, _ => .bad
  | .seq a b, r, S => match exec a r S with
    | .nx r1 S1 => exec b r1 S1
    | .ret v S1 => .ret v S1
    | .brk r1 S1 => .brk r1 S1
    | .cnt r1 S1 => .cnt r1 S1
    | .exc c fs r1 S1 => .exc c fs r1 S1
    | .bad => .bad
  | .asg i e, r, S => (ev P cal e r S).st r fun v S1 => .nx (r.set i (some v)) S1
  | .asgT t e, r, S => (ev P cal e r S).st r fun v S1 => match v with
    | .d x => match asgD t x r with
      | some r1 => .nx r1 S1
      | none => .bad
    | _ => .bad
  | .par2 i j a b, r, S => (ev P cal a r S).st r fun v S1 => (ev P cal b r S1).st r fun w S2 => .nx ((r.set i (some v)).set j (some w)) S2
  | .par3 i j k a b c, r, S => (ev P cal a r S).st r fun v S1 => (ev P cal b r S1).st r fun w S2 => (ev P cal c r S2).st r fun u S3 =>
    .nx (((r.set i (some v)).set j (some w)).set k (some u)) S3
  | .aug i o e, r, S => match r[i]? with
    | some (some (.d x)) => (ev P cal e r S).st r fun v S1 => match v with
      | .d y => match augD o x y with
        | some z => .nx (r.set i (some (.d z))) S1
        | none => .bad
      | _ => .bad
    | _ => .bad
  | .setix i k e, r, S => (ev P cal e r S).st r fun v S1 => match r[i]?, v with
    | some (some (.loc n)), .d x => (ev P cal k r S1).st r fun w S2 => match w, S2[n]? with
      | .d (.int j), some (.lst xs) => match plc j xs.length with
        | some p => .nx r (S2.set n (.lst (xs.set p x)))
        | none => .bad
      | _, _ => .bad
    | _, _ => .bad
  | .app i e, r, S => match r[i]? with
    | some (some (.loc n)) => match S[n]? with
      | some (.lst _) => (ev P cal e r S).st r fun v S1 => match v, S1[n]? with
        | .d x, some (.lst xs) => if xs.length < big then .nx r (S1.set n (.lst (xs ++ [x]))) else .bad
        | _, _ => .bad
      | _ => .bad
    | _ => .bad
  | .setd i k e, r, S => (ev P cal e r S).st r fun v S1 => match r[i]?, v with
    | some (some (.loc n)), .d x => (ev P cal k r S1).st r fun w S2 => match w, S2[n]? with
      | .d q, some (.dct kvs) => match keyD q with
        | some q => if kvs.length < big then .nx r (S2.set n (.dct (kput q x kvs))) else .bad
        | none => .bad
      | _, _ => .bad
    | _, _ => .bad
  | .setsl j o e, r, S => (ev P cal e r S).st r fun v S1 => (ev P cal o r S1).st r fun w S2 => match v, w, P.sls[j]? with
    | .d x, .loc n, some q => match S2[n]? with
      | some (.ins c fs) => if c = q.1 then .nx r (S2.set n (.ins c (putF q.2 x fs))) else .bad
      | _ => .bad
    | _, _, _ => .bad
  | .frzv i b, r, S => match r[i]? with
    | some (some (.loc n)) => match S[n]? with
      | some (.lst xs) => exec b (r.set i (some (.d (.lst xs)))) (S.set n .dead)
      | _ => .bad
    | _ => .bad
  | .expr e, r, S => (ev P cal e r S).st r fun _ S1 => .nx r S1
  | .ret e, r, S => (ev P cal e r S).st r fun v S1 => .ret v S1
  | .retN, _, S => .ret (.d .non) S
  | .ite c a b, r, S => (ev P cal c r S).st r fun v S1 => match v with
    | .d (.bl true) => exec a r S1
    | .d (.bl false) => exec b r S1
    | _ => .bad
  | .whl c b, r, S => whlL (fun r S => ev P cal c r S) (fun r S => exec b r S) P.fuel r S
  | .loop t it b, r, S => (evi P cal it r S).st r fun xs S1 => forL t (fun r S => exec b r S) xs r S1
  | .brk, r, S => .brk r S
  | .cnt, r, S => .cnt r S
  | .rse c es, r, S => (evs P cal es r S).st r fun vs S1 => match dsOf vs with
    | some fs => .exc c fs r S1
    | none => .bad
  | .tri b c i h, r, S => match exec b r S with
    | .exc c' fs r1 S1 => if P.sub c' c then
        match exec h (r1.set i (some (.xc c' fs))) S1 with
        | .nx r2 S2 => .nx (r2.set i none) S2
        | .ret v S2 => .ret v S2
        | .brk r2 S2 => .brk (r2.set i none) S2
        | .cnt r2 S2 => .cnt (r2.set i none) S2
        | _ => .bad
      else .exc c' fs r1 S1
    | x => x
/-- a def's body, its arguments, back to the heap ahead where nothing new is handed back -/
def fin (n : Nat) : RS → R Vl
  | .ret (.d x) S => .ok (.d x) (S.take n)
  | .ret v S => .ok v S
  | .nx _ S => .ok (.d .non) (S.take n)
  | .exc c fs _ S => .exc c fs (S.take n)
  | _ => .bad
def runF (f : Fn) (vs : List Vl) (S : Hs) : R Vl :=
  if vs.length = f.np then fin S.length (exec P cal f.body (vs.map some ++ List.replicate (f.ns - f.np) none) S) else .bad
end
/-- a call, at most so deep -/
def call (P : Prg) (fns : List Fn) : Nat → Cal
  | 0, _, _, _ => .bad
  | n + 1, f, vs, S => match fns[f]? with
    | some fn => match adapt fn.ad fn.np vs with
      | some ws => runF P (call P fns n) fn ws S
      | none => .bad
    | none => .bad
end Iv
end
section
set_option autoImplicit false
set_option maxRecDepth 100000
set_option maxHeartbeats 4000000
namespace Iv
open PySem L2
/-! ### statements -/
def OutS (nm : Nm) (cl : Nat → Addr) (X : Cx) (W : WX) (F G : Hp) (m : List Addr) (D : Ends) : RS → Prop
  | .nx r S => ∀ (G' : Hp) (m' : List Addr) (σ' : L2.St) (H' : Hp), Grow G m G' m' → Rl (kx cl X) F G' m' S H' → RlV (kx cl X) G' m' r σ' → D.nx σ' H'
  | .ret v S => ∀ (G' : Hp) (m' : List Addr) (H' : Hp) (u : V), Grow G m G' m' → Rl (kx cl X) F G' m' S H' → RepV (kx cl X) G' m' v u → D.rt u H'
  | .brk r S => ∀ (G' : Hp) (m' : List Addr) (σ' : L2.St) (H' : Hp), Grow G m G' m' → Rl (kx cl X) F G' m' S H' → RlV (kx cl X) G' m' r σ' → D.bk σ' H'
  | .cnt r S => ∀ (G' : Hp) (m' : List Addr) (σ' : L2.St) (H' : Hp), Grow G m G' m' → Rl (kx cl X) F G' m' S H' → RlV (kx cl X) G' m' r σ' → D.ct σ' H'
  | .exc c fs r S => ∀ (G' : Hp) (m' : List Addr) (σ' : L2.St) (H' : Hp) (cls : Value) (d : Option Addr), Grow G m G' m' → Rl (kx cl X) F G' m' S H' → RlV (kx cl X) G' m' r σ' → RepX nm.excs X.mg (kx cl X) G' c fs cls d → W cls d σ' H'
  | .bad => False
def tS (nm : Nm) (cl : Nat → Addr) (X : Cx) (W : WX) (f : Ev → Hs → RS) : TS := fun D σ H => ∃ (F G : Hp) (m : List Addr) (r : Ev) (S : Hs), Rl (kx cl X) F G m S H ∧ RlV (kx cl X) G m r σ ∧ OutS nm cl X W F G m D (f r S)
section
variable {nm : Nm} {cl : Nat → Addr} {P : Prg} {cal : Cal} {n : Nat} {X : Cx} {W : WX} {D : Ends} {F G : Hp} {m : List Addr}
theorem OutS.grow {G1 : Hp} {m1 : List Addr} {x : RS} (g : Grow G m G1 m1) (h : OutS nm cl X W F G m D x) : OutS nm cl X W F G1 m1 D x := by
  cases x with
  | nx r S => exact fun G' m' σ' H' g' => h G' m' σ' H' (g.trans g')
  | ret v S => exact fun G' m' H' u g' => h G' m' H' u (g.trans g')
  | brk r S => exact fun G' m' σ' H' g' => h G' m' σ' H' (g.trans g')
  | cnt r S => exact fun G' m' σ' H' g' => h G' m' σ' H' (g.trans g')
  | exc c fs r S => exact fun G' m' σ' H' cls d g' => h G' m' σ' H' cls d (g.trans g')
  | bad => exact h
theorem tX.st {α β : Type} {RR : Hp → List Addr → α → β → Prop} {f : Ev → Hs → R α} {k : α → Hs → RS} {σ : L2.St} {H : Hp} {r : Ev} {S : Hs} {Q1 : β → Hp → Prop}
    (hl : Rl (kx cl X) F G m S H) (hv : RlV (kx cl X) G m r σ) (h : OutS nm cl X W F G m D (R.st (f r S) r k))
    (q : ∀ u H1 G1 m1 v S1, Grow G m G1 m1 → Rl (kx cl X) F G1 m1 S1 H1 → RlV (kx cl X) G1 m1 r σ → RR G1 m1 v u → OutS nm cl X W F G1 m1 D (k v S1) → Q1 u H1) : tX nm.excs X.mg (kx cl X) W RR f σ H Q1 := by
  refine ⟨F, G, m, r, S, hl, hv, ?_⟩
  cases e : f r S with
  | ok v S1 =>
    rw [e] at h
    exact fun G' m' H' u g l1 r1 => q u H' G' m' v S1 g l1 (hv.mono g) r1 (OutS.grow g h)
  | exc c fs S1 =>
    rw [e] at h
    exact fun G' m' H' cls d g l1 r1 => h G' m' σ H' cls d g l1 (hv.mono g) r1
  | bad => rw [e] at h; exact h.elim
theorem s_skip : PSs X [] (tS nm cl X W (exec P cal .skip)) := PSs.imp pss_nil fun D σ H ⟨F, G, m, r, S, rl, rv, out⟩ => out G m σ H .refl rl rv
theorem s_seq {a b : St} {st : Stmt} {rest : List Stmt} (ha : PS X st (tS nm cl X W (exec P cal a))) (hb : PSs X rest (tS nm cl X W (exec P cal b))) : PSs X (st :: rest) (tS nm cl X W (exec P cal (.seq a b))) := by
  refine PSs.imp (pss_cons ha hb) fun D σ H ⟨F, G, m, r, S, rl, rv, out⟩ => ⟨F, G, m, r, S, rl, rv, ?_⟩
  simp only [exec] at out
  cases e : exec P cal a r S with
  | nx r1 S1 =>
    rw [e] at out
    exact fun G' m' σ' H' g l1 rv1 => ⟨F, G', m', r1, S1, l1, rv1, OutS.grow g out⟩
  | ret v S1 => rw [e] at out; exact out
  | brk r1 S1 => rw [e] at out; exact out
  | cnt r1 S1 => rw [e] at out; exact out
  | exc c fs r1 S1 => rw [e] at out; exact out
  | bad => rw [e] at out; exact out.elim
variable {e : Expr} {x y z : Ex} {pos : Pos}
theorem s_asg {i : Nat} {s : Str} {p : Pos} (C : Ck nm cl P cal n X W) (hi : X.N[i]? = some s) (h1 : L2.Loc X.env.scope s) (h2 : X.fn s = true ∨ X.env.scope.names.lookup s = some .local) (hs : swapsWith e (some (.Name s p)) pos.line X.env = pure false)
    (ha : PE X e (TX nm cl X W (ev P cal x))) : PS X (.Assign [.Name s p] e pos) (tS nm cl X W (exec P cal (.asg i x))) := by
  refine PS.imp (ps_set C.nodup hi h1 ha hs h2) fun D σ H ⟨F, G, m, r, S, rl, rv, out⟩ => ?_
  simp only [exec] at out
  refine tX.st rl rv out fun u H1 G1 m1 v S1 g l1 rv1 r1 out => ?_
  exact out G1 m1 _ H1 .refl l1 (rv1.set i r1)
theorem s_asgT {t : Tg} {tg : Expr} (hg : PG X tg (tgR (kx cl X) t)) (hs : swapsWithSole [tg] e pos.line X.env = pure false) (hw : swappedStores [tg] e X.env = pure none) (he : (assignEach [tg] X.env).map (fun x => x.2) = [assign tg X.env])
    (ha : PE X e (TX nm cl X W (ev P cal x))) : PS X (.Assign [tg] e pos) (tS nm cl X W (exec P cal (.asgT t x))) := by
  refine PS.imp (ps_asg ha hg hs hw he) fun D σ H ⟨F, G, m, r, S, rl, rv, out⟩ => ?_
  simp only [exec] at out
  refine tX.st rl rv out fun u H1 G1 m1 v S1 g l1 rv1 r1 out => ?_
  cases v with
  | d d =>
    dsimp only at out
    cases ha : asgD t d r with
    | none => rw [ha] at out; exact out.elim
    | some r' =>
      rw [ha] at out
      exact ⟨G1, m1, r, r', d, l1.ext, rv1, r1, ha, fun σ' rv' _ => out G1 m1 σ' H1 .refl l1 rv'⟩
  | loc _ => exact out.elim
  | xc _ _ => exact out.elim
theorem s_par2 {i j : Nat} {s t : Str} {px py pt : Pos} {kt k2 : Nat} {pt2 : Pos} {l r : Expr} {sc : Scope} {N : List Str} (C : Ck nm cl P cal n X W) (hi : X.N[i]? = some s) (hj : X.N[j]? = some t) (hij : i ≠ j) (h1 : X.env.scope.names.lookup s = some .local) (h2 : X.env.scope.names.lookup t = some .local)
    (hw : swappedStores [.Tuple [.Name s px, .Name t py] kt pt] (.Tuple [l, r] k2 pt2) X.env = pure (some [s, t])) (q1 : isE nm N sc x l = true) (q2 : isE nm N sc y r = true)
    (ha : PE X l (TX nm cl X W (ev P cal x))) (hb : PE X r (TX nm cl X W (ev P cal y))) : PS X (.Assign [.Tuple [.Name s px, .Name t py] kt pt] (.Tuple [l, r] k2 pt2) pos) (tS nm cl X W (exec P cal (.par2 i j x y))) := by
  refine PS.imp (ps_par C.calm C.nodup hi hj hij h1 h2 (pa_cons ha (pa_cons hb pa_nil (star_e q2)) (star_e q1)) hw rfl) fun D σ H ⟨F, G, m, r, S, rl, rv, out⟩ => ?_
  simp only [exec] at out
  refine tX.st rl rv out fun u H1 G1 m1 v S1 g l1 rv1 r1 out => ?_
  refine tX.st l1 rv1 out fun u2 H2 G2 m2 v2 S2 g2 l2 rv2 r2 out => ?_
  exact ⟨_, _, rfl, out G2 m2 _ H2 .refl l2 ((rv2.set i (r1.mono g2)).set j r2)⟩
theorem s_par3 {i j k : Nat} {s t o : Str} {px py pz pt : Pos} {kt k2 : Nat} {pt2 : Pos} {l r q : Expr} {sc : Scope} {N : List Str} (C : Ck nm cl P cal n X W) (hi : X.N[i]? = some s) (hj : X.N[j]? = some t) (hk : X.N[k]? = some o) (hij : i ≠ j) (hik : i ≠ k) (hjk : j ≠ k)
    (h1 : X.env.scope.names.lookup s = some .local) (h2 : X.env.scope.names.lookup t = some .local) (h3 : X.env.scope.names.lookup o = some .local)
    (hw : swappedStores [.Tuple [.Name s px, .Name t py, .Name o pz] kt pt] (.Tuple [l, r, q] k2 pt2) X.env = pure (some [s, t, o])) (q1 : isE nm N sc x l = true) (q2 : isE nm N sc y r = true) (q3 : isE nm N sc z q = true)
    (ha : PE X l (TX nm cl X W (ev P cal x))) (hb : PE X r (TX nm cl X W (ev P cal y))) (hc : PE X q (TX nm cl X W (ev P cal z))) : PS X (.Assign [.Tuple [.Name s px, .Name t py, .Name o pz] kt pt] (.Tuple [l, r, q] k2 pt2) pos) (tS nm cl X W (exec P cal (.par3 i j k x y z))) := by
  refine PS.imp (ps_par3 C.calm C.nodup hi hj hk hij hik hjk h1 h2 h3 (pa_cons ha (pa_cons hb (pa_cons hc pa_nil (star_e q3)) (star_e q2)) (star_e q1)) hw rfl) fun D σ H ⟨F, G, m, r, S, rl, rv, out⟩ => ?_
  simp only [exec] at out
  refine tX.st rl rv out fun u H1 G1 m1 v S1 g l1 rv1 r1 out => ?_
  refine tX.st l1 rv1 out fun u2 H2 G2 m2 v2 S2 g2 l2 rv2 r2 out => ?_
  refine tX.st l2 rv2 out fun u3 H3 G3 m3 v3 S3 g3 l3 rv3 r3 out => ?_
  exact ⟨_, _, _, rfl, out G3 m3 _ H3 .refl l3 (((rv3.set i (r1.mono (g2.trans g3))).set j (r2.mono g3)).set k r3)⟩
theorem s_expr (hs : swapsWith e none pos.line X.env = pure false) (ha : PE X e (TX nm cl X W (ev P cal x))) : PS X (.Expr e pos) (tS nm cl X W (exec P cal (.expr x))) := by
  refine PS.imp (ps_expr ha hs) fun D σ H ⟨F, G, m, r, S, rl, rv, out⟩ => ?_
  simp only [exec] at out
  exact tX.st rl rv out fun u H1 G1 m1 v S1 g l1 rv1 r1 out => out G1 m1 σ H1 .refl l1 rv1
theorem s_ret (ha : PE X e (TX nm cl X W (ev P cal x))) : PS X (.Return (some e) pos) (tS nm cl X W (exec P cal (.ret x))) := by
  refine PS.imp (ps_ret ha) fun D σ H ⟨F, G, m, r, S, rl, rv, out⟩ => ?_
  simp only [exec] at out
  exact tX.st rl rv out fun u H1 G1 m1 v S1 g l1 rv1 r1 out => out G1 m1 H1 u .refl l1 r1
theorem s_retN : PS X (.Return none pos) (tS nm cl X W (exec P cal .retN)) := PS.imp ps_retN fun D σ H ⟨F, G, m, r, S, rl, rv, out⟩ => out G m H .non .refl rl .non
theorem s_brk : PS X (.Break pos) (tS nm cl X W (exec P cal .brk)) := PS.imp ps_break fun D σ H ⟨F, G, m, r, S, rl, rv, out⟩ => out G m σ H .refl rl rv
theorem s_cnt : PS X (.Continue pos) (tS nm cl X W (exec P cal .cnt)) := PS.imp ps_continue fun D σ H ⟨F, G, m, r, S, rl, rv, out⟩ => out G m σ H .refl rl rv
theorem s_pass : PS X (.Pass pos) (tS nm cl X W (exec P cal .skip)) := PS.imp ps_pass fun D σ H ⟨F, G, m, r, S, rl, rv, out⟩ => out G m σ H .refl rl rv
theorem s_ite {a b : St} {sa sb : List Stmt} (hc : PT X e (tB (TX nm cl X W (ev P cal x)))) (ha : PSs X sa (tS nm cl X W (exec P cal a))) (hb : PSs X sb (tS nm cl X W (exec P cal b))) : PS X (.If e sa sb pos) (tS nm cl X W (exec P cal (.ite x a b))) := by
  refine PS.imp (ps_if hc ha hb) fun D σ H ⟨F, G, m, r, S, rl, rv, out⟩ => ?_
  simp only [exec] at out
  refine tX.st rl rv out fun u H1 G1 m1 v S1 g l1 rv1 r1 out => ?_
  split at out
  · cases r1; exact ⟨true, rfl, iteT ⟨F, G1, m1, r, S1, l1, rv1, out⟩⟩
  · cases r1; exact ⟨false, rfl, iteF ⟨F, G1, m1, r, S1, l1, rv1, out⟩⟩
  · exact out.elim
theorem s_whl {b : St} {sb : List Stmt} (C : Ck nm cl P cal n X W) (hc : PT X e (tB (TX nm cl X W (ev P cal x)))) (hb : PSs X sb (tS nm cl X W (exec P cal b))) : PS X (.While e sb [] pos) (tS nm cl X W (exec P cal (.whl x b))) := by
  refine PS.imp (ps_while C.po hc hb) fun D σ H ⟨F, G, m, r, S, rl, rv, out⟩ => ?_
  simp only [exec] at out
  let WV : Nat → L2.St → Hp → Prop := fun k σ H => ∃ (G2 : Hp) (m2 : List Addr) (r2 : Ev) (S2 : Hs), Rl (kx cl X) F G2 m2 S2 H ∧ RlV (kx cl X) G2 m2 r2 σ ∧ OutS nm cl X W F G2 m2 D (whlL (fun r S => ev P cal x r S) (fun r S => exec P cal b r S) k r2 S2)
  refine ⟨WV, ⟨P.fuel, G, m, r, S, rl, rv, out⟩, ?_⟩
  rintro k σ2 H2 ⟨G2, m2, r2, S2, l2, rv2, out2⟩
  cases k with
  | zero => exact out2.elim
  | succ k =>
    simp only [whlL] at out2
    refine ⟨F, G2, m2, r2, S2, l2, rv2, ?_⟩
    cases hx : ev P cal x r2 S2 with
    | bad => rw [hx] at out2; exact out2.elim
    | exc c fs S3 =>
      rw [hx] at out2
      exact fun G' m' H' cls d g l1 r1 => out2 G' m' σ2 H' cls d g l1 (rv2.mono g) r1
    | ok v S3 =>
      rw [hx] at out2
      intro G3 m3 H3 u g3 l3 r3
      split at out2
      · rename_i S4 heq
        cases heq
        cases r3
        refine ⟨true, rfl, iteT ⟨WV k, fun σ' H' w => ⟨k, Nat.lt_succ_self _, w⟩, F, G3, m3, r2, S3, l3, rv2.mono g3, ?_⟩⟩
        cases hb : exec P cal b r2 S3 with
        | nx r4 S4 =>
          rw [hb] at out2
          exact fun G' m' σ' H' g l1 rv1 => ⟨G', m', r4, S4, l1, rv1, OutS.grow (g3.trans g) out2⟩
        | cnt r4 S4 =>
          rw [hb] at out2
          exact fun G' m' σ' H' g l1 rv1 => ⟨G', m', r4, S4, l1, rv1, OutS.grow (g3.trans g) out2⟩
        | brk r4 S4 =>
          rw [hb] at out2
          exact fun G' m' σ' H' g l1 rv1 => out2 G' m' σ' H' (g3.trans g) l1 rv1
        | ret v S4 =>
          rw [hb] at out2
          exact fun G' m' H' u g l1 r1 => out2 G' m' H' u (g3.trans g) l1 r1
        | exc c fs r4 S4 =>
          rw [hb] at out2
          exact fun G' m' σ' H' cls d g l1 rv1 r1 => out2 G' m' σ' H' cls d (g3.trans g) l1 rv1 r1
        | bad => rw [hb] at out2; exact out2.elim
      · rename_i S4 heq
        cases heq
        cases r3
        exact ⟨false, rfl, iteF (out2 G3 m3 σ2 H3 g3 l3 (rv2.mono g3))⟩
      · exact out2.elim
      · rename_i heq; cases heq
      · rename_i heq; cases heq
theorem s_loop {b : St} {t : Tg} {it : Ex} {sb : List Stmt} {tg iter : Expr} (C : Ck nm cl P cal n X W) (hi : PI X tg iter (TI' nm cl X W (evi P cal it))) (hf : ∀ v, foldedSetIterable iter X.env v = pure v) (hg : PG X tg (tgR (kx cl X) t)) (hb : PSs X sb (tS nm cl X W (exec P cal b))) :
    PS X (.For tg iter sb [] pos) (tS nm cl X W (exec P cal (.loop t it b))) := by
  refine PS.imp (ps_for C.po C.calm hi hg hb hf) fun D σ H ⟨F, G, m, r, S, rl, rv, out⟩ => ?_
  simp only [exec] at out
  refine tX.st rl rv out fun J H1 G1 m1 xs S1 g1 l1 rv1 r1 out => ?_
  let IV : Nat → L2.St → Hp → Prop := fun i σ H => i ≤ xs.length ∧ ∃ (G2 : Hp) (m2 : List Addr) (r2 : Ev) (S2 : Hs), Grow G1 m1 G2 m2 ∧ Rl (kx cl X) F G2 m2 S2 H ∧ RlV (kx cl X) G2 m2 r2 σ ∧ OutS nm cl X W F G2 m2 D (forL t (fun r S => exec P cal b r S) (xs.drop i) r2 S2)
  refine ⟨fun i k σ H => k = xs.length - i ∧ IV i σ H, ⟨xs.length, by simp, Nat.zero_le _, G1, m1, r, S1, .refl, l1, rv1, by simpa using out⟩, ?_⟩
  rintro i k σ2 H2 ⟨rfl, hi, G2, m2, r2, S2, g2, l2, rv2, out2⟩
  by_cases hlt : i < xs.length
  · right
    refine ⟨r1.go i H2 (g2.1.trans l2.ext) hlt, IV (i + 1), fun σ' H' iv => ⟨xs.length - (i + 1), by omega, rfl, iv⟩, fun x H3 hy => ?_⟩
    have hd : xs[i]? = some xs[i] := by simp [hlt]
    obtain ⟨G3, al, rep⟩ := r1.yld i G2 H2 x H3 _ g2.1 l2.ext hd hy
    have l3 := l2.al al
    have gr3 : Grow G2 m2 G3 m2 := al.grow l2.ext
    have hdrop : xs.drop i = xs[i] :: xs.drop (i + 1) := List.drop_eq_getElem_cons hlt
    rw [hdrop] at out2
    simp only [forL] at out2
    cases ha : asgD t xs[i] r2 with
    | none => rw [ha] at out2; exact out2.elim
    | some r3 =>
      rw [ha] at out2
      dsimp only at out2
      refine ⟨G3, m2, r2, r3, _, l3.ext, rv2.mono gr3, rep, ha, fun σ3 rv3 _ => ⟨F, G3, m2, r3, S2, l3, rv3, ?_⟩⟩
      cases hb : exec P cal b r3 S2 with
      | nx r4 S4 =>
        rw [hb] at out2
        exact fun G' m' σ' H' g l1 rv1 => ⟨by omega, G', m', r4, S4, (g2.trans gr3).trans g, l1, rv1, OutS.grow (gr3.trans g) out2⟩
      | cnt r4 S4 =>
        rw [hb] at out2
        exact fun G' m' σ' H' g l1 rv1 => ⟨by omega, G', m', r4, S4, (g2.trans gr3).trans g, l1, rv1, OutS.grow (gr3.trans g) out2⟩
      | brk r4 S4 =>
        rw [hb] at out2
        exact fun G' m' σ' H' g l1 rv1 => out2 G' m' σ' H' (gr3.trans g) l1 rv1
      | ret v S4 =>
        rw [hb] at out2
        exact fun G' m' H' u g l1 r1 => out2 G' m' H' u (gr3.trans g) l1 r1
      | exc c fs r4 S4 =>
        rw [hb] at out2
        exact fun G' m' σ' H' cls d g l1 rv1 r1 => out2 G' m' σ' H' cls d (gr3.trans g) l1 rv1 r1
      | bad => rw [hb] at out2; exact out2.elim
  · left
    have e : i = xs.length := by omega
    subst e
    refine ⟨r1.stop _ H2 (g2.1.trans l2.ext) (Nat.le_refl _), ?_⟩
    rw [List.drop_length] at out2
    exact out2 G2 m2 σ2 H2 .refl l2 rv2
end
end Iv
end
section
set_option autoImplicit false
set_option maxRecDepth 100000
set_option maxHeartbeats 4000000
namespace Iv
open PySem L2
def rA (K : Fg) (o : BOp) : R2 := fun x y H Q => ∃ (G : Hp) (a b d : D), Ext G H ∧ Rep K G a x ∧ Rep K G b y ∧ augD o a b = some d ∧ ∀ v, Rep K G d v → Q v H
section
variable {nm : Nm} {cl : Nat → Addr} {P : Prg} {cal : Cal} {n : Nat} {X : Cx} {W : WX} {e : Expr} {x y z : Ex} {pos : Pos}
theorem ip_rA (o : BOp) : PIp X (bop o) (rA (kx cl X) o) := by
  intro pins s σ H x y v u Q I rx ry h
  obtain ⟨G, a, b, d, e, ha, hb, hd, g⟩ := h
  cases o with
  | add =>
    cases ha <;> cases hb <;> simp only [augD, reduceCtorEq, Option.some.injEq] at hd
    · subst hd; exact iop_add pins s σ H _ _ v u Q I rx ry ⟨_, _, rfl, rfl, g _ (.int _)⟩
    · rename_i o1 _ o2
      split at hd
      · rename_i hz
        simp only [Option.some.injEq] at hd; subst hd
        exact iop_add_str pins s σ H _ _ v u Q I rx ry ⟨_, _, rfl, rfl, by rw [S'_length, S'_length]; exact small_line hz, by rw [S'_append]; exact g _ (.str _ fun c hc => (List.mem_append.mp hc).elim (o1 c) (o2 c))⟩
      · cases hd
  | sub =>
    cases ha <;> cases hb <;> simp only [augD, reduceCtorEq, Option.some.injEq] at hd
    subst hd; exact iop_sub pins s σ H _ _ v u Q I rx ry ⟨_, _, rfl, rfl, g _ (.int _)⟩
  | mul =>
    cases ha <;> cases hb <;> simp only [augD, reduceCtorEq] at hd
    split at hd
    · rename_i i j hz
      simp only [Option.some.injEq] at hd; subst hd
      exact iop_mul pins s σ H _ _ v u Q I rx ry ⟨_, _, rfl, rfl, hz.elim (fun z => .inl ⟨by omega, by omega⟩) (fun z => .inr ⟨by omega, by omega⟩), g _ (.int _)⟩
    · cases hd
  | fdiv => cases ha <;> cases hb <;> simp only [augD, reduceCtorEq] at hd
  | mod => cases ha <;> cases hb <;> simp only [augD, reduceCtorEq] at hd
  | pow => cases ha <;> cases hb <;> simp only [augD, reduceCtorEq] at hd
theorem s_aug {i : Nat} {o : BOp} {s : Str} {p : Pos} (C : Ck nm cl P cal n X W) (hi : X.N[i]? = some s) (h1 : L2.Loc X.env.scope s) (h2 : X.fn s = true ∨ X.env.scope.names.lookup s = some .local)
    (ha : PE X e (TX nm cl X W (ev P cal x))) : PS X (.AugAssign (.Name s p) (bop o) e pos) (tS nm cl X W (exec P cal (.aug i o x))) := by
  refine PS.imp (ps_aug C.nodup hi h1 ha (ip_rA (cl := cl) o) h2) fun D σ H ⟨F, G, m, r, S, rl, rv, out⟩ => ?_
  simp only [exec] at out
  split at out
  · rename_i a hr
    obtain ⟨u, q1, q2⟩ := rv.2 i _ hr (fun _ _ z => by cases z)
    refine ⟨u, q1, tX.st rl rv out fun u1 H1 G1 m1 v1 S1 g l1 rv1 r1 out => ?_⟩
    cases v1 with
    | d b =>
      dsimp only at out
      cases hd : augD o a b with
      | none => rw [hd] at out; exact out.elim
      | some d =>
        rw [hd] at out
        exact ⟨G1, a, b, d, l1.ext, Rep.mono g.1 q2, r1, hd, fun v rv => out G1 m1 _ H1 .refl l1 (rv1.set i (v := .d d) rv)⟩
    | loc _ => exact out.elim
    | xc _ _ => exact out.elim
  · exact out.elim
theorem s_app {i : Nat} {s : Str} {p ap p2 : Pos} {sc : Scope} {N : List Str} (hN : X.N[i]? = some s) (hv : visB X.env.scope s = true) (ho : okN s = true) (hl : (ap.endLine == p2.line) = true) (hs : isE nm N sc x e = true)
    (ha : PE X e (TX nm cl X W (ev P cal x))) : PS X (.Expr (.Call (.Attribute (.Name s p) ("append" : Str) ap) [e] [] p2) pos) (tS nm cl X W (exec P cal (.app i x))) := by
  have s3 : (((backTo p2 (starEach [e] X.env)).all fun x => !x.1) && ((backToKw p2 (keywordEach [] X.env)).all fun x => x.1.isSome) && decide ([e].length + ([] : List Keyword).length + (if ([] : List Keyword).isEmpty then 0 else 1) < 30)) = true := by
    rw [star_e hs]; rfl
  have key := pe_bm (X := X) (cpos := p2) (apos := ap) PySem.F.plainAttrs_list PySem.F.slot_list_append PySem.F.type_list_append mt_append (pe_var (pos := p) hN (visB_d hv) (okN_d ho).1 (okN_d ho).2.1) (pa_cons ha pa_nil (star_e hs)) rfl s3 hl (star_e hs) rfl
  refine PS.imp (ps_expr key rfl) fun D σ H ⟨F, G, m, r, S, rl, rv, out⟩ => ?_
  simp only [exec] at out
  split at out
  · rename_i k hr
    obtain ⟨u, q1, a, q2, rfl⟩ := rv.2 i _ hr (fun _ _ z => by cases z)
    split at out
    · rename_i ys hk
      obtain ⟨_, ws, q3, _⟩ := (rl.ob k a _ q2 hk).lst
      refine ⟨_, q1, .inl ⟨rfl, _, .of q3⟩, tX.st rl rv out fun u1 H1 G1 m1 v1 S1 g l1 rv1 r1 out => ?_⟩
      split at out
      · rename_i b zs hk1
        split at out
        · rename_i hz
          obtain ⟨q4, ws1, q5, q6⟩ := (l1.ob k a _ (g.2 _ _ q2) hk1).lst
          refine ⟨a, ws1, u1, rfl, rfl, q5, ?_, out G1 m1 σ _ .refl (l1.change (g.2 _ _ q2) hk1 (q6.append (.cons r1 .nil))) rv1⟩
          rw [← q6.length, sizeLine_eq]
          have : zs.length < 1000000 := hz
          omega
        · exact out.elim
      · exact out.elim
    · exact out.elim
  · exact out.elim
theorem s_setix {i : Nat} {s : Str} {p p2 : Pos} {k : Expr} (hN : X.N[i]? = some s) (hv : visB X.env.scope s = true) (ho : okN s = true)
    (hs : swapsWithSole [.Subscript (.Name s p) k p2] e pos.line X.env = pure false) (hw : swappedStores [.Subscript (.Name s p) k p2] e X.env = pure none)
    (hA : ∀ v, assign (.Subscript (.Name s p) k p2) X.env v = (do
      let ov ← holding [v] (eval (.Name s p) X.env)
      let iv ← holding [v, ov] (eval k X.env)
      standAt p2
      holding [v, ov, iv] (setItem ov iv v)
      release [v, ov, iv] []))
    (ha : PE X e (TX nm cl X W (ev P cal x))) (hb : PE X k (TX nm cl X W (ev P cal y))) : PS X (.Assign [.Subscript (.Name s p) k p2] e pos) (tS nm cl X W (exec P cal (.setix i y x))) := by
  refine PS.imp (ps_asg ha (pg_sub (pe_var (pos := p) hN (visB_d hv) (okN_d ho).1 (okN_d ho).2.1) hb set_list hA) hs hw rfl) fun D σ H ⟨F, G, m, r, S, rl, rv, out⟩ => ?_
  simp only [exec] at out
  refine tX.st rl rv out fun u1 H1 G1 m1 v1 S1 g1 l1 rv1 r1 out => ?_
  split at out
  · rename_i k b hr
    obtain ⟨u, q1, a, q2, rfl⟩ := rv1.2 i _ hr (fun _ _ z => by cases z)
    refine ⟨_, q1, tX.st l1 rv1 out fun u2 H2 G2 m2 v2 S2 g2 l2 rv2 r2 out => ?_⟩
    split at out
    · rename_i j zs hk1
      cases r2
      obtain ⟨q4, ws1, q5, q6⟩ := (l2.ob k a _ (g2.2 _ _ q2) hk1).lst
      cases hp : plc j zs.length with
      | none => rw [hp] at out; exact out.elim
      | some t =>
        rw [hp] at out
        exact ⟨a, ws1, j, t, rfl, rfl, q5, by rw [ixN_plc, ← q6.length]; exact hp, out G2 m2 σ _ .refl (l2.change (g2.2 _ _ q2) hk1 (q6.set (Rep.mono g2.1 r1) t)) rv2⟩
    · exact out.elim
  · exact out.elim
theorem repOs_len {K : Fg} {G : Hp} {fs : List (Option D)} {vs : List (Option V)} (h : RepOs K G fs vs) : fs.length = vs.length := by
  induction h with
  | nil => rfl
  | none _ ih => simp [ih]
  | some _ _ ih => simp [ih]
theorem repOs_app {K : Fg} {G : Hp} {fs : List (Option D)} {vs : List (Option V)} (h : RepOs K G fs vs) (k : Nat) : RepOs K G (fs ++ List.replicate k none) (vs ++ List.replicate k none) := by
  induction h with
  | nil =>
    induction k with
    | zero => exact .nil
    | succ k ih => exact .none ih
  | none _ ih => exact .none ih
  | some r _ ih => exact .some r ih
theorem repOs_set {K : Fg} {G : Hp} {fs : List (Option D)} {vs : List (Option V)} (h : RepOs K G fs vs) {d : D} {v : V} (r : Rep K G d v) : ∀ k : Nat, RepOs K G (fs.set k (some d)) (vs.set k (some v)) := by
  induction h with
  | nil => intro k; exact .nil
  | none t ih =>
    intro k
    cases k with
    | zero => exact .some r t
    | succ k => exact .none (ih k)
  | some q t ih =>
    intro k
    cases k with
    | zero => exact .some r t
    | succ k => exact .some q (ih k)
theorem repOs_put {K : Fg} {G : Hp} {fs : List (Option D)} {vs : List (Option V)} (h : RepOs K G fs vs) {d : D} {v : V} (r : Rep K G d v) (k : Nat) : RepOs K G (putF k d fs) (SlX.putS k v vs) := by
  unfold putF SlX.putS
  rw [repOs_len h]
  exact repOs_set (repOs_app h _) r k
/-- self.f = e -/
theorem s_setsl {j : Nat} {s : Str} {o : Expr} {p2 : Pos} (C : Ck nm cl P cal n X W) (hj : nm.sls[j]? = some s) (hs : swapsWith e (some (.Attribute o s p2)) pos.line X.env = pure false) (ha : PE X o (TX nm cl X W (ev P cal y))) (hb : PE X e (TX nm cl X W (ev P cal x))) :
    PS X (.Assign [.Attribute o s p2] e pos) (tS nm cl X W (exec P cal (.setsl j y x))) := by
  refine PS.imp (SlX.ps_sl ha hb hs) fun D σ H ⟨F, G, m, r, S, rl, rv, out⟩ => ?_
  simp only [exec] at out
  refine tX.st rl rv out fun u1 H1 G1 m1 v1 S1 g1 l1 rv1 r1 out => ?_
  refine tX.st l1 rv1 out fun u2 H2 G2 m2 v2 S2 g2 l2 rv2 r2 out => ?_
  cases v1 with
  | loc _ => exact out.elim
  | xc _ _ => exact out.elim
  | d d =>
  cases v2 with
  | d _ => exact out.elim
  | xc _ _ => exact out.elim
  | loc k =>
  cases hq : P.sls[j]? with
  | none => rw [hq] at out; exact out.elim
  | some q =>
  rw [hq] at out
  dsimp only at out
  obtain ⟨a, ha2, rfl⟩ := r2
  cases hk : S2[k]? with
  | none => rw [hk] at out; exact out.elim
  | some ob =>
  rw [hk] at out
  cases ob with
  | ins c fs =>
    dsimp only at out
    split at out
    · rename_i hc
      subst hc
      obtain ⟨k1, p, k2⟩ := C.md.sl j q s hq hj
      obtain ⟨z1, dx, vs, z2, z3, z4, z5⟩ := (l2.ob k a _ ha2 hk).ins
      have hdx := l2.ext _ _ z3
      refine ⟨a, _, dx, p, vs, _, rfl, .inr ⟨z2, hdx⟩, k1, k2, ?_⟩
      have eH : SlX.slH H2 a (cl q.1) dx (SlX.putS q.2 u1 vs) = upd H2 a (SlX.SlO a (cl q.1) dx (SlX.putS q.2 u1 vs)) := by
        unfold SlX.slH
        funext b
        by_cases h1 : b = a
        · subst h1; rw [upd_same, upd_same]
        · rw [upd_ne h1, upd_ne h1]
          by_cases h2 : b = dx
          · subst h2; rw [upd_same]; exact hdx.symm
          · rw [upd_ne h2]
      rw [eH]
      exact out G2 m2 σ _ .refl (l2.turn ha2 z1 (ObV.ins (K := kx cl X) z3 z4 (repOs_put z5 (Rep.mono g2.1 r1) q.2))) rv2
    · exact out.elim
  | _ => exact out.elim
/-- d[k] = e -/
theorem s_setd {i : Nat} {s : Str} {p p2 : Pos} {k : Expr} (C : Ck nm cl P cal n X W) (hN : X.N[i]? = some s) (hv : visB X.env.scope s = true) (ho : okN s = true)
    (hs : swapsWithSole [.Subscript (.Name s p) k p2] e pos.line X.env = pure false) (hw : swappedStores [.Subscript (.Name s p) k p2] e X.env = pure none)
    (hA : ∀ v, assign (.Subscript (.Name s p) k p2) X.env v = (do
      let ov ← holding [v] (eval (.Name s p) X.env)
      let iv ← holding [v, ov] (eval k X.env)
      standAt p2
      holding [v, ov, iv] (setItem ov iv v)
      release [v, ov, iv] []))
    (ha : PE X e (TX nm cl X W (ev P cal x))) (hb : PE X k (TX nm cl X W (ev P cal y))) : PS X (.Assign [.Subscript (.Name s p) k p2] e pos) (tS nm cl X W (exec P cal (.setd i y x))) := by
  refine PS.imp (ps_asg ha (pg_sub (pe_var (pos := p) hN (visB_d hv) (okN_d ho).1 (okN_d ho).2.1) hb (set_dict (Nat.lt_of_le_of_lt (by omega) C.room.units)) hA) hs hw rfl) fun D σ H ⟨F, G, m, r, S, rl, rv, out⟩ => ?_
  simp only [exec] at out
  refine tX.st rl rv out fun u1 H1 G1 m1 v1 S1 g1 l1 rv1 r1 out => ?_
  split at out
  · rename_i k b hr
    obtain ⟨u, q1, a, q2, rfl⟩ := rv1.2 i _ hr (fun _ _ z => by cases z)
    refine ⟨_, q1, tX.st l1 rv1 out fun u2 H2 G2 m2 v2 S2 g2 l2 rv2 r2 out => ?_⟩
    split at out
    · rename_i d kvs hk1
      cases hq : keyD d with
      | none => rw [hq] at out; exact out.elim
      | some q =>
        rw [hq] at out
        dsimp only at out
        split at out
        · rename_i hz
          obtain ⟨rfl, ok⟩ := keyD_V r2 hq
          obtain ⟨q4, ks, q5, q6⟩ := (l2.ob k a _ (g2.2 _ _ q2) hk1).dct
          refine ⟨a, _, rfl, DPut.k q5 ?_, out G2 m2 σ _ .refl (l2.turn (g2.2 _ _ q2) q4 (.dct (kput_val ok (Rep.mono g2.1 r1) q6))) rv2⟩
          rw [← q6.len, sizeLine_eq]
          have : kvs.length < 1000000 := hz
          omega
        · exact out.elim
    · exact out.elim
  · exact out.elim
/-- a name's list becomes data -/
theorem s_frzv {i : Nat} {b : St} {rest : List Stmt} (hb : PSs X rest (tS nm cl X W (exec P cal b))) : PSs X rest (tS nm cl X W (exec P cal (.frzv i b))) := by
  refine PSs.imp hb fun D σ H ⟨F, G, m, r, S, rl, rv, out⟩ => ?_
  simp only [exec] at out
  split at out
  · rename_i k hr
    obtain ⟨u, q1, a, q2, rfl⟩ := rv.2 i _ hr (fun _ _ z => by cases z)
    split at out
    · rename_i xs hs
      obtain ⟨G', ex, l', rp⟩ := rl.freeze q2 hs
      have g : Grow G m G' m := ⟨ex, fun _ _ h => h⟩
      have rv' := rv.mono g
      refine ⟨F, G', m, _, _, l', ⟨by rw [List.length_set]; exact rv'.1, fun j v e nx => ?_⟩, OutS.grow g out⟩
      by_cases hj : i = j
      · subst hj
        rw [List.getElem?_set_self (List.getElem?_eq_some_iff.mp hr).1] at e
        cases e
        exact ⟨_, q1, rp⟩
      · rw [List.getElem?_set_ne hj] at e
        exact rv'.2 j v e nx
    · exact out.elim
  · exact out.elim
/-- name = [..], the name a local -/
theorem s_asgC {own : List Nat} {t : Tg} {it c : Ex} (hi : SI nm cl P cal n it) (hc : SC nm cl P cal n c) (hx : SE nm cl P cal n x) {i : Nat} {s : Str} {py spos : Pos} {elt tg iter : Expr} {ifs : List Expr} {scope : Scope} (C : Ck nm cl P cal n X W)
    (hN : X.N[i]? = some s) (hl : X.env.scope.names.lookup s = some .local)
    (hsw : swapsWith (.ListComp elt [⟨tg, iter, ifs, 0⟩] scope pos) (some (.Name s py)) spos.line X.env = pure true)
    (h1 : isI nm X.N X.env.scope it tg iter = true) (h2 : blkC X.N X.env.scope scope (ownN X.N own) = true) (h3 : isG X.N false (rl X.env.scope scope) t tg = true) (h4 : isC nm X.N (rl X.env.scope scope) c ifs = true) (h5 : isE nm X.N (rl X.env.scope scope) x elt = true) (h6 : tgIn own t = true) :
    PS X (.Assign [.Name s py] (.ListComp elt [⟨tg, iter, ifs, 0⟩] scope pos) spos) (tS nm cl X W (exec P cal (.asg i (.comp own t it c x)))) := by
  obtain ⟨q1, q2⟩ := hi X W tg iter C h1
  have key := ps_setLc (X := X) (pos := pos) (own := ownN X.N own) (g := tgR (kx cl X) t) (tt := tB (TX nm cl X noW (ev P cal c))) (te := TX nm cl X noW (ev P cal x)) C.calm C.nodup hN hl hsw q1 (blkOk_by h2)
    (fun s H Ca ce fp => g_tg (X := X.blk s H scope (compEnvC scope ce Ca X.env) fp) C.calm C.nodup (fn := false) (fun z => by cases z) t tg h3)
    (fun s H Ca ce fp => hc (X.blk s H scope (compEnvC scope ce Ca X.env) fp) noW ifs C.blk h4)
    (fun s H Ca ce fp => hx (X.blk s H scope (compEnvC scope ce Ca X.env) fp) noW elt C.blk h5) q2
  rw [ownN_map] at key
  refine PS.imp key fun D σ H ⟨F, G, m, r, S, rl, rv, out⟩ => ?_
  simp only [exec] at out
  refine comp_read rfl h6 ?_
  refine tX.st rl rv out fun u H1 G1 m1 v S1 g l1 rv1 r1 out => ?_
  exact out G1 m1 _ H1 .refl l1 (rv1.set i r1)
theorem s_asgN {own : List Nat} {t : Tg} {it c : Ex} (hi : SI nm cl P cal n it) (hc : SC nm cl P cal n c) (hx : SE nm cl P cal n x) {i : Nat} {s : Str} {py spos : Pos} {elt tg iter : Expr} {ifs : List Expr} {scope : Scope} (C : Ck nm cl P cal n X W)
    (hN : X.N[i]? = some s) (hl : X.env.scope.names.lookup s = some .local)
    (hsw : swapsWith (.ListComp elt [⟨tg, iter, ifs, 0⟩] scope pos) (some (.Name s py)) spos.line X.env = pure true)
    (h1 : isI nm X.N X.env.scope it tg iter = true) (h2 : blkC X.N X.env.scope scope (ownN X.N own) = true) (h3 : isG X.N false (rl X.env.scope scope) t tg = true) (h4 : isC nm X.N (rl X.env.scope scope) c ifs = true) (h5 : isE nm X.N (rl X.env.scope scope) x elt = true) (h6 : tgIn own t = true) :
    PS X (.Assign [.Name s py] (.ListComp elt [⟨tg, iter, ifs, 0⟩] scope pos) spos) (tS nm cl X W (exec P cal (.asg i (.newc own t it c x)))) := by
  obtain ⟨q1, q2⟩ := hi X W tg iter C h1
  have key := ps_setLc (X := X) (pos := pos) (own := ownN X.N own) (g := tgR (kx cl X) t) (tt := tB (TX nm cl X noW (ev P cal c))) (te := TX nm cl X noW (ev P cal x)) C.calm C.nodup hN hl hsw q1 (blkOk_by h2)
    (fun s H Ca ce fp => g_tg (X := X.blk s H scope (compEnvC scope ce Ca X.env) fp) C.calm C.nodup (fn := false) (fun z => by cases z) t tg h3)
    (fun s H Ca ce fp => hc (X.blk s H scope (compEnvC scope ce Ca X.env) fp) noW ifs C.blk h4)
    (fun s H Ca ce fp => hx (X.blk s H scope (compEnvC scope ce Ca X.env) fp) noW elt C.blk h5) q2
  rw [ownN_map] at key
  refine PS.imp key fun D σ H ⟨F, G, m, r, S, rl, rv, out⟩ => ?_
  simp only [exec] at out
  refine newc_read rfl h6 ?_
  refine tX.st rl rv out fun u H1 G1 m1 v S1 g l1 rv1 r1 out => ?_
  exact out G1 m1 _ H1 .refl l1 (rv1.set i r1)
end
end Iv
end
section
set_option autoImplicit false
set_option maxRecDepth 100000
set_option maxHeartbeats 4000000
namespace Iv
open PySem L2
/-! ### the check of statements -/
def isStar : Expr → Bool
  | .Starred _ _ => true
  | _ => false
def nmL (sc : Scope) (line : Nat) : Expr → Option Str
  | .Name x q => if (sc.names.lookup x == some .local && q.line == line) then some x else none
  | _ => none
def swN (sc : Scope) (ts vs : List Expr) : Option (Option (List Str)) :=
  if ((ts.length == 2 || ts.length == 3) && vs.length == ts.length && !vs.any isStar) = false then some none else
  let ns := ts.filterMap (nmL sc ((ts.head?.map (·.pos.line)).getD 0))
  if ns.length != ts.length || ns.eraseDups.length != ns.length then some none
  else if vs.all (foldedForSure 8) then some none
  else if vs.all (constantsAlone 8) then none else some (some ns)
theorem swapped_eq {env : Env} {ts vs : List Expr} {k k2 : Nat} {p p2 : Pos} {r : Option (List Str)} (hk : env.scope.kind = .function) (h : swN env.scope ts vs = some r) :
    swappedStores [.Tuple ts k p] (.Tuple vs k2 p2) env = pure r := by
  have hb : (env.blockKind != .function) = false := by unfold Env.blockKind; rw [hk]; rfl
  unfold swN at h
  show (if (!(ts.length == 2 || ts.length == 3) || vs.length != ts.length || env.blockKind != ScopeKind.function) = true then (pure none : Sem (Option (List Str))) else
    if vs.any isStar = true then pure none else
    (fun ns : List Str => if (ns.length != ts.length || ns.eraseDups.length != ns.length) = true then (pure none : Sem (Option (List Str))) else
      if vs.all (foldedForSure 8) = true then pure none else
      if vs.all (constantsAlone 8) = true then (unsupported "assign.tuple-of-constant-expressions:order-of-the-stores" >>= fun (_ : Unit) => pure (some ns)) else pure (some ns))
      (ts.filterMap (nmL env.scope ((ts.head?.map (·.pos.line)).getD 0)))) = pure r
  rw [hb, Bool.or_false]
  by_cases c1 : ((ts.length == 2 || ts.length == 3) && vs.length == ts.length && !vs.any isStar) = false
  · rw [if_pos c1] at h
    cases h
    by_cases d1 : (!(ts.length == 2 || ts.length == 3) || vs.length != ts.length) = true
    · rw [if_pos d1]
    · rw [if_neg d1]
      have d2 : vs.any isStar = true := by
        cases q : vs.any isStar with
        | true => rfl
        | false =>
          exfalso
          rw [Bool.not_eq_true, Bool.or_eq_false_iff] at d1
          have a1 : (ts.length == 2 || ts.length == 3) = true := by have q := d1.1; rwa [Bool.not_eq_false'] at q
          have a2 : (vs.length == ts.length) = true := by simpa [bne] using d1.2
          rw [a1, a2, q] at c1
          cases c1
      rw [if_pos d2]
  · rw [if_neg c1] at h
    rw [Bool.not_eq_false, Bool.and_eq_true, Bool.and_eq_true] at c1
    rw [if_neg (by rw [c1.1.1]; simp [bne, c1.1.2]), if_neg (by simpa using c1.2)]
    dsimp only at h ⊢
    split at h
    · rename_i d; rw [if_pos d]; cases h; rfl
    · rename_i d; rw [if_neg d]
      split at h
      · rename_i d; rw [if_pos d]; cases h; rfl
      · rename_i d; rw [if_neg d]
        split at h
        · cases h
        · rename_i d; rw [if_neg d]; cases h; rfl
/-- what swapsWith says of a store to a name -/
def swB (sc : Scope) (x : Str) (l : Nat) : Expr → Bool
  | .ListComp _ _ s p => decide (sc.names.lookup x = some .local) && (l == p.line) && !(s.names.any fun y => y.1 == x && (y.2 == .local || y.2 == .cell))
  | .SetComp _ _ s p => decide (sc.names.lookup x = some .local) && (l == p.line) && !(s.names.any fun y => y.1 == x && (y.2 == .local || y.2 == .cell))
  | .DictComp _ _ _ s p => decide (sc.names.lookup x = some .local) && (l == p.line) && !(s.names.any fun y => y.1 == x && (y.2 == .local || y.2 == .cell))
  | _ => false
theorem swaps_eq {env : Env} {x : Str} {px : Pos} {e : Expr} {l : Nat} (hk : env.scope.kind = .function) : swapsWith e (some (.Name x px)) l env = pure (swB env.scope x px.line e) := by
  have hb : (env.blockKind == .function) = true := by unfold Env.blockKind; rw [hk]; rfl
  have hd : ∀ o : Option NameKind, (o == some NameKind.local) = decide (o = some .local) := fun o => by
    cases o with
    | none => rfl
    | some k => cases k <;> rfl
  cases e <;> first
    | rfl
    | (show (pure (env.blockKind == .function && env.scope.names.lookup x == some .local && px.line == _ && !_) : Sem Bool) = _
       rw [hb, hd]; rfl)
def isComp : Expr → Bool
  | .ListComp _ _ _ _ => true
  | .SetComp _ _ _ _ => true
  | .DictComp _ _ _ _ _ => true
  | _ => false
theorem noSwap {e : Expr} {t : Option Expr} {l : Nat} {env : Env} (h : isComp e = false) : swapsWith e t l env = pure false := by
  cases e <;> first | rfl | cases h
def isTup : Expr → Bool
  | .Tuple _ _ _ => true
  | _ => false
section
variable (nm : Nm) (N : List Str) (sc : Scope)
mutual
def isS : St → Stmt → Bool
  | .never, _ => true
  | .skip, st => match st with
    | .Pass _ => true
    | _ => false
  | .asg i e, st => match st with
    | .Assign [.Name x px] v _ => decide (N[i]? = some x) && stB true sc x && isE nm N sc e v && (match e with
      | .comp _ _ _ _ _ => true
      | .newc _ _ _ _ _ => true
      | _ => !swB sc x px.line v)
    | _ => false
  | .asgT t e, st => match st with
    | .Assign [.Tuple ts _ _] v _ => isG N true sc t (.Tuple ts 0 ⟨0, 0, 0, 0⟩) && isE nm N sc e v && !isComp v && (match v with
      | .Tuple vs _ _ => swN sc ts vs == some none
      | _ => true)
    | _ => false
  | .par2 i j a b, st => match st with
    | .Assign [.Tuple [.Name x px, .Name y py] k p] (.Tuple [l, r] _ _) _ => decide (N[i]? = some x) && decide (N[j]? = some y) && !decide (i = j) && decide (sc.names.lookup x = some .local) && decide (sc.names.lookup y = some .local) &&
        (swN sc [.Name x px, .Name y py] [l, r] == some (some [x, y])) && isE nm N sc a l && isE nm N sc b r
    | _ => false
  | .par3 i j k a b c, st => match st with
    | .Assign [.Tuple [.Name x px, .Name y py, .Name z pz] _ _] (.Tuple [l, r, q] _ _) _ => decide (N[i]? = some x) && decide (N[j]? = some y) && decide (N[k]? = some z) && !decide (i = j) && !decide (i = k) && !decide (j = k) &&
        decide (sc.names.lookup x = some .local) && decide (sc.names.lookup y = some .local) && decide (sc.names.lookup z = some .local) &&
        (swN sc [.Name x px, .Name y py, .Name z pz] [l, r, q] == some (some [x, y, z])) && isE nm N sc a l && isE nm N sc b r && isE nm N sc c q
    | _ => false
  | .aug i o e, st => match st with
    | .AugAssign (.Name x _) op v _ => decide (N[i]? = some x) && stB true sc x && decide (op = bop o) && isE nm N sc e v
    | _ => false
  | .setix i k e, st => match st with
    | .Assign [.Subscript (.Name x _) q _] v _ => decide (N[i]? = some x) && visB sc x && okN x && isE nm N sc k q && isE nm N sc e v && !isComp v
    | _ => false
  | .setd i k e, st => match st with
    | .Assign [.Subscript (.Name x _) q _] v _ => decide (N[i]? = some x) && visB sc x && okN x && isE nm N sc k q && isE nm N sc e v && !isComp v
    | _ => false
  | .setsl j o e, st => match st with
    | .Assign [.Attribute ob x _] v _ => decide (nm.sls[j]? = some x) && isE nm N sc o ob && isE nm N sc e v && !isComp v
    | _ => false
  | .app i e, st => match st with
    | .Expr (.Call (.Attribute (.Name x _) a ap) [v] [] p) _ => decide (N[i]? = some x) && visB sc x && okN x && decide (a = ("append" : Str)) && (ap.endLine == p.line) && isE nm N sc e v
    | _ => false
  | .expr e, st => match st with
    | .Expr v _ => isE nm N sc e v && !isComp v
    | _ => false
  | .ret e, st => match st with
    | .Return (some v) _ => isE nm N sc e v
    | _ => false
  | .retN, st => match st with
    | .Return none _ => true
    | _ => false
  | .ite c a b, st => match st with
    | .If t l r _ => isE nm N sc c t && tOk c && isSs a l && isSs b r
    | _ => false
  | .whl c b, st => match st with
    | .While t l [] _ => isE nm N sc c t && tOk c && isSs b l
    | _ => false
  | .loop t it b, st => match st with
    | .For tg iter l [] _ => isG N true sc t tg && isI nm N sc it tg iter && isSs b l
    | _ => false
  | .brk, st => match st with
    | .Break _ => true
    | _ => false
  | .cnt, st => match st with
    | .Continue _ => true
    | _ => false
  | _, _ => false
def isSs : St → List Stmt → Bool
  | .skip, l => l.isEmpty
  | .frzv _ b, l => isSs b l
  | .seq a b, l => match l with
    | st :: rest => isS a st && isSs b rest
    | [] => false
  | _, _ => false
end
end
end Iv
end
section
set_option autoImplicit false
set_option maxRecDepth 100000
set_option maxHeartbeats 4000000
namespace Iv
open PySem L2
section
variable {nm : Nm} {cl : Nat → Addr} {P : Prg} {cal : Cal} {n : Nat}
structure CkS (nm : Nm) (cl : Nat → Addr) (P : Prg) (cal : Cal) (n : Nat) (X : Cx) (W : WX) : Prop where
  ck : Ck nm cl P cal n X W
  kd : X.env.scope.kind = .function
  fn : ∀ x, X.fn x = true
structure SndS (nm : Nm) (cl : Nat → Addr) (P : Prg) (cal : Cal) (n : Nat) (a : St) : Prop where
  s : ∀ (X : Cx) (W : WX) (st : Stmt), CkS nm cl P cal n X W → isS nm X.N X.env.scope a st = true → PS X st (tS nm cl X W (exec P cal a))
  ss : ∀ (X : Cx) (W : WX) (l : List Stmt), CkS nm cl P cal n X W → isSs nm X.N X.env.scope a l = true → PSs X l (tS nm cl X W (exec P cal a))
theorem stB_fn {X : Cx} {W : WX} (C : CkS nm cl P cal n X W) {x : Str} (h : stB true X.env.scope x = true) : L2.Loc X.env.scope x ∧ (X.fn x = true ∨ X.env.scope.names.lookup x = some .local) :=
  ⟨(stB_d h).1, .inl (C.fn x)⟩
theorem swappedNot {e : Expr} {tg : Expr} {env : Env} (h : isTup e = false) : swappedStores [tg] e env = pure none := by
  cases tg <;> first | rfl | (cases e <;> first | rfl | cases h)
theorem isG_tup {N : List Str} {sc : Scope} {fn : Bool} {t : Tg} {ts : List Expr} {k k' : Nat} {p p' : Pos} (h : isG N fn sc t (.Tuple ts k p) = true) : isG N fn sc t (.Tuple ts k' p') = true := by
  cases t <;> first | exact h | cases h
theorem noSwapS {e : Expr} {t : Expr} {l : Nat} {env : Env} (h : isComp e = false) : swapsWithSole [t] e l env = pure false := by
  show swapsWith e (some t) l env = pure false
  exact noSwap h
theorem sndS : ∀ a : St, SndS nm cl P cal n a := by
  intro a
  induction a with
  | skip =>
    refine ⟨fun X W st C h => ?_, fun X W l C h => ?_⟩
    · cases st with
      | Pass p => exact s_pass
      | _ => cases h
    · cases l with
      | nil => exact s_skip
      | cons _ _ => cases h
  | never => exact ⟨fun X W st C h => PS.imp ps_never fun D σ H ⟨F, G, m, r, S, rl, rv, out⟩ => out.elim, fun X W l C h => (by cases h)⟩
  | seq a b ih1 ih2 =>
    refine ⟨fun X W st C h => (by cases h), fun X W l C h => ?_⟩
    cases l with
    | nil => cases h
    | cons st rest =>
      simp only [isSs, Bool.and_eq_true] at h
      exact s_seq (ih1.s X W st C h.1) (ih2.ss X W rest C h.2)
  | asg i e =>
    refine ⟨fun X W st C h => ?_, fun X W l C h => (by cases h)⟩
    unfold isS at h
    split at h
    · rename_i x px v p
      simp only [Bool.and_eq_true] at h
      obtain ⟨⟨⟨h1, h2⟩, h3⟩, h4⟩ := h
      obtain ⟨l1, l2⟩ := stB_fn C h2
      by_cases hw : swB X.env.scope x px.line v = true
      · -- stored from within a comprehension
        cases e with
        | comp own t it c y =>
          match v, h3, hw with
          | .ListComp elt [⟨tg, iter, ifs, as⟩] scope q, h3, hw =>
            simp only [isE, Bool.and_eq_true] at h3
            have : as = 0 := of_decide_eq_true h3.1.1.1.1.1.1
            subst this
            have hl : X.env.scope.names.lookup x = some .local := by
              simp only [swB, Bool.and_eq_true] at hw
              exact of_decide_eq_true hw.1.1
            exact s_asgC (snd_main it).i (snd_main c).c (snd_main y).e C.ck (of_decide_eq_true h1) hl (by rw [swaps_eq C.kd, hw]) h3.1.1.1.1.1.2 h3.1.1.1.1.2 h3.1.1.1.2 h3.1.1.2 h3.1.2 h3.2
        | newc own t it c y =>
          match v, h3, hw with
          | .ListComp elt [⟨tg, iter, ifs, as⟩] scope q, h3, hw =>
            simp only [isE, Bool.and_eq_true] at h3
            have : as = 0 := of_decide_eq_true h3.1.1.1.1.1.1
            subst this
            have hl : X.env.scope.names.lookup x = some .local := by
              simp only [swB, Bool.and_eq_true] at hw
              exact of_decide_eq_true hw.1.1
            exact s_asgN (snd_main it).i (snd_main c).c (snd_main y).e C.ck (of_decide_eq_true h1) hl (by rw [swaps_eq C.kd, hw]) h3.1.1.1.1.1.2 h3.1.1.1.1.2 h3.1.1.1.2 h3.1.1.2 h3.1.2 h3.2
        | _ => rw [hw] at h4; cases h4
      · exact s_asg C.ck (of_decide_eq_true h1) l1 l2 (by rw [swaps_eq C.kd, Bool.not_eq_true _ |>.mp hw]) ((snd_main e).e X W v C.ck h3)
    · cases h
  | asgT t e =>
    refine ⟨fun X W st C h => ?_, fun X W l C h => (by cases h)⟩
    unfold isS at h
    split at h
    · rename_i ts k q v p
      simp only [Bool.and_eq_true] at h
      obtain ⟨⟨⟨h1, h2⟩, h3⟩, h4⟩ := h
      have h3' : isComp v = false := by simpa using h3
      refine s_asgT (g_tg C.ck.calm C.ck.nodup (fun _ => C.fn) t _ (isG_tup h1)) (noSwapS h3') ?_ rfl ((snd_main e).e X W v C.ck h2)
      cases v with
      | Tuple vs k2 p2 => exact swapped_eq C.kd (eq_of_beq h4)
      | _ => rfl
    · cases h
  | par2 i j a b =>
    refine ⟨fun X W st C h => ?_, fun X W l C h => (by cases h)⟩
    unfold isS at h
    split at h
    · rename_i x px y py k q l r k2 q2 p
      simp only [Bool.and_eq_true] at h
      obtain ⟨⟨⟨⟨⟨⟨⟨h1, h2⟩, h3⟩, h4⟩, h5⟩, h6⟩, h7⟩, h8⟩ := h
      exact s_par2 C.ck (of_decide_eq_true h1) (of_decide_eq_true h2) (by simpa using h3) (of_decide_eq_true h4) (of_decide_eq_true h5) (swapped_eq C.kd (eq_of_beq h6)) h7 h8 ((snd_main a).e X W l C.ck h7) ((snd_main b).e X W r C.ck h8)
    · cases h
  | par3 i j k a b c =>
    refine ⟨fun X W st C h => ?_, fun X W l C h => (by cases h)⟩
    unfold isS at h
    split at h
    · rename_i x px y py z pz k q l r o k2 q2 p
      simp only [Bool.and_eq_true] at h
      obtain ⟨⟨⟨⟨⟨⟨⟨⟨⟨⟨⟨⟨h1, h2⟩, h3⟩, h4⟩, h5⟩, h6⟩, h7⟩, h8⟩, h9⟩, h10⟩, h11⟩, h12⟩, h13⟩ := h
      exact s_par3 C.ck (of_decide_eq_true h1) (of_decide_eq_true h2) (of_decide_eq_true h3) (by simpa using h4) (by simpa using h5) (by simpa using h6) (of_decide_eq_true h7) (of_decide_eq_true h8) (of_decide_eq_true h9) (swapped_eq C.kd (eq_of_beq h10)) h11 h12 h13 ((snd_main a).e X W l C.ck h11) ((snd_main b).e X W r C.ck h12) ((snd_main c).e X W o C.ck h13)
    · cases h
  | aug i o e =>
    refine ⟨fun X W st C h => ?_, fun X W l C h => (by cases h)⟩
    unfold isS at h
    split at h
    · rename_i x px op v p
      simp only [Bool.and_eq_true] at h
      obtain ⟨⟨⟨h1, h2⟩, h3⟩, h4⟩ := h
      obtain ⟨l1, l2⟩ := stB_fn C h2
      have : op = bop o := of_decide_eq_true h3
      subst this
      exact s_aug C.ck (of_decide_eq_true h1) l1 l2 ((snd_main e).e X W v C.ck h4)
    · cases h
  | setix i k e =>
    refine ⟨fun X W st C h => ?_, fun X W l C h => (by cases h)⟩
    unfold isS at h
    split at h
    · rename_i x px q pq v p
      simp only [Bool.and_eq_true] at h
      obtain ⟨⟨⟨⟨⟨h1, h2⟩, h3⟩, h4⟩, h5⟩, h6⟩ := h
      have h6' : isComp v = false := by simpa using h6
      refine s_setix (of_decide_eq_true h1) h2 h3 (noSwapS h6') ?_ ?_ ((snd_main e).e X W v C.ck h5) ((snd_main k).e X W q C.ck h4)
      · rfl
      · intro u
        cases q with
        | Slice _ _ _ _ => cases k <;> cases h4
        | _ => rfl
    · cases h
  | setd i k e =>
    refine ⟨fun X W st C h => ?_, fun X W l C h => (by cases h)⟩
    unfold isS at h
    split at h
    · rename_i x px q pq v p
      simp only [Bool.and_eq_true] at h
      obtain ⟨⟨⟨⟨⟨h1, h2⟩, h3⟩, h4⟩, h5⟩, h6⟩ := h
      have h6' : isComp v = false := by simpa using h6
      refine s_setd C.ck (of_decide_eq_true h1) h2 h3 (noSwapS h6') ?_ ?_ ((snd_main e).e X W v C.ck h5) ((snd_main k).e X W q C.ck h4)
      · rfl
      · intro u
        cases q with
        | Slice _ _ _ _ => cases k <;> cases h4
        | _ => rfl
    · cases h
  | setsl j o e =>
    refine ⟨fun X W st C h => ?_, fun X W l C h => (by cases h)⟩
    unfold isS at h
    split at h
    · rename_i ob x px v p
      simp only [Bool.and_eq_true] at h
      obtain ⟨⟨⟨h1, h2⟩, h3⟩, h4⟩ := h
      have h4' : isComp v = false := by simpa using h4
      exact s_setsl C.ck (of_decide_eq_true h1) (noSwap h4') ((snd_main o).e X W ob C.ck h2) ((snd_main e).e X W v C.ck h3)
    · cases h
  | frzv i b ih =>
    refine ⟨fun X W st C h => (by cases h), fun X W l C h => ?_⟩
    have h' : isSs nm X.N X.env.scope b l = true := h
    exact s_frzv (ih.ss X W l C h')
  | app i e =>
    refine ⟨fun X W st C h => ?_, fun X W l C h => (by cases h)⟩
    unfold isS at h
    split at h
    · rename_i x px a ap v q p
      simp only [Bool.and_eq_true] at h
      obtain ⟨⟨⟨⟨⟨h1, h2⟩, h3⟩, h4⟩, h5⟩, h6⟩ := h
      have : a = ("append" : Str) := of_decide_eq_true h4
      subst this
      exact s_app (of_decide_eq_true h1) h2 h3 h5 h6 ((snd_main e).e X W v C.ck h6)
    · cases h
  | expr e =>
    refine ⟨fun X W st C h => ?_, fun X W l C h => (by cases h)⟩
    cases st with
    | Expr v p =>
      simp only [isS, Bool.and_eq_true] at h
      have h6' : isComp v = false := by simpa using h.2
      exact s_expr (noSwap h6') ((snd_main e).e X W v C.ck h.1)
    | _ => cases h
  | ret e =>
    refine ⟨fun X W st C h => ?_, fun X W l C h => (by cases h)⟩
    unfold isS at h
    split at h
    · rename_i v p
      exact s_ret ((snd_main e).e X W v C.ck h)
    · cases h
  | retN =>
    refine ⟨fun X W st C h => ?_, fun X W l C h => (by cases h)⟩
    unfold isS at h
    split at h
    · rename_i p
      exact s_retN
    · cases h
  | ite c a b ih1 ih2 =>
    refine ⟨fun X W st C h => ?_, fun X W l C h => (by cases h)⟩
    cases st with
    | If t l r p =>
      simp only [isS, Bool.and_eq_true] at h
      obtain ⟨⟨⟨h1, h2⟩, h3⟩, h4⟩ := h
      exact s_ite ((snd_main c).t X W t C.ck h1 h2) (ih1.ss X W l C h3) (ih2.ss X W r C h4)
    | _ => cases h
  | whl c b ih =>
    refine ⟨fun X W st C h => ?_, fun X W l C h => (by cases h)⟩
    unfold isS at h
    split at h
    · rename_i t l p
      simp only [Bool.and_eq_true] at h
      exact s_whl C.ck ((snd_main c).t X W t C.ck h.1.1 h.1.2) (ih.ss X W l C h.2)
    · cases h
  | loop t it b ih =>
    refine ⟨fun X W st C h => ?_, fun X W l C h => (by cases h)⟩
    unfold isS at h
    split at h
    · rename_i tg iter l p
      simp only [Bool.and_eq_true] at h
      obtain ⟨q1, q2⟩ := (snd_main it).i X W tg iter C.ck h.1.2
      exact s_loop C.ck q1 q2 (g_tg C.ck.calm C.ck.nodup (fun _ => C.fn) t _ h.1.1) (ih.ss X W l C h.2)
    · cases h
  | brk =>
    refine ⟨fun X W st C h => ?_, fun X W l C h => (by cases h)⟩
    cases st with
    | Break p => exact s_brk
    | _ => cases h
  | cnt =>
    refine ⟨fun X W st C h => ?_, fun X W l C h => (by cases h)⟩
    cases st with
    | Continue p => exact s_cnt
    | _ => cases h
  | rse c es => exact ⟨fun X W st C h => (by cases h), fun X W l C h => (by cases h)⟩
  | tri b c i h ih1 ih2 => exact ⟨fun X W st C h => (by cases h), fun X W l C h => (by cases h)⟩
end
end Iv
end
section
set_option autoImplicit false
set_option maxRecDepth 100000
set_option maxHeartbeats 4000000
namespace Iv
open PySem L2
/-! ### calls -/
theorem rlv_start {K : Fg} {G : Hp} {m : List Addr} {vs : List Vl} {us : List V} {N : List Str} {k : Nat} (r : RVs K G m vs us) (hk : k + us.length = N.length) : RlV K G m (vs.map some ++ List.replicate k none) (L2.start N us) := by
  have hl := r.length
  unfold L2.start
  refine ⟨by simp; omega, fun i v e n => ?_⟩
  by_cases hi : i < vs.length
  · rw [List.getElem?_append_left (by simpa using hi), List.getElem?_map] at e
    cases h : vs[i]? with
    | none => rw [h] at e; cases e
    | some w =>
      rw [h] at e; cases e
      have : ∃ u, us[i]? = some u ∧ RepV K G m v u := by
        clear hl hk n hi
        induction r generalizing i with
        | nil => simp at h
        | cons q r ih =>
          cases i with
          | zero => simp at h; subst h; exact ⟨_, rfl, q⟩
          | succ i => simpa using ih i (by simpa using h)
      obtain ⟨u, h1, h2⟩ := this
      exact ⟨u, by rw [List.getElem?_append_left (by simp; omega), List.getElem?_map, h1]; rfl, h2⟩
  · rw [List.getElem?_append_right (by simp; omega)] at e
    exfalso
    rw [List.getElem?_replicate] at e
    split at e <;> cases e
/-! ### a def's object, looked at -/
def pnames (p : Arguments) : List Str := p.args.map (·.arg) ++ (match p.vararg with | some a => [a.arg] | none => [])
def plainP (p : Arguments) : Bool := p.posonlyargs.isEmpty && p.kwonlyargs.isEmpty && p.kwarg.isNone
def scOk (N ps : List Str) (sc : Scope) : Bool := decide (sc.kind = .function) && !sc.isCoroutine && !sc.isGenerator && decide (N.Nodup) && decide (N.take ps.length = ps) &&
  ps.all (fun x => decide (sc.names.lookup x = some .local) || decide (sc.names.lookup x = some .cell)) && sc.names.all fun y => !decide (y.2 = .free)
theorem scOk_d {N ps : List Str} {sc : Scope} (h : scOk N ps sc = true) : FnScope N ps sc := by
  unfold scOk at h
  simp only [Bool.and_eq_true, decide_eq_true_eq, Bool.not_eq_true'] at h
  obtain ⟨⟨⟨⟨⟨⟨h1, h2⟩, h3⟩, h4⟩, h5⟩, h6⟩, h7⟩ := h
  refine ⟨h1, h2, h3, h4, h5, fun x hx => ?_, fun y hy => ?_⟩
  · have := List.all_eq_true.mp h6 x hx
    simpa using this
  · have := List.all_eq_true.mp h7 y hy
    simpa using this
/-- the def at a is the def fn -/
def okFn (nm : Nm) (K : PySem.W.Frag) (fn : Fn) (N : List Str) (a : Addr) : Bool := match K.lookup a with
  | some ⟨_, _, .func fd, _⟩ => match fd.body with
    | .stmts body => decide (fd.globals = mainGlobals) && fd.closure.isEmpty && decide (fd.builtins = builtinsNs) && PySem.W.codeIn K fd.code fd.qualname && plainP fd.params && scOk N (pnames fd.params) fd.scope &&
      decide ((pnames fd.params).length = fn.np) && decide (N.length = fn.ns) && decide (fn.np ≤ fn.ns) && isSs nm N fd.scope fn.body body
    | _ => false
  | _ => false
section
variable {nm : Nm} {cl : Nat → Addr} {P : Prg} {fns : List Fn} {n : Nat} {prog : Program} {w : World} {K : PySem.W.Frag} {mg : Str → Option Value} {base : Heap}
/-- the promise of the whole arguments -/
def spR (nm : Nm) (mg : Str → Option Value) (K : Fg) (P : Prg) (cal : Cal) (fn : Fn) : Sp := fun us H Q E => us.length = fn.np ∧
  ∃ (F G : Hp) (m : List Addr) (vs : List Vl) (S : Hs), Rl K F G m S H ∧ RVs K G m vs us ∧ OutV nm.excs mg K (fun cls d _ H => E cls d H) F [] G m Q (runF P cal fn vs S)
/-- what the body does -/
theorem body_sound {fn : Fn} {N ps : List Str} {body : List Stmt} {qual : Str} {scope : Scope} {a : Addr} {cal : Cal} (M : Md nm cl P cal n prog w K mg base) (S : FnScope N ps scope) (h1 : fn.np ≤ fn.ns) (h2 : fn.ns = N.length) (hb : isSs nm N scope fn.body body = true)
    (cdv : Value) (A : Around) (outer : List Env) (s : Shared) (H : Hp) (vs : List V) (Q : VK) (E : XK) (hr : Room (3 * n + 2) (A.deeper (PyProof.Rows.envOfC qual scope s.heap.objs.size a cdv))) (h : spR nm mg ⟨K, cl⟩ P cal fn vs H Q E) :
    ∃ t, PSs (cxOf (L2.CX prog w) prog w K mg base N qual scope a cdv A outer s H E) body t ∧ t { nx := fun _ H' => Q .non H', rt := Q } (start N vs) H := by
  obtain ⟨hl, F0, G, m, ds, S0, l0, rv0, out⟩ := h
  let X : Cx := cxOf (L2.CX prog w) prog w K mg base N qual scope a cdv A outer s H E
  have ck : CkS nm cl P cal n X (fun cls d _ H => E cls d H) := ⟨⟨rfl, S.nd, takes_of rfl rfl rfl rfl, passes_of rfl, hr, M⟩, S.kind, fun _ => rfl⟩
  refine ⟨tS nm cl X (fun cls d _ H => E cls d H) (exec P cal fn.body), (sndS fn.body).ss X _ body ck hb, ?_⟩
  have hd : ds.length = fn.np := by rw [rv0.length]; exact hl
  refine ⟨F0, G, m, ds.map some ++ List.replicate (fn.ns - fn.np) none, S0, l0, rlv_start rv0 (by rw [hl, ← h2]; omega), ?_⟩
  simp only [runF, hd, if_true] at out
  have hm : S0.length = m.length := l0.len.symm
  cases e : exec P cal fn.body (ds.map some ++ List.replicate (fn.ns - fn.np) none) S0 with
  | nx r1 S1 =>
    rw [e] at out
    simp only [fin, hm] at out
    exact fun G' m' σ' H' g l1 rv1 => out G' _ H' .non g.take (l1.take _) .non
  | ret v S1 =>
    rw [e] at out
    cases v with
    | d d =>
      simp only [fin, hm] at out
      exact fun G' m' H' u g l1 r1 => out G' _ H' u g.take (l1.take _) r1
    | loc k =>
      simp only [fin] at out
      exact fun G' m' H' u g l1 r1 => out G' m' H' u g l1 r1
    | xc c fs =>
      simp only [fin] at out
      exact fun G' m' H' u g l1 r1 => out G' m' H' u g l1 r1
  | brk r1 S1 => rw [e] at out; exact out.elim
  | cnt r1 S1 => rw [e] at out; exact out.elim
  | exc c fs r1 S1 =>
    rw [e] at out
    simp only [fin, hm] at out
    exact fun G' m' σ' H' cls d g l1 rv1 rx => out G' _ H' cls d g.take (l1.take _) rx
  | bad => rw [e] at out; exact out.elim
/-- what okFn says -/
theorem okFn_d {fn : Fn} {N : List Str} {a : Addr} (h : okFn nm K fn N a = true) : ∃ (oc : Value) (od : Option Addr) (name qual : Str) (params : Arguments) (body : List Stmt) (scope : Scope) (dV kV doc pm : Value) (an : Option Addr) (cdv ct : Value) (osl : Array (Option Value)),
    K.lookup a = some ⟨oc, od, .func (PySem.W.fnOf name qual params body scope dV kV doc pm an cdv ct), osl⟩ ∧ PySem.W.codeIn K cdv qual = true ∧ plainP params = true ∧ FnScope N (pnames params) scope ∧ (pnames params).length = fn.np ∧ N.length = fn.ns ∧ fn.np ≤ fn.ns ∧ isSs nm N scope fn.body body = true := by
  unfold okFn at h
  split at h
  · rename_i oc od fd osl hk
    obtain ⟨name, qual, params, fb, scope, globals, closure, dV, kV, doc, pm, an, cdv, ct, bi⟩ := fd
    dsimp only at h
    split at h
    · rename_i fb0 body
      simp only [Bool.and_eq_true, decide_eq_true_eq, List.isEmpty_iff] at h
      obtain ⟨⟨⟨⟨⟨⟨⟨⟨⟨h1, h2⟩, h3⟩, h4⟩, h5⟩, h6⟩, h7⟩, h8⟩, h9⟩, h10⟩ := h
      subst h1; subst h2; subst h3

      exact ⟨oc, od, name, qual, params, body, scope, dV, kV, doc, pm, an, cdv, ct, osl, hk, h4, h5, scOk_d h6, h7, h8, h9, h10⟩
    · cases h
  · cases h
/-! ### how the arguments come -/
theorem lookup_zip : ∀ {ps : List Str} {us : List Value} {x : Str} {u : Value} {j : Nat}, ps.Nodup → ps[j]? = some x → us[j]? = some u → (ps.zip us).lookup x = some u
  | [], _, _, _, _, _, e, _ => by simp at e
  | p :: ps, [], _, _, j, _, _, e => by simp at e
  | p :: ps, v :: us, x, u, 0, _, e1, e2 => by
    simp at e1 e2; subst e1; subst e2
    simp [List.lookup]
  | p :: ps, v :: us, x, u, j + 1, nd, e1, e2 => by
    rw [List.nodup_cons] at nd
    have hx : ps[j]? = some x := by simpa using e1
    have ne : x ≠ p := fun e => nd.1 (e ▸ List.mem_of_getElem? hx)
    rw [List.zip_cons_cons, List.lookup_cons, beq_eq_false_iff_ne.mpr ne]
    exact lookup_zip nd.2 hx (by simpa using e2)
theorem filter_zip : ∀ (qs ps : List Str) (us ws : List Value), (∀ (j : Nat) (x : Str) (u : Value), qs[j]? = some x → ws[j]? = some u → (ps.zip us).lookup x = some u) → qs.length = ws.length → (qs.filterMap fun x => ((ps.zip us).lookup x).map (x, ·)) = qs.zip ws
  | [], _, _, [], _, _ => rfl
  | [], _, _, _ :: _, _, h => by simp at h
  | _ :: _, _, _, [], _, h => by simp at h
  | q :: qs, ps, us, v :: ws, h, hl => by
    have h0 := h 0 q v rfl rfl
    rw [List.filterMap_cons, h0]
    simp only [Option.map_some]
    rw [filter_zip qs ps us ws (fun j x u e1 e2 => h (j + 1) x u (by simpa using e1) (by simpa using e2)) (by simpa using hl)]
    rfl
theorem missing_zip {qs ps : List Str} {us : List Value} (nd : ps.Nodup) (hl : ps.length ≤ us.length) (hq : ∀ x ∈ qs, x ∈ ps) : (qs.filter fun x => ((ps.zip us).lookup x).isNone) = [] := by
  rw [List.filter_eq_nil_iff]
  intro x hx
  obtain ⟨j, hj⟩ := List.mem_iff_getElem?.mp (hq x hx)
  have hjl : j < us.length := Nat.lt_of_lt_of_le (List.getElem?_eq_some_iff.mp hj).1 hl
  rw [lookup_zip nd hj (List.getElem?_eq_getElem hjl)]
  simp
theorem binds_all {name qual : Str} {params : Arguments} {body : List Stmt} {scope : Scope} {kV doc pm cdv ct : Value} {an : Option Addr} (hp : plainP params = true) (hv : params.vararg = none) (nd : (params.args.map (·.arg)).Nodup) (us : List Value) (hl : us.length = (params.args.map (·.arg)).length) :
    bindArgs (PySem.W.fnOf name qual params body scope .none kV doc pm an cdv ct) ⟨us, []⟩ = pure ((params.args.map (·.arg)).zip us) := by
  unfold plainP at hp
  simp only [Bool.and_eq_true, List.isEmpty_iff, Option.isNone_iff_eq_none] at hp
  obtain ⟨⟨h1, h2⟩, h3⟩ := hp
  unfold bindArgs
  simp only [PySem.W.fnOf, h1, h2, h3, hv, List.map_nil, List.nil_append, List.append_nil]
  generalize params.args.map (·.arg) = ps at nd hl ⊢
  have hn : ¬ (ps.length < us.length) := by omega
  have e1 : (ps.filter fun n => ((ps.zip us).lookup n).isNone) = [] := missing_zip nd (by omega) fun x hx => hx
  have e2 := filter_zip ps ps us us (fun j x u f1 f2 => lookup_zip nd f1 f2) hl.symm
  have e3 : (notAStandIn Value.none : Sem Unit) = pure () := rfl
  have e4 : (ps.take ps.length) = ps := List.take_length
  simp [seqItems?, hn, e1, e2, e3, e4]
theorem binds_dfl {name qual : Str} {params : Arguments} {body : List Stmt} {scope : Scope} {kV doc pm cdv ct d : Value} {an : Option Addr} {T : Addr} {o : Obj} {k : Nat} {qs : List Str} {q : Str} (hp : plainP params = true) (hv : params.vararg = none) (hps : params.args.map (·.arg) = qs ++ [q]) (nd : (qs ++ [q]).Nodup)
    (lT : K.lookup T = some o) (oT : o.data = .seq #[d] k) (s : Shared) (X : K.In s.heap) (us ws : List Value) (hw : (us.length = qs.length + 1 ∧ ws = us) ∨ (us.length = qs.length ∧ ws = us ++ [d])) :
    BindsTo s (PySem.W.fnOf name qual params body scope (.ref T) kV doc pm an cdv ct) ⟨us, []⟩ ((qs ++ [q]).zip ws) := by
  unfold plainP at hp
  simp only [Bool.and_eq_true, List.isEmpty_iff, Option.isNone_iff_eq_none] at hp
  obtain ⟨⟨h1, h2⟩, h3⟩ := hp
  refine BindsTo.of_looks fun M => ?_
  unfold bindArgs
  simp only [PySem.W.fnOf, h1, h2, h3, hv, List.map_nil, List.nil_append, List.append_nil, hps]
  have hlw : ws.length = qs.length + 1 := by rcases hw with ⟨a, rfl⟩ | ⟨a, rfl⟩ <;> simp [a]
  have hn : ¬ ((qs ++ [q]).length < us.length) := by rcases hw with ⟨a, _⟩ | ⟨a, _⟩ <;> simp [a]
  have e1 : (qs.filter fun n => (((qs ++ [q]).zip us).lookup n).isNone) = [] := by
    rw [List.filter_eq_nil_iff]
    intro x hx
    obtain ⟨j, hj⟩ := List.mem_iff_getElem?.mp hx
    have hjq : j < qs.length := (List.getElem?_eq_some_iff.mp hj).1
    have hjl : j < us.length := by rcases hw with ⟨a, _⟩ | ⟨a, _⟩ <;> omega
    rw [lookup_zip nd (j := j) (by rw [List.getElem?_append_left hjq]; exact hj) (List.getElem?_eq_getElem hjl)]
    simp
  have e2 := filter_zip (qs ++ [q]) (qs ++ [q]) ws ws (fun j x u f1 f2 => lookup_zip nd f1 f2) (by simp [hlw])
  simp only [List.forIn_nil, pure_bind]
  refine looks_items X lT oT (PySem.W.Looks.of_pure ?_)
  simp only [Option.getD_some]
  have e5 : (qs ++ [q]).take ((qs ++ [q]).length - 1) = qs := by simp
  have e6 : (qs ++ [q]).drop ((qs ++ [q]).length - 1) = [q] := by simp
  have e7 : ([d] : List Value).drop (1 - (qs ++ [q]).length) = [d] := by simp
  have hn' : ¬ (qs.length + 1 < us.length) := by simpa using hn
  rcases hw with ⟨a, e⟩ | ⟨a, e⟩
  · rw [e] at e2 ⊢
    have lq : (((qs ++ [q]).zip us).lookup q) = some (us[qs.length]'(by omega)) := lookup_zip nd (j := qs.length) (by simp) (List.getElem?_eq_getElem (by omega))
    simp [-List.filterMap_append, hn', e1, e2, e5, e6, e7, lq]
  · rw [e] at e2 ⊢
    have lq : (((qs ++ [q]).zip us).lookup q) = none := by
      rw [show (qs ++ [q]).zip us = qs.zip us by
        rw [← List.append_nil us, List.zip_append a.symm]; simp]
      rw [List.nodup_append] at nd
      have hq : q ∉ qs := fun hm => nd.2.2 q hm q (by simp) rfl
      clear e1 e2 e5 e6 e7 hn hn' hlw hps nd a e
      induction qs generalizing us with
      | nil => rfl
      | cons p qs ih =>
        cases us with
        | nil => rfl
        | cons u us =>
          rw [List.zip_cons_cons, List.lookup_cons, beq_eq_false_iff_ne.mpr (fun e => hq (by simp [e]))]
          exact ih us fun hm => hq (List.mem_cons_of_mem _ hm)
    have ez : (qs ++ [q]).zip us ++ [(q, d)] = (qs ++ [q]).zip (us ++ [d]) := by
      rw [show (qs ++ [q]).zip us = qs.zip us by
        rw [← List.append_nil us, List.zip_append a.symm]; simp]
      rw [List.zip_append a.symm]; rfl
    simp [-List.filterMap_append, hn', e1, e5, e6, e7, lq, ez, e2]
theorem binds_star {name qual : Str} {params : Arguments} {body : List Stmt} {scope : Scope} {kV doc pm cdv ct : Value} {an : Option Addr} {pa : Str} {va : Arg} (hp : plainP params = true) (hv : params.vararg = some va) (hps : params.args.map (·.arg) = [pa]) (u : Value) (rest : List Value) :
    bindArgs (PySem.W.fnOf name qual params body scope .none kV doc pm an cdv ct) ⟨u :: rest, []⟩ = (newTuple rest >>= fun t => pure [(pa, u), (va.arg, t)]) := by
  unfold plainP at hp
  simp only [Bool.and_eq_true, List.isEmpty_iff, Option.isNone_iff_eq_none] at hp
  obtain ⟨⟨h1, h2⟩, h3⟩ := hp
  unfold bindArgs
  simp only [PySem.W.fnOf, h1, h2, h3, hv, List.map_nil, List.nil_append, List.append_nil, hps]
  have e3 : (notAStandIn Value.none : Sem Unit) = pure () := rfl
  simp [seqItems?, e3, List.lookup]
/-! ### static data -/
def repS (K : PySem.W.Frag) : D → Value → Bool
  | .non, .none => true
  | .bl b, .bool c => b == c
  | .int i, .int j _ => decide (i = j)
  | .str s, .str x _ => decide (x = S' s) && s.all fun c => decide (c < 1114112)
  | .ptp [], .ref b => match K.lookup b with
    | some ⟨.type t, none, .seq its _, _⟩ => decide (t = "tuple") && its.isEmpty
    | _ => false
  | _, _ => false
theorem repS_d {d : D} {u : Value} (h : repS K d u = true) : ∃ v, RelV v u ∧ ∀ G, Rep ⟨K, cl⟩ G d v := by
  unfold repS at h
  split at h
  · exact ⟨.non, rfl, fun _ => .non⟩
  · rename_i b c
    have e := eq_of_beq h
    subst e
    exact ⟨.bl b, rfl, fun _ => .bl b⟩
  · rename_i i j t
    have e : i = j := of_decide_eq_true h
    subst e
    exact ⟨.int i, ⟨t, rfl⟩, fun _ => .int i⟩
  · rename_i s x t
    rw [Bool.and_eq_true] at h
    have e : x = S' s := of_decide_eq_true h.1
    subst e
    exact ⟨.str (S' s), ⟨t, rfl⟩, fun _ => .str s fun c hc => by simpa using List.all_eq_true.mp h.2 c hc⟩
  · rename_i b
    split at h
    · rename_i t its k sl hk
      rw [Bool.and_eq_true] at h
      have e : t = "tuple" := of_decide_eq_true h.1
      subst e
      have hi : its = #[] := by simpa using h.2
      subst hi
      exact ⟨.ref b, rfl, fun _ => .ptp ⟨_, [], k, .inr ⟨hk, .nil⟩, rfl, rfl, rfl, by simp⟩ .nil⟩
    · cases h
  · cases h
/-- the arguments of the def at a come so -/
def okAd (K : PySem.W.Frag) (ad : Ad) (a : Addr) : Bool := match K.lookup a with
  | some ⟨_, _, .func fd, _⟩ => match ad with
    | .all => fd.params.vararg.isNone && (match fd.defaults with
      | .none => true
      | .ref T => match K.lookup T with
        | some ⟨_, _, .seq its _, _⟩ => decide (its.size = 1) && !fd.params.args.isEmpty
        | _ => false
      | _ => false)
    | .dfl ds => fd.params.vararg.isNone && (match fd.defaults with
      | .ref T => match K.lookup T with
        | some ⟨_, _, .seq its _, _⟩ => !fd.params.args.isEmpty && (match ds, its.toList with
          | [d], [u] => repS K d u
          | _, _ => false)
        | _ => false
      | _ => false)
    | .star => match fd.defaults with
      | .none => fd.params.vararg.isSome && decide (fd.params.args.length = 1)
      | _ => false
  | _ => false
theorem cx_new : CXNew (L2.CX prog w) := by
  intro outer s H h2 p rest E e s' kp hp hn c
  obtain ⟨a, B, H', cls, d, q1, q2, q3, q4, q5, q6, q7, q8⟩ := c
  have ne : ∀ b o, s.heap.get? b = some o → b ≠ p := fun b o e => Nat.ne_of_lt (Nat.lt_of_lt_of_le (Heap.lt_size e) hp)
  have nh : ∀ b o, H b = some o → upd H p (.tup rest) b = some o := fun b o e => by rw [upd_ne (ne_of_none e hn)]; exact e
  refine ⟨a, B, H', cls, d, q1, q2, q3, ⟨fun b o e1 e2 => q4.keep b o (kp b o e1) (by rw [upd_ne (ne b o e1)]; exact e2), fun b o e1 => q4.slot b o (kp b o e1), fun b o e1 e2 => q4.free b o (kp b o e1) (by rw [upd_ne (ne b o e1)]; exact e2), fun b o e1 => q4.there b o (kp b o e1),
    fun b xs e1 => q4.tups b xs (nh _ _ e1), fun b o xs e1 => q4.frzs b o xs (nh _ _ e1), fun b ps e1 => q4.tbls b ps (nh _ _ e1)⟩, q5, q6, q7, q8⟩
theorem Paired.split {α β : Type} {R : α → β → Prop} : ∀ {as : List α} {bs : List β} {cs : List α} {ds : List β}, Paired R as bs → Paired R cs ds → Paired R (as ++ cs) (bs ++ ds)
  | _, _, _, _, .nil, h => h
  | _, _, _, _, .cons h t, q => .cons h (Paired.split t q)
theorem reps_rvs {K : Fg} {G : Hp} {m : List Addr} : ∀ {ds : List D} {vs : List V}, Reps K G ds vs → RVs K G m (ds.map .d) vs
  | _, _, .nil => .nil
  | _, _, .cons h t => .cons h (reps_rvs t)
/-- from the object of a def to what a call of it does -/
theorem fn_R {f : Nat} {fn : Fn} {N : List Str} {a : Addr} (M : Md nm cl P (call P fns n) n prog w K mg base) (hf : fns[f]? = some fn) (h : okFn nm K fn N a = true) (ha : okAd K fn.ad a = true) :
    FnR prog w K mg base (L2.CX prog w) (3 * (n + 1)) a (spC nm mg ⟨K, cl⟩ (call P fns (n + 1) f)) := by
  obtain ⟨oc, od, name, qual, params, body, scope, dV, kV, doc, pm, an, cdv, ct, osl, lk, hcd, hpl, S, h7, h8, h9, h10⟩ := okFn_d h
  unfold okAd at ha
  rw [lk] at ha
  dsimp only at ha
  have hcall : ∀ vs S', call P fns (n + 1) f vs S' = match adapt fn.ad fn.np vs with
      | some ws => runF P (call P fns n) fn ws S'
      | none => .bad := fun vs S' => by first | (simp only [call, hf]; done) | (simp only [call, hf]; rfl)
  have F : FnOk prog w K mg base (L2.CX prog w) (3 * n + 3) a (PySem.W.fnOf name qual params body scope dV kV doc pm an cdv ct) (pnames params) (spR nm mg ⟨K, cl⟩ P (call P fns n) fn) :=
    fn_of (k := 3 * n + 2) lk hcd S (fun vs H Q E q => by rw [h7]; exact q.1) fun A outer s H vs Q E hr q => body_sound M S h9 h8.symm h10 cdv A outer s H vs Q E hr q
  have runLen : ∀ {ws : List Vl} {S' : Hs} {σ : L2.St} {F G : Hp} {m : List Addr} {Q : VK} {W : WX}, OutV nm.excs mg ⟨K, cl⟩ W F σ G m Q (runF P (call P fns n) fn ws S') → ws.length = fn.np := fun {ws S' σ F G m Q W} o => by
    by_cases e : ws.length = fn.np
    · exact e
    · simp only [runF, e, if_false] at o; exact o.elim
  cases had : fn.ad with
  | all =>
    rw [had] at ha
    simp only [Bool.and_eq_true, Option.isNone_iff_eq_none] at ha
    have hpn : pnames params = params.args.map (·.arg) := by unfold pnames; rw [ha.1]; simp
    have nd : (params.args.map (·.arg)).Nodup := by
      have := S.pre
      rw [← hpn, ← S.pre]
      exact (List.take_sublist _ _).nodup S.nd
    have bnd : Binds K (PySem.W.fnOf name qual params body scope dV kV doc pm an cdv ct) (pnames params) [] := by
      intro s us X hl
      rw [List.append_nil] at hl ⊢
      rw [hpn] at hl ⊢
      have h2 := ha.2
      cases dV with
      | none => exact .of_eq (binds_all hpl ha.1 nd us hl)
      | ref T =>
        dsimp only at h2
        split at h2
        · rename_i oc' od' its k sl hT
          simp only [Bool.and_eq_true, decide_eq_true_eq, Bool.not_eq_true', List.isEmpty_eq_false_iff] at h2
          obtain ⟨d, hd⟩ : ∃ d, its = #[d] := by
            obtain ⟨l⟩ := its
            match l, h2.1 with
            | [d], _ => exact ⟨d, rfl⟩
          subst hd
          have hne : params.args.map (·.arg) ≠ [] := by simpa using h2.2
          obtain ⟨qs, q, hq⟩ : ∃ qs q, params.args.map (·.arg) = qs ++ [q] := ⟨_, _, (List.dropLast_concat_getLast hne).symm⟩
          rw [hq] at hl nd ⊢
          exact binds_dfl hpl ha.1 hq nd hT rfl s X us us (.inl ⟨by simpa using hl, rfl⟩)
        · cases h2
      | _ => cases h2
    refine (F.raw bnd .nil).mono (by omega) |>.imp fun vs H Q E ⟨F0, G, m, ds, S', l, r, out⟩ => ?_
    rw [hcall, had] at out
    simp only [adapt] at out
    have hl := runLen out
    refine ⟨by rw [List.append_nil, ← r.length]; exact hl, F0, G, m, ds, S', l, by rw [List.append_nil]; exact r, out⟩
  | dfl ds0 =>
    rw [had] at ha
    simp only [Bool.and_eq_true, Option.isNone_iff_eq_none] at ha
    have hpn : pnames params = params.args.map (·.arg) := by unfold pnames; rw [ha.1]; simp
    have nd : (params.args.map (·.arg)).Nodup := by
      rw [← hpn, ← S.pre]
      exact (List.take_sublist _ _).nodup S.nd
    have h2 := ha.2
    cases dV with
    | ref T =>
      dsimp only at h2
      split at h2
      · rename_i oc' od' its k sl hT
        rw [Bool.and_eq_true] at h2
        have h3 := h2.2
        split at h3
        · rename_i d u hits
          have hi : its = #[u] := by
            obtain ⟨l⟩ := its
            simp at hits
            subst hits
            rfl
          subst hi
          have hne : params.args.map (·.arg) ≠ [] := by simpa using h2.1
          obtain ⟨qs, q, hq⟩ : ∃ qs q, params.args.map (·.arg) = qs ++ [q] := ⟨_, _, (List.dropLast_concat_getLast hne).symm⟩
          obtain ⟨v, rv, rep⟩ := repS_d (cl := cl) h3
          have bnd : Binds K (PySem.W.fnOf name qual params body scope (.ref T) kV doc pm an cdv ct) (pnames params) [u] := by
            intro s us X hl
            rw [hpn] at hl ⊢
            rw [hq] at hl nd ⊢
            exact binds_dfl hpl ha.1 hq nd hT rfl s X us (us ++ [u]) (.inr ⟨by simpa using hl, rfl⟩)
          refine (F.raw (dvs := [v]) bnd (.cons rv .nil)).mono (by omega) |>.imp fun vs H Q E ⟨F0, G, m, ds, S', l, r, out⟩ => ?_
          rw [hcall, had] at out
          simp only [adapt, List.map_cons, List.map_nil] at out
          have hl := runLen out
          have r2 : RVs ⟨K, cl⟩ G m (ds ++ [.d d]) (vs ++ [v]) := Paired.split r (.cons (show RepV ⟨K, cl⟩ G m (.d d) v from rep G) .nil)
          exact ⟨by rw [← r2.length]; exact hl, F0, G, m, _, S', l, r2, out⟩
        · cases h3
      · cases h2
    | _ => cases h2
  | star =>
    rw [had] at ha
    dsimp only at ha
    cases dV with
    | none =>
      simp only [Bool.and_eq_true, decide_eq_true_eq, Option.isSome_iff_exists] at ha
      obtain ⟨⟨va, hva⟩, hlen⟩ := ha
      obtain ⟨pa, hpa⟩ : ∃ pa, params.args.map (·.arg) = [pa] := by
        match hh : params.args, hlen with
        | [x], _ => exact ⟨x.arg, rfl⟩
      have hpn : pnames params = [pa, va.arg] := by unfold pnames; rw [hva, hpa]; rfl
      have S' := S
      rw [hpn] at S'
      have FV := fn_ofV (CX := L2.CX prog w) (P := prog) (w := w) (mg := mg) (base := base) (k := 3 * n + 2) (nmax := 5) (sp := spR nm mg ⟨K, cl⟩ P (call P fns n) fn) lk hcd S' (by decide) (fun u rest _ => binds_star hpl hva hpa u rest) cx_new
        (fun A outer s H vs Q E hr q => body_sound M S' h9 h8.symm h10 cdv A outer s H vs Q E hr q)
      refine FV.mono (by omega) |>.imp fun vs H Q E ⟨F0, G, m, ds, S0, l, r, out⟩ => ?_
      rw [hcall, had] at out
      have hnp : fn.np = 2 := by rw [← h7, hpn]; rfl
      rw [hnp] at out
      cases r with
      | nil => simp only [adapt] at out; exact out.elim
      | @cons v u ds us r0 rs =>
        simp only [adapt] at out
        split at out
        · rename_i ws hws
          split at hws
          · rename_i h5
            cases hd : dsOf ds with
            | none => rw [hd] at hws; cases hws
            | some xs =>
              rw [hd] at hws
              cases hws
              refine ⟨u, us, rfl, by rw [← rs.length]; exact h5, fun p hp => ?_⟩
              have al : Al G H _ _ := Al.one (o := .tup us) hp
              refine ⟨by rw [hnp]; rfl, F0, _, m, _, S0, l.al al, .cons (r0.mono (al.grow l.ext)) (.cons (show RepV ⟨K, cl⟩ _ m (.d (.tup xs)) (.ref p) from .tup (.inl (.inl upd_same)) ((dsOf_reps rs hd).mono (al.ext l.ext).2.1)) .nil), Out.grow (al.grow l.ext) out⟩
          · cases hws
        · exact out.elim
    | _ => cases ha
end
end Iv
end
section
set_option autoImplicit false
set_option maxRecDepth 100000
set_option maxHeartbeats 4000000
namespace Iv
open PySem L2
/-! ### the text as data: tables, and a look at the written part -/
/-- where a def stands -/
inductive Wh where
  | glo (x : Str) | met (c : Nat) (x : Str) | prp (c : Nat) (x : Str) | cmt (c : Nat) (x : Str)
structure Tb where
  fns : List Fn
  Ns : List (List Str)
  wh : List Wh
  /-- global defs: the first ones -/
  gfn : List Str
  globs : List (Str × D)
  cls : List Str
  excs : List Xc
  fuel : Nat
  mks : List (Nat × Nat)
  /-- fields, methods, properties: the name, the class, the place or def -/
  sls : List (Str × Nat × Nat)
  mts : List (Str × Nat × Nat)
  prs : List (Str × Nat × Nat)
  cms : List (Str × Nat × Nat)
  ops : List (BOp × Nat × Nat)
  eqs : List (Nat × Nat)
  lns : List (Nat × Nat)
  bls : List (Nat × Nat)
  /-- isinstance: the class, of which, the answer -/
  isc : List (Nat × Nat × Bool)
def Tb.nm (t : Tb) : Nm := { fns := t.gfn, globs := t.globs.map (·.1), excs := t.excs, nf := t.fns.length, mks := t.mks.map (fun q => t.cls.getD q.1 ("" : Str)), sls := t.sls.map (·.1), mts := t.mts.map (·.1), prs := t.prs.map (·.1), cms := t.cms.map (fun q => (t.cls.getD q.2.1 ("" : Str), q.1)), cls := t.cls }
def Tb.prg (t : Tb) : Prg where
  globs := t.globs.map (·.2)
  sub := fun _ _ => false
  fuel := t.fuel
  mks := t.mks
  sls := t.sls.map (·.2)
  mts := t.mts.map (·.2)
  prs := t.prs.map (·.2)
  cms := t.cms.map (·.2)
  isc := fun c j => (t.isc.find? fun q => decide (q.1 = c) && decide (q.2.1 = j)).map (·.2.2)
  opf := fun o c => (t.ops.find? fun q => decide (q.1 = o) && decide (q.2.1 = c)).map (·.2.2)
  eqf := fun c => (t.eqs.find? fun q => decide (q.1 = c)).map (·.2)
  lnf := fun c => (t.lns.find? fun q => decide (q.1 = c)).map (·.2)
  bof := fun c => (t.bls.find? fun q => decide (q.1 = c)).map (·.2)
section
variable (t : Tb) (K : PySem.W.Frag)
def gA (x : Str) : Addr := match PySem.W.nsIn K mainGlobals x with
  | some (some (.ref a)) => a
  | _ => 0
def clA (c : Nat) : Addr := match t.cls[c]? with
  | some x => gA K x
  | none => 0
def whA : Wh → Addr
  | .glo x => gA K x
  | .met c x => match PySem.W.findIn K (.ref (clA t K c)) x with
    | some (some (.ref a)) => a
    | _ => 0
  | .prp c x => match PySem.W.findIn K (.ref (clA t K c)) x with
    | some (some (.ref p)) => (match PySem.W.recIn K p "property" with
      | some (.ref g :: _) => g
      | _ => 0)
    | _ => 0
  | .cmt c x => match PySem.W.findIn K (.ref (clA t K c)) x with
    | some (some (.ref p)) => (match PySem.W.recIn K p "classmethod" with
      | some (.ref g :: _) => g
      | _ => 0)
    | _ => 0
/-- where the classes and the defs stand -/
def clK : Nat → Addr := fun i => if i < 4096 then clA t K i else match t.wh[i - 4096]? with
  | some w => whA t K w
  | none => 0
abbrev atB (c f : Nat) (x : Str) : Bool := PySem.W.findIn K (.ref (clK t K c)) x == some (some (.ref (fa (clK t K) f))) && PySem.W.isFn K (.ref (fa (clK t K) f))
def sclsB (c : Nat) : Bool := PySem.W.plainGet K (clK t K c) Str.empty && PySem.W.isClsIn K (clK t K c) && PySem.W.plainOver K (clK t K c) && (PySem.W.findIn K (.ref (clK t K c)) "__setattr__" == some (some (.builtin "object.__setattr__")))
def sisiB (c : Nat) : Bool := (PySem.W.findIn K (.ref (clK t K c)) "__class__" == some (some (.builtin "object.__class__"))) && (PySem.W.specialIn K (.builtin "object.__class__") "__get__" == some (some (.builtin "getset_descriptor.__get__"))) &&
  (PySem.W.takesIn K (.builtin "object.__class__") == some true) && (PySem.W.mroIn K (clK t K c) (.type "object") == some true)
def glB' (x : Str) (a : Addr) : Bool := PySem.W.nsIn K mainGlobals x == some (some (.ref a))
def fnB : Bool := (List.range t.fns.length).all fun f => match t.fns[f]?, t.Ns[f]? with
  | some fn, some N => okFn t.nm K fn N (fa (clK t K) f) && okAd K fn.ad (fa (clK t K) f)
  | _, _ => false
def gfB : Bool := decide (t.gfn.length ≤ t.fns.length) && (List.range t.gfn.length).all fun f => match t.gfn[f]? with
  | some x => glB' K x (fa (clK t K) f) && PySem.W.keepIn K (.ref (fa (clK t K) f))
  | none => false
def glsB : Bool := t.globs.all fun p => match PySem.W.nsIn K mainGlobals p.1 with
  | some (some u) => repS K p.2 u
  | _ => false
def freeB : Bool := (["len", "int", "str", "abs", "max", "min", "sum", "divmod", "tuple", "list", "all", "any", "bool", "isinstance", "range", "zip", "enumerate", "dict", "sorted"] : List Str).all fun x => PySem.W.nsIn K mainGlobals x == some none
def opB : Bool := t.ops.all fun q => PySem.W.selfFirst K (clK t K q.2.1) && atB t K q.2.1 q.2.2 (PySem.dunder (bop q.1).info.2) &&
  (match PySem.W.findIn K (.ref (clK t K q.2.1)) (dunderR (bop q.1).info.2) with
    | some none => true
    | some (some (.ref _)) => true
    | _ => false) && (PySem.W.findIn K (.type "int") (PySem.dunder (bop q.1).info.2)).isSome && (PySem.W.findIn K (.type "int") (dunderR (bop q.1).info.2)).isSome && (PySem.W.subIn K (.type "int") (.ref (clK t K q.2.1)) == some false)
def eqB : Bool := t.eqs.all fun q => atB t K q.1 q.2 "__eq__" && (PySem.W.findIn K (.ref (clK t K q.1)) "__ne__" == some (some (.builtin "object.__ne__"))) && PySem.W.plainOver K (clK t K q.1)
def lnB : Bool := t.lns.all fun q => atB t K q.1 q.2 "__len__"
def blB : Bool := t.bls.all fun q => atB t K q.1 q.2 "__bool__"
def mkB : Bool := t.mks.all fun q => decide (q.2 < t.fns.length) && PySem.W.makesIn K (clK t K q.1) && atB t K q.1 q.2 "__init__" && PySem.W.keepIn K (.ref (clK t K q.1)) && glB' K (t.cls.getD q.1 ("" : Str)) (clK t K q.1)
def slB : Bool := t.sls.all fun q => sclsB t K q.2.1 && (match PySem.W.findIn K (.ref (clK t K q.2.1)) q.1 with
  | some (some (.ref p)) => (PySem.W.specialIn K (.ref p) "__get__" == some (some (.builtin "member_descriptor.__get__"))) && (PySem.W.takesIn K (.ref p) == some true) && (PySem.W.typeIn K (.ref p) == some (.type "member_descriptor")) && (PySem.W.slotIn K p (clK t K q.2.1) == some q.2.2) && decide (q.2.2 < 1000)
  | _ => false)
def mtB : Bool := t.mts.all fun q => decide (q.2.2 < t.fns.length) && sclsB t K q.2.1 && atB t K q.2.1 q.2.2 q.1 && PySem.W.keepIn K (.ref (fa (clK t K) q.2.2))
def prB : Bool := t.prs.all fun q => decide (q.2.2 < t.fns.length) && sclsB t K q.2.1 && (match PySem.W.findIn K (.ref (clK t K q.2.1)) q.1 with
  | some (some (.ref p)) => (PySem.W.specialIn K (.ref p) "__get__" == some (some (.builtin "property.__get__"))) && (PySem.W.takesIn K (.ref p) == some true) && (match PySem.W.recIn K p "property" with
    | some (.ref g :: _) => decide (g = fa (clK t K) q.2.2)
    | _ => false)
  | _ => false)
def cmB : Bool := t.cms.all fun q => decide (q.2.2 < t.fns.length) && glB' K (t.cls.getD q.2.1 ("" : Str)) (clK t K q.2.1) && PySem.W.readsIn K (clK t K q.2.1) (.type "type") && (PySem.W.specialIn K (.ref (clK t K q.2.1)) "__getattribute__" == some (some (.builtin "type.__getattribute__"))) &&
  (match PySem.W.findCls K (.ref (clK t K q.2.1)) (.type "type") q.1 with
    | some (.get (.builtin b) (.ref p) .none (.ref C)) => decide (b = "classmethod.__get__") && decide (C = clK t K q.2.1) && (match PySem.W.recIn K p "classmethod" with
      | some (.ref g :: _) => decide (g = fa (clK t K) q.2.2)
      | _ => false)
    | _ => false) && PySem.W.fnIn K (fa (clK t K) q.2.2)
def isB : Bool := (List.range t.cls.length).all fun j => match t.cls[j]? with
  | some x => glB' K x (clK t K j) && (["NoneType", "bool", "int", "str", "tuple", "list", "dict"] : List String).all fun T => PySem.W.kitOne K (.type T) (.ref (clK t K j)) == some false
  | none => false
def iscB : Bool := t.isc.all fun q => sclsB t K q.1 && sisiB t K q.1 && (PySem.W.kitOne K (.ref (clK t K q.1)) (.ref (clK t K q.2.1)) == some q.2.2)
/-- the whole look -/
def look : Bool := fnB t K && gfB t K && glsB t K && freeB K && opB t K && eqB t K && lnB t K && blB t K && mkB t K && slB t K && mtB t K && prB t K && cmB t K && isB t K && iscB t K
end
end Iv
end
section
set_option autoImplicit false
set_option maxRecDepth 100000
set_option maxHeartbeats 4000000
namespace Iv
open PySem L2
section
variable {t : Tb} {K : PySem.W.Frag} {prog : Program} {w : World} {mg : Str → Option Value} {h base : Heap}
theorem all_range {n : Nat} {p : Nat → Bool} (h : (List.range n).all p = true) {i : Nat} (hi : i < n) : p i = true := List.all_eq_true.mp h i (List.mem_range.mpr hi)
theorem map_get {α β : Type} {f : α → β} {l : List α} {j : Nat} {y : β} (h : (l.map f)[j]? = some y) : ∃ x, l[j]? = some x ∧ f x = y := by
  rw [List.getElem?_map] at h
  cases e : l[j]? with
  | none => rw [e] at h; cases h
  | some x => rw [e] at h; cases h; exact ⟨x, rfl, rfl⟩
theorem all_get {α : Type} {l : List α} {p : α → Bool} (h : l.all p = true) {j : Nat} {x : α} (hx : l[j]? = some x) : p x = true := List.all_eq_true.mp h x (List.mem_of_getElem? hx)
theorem find_map {α β : Type} {l : List α} {p : α → Bool} {f : α → β} {y : β} (h : (l.find? p).map f = some y) : ∃ x, x ∈ l ∧ p x = true ∧ f x = y := by
  cases e : l.find? p with
  | none => rw [e] at h; cases h
  | some x => rw [e] at h; cases h; exact ⟨x, List.mem_of_find?_eq_some e, List.find?_some e, rfl⟩
theorem scls_d {c : Nat} (h : sclsB t K c = true) : SlX.SCls K (clK t K c) := by
  unfold sclsB at h
  simp only [Bool.and_eq_true, beq_iff_eq] at h
  exact ⟨h.1.1.1, h.1.1.2, h.1.2, h.2⟩
theorem gl_d (X : K.In h) (G : h.Ns mainGlobals mg) {x : Str} {a : Addr} (e : glB' K x a = true) : mg x = some (.ref a) := PySem.W.mg_of X G (beq_iff_eq.mp e)
theorem free_d (X : K.In h) (G : h.Ns mainGlobals mg) {x : Str} (e : (PySem.W.nsIn K mainGlobals x == some none) = true) : mg x = none := PySem.W.mg_none_of X G (beq_iff_eq.mp e)
/-- the look says all that is asked -/
theorem md_all (X : K.In h) (G : h.Ns mainGlobals mg) (lk : look t K = true) : ∀ n : Nat, Md t.nm (clK t K) t.prg (call t.prg t.fns n) n prog w K mg base := by
  unfold look at lk
  simp only [Bool.and_eq_true] at lk
  obtain ⟨⟨⟨⟨⟨⟨⟨⟨⟨⟨⟨⟨⟨⟨l1, l2⟩, l3⟩, l4⟩, l5⟩, l6⟩, l7⟩, l8⟩, l9⟩, l10⟩, l11⟩, l12⟩, l13⟩, l14⟩, l15⟩ := lk
  have free : ∀ x ∈ (["len", "int", "str", "abs", "max", "min", "sum", "divmod", "tuple", "list", "all", "any", "bool", "isinstance", "range", "zip", "enumerate", "dict", "sorted"] : List Str), mg x = none := fun x hx => free_d X G (List.all_eq_true.mp l4 x hx)
  have fnd : ∀ f : Nat, f < t.fns.length → ∃ fn N, t.fns[f]? = some fn ∧ okFn t.nm K fn N (fa (clK t K) f) = true ∧ okAd K fn.ad (fa (clK t K) f) = true := fun f hf => by
    have q := all_range l1 hf
    split at q
    · rename_i fn N e1 e2
      rw [Bool.and_eq_true] at q
      exact ⟨fn, N, e1, q.1, q.2⟩
    · cases q
  have atd : ∀ {c f : Nat} {x : Str}, atB t K c f x = true → PySem.W.findIn K (.ref (clK t K c)) x = some (some (.ref (fa (clK t K) f))) ∧ PySem.W.isFn K (.ref (fa (clK t K) f)) = true := fun {c f x} q => by
    have q' := Bool.and_eq_true_iff.mp q
    exact ⟨beq_iff_eq.mp q'.1, q'.2⟩
  have rest : ∀ (cal : Cal) (n : Nat), (∀ f : Nat, f < t.nm.nf → FnR prog w K mg base (L2.CX prog w) (3 * n) (fa (clK t K) f) (spC t.nm mg ⟨K, clK t K⟩ (cal f))) → (∀ f : Nat, ¬ f < t.nm.nf → ∀ vs S, cal f vs S = .bad) → Md t.nm (clK t K) t.prg cal n prog w K mg base := by
    intro cal n hfn hbad
    refine ⟨hfn, hbad, fun f x e => ?_, fun g x d e1 e2 => ?_, fun b => ?_, fun x hx => ?_, fun o c f e => ?_, fun c f e => ?_, fun c f e => ?_, fun c f e => ?_, fun j q e => ?_, fun j q x e1 e2 => ?_, fun j q x e1 e2 => ?_, fun j q x e1 e2 => ?_, fun j q x e1 e2 => ?_, fun j q c x e1 e2 => ?_, fun j x e => ?_, fun j x c b e1 e2 => ?_⟩
    · -- global defs
      unfold gfB at l2
      rw [Bool.and_eq_true] at l2
      have hlt : f < t.gfn.length := (List.getElem?_eq_some_iff.mp e).1
      have q := all_range l2.2 hlt
      have e' : t.gfn[f]? = some x := e
      rw [e'] at q
      have q := Bool.and_eq_true_iff.mp q
      exact ⟨Nat.lt_of_lt_of_le hlt (of_decide_eq_true l2.1), gl_d X G q.1, q.2⟩
    · obtain ⟨p, p1, p2⟩ := map_get (l := t.globs) e1
      have e2' : (t.globs.map (·.2))[g]? = some d := e2
      rw [List.getElem?_map, p1] at e2'
      cases e2'
      have q := all_get l3 p1
      rw [p2] at q
      split at q
      · rename_i u hu
        obtain ⟨v, h1, h2⟩ := repS_d (cl := clK t K) q
        exact ⟨u, v, PySem.W.mg_of X G hu, h1, h2⟩
      · cases q
    · cases b <;> exact free _ (by decide)
    · refine free x ?_
      have : x ∈ (["isinstance", "range", "zip", "enumerate", "bool", "dict", "sorted"] : List Str) := hx
      simp only [List.mem_cons, List.not_mem_nil, or_false] at this ⊢
      rcases this with h | h | h | h | h | h | h <;> simp [h]
    · obtain ⟨q, q1, q2, q3⟩ := find_map (l := t.ops) e
      have z := List.all_eq_true.mp l5 q q1
      simp only [Bool.and_eq_true, decide_eq_true_eq] at q2
      obtain ⟨rfl, rfl⟩ := q2
      subst q3
      simp only [Bool.and_eq_true, beq_iff_eq, Option.isSome_iff_exists] at z
      obtain ⟨⟨⟨⟨⟨z1, z2⟩, z3⟩, ⟨z4, z4'⟩⟩, ⟨z5, z5'⟩⟩, z6⟩ := z
      refine ⟨⟨z1, z2.1, z2.2⟩, ?_, ⟨z4, z5, z4', z5'⟩, z6⟩
      split at z3
      · rename_i hz; exact ⟨none, hz, .inl rfl⟩
      · rename_i g hz; exact ⟨_, hz, .inr ⟨g, rfl⟩⟩
      · cases z3
    · obtain ⟨q, q1, q2, q3⟩ := find_map (l := t.eqs) e
      have z := List.all_eq_true.mp l6 q q1
      have q2 : q.1 = c := of_decide_eq_true q2
      subst q2; subst q3
      simp only [Bool.and_eq_true, beq_iff_eq] at z
      exact ⟨z.1.1.1, z.1.1.2, z.1.2, z.2⟩
    · obtain ⟨q, q1, q2, q3⟩ := find_map (l := t.lns) e
      have z := List.all_eq_true.mp l7 q q1
      have q2 : q.1 = c := of_decide_eq_true q2
      subst q2; subst q3
      exact atd z
    · obtain ⟨q, q1, q2, q3⟩ := find_map (l := t.bls) e
      have z := List.all_eq_true.mp l8 q q1
      have q2 : q.1 = c := of_decide_eq_true q2
      subst q2; subst q3
      exact atd z
    · have z := all_get l9 (show t.mks[j]? = some q from e)
      simp only [Bool.and_eq_true, decide_eq_true_eq] at z
      obtain ⟨⟨⟨⟨z1, z2⟩, z3⟩, z4⟩, z5⟩ := z
      have a := atd (Bool.and_eq_true_iff.mpr z3)
      exact ⟨z1, ⟨z2, a.1, a.2, z4⟩⟩
    · have z := all_get l9 (show t.mks[j]? = some q from e1)
      simp only [Bool.and_eq_true, decide_eq_true_eq] at z
      obtain ⟨p, p1, p2⟩ := map_get (l := t.mks) e2
      rw [show t.mks[j]? = some q from e1] at p1
      cases p1
      rw [← p2]
      exact gl_d X G z.2
    · obtain ⟨p, p1, p2⟩ := map_get (l := t.sls) e1
      obtain ⟨p', p3, p4⟩ := map_get (l := t.sls) e2
      rw [p1] at p3; cases p3
      subst p2; subst p4
      have z := Bool.and_eq_true_iff.mp (all_get l10 p1)
      refine ⟨scls_d z.1, ?_⟩
      have z2 := z.2
      split at z2
      · rename_i r hr
        simp only [Bool.and_eq_true, beq_iff_eq, decide_eq_true_eq] at z2
        obtain ⟨⟨⟨⟨y1, y2⟩, y3⟩, y4⟩, y5⟩ := z2
        exact ⟨r, hr, y1, y2, y3, y4, y5⟩
      · cases z2
    · obtain ⟨p, p1, p2⟩ := map_get (l := t.mts) e1
      obtain ⟨p', p3, p4⟩ := map_get (l := t.mts) e2
      rw [p1] at p3; cases p3
      subst p2; subst p4
      have z := all_get l11 p1
      rw [Bool.and_eq_true, Bool.and_eq_true, Bool.and_eq_true] at z
      obtain ⟨⟨⟨z1, z2⟩, z3⟩, z4⟩ := z
      have a := atd z3
      exact ⟨of_decide_eq_true z1, scls_d z2, a.1, a.2, z4⟩
    · obtain ⟨p, p1, p2⟩ := map_get (l := t.prs) e1
      obtain ⟨p', p3, p4⟩ := map_get (l := t.prs) e2
      rw [p1] at p3; cases p3
      subst p2; subst p4
      have z := all_get l12 p1
      rw [Bool.and_eq_true, Bool.and_eq_true] at z
      obtain ⟨⟨z1, z2⟩, z3⟩ := z
      refine ⟨of_decide_eq_true z1, scls_d z2, ?_⟩
      split at z3
      · rename_i r hr
        rw [Bool.and_eq_true, Bool.and_eq_true] at z3
        obtain ⟨⟨y1, y2⟩, y3⟩ := z3
        split at y3
        · rename_i g rst hg
          have : g = fa (clK t K) p.2.2 := of_decide_eq_true y3
          subst this
          exact ⟨r, hr, beq_iff_eq.mp y1, beq_iff_eq.mp y2, rst, hg⟩
        · cases y3
      · cases z3
    · obtain ⟨p, p1, p2⟩ := map_get (l := t.cms) e1
      obtain ⟨p', p3, p4⟩ := map_get (l := t.cms) e2
      rw [p1] at p3; cases p3
      subst p2
      cases p4
      have z := all_get l13 p1
      simp only [Bool.and_eq_true] at z
      obtain ⟨⟨⟨⟨⟨z1, z2⟩, z3⟩, z4⟩, z5⟩, z6⟩ := z
      refine ⟨of_decide_eq_true z1, gl_d X G z2, .type "type", ?_⟩
      split at z5
      · rename_i b r C hr
        simp only [Bool.and_eq_true, decide_eq_true_eq] at z5
        obtain ⟨⟨y1, y2⟩, y3⟩ := z5
        subst y1; subst y2
        split at y3
        · rename_i g rst hg
          have : g = fa (clK t K) p.2.2 := of_decide_eq_true y3
          subst this
          exact ⟨r, ⟨z3, beq_iff_eq.mp z4⟩, hr, ⟨rst, hg⟩, z6⟩
        · cases y3
      · cases z5
    · have e' : t.cls[j]? = some x := e
      have hlt : j < t.cls.length := (List.getElem?_eq_some_iff.mp e').1
      have q := all_range l14 hlt
      rw [e'] at q
      have q := Bool.and_eq_true_iff.mp q
      exact ⟨gl_d X G q.1, fun T hT => beq_iff_eq.mp (List.all_eq_true.mp q.2 T hT)⟩
    · obtain ⟨q, q1, q2, q3⟩ := find_map (l := t.isc) e2
      have z := List.all_eq_true.mp l15 q q1
      simp only [Bool.and_eq_true, decide_eq_true_eq] at q2
      obtain ⟨rfl, rfl⟩ := q2
      subst q3
      simp only [Bool.and_eq_true] at z
      have y := z.1.2
      unfold sisiB at y
      simp only [Bool.and_eq_true, beq_iff_eq] at y
      exact ⟨scls_d z.1.1, ⟨y.1.1.1, y.1.1.2, y.1.2, y.2⟩, beq_iff_eq.mp z.2⟩
  intro n
  induction n with
  | zero =>
    refine rest _ 0 (fun f hf A outer s H us vs Q E hr e0 rv q => ?_) fun f _ vs S => rfl
    obtain ⟨_, _, _, _, _, _, _, o⟩ := q
    exact o.elim
  | succ n ih =>
    refine rest _ (n + 1) (fun f hf => ?_) fun f hf vs S => ?_
    · obtain ⟨fn, N, e1, e2, e3⟩ := fnd f hf
      exact fn_R ih e1 e2 e3
    · have : t.fns[f]? = none := List.getElem?_eq_none (Nat.le_of_not_lt hf)
      simp only [call, this]
end
end Iv
end
section
set_option autoImplicit false
set_option maxRecDepth 100000
set_option maxHeartbeats 4000000
namespace Iv
open PySem L2
def lawB (t : Tb) (K : PySem.W.Frag) (f : Nat) (x : Str) : Bool := match K.lookup (fa (clK t K) f) with
  | some ⟨_, _, .func fd, _⟩ => (match fd.defaults with | .none => true | _ => false) && decide (pnames fd.params = [x]) && fd.params.vararg.isNone
  | _ => false
theorem walk {l : PySem.W.OpenLaw} {q : Program} {loose : List Str} {XP : (Str → Option Value) → Heap → Prop} {YP : World → Heap → Prop} {d : DefRec} {K : Params → PySem.W.Frag} (t : Tb) (f : Nat) (fn : Fn) (n : Nat) (x : Str)
    (hn : l.most = some 63) (hdf : d.params.defaults = []) (hr : Room (3 * n + 3) callerA) (hY : ∀ (w : World) (h : Heap), YP w h → (K w.params).In h) (hf : t.fns[f]? = some fn) (hg : t.gfn[f]? = some d.name)
    (lk : ∀ p, look t (K p) = true) (lb : ∀ p, lawB t (K p) f x = true) (law : ∀ ns : List Int, ns.length ≤ 63 → ∃ S, runF t.prg (call t.prg t.fns n) fn [.d (.ro (ns.map .int))] [] = .ok (.d (.bl true)) S) :
    PySem.W.WalkO q loose XP YP l.row.toRowW d [] (fun f vs => PySem.call f vs) := by
  refine L2.walk_of (n := 63) (k := 3 * n + 3) (x := x) (CX := fun w => L2.CX l.prog w) (sp := fun w => fun us H Q E => us.length = 1 ∧ ∃ (mg : Str → Option Value) (F G : Hp) (m : List Addr) (vs : List Vl) (S : Hs), Rl ⟨K w.params, clK t (K w.params)⟩ F G m S H ∧ RVs ⟨K w.params, clK t (K w.params)⟩ G m vs us ∧ ∃ S', runF t.prg (call t.prg t.fns n) fn vs S = .ok (.d (.bl true)) S' ∧ ∀ H', Q (.bl true) H')
    hn (by decide) hdf hr hY (fun w mg a h X G hmg => ?_) (fun w H a ns hl _ hS => ?_) (fun w H s e s' c => ?_)
  · have lk' := lk w.params
    have lk2 := lk'
    unfold look at lk2
    simp only [Bool.and_eq_true] at lk2
    obtain ⟨⟨⟨⟨⟨⟨⟨⟨⟨⟨⟨⟨⟨⟨l1, l2⟩, l3⟩, l4⟩, l5⟩, l6⟩, l7⟩, l8⟩, l9⟩, l10⟩, l11⟩, l12⟩, l13⟩, l14⟩, l15⟩ := lk2
    have hlt : f < t.fns.length := (List.getElem?_eq_some_iff.mp hf).1
    have q1 := all_range l1 hlt
    rw [hf] at q1
    split at q1
    · rename_i fn' N e1 e2
      cases e1
      rw [Bool.and_eq_true] at q1
      unfold gfB at l2
      rw [Bool.and_eq_true] at l2
      have q2 := all_range l2.2 (List.getElem?_eq_some_iff.mp hg).1
      rw [hg] at q2
      have q2 := Bool.and_eq_true_iff.mp q2
      have hm := gl_d X G q2.1
      rw [hmg] at hm
      cases hm
      obtain ⟨oc, od, name, qual, params, body, scope, dV, kV, doc, pm, an, cdv, ct, osl, lkp, hcd, hpl, S, h7, h8, h9, h10⟩ := okFn_d q1.1
      have b := lb w.params
      unfold lawB at b
      rw [lkp] at b
      simp only [Bool.and_eq_true, decide_eq_true_eq, Option.isNone_iff_eq_none] at b
      obtain ⟨⟨b1, b2⟩, b3⟩ := b
      cases dV with
      | none =>
        have hpn : pnames params = params.args.map (·.arg) := by unfold pnames; rw [b3]; simp
        refine ⟨PySem.W.fnOf name qual params body scope .none kV doc pm an cdv ct, fun s u => ?_, fun base _ _ => ?_⟩
        rotate_left
        · have S' := S
          rw [b2] at S'
          have hnp : fn.np = 1 := by rw [← h7, b2]; rfl
          refine fn_of (k := 3 * n + 2) lkp hcd S' (fun vs H Q E q => by rw [q.1]; rfl) fun A outer s H vs Q E hrm q => ?_
          obtain ⟨z1, _, F0, G0, m, ds, S0, l0, r0, S1, e1, e2⟩ := q
          refine body_sound (mg := mg) (prog := l.prog) (w := w) (md_all X G lk' n) S' h9 h8.symm h10 cdv A outer s H vs Q E hrm ⟨by rw [hnp]; exact z1, F0, G0, m, ds, S0, l0, r0, ?_⟩
          rw [e1]
          intro G' m' H' u g' l' r'
          cases r'
          exact e2 H'
        · have e := binds_all (name := name) (qual := qual) (body := body) (scope := scope) (kV := kV) (doc := doc) (pm := pm) (cdv := cdv) (ct := ct) (an := an) hpl b3 (by
            rw [← hpn, b2]; simp) [u] (by rw [← hpn, b2]; rfl)
          rw [← hpn, b2] at e
          exact .of_eq e
      | _ => cases b1
    · cases q1
  · refine ⟨rfl, fun _ => none, fun _ => none, H, [], [.d (.ro (ns.map .int))], [], ⟨fun _ _ h => h, (fun _ _ h => by cases h), (fun _ _ h => by cases h), (fun _ h => by cases h), rfl, List.nodup_nil, (fun n a o h => by cases h)⟩, .cons ?_ .nil, ?_⟩
    · exact Rep.ro (K := ⟨K w.params, clK t (K w.params)⟩) hS (reps_of_ints ns)
    · obtain ⟨S', e⟩ := law ns hl
      exact ⟨S', e, fun _ => rfl⟩
  · obtain ⟨_, _, _, _, _, _, _, _, _, _, _, _, h⟩ := c
    exact h
end Iv
end
section
set_option maxRecDepth 100000
namespace K01
open Iv
/-! the bodies as terms, printed by gen2.py -/
def b_is_integer : Iv.St := (.seq (.ret (.and (.isi (.var 0) .int) (.and (.not (.isi (.var 0) .bool)) (.one (.chain .lt .lt (.neg (.glob 0)) (.var 0) (.glob 0)))))) .skip)
def b_is_from : Iv.St := (.seq (.ret (.and (.call 0 (.cons (.var 0) .nil)) (.one (.chain .le .le (.var 1) (.var 0) (.var 2))))) .skip)
def b_begins_with_letter : Iv.St := (.seq (.ite (.or (.not (.isi (.var 0) .str)) (.or (.not (.chain .le .le (.int 1) (.bi .len (.cons (.var 0) .nil)) (.var 1))) (.one (.cmp .notin (.ix (.var 0) (.int 0)) (.glob 1))))) (.seq (.ret (.bl false)) .skip) .skip) (.seq (.ret (.bi .all (.cons (.comp [2] (.nm 2) (.one (.var 0)) (.bl true) (.or (.cmp .isin (.var 2) (.glob 1)) (.one (.cmp .isin (.var 2) (.glob 2))))) .nil))) .skip))
def b_is_kind : Iv.St := (.seq (.ret (.and (.call 2 (.cons (.var 0) (.cons (.glob 4) .nil))) (.one (.cmp .ne (.var 0) (.glob 3))))) .skip)
def b_are_ascending : Iv.St := (.seq (.ret (.bi .all (.cons (.comp [1, 2] (.tp (.cons (.nm 1) (.cons (.nm 2) .nil))) (.zip (.var 0) (.sl (.var 0) (.one (.int 1)) .no)) (.bl true) (.cmp .lt (.var 1) (.var 2))) .nil))) .skip)
def b_are_pairs : Iv.St := (.seq (.ite (.or (.not (.isi (.var 0) .tup)) (.one (.cmp .gt (.bi .len (.cons (.var 0) .nil)) (.glob 5)))) (.seq (.ret (.bl false)) .skip) .skip) (.seq (.loop (.nm 1) (.one (.var 0)) (.seq (.ite (.or (.not (.isi (.var 1) .tup)) (.or (.cmp .ne (.bi .len (.cons (.var 1) .nil)) (.int 2)) (.or (.not (.call 3 (.cons (.ix (.var 1) (.int 0)) .nil))) (.one (.not (.call 1 (.cons (.ix (.var 1) (.int 1)) (.cons (.int 1) (.cons (.glob 6) .nil))))))))) (.seq (.ret (.bl false)) .skip) .skip) .skip)) (.seq (.ret (.call 4 (.cons (.comp [1] (.nm 1) (.one (.var 0)) (.bl true) (.ix (.var 1) (.int 0))) .nil))) .skip)))
def b_amounts_of : Iv.St := (.seq (.ret (.mk 0 (.cons (.ptl (.comp [1] (.nm 1) (.one (.srt (.var 0))) (.one (.cmp .gt (.dix (.var 0) (.var 1)) (.int 0))) (.tup (.cons (.var 1) (.cons (.dix (.var 0) (.var 1)) .nil))))) .nil))) .skip)
def b_require_amounts : Iv.St := (.seq (.ite (.not (.isc 0 (.var 0))) (.seq .never .skip) .skip) .skip)
def b_require_operand : Iv.St := (.seq (.ite (.not (.isc 0 (.var 0))) (.seq .never .skip) .skip) .skip)
def b_missing : Iv.St := (.seq (.asg 2 (.dcmp [3, 4] (.tp (.cons (.nm 3) (.cons (.nm 4) .nil))) (.one (.slt 0 (.var 1))) (.bl true) (.var 3) (.bin .sub (.var 4) (.dgt (.slt 1 (.var 0)) (.var 3) (.int 0))))) (.seq (.ret (.dcmp [3] (.nm 3) (.one (.var 2)) (.one (.cmp .gt (.dix (.var 2) (.var 3)) (.int 0))) (.var 3) (.dix (.var 2) (.var 3)))) .skip))
def b__law_dice : Iv.St := (.seq (.asg 2 (.ite (.cmp .lt (.var 1) (.bi .len (.cons (.var 0) .nil))) (.bi .int (.cons (.ix (.var 0) (.var 1)) .nil)) (.bin .add (.bin .mul (.int 71) (.var 1)) (.int 31)))) (.seq (.asg 3 (.bin .mod (.bi .max2 (.cons (.int 0) (.cons (.bin .sub (.bi .abs (.cons (.var 2) .nil)) (.bin .pow (.int 10) (.int 16))) .nil))) (.bin .mul (.bin .pow (.int 10) (.int 60)) (.bin .pow (.int 10) (.int 60))))) (.seq (.ret (.newl (.cons (.var 3) (.cons (.bin .add (.bin .add (.bin .add (.bin .mul (.bin .mod (.bi .abs (.cons (.var 2) .nil)) (.int 1152921504606846697)) (.int 59)) (.bin .mul (.int 821) (.var 1))) (.bin .mul (.int 37) (.bi .int (.cons (.cmp .lt (.var 2) (.int 0)) .nil)))) (.int 5)) (.cons (.int 0) .nil))))) .skip)))
def b__law_roll : Iv.St := (.seq (.ite (.cmp .gt (.ix (.var 0) (.int 0)) (.int 0)) (.seq (.asg 2 (.bin .mod (.bi .int (.cons (.ix (.var 0) (.int 0)) .nil)) (.var 1))) (.seq (.setix 0 (.int 0) (.bin .fdiv (.ix (.var 0) (.int 0)) (.var 1))) (.seq (.ret (.var 2)) .skip))) .skip) (.seq (.setix 0 (.int 2) (.bin .add (.ix (.var 0) (.int 2)) (.int 1))) (.seq (.asg 3 (.bin .mod (.bi .int (.cons (.bin .add (.ix (.var 0) (.int 1)) (.bin .mul (.int 67867967) (.ix (.var 0) (.int 2)))) .nil)) (.int 2305843009213693561))) (.seq (.asg 4 (.bin .add (.bin .mul (.bin .mod (.bi .int (.cons (.bin .add (.bin .mul (.var 3) (.var 3)) (.bin .mul (.int 101) (.ix (.var 0) (.int 2)))) .nil)) (.int 2305843009213693907)) (.int 7368847)) (.var 3))) (.seq (.ret (.bin .mod (.bi .int (.cons (.bin .fdiv (.var 4) (.int 65536)) .nil)) (.var 1))) .skip)))))
def b__law_pick : Iv.St := (.seq (.ret (.ix (.var 1) (.call 11 (.cons (.var 0) (.cons (.bi .len (.cons (.var 1) .nil)) .nil))))) .skip)
def b__law_some : Iv.St := (.seq (.ret (.comp [2] (.nm 2) (.one (.var 1)) (.one (.cmp .eq (.call 11 (.cons (.var 0) (.cons (.int 2) .nil))) (.int 0))) (.var 2))) .skip)
def b__law_drawn : Iv.St := (.seq (.asg 1 (.call 13 (.cons (.var 0) (.cons (.lst (.cons (.str [97]) (.cons (.str [98, 49]) (.cons (.str [99, 111, 114, 101]) (.cons (.str [103, 112, 117]) (.cons (.str [109, 101, 109]) (.cons (.str [120]) .nil))))))) .nil)))) (.seq (.asg 2 (.call 12 (.cons (.var 0) (.cons (.lst (.cons (.int 2) (.cons (.int 4) (.cons (.int 90000) .nil)))) .nil)))) (.seq (.ret (.mk 0 (.cons (.ptl (.comp [3] (.nm 3) (.one (.var 1)) (.bl true) (.tup (.cons (.var 3) (.cons (.bin .add (.int 1) (.call 11 (.cons (.var 0) (.cons (.var 2) .nil)))) .nil))))) .nil))) .skip)))
def b__law_sums_right : Iv.St := (.seq (.ite (.or (.cmp .ne (.bin .add (.var 0) (.var 1)) (.bin .add (.var 1) (.var 0))) (.one (.cmp .ne (.bin .add (.bin .add (.var 0) (.var 1)) (.var 2)) (.bin .add (.var 0) (.bin .add (.var 1) (.var 2)))))) (.seq (.ret (.bl false)) .skip) .skip) (.seq (.ite (.or (.cmp .ne (.bin .add (.var 0) (.mk 1 .nil)) (.var 0)) (.or (.cmp .ne (.bin .sub (.bin .add (.var 0) (.var 1)) (.var 1)) (.var 0)) (.one (.cmp .ne (.bin .sub (.var 0) (.var 0)) (.mk 1 .nil))))) (.seq (.ret (.bl false)) .skip) .skip) (.seq (.asg 3 (.bin .add (.bin .mul (.var 0) (.int 2)) (.bin .mul (.var 1) (.int 2)))) (.seq (.ret (.and (.cmp .eq (.bin .mul (.bin .add (.var 0) (.var 1)) (.int 2)) (.var 3)) (.and (.cmp .eq (.bin .mul (.var 0) (.int 3)) (.bin .add (.bin .add (.var 0) (.var 0)) (.var 0))) (.and (.cmp .eq (.bin .mul (.var 0) (.int 1)) (.var 0)) (.one (.cmp .eq (.bin .mul (.var 0) (.int 0)) (.mk 1 .nil))))))) .skip))))
def b__law_covers_right : Iv.St := (.seq (.asg 3 (.cme 0 (.cons (.var 0) (.cons (.var 1) .nil)))) (.seq (.ite (.or (.not (.mth 0 (.var 3) (.cons (.var 0) .nil))) (.or (.not (.mth 0 (.var 3) (.cons (.var 1) .nil))) (.one (.cmp .ne (.var 3) (.cme 0 (.cons (.var 1) (.cons (.var 0) (.cons (.var 0) .nil)))))))) (.seq (.ret (.bl false)) .skip) .skip) (.seq (.ite (.cmp .ne (.cme 0 (.cons (.var 3) (.cons (.var 2) .nil))) (.cme 0 (.cons (.var 0) (.cons (.var 1) (.cons (.var 2) .nil))))) (.seq (.ret (.bl false)) .skip) .skip) (.seq (.ite (.cmp .ne (.mth 0 (.var 2) (.cons (.var 3) .nil)) (.and (.mth 0 (.var 2) (.cons (.var 0) .nil)) (.one (.mth 0 (.var 2) (.cons (.var 1) .nil))))) (.seq (.ret (.bl false)) .skip) .skip) (.seq (.ite (.or (.cmp .ne (.bin .add (.var 0) (.mth 1 (.var 0) (.cons (.var 1) .nil))) (.var 3)) (.one (.cmp .ne (.bin .add (.var 1) (.mth 1 (.var 1) (.cons (.var 0) .nil))) (.var 3)))) (.seq (.ret (.bl false)) .skip) .skip) (.seq (.ite (.and (.mth 0 (.var 0) (.cons (.var 1) .nil)) (.and (.mth 0 (.var 1) (.cons (.var 2) .nil)) (.one (.not (.mth 0 (.var 0) (.cons (.var 2) .nil)))))) (.seq (.ret (.bl false)) .skip) .skip) (.seq (.ret (.and (.cmp .eq (.and (.mth 0 (.var 0) (.cons (.var 1) .nil)) (.one (.mth 0 (.var 1) (.cons (.var 0) .nil)))) (.cmp .eq (.var 0) (.var 1))) (.one (.mth 0 (.var 0) (.cons (.mk 1 .nil) .nil))))) .skip)))))))
def b__law_often_right : Iv.St := (.seq (.ite (.cmp .eq (.olen (.var 1)) (.int 0)) (.seq (.ret (.mth 0 (.var 0) (.cons (.var 1) .nil))) .skip) .skip) (.seq (.asg 2 (.mth 2 (.var 0) (.cons (.var 1) .nil))) (.seq (.ite (.or (.not (.mth 0 (.var 0) (.cons (.bin .mul (.var 1) (.var 2)) .nil))) (.one (.mth 0 (.var 0) (.cons (.bin .mul (.var 1) (.bin .add (.var 2) (.int 1))) .nil)))) (.seq (.ret (.bl false)) .skip) .skip) (.seq (.ret (.and (.cmp .eq (.mth 2 (.bin .add (.var 0) (.var 1)) (.cons (.var 1) .nil)) (.bin .add (.var 2) (.int 1))) (.one (.cmp .eq (.mth 2 (.bin .mul (.var 1) (.int 5)) (.cons (.var 1) .nil)) (.int 5))))) .skip))))
def b__law_right : Iv.St := (.seq (.asg 1 (.newc [2] (.nm 2) (.rng (.int 4)) (.bl true) (.call 14 (.cons (.var 0) .nil)))) (.seq (.app 1 (.bin .add (.ix (.var 1) (.int 0)) (.ix (.var 1) (.int 1)))) (.frzv 1 (.seq (.loop (.nm 3) (.one (.sl (.var 1) .no (.one (.int 3)))) (.seq (.loop (.nm 4) (.one (.var 1)) (.seq (.ite (.or (.cmp .ne (.cmp .eq (.var 3) (.var 4)) (.cmp .eq (.prp 0 (.var 3)) (.prp 0 (.var 4)))) (.one (.cmp .ne (.mth 0 (.var 3) (.cons (.var 4) .nil)) (.cmp .eq (.olen (.mth 1 (.var 3) (.cons (.var 4) .nil))) (.int 0))))) (.seq (.ret (.bl false)) .skip) .skip) (.seq (.ite (.or (.and (.mth 0 (.var 3) (.cons (.var 4) .nil)) (.one (.cmp .ne (.bin .add (.bin .sub (.var 3) (.var 4)) (.var 4)) (.var 3)))) (.one (.not (.call 17 (.cons (.var 3) (.cons (.var 4) .nil)))))) (.seq (.ret (.bl false)) .skip) .skip) (.seq (.ite (.or (.not (.call 15 (.cons (.var 3) (.cons (.var 4) (.cons (.ix (.var 1) (.int 3)) .nil))))) (.one (.not (.call 16 (.cons (.var 3) (.cons (.var 4) (.cons (.ix (.var 1) (.int 3)) .nil))))))) (.seq (.ret (.bl false)) .skip) .skip) .skip)))) .skip)) (.seq (.ret (.and (.mth 0 (.ix (.var 1) (.int 4)) (.cons (.ix (.var 1) (.int 0)) .nil)) (.one (.mth 0 (.ix (.var 1) (.int 4)) (.cons (.ix (.var 1) (.int 1)) .nil))))) .skip)))))
def b_law : Iv.St := (.seq (.loop (.nm 1) (.rng (.bi .max2 (.cons (.int 1) (.cons (.bi .min2 (.cons (.int 3) (.cons (.bi .len (.cons (.var 0) .nil)) .nil))) .nil)))) (.seq (.ite (.not (.call 18 (.cons (.call 10 (.cons (.var 0) (.cons (.var 1) .nil))) .nil))) (.seq (.ret (.bl false)) .skip) .skip) .skip)) (.seq (.ret (.and (.cmp .eq (.cme 0 .nil) (.mk 1 .nil)) (.and (.not (.obool (.mk 1 .nil))) (.one (.mth 0 (.mk 0 (.cons (.ptup (.cons (.tup (.cons (.str [99, 111, 114, 101]) (.cons (.int 1000000) .nil))) .nil)) .nil)) (.cons (.mk 1 .nil) .nil)))))) .skip))
def b_AmountsD_initD : Iv.St := (.seq (.ite (.not (.call 5 (.cons (.var 1) .nil))) (.seq .never .skip) .skip) (.seq (.setsl 0 (.var 0) (.varp 1)) (.seq (.setsl 1 (.var 0) (.dof (.varp 1))) .skip)))
def b_AmountsD_initD_d : Iv.St := (.seq (.ite (.not (.call 5 (.cons (.var 1) .nil))) (.seq .never .skip) .skip) (.seq (.setsl 0 (.var 0) (.varp 1)) (.seq (.setsl 1 (.var 0) (.dof (.varp 1))) .skip)))
def b_Amounts_cover_of : Iv.St := (.seq (.asg 2 .newd) (.seq (.loop (.nm 3) (.one (.var 1)) (.seq (.expr (.call 7 (.cons (.var 3) .nil))) (.seq (.loop (.tp (.cons (.nm 4) (.cons (.nm 5) .nil))) (.one (.slt 0 (.var 3))) (.seq (.setd 2 (.var 4) (.bi .max2 (.cons (.var 5) (.cons (.dgt (.var 2) (.var 4) (.int 0)) .nil)))) .skip)) .skip))) (.seq (.ret (.mkc 0 0 (.cons (.ptl (.srti (.var 2))) .nil))) .skip)))
def b_Amounts_pairs : Iv.St := (.seq (.ret (.slt 0 (.var 0))) .skip)
def b_Amounts_covers : Iv.St := (.seq (.expr (.call 7 (.cons (.var 1) .nil))) (.seq (.ret (.deq0 false (.call 9 (.cons (.var 0) (.cons (.var 1) .nil))))) .skip))
def b_Amounts_lacks : Iv.St := (.seq (.expr (.call 7 (.cons (.var 1) .nil))) (.seq (.ret (.call 6 (.cons (.call 9 (.cons (.var 0) (.cons (.var 1) .nil))) .nil))) .skip))
def b_Amounts_times : Iv.St := (.seq (.expr (.call 7 (.cons (.var 1) .nil))) (.seq (.ite (.cmp .eq (.slt 0 (.var 1)) (.tup .nil)) (.seq .never .skip) .skip) (.seq (.ret (.bi .min (.cons (.comp [2, 3] (.tp (.cons (.nm 2) (.cons (.nm 3) .nil))) (.one (.slt 0 (.var 1))) (.bl true) (.bin .fdiv (.dgt (.slt 1 (.var 0)) (.var 2) (.int 0)) (.var 3))) .nil))) .skip)))
def b_AmountsD_addD : Iv.St := (.seq (.expr (.call 8 (.cons (.var 1) .nil))) (.seq (.asg 2 (.stars (.slt 1 (.var 0)) (.comp [3] (.nm 3) (.one (.slt 1 (.var 1))) (.one (.din true (.var 3) (.slt 1 (.var 0)))) (.var 3)))) (.seq (.ret (.call 6 (.cons (.dcmp [3] (.nm 3) (.one (.var 2)) (.bl true) (.var 3) (.bin .add (.dgt (.slt 1 (.var 0)) (.var 3) (.int 0)) (.dgt (.slt 1 (.var 1)) (.var 3) (.int 0)))) .nil))) .skip)))
def b_AmountsD_subD : Iv.St := (.seq (.expr (.call 8 (.cons (.var 1) .nil))) (.seq (.asg 2 (.call 9 (.cons (.var 0) (.cons (.var 1) .nil)))) (.seq (.ite (.deq0 true (.var 2)) (.seq .never .skip) .skip) (.seq (.ret (.call 6 (.cons (.dcmp [3, 4] (.tp (.cons (.nm 3) (.cons (.nm 4) .nil))) (.one (.slt 0 (.var 0))) (.bl true) (.var 3) (.bin .sub (.var 4) (.dgt (.slt 1 (.var 1)) (.var 3) (.int 0)))) .nil))) .skip))))
def b_AmountsD_mulD : Iv.St := (.seq (.ite (.not (.call 0 (.cons (.var 1) .nil))) (.seq .never .skip) .skip) (.seq (.ite (.cmp .lt (.var 1) (.int 0)) (.seq .never .skip) .skip) (.seq (.ret (.call 6 (.cons (.dcmp [2, 3] (.tp (.cons (.nm 2) (.cons (.nm 3) .nil))) (.one (.slt 0 (.var 0))) (.bl true) (.var 2) (.bin .mul (.var 1) (.var 3))) .nil))) .skip)))
def b_AmountsD_lenD : Iv.St := (.seq (.ret (.bi .len (.cons (.slt 0 (.var 0)) .nil))) .skip)
def b_AmountsD_boolD : Iv.St := (.seq (.ret (.bi .bool (.cons (.slt 0 (.var 0)) .nil))) .skip)
def b_AmountsD_eqD : Iv.St := (.seq (.ret (.and (.isc 0 (.var 1)) (.one (.cmp .eq (.slt 0 (.var 0)) (.slt 0 (.var 1)))))) .skip)
def fns0 : List Iv.Fn := [⟨1, 1, b_is_integer, .all⟩, ⟨3, 3, b_is_from, .all⟩, ⟨2, 3, b_begins_with_letter, .all⟩, ⟨1, 1, b_is_kind, .all⟩, ⟨1, 3, b_are_ascending, .all⟩, ⟨1, 2, b_are_pairs, .all⟩, ⟨1, 2, b_amounts_of, .all⟩, ⟨1, 1, b_require_amounts, .all⟩, ⟨1, 1, b_require_operand, .all⟩, ⟨2, 5, b_missing, .all⟩, ⟨2, 4, b__law_dice, .all⟩, ⟨2, 5, b__law_roll, .all⟩, ⟨2, 2, b__law_pick, .all⟩, ⟨2, 3, b__law_some, .all⟩, ⟨1, 4, b__law_drawn, .all⟩, ⟨3, 4, b__law_sums_right, .all⟩, ⟨3, 4, b__law_covers_right, .all⟩, ⟨2, 3, b__law_often_right, .all⟩, ⟨1, 5, b__law_right, .all⟩, ⟨1, 2, b_law, .all⟩, ⟨2, 2, b_AmountsD_initD, .all⟩, ⟨2, 2, b_AmountsD_initD_d, .dfl [.ptp []]⟩, ⟨2, 6, b_Amounts_cover_of, .star⟩, ⟨1, 1, b_Amounts_pairs, .all⟩, ⟨2, 2, b_Amounts_covers, .all⟩, ⟨2, 2, b_Amounts_lacks, .all⟩, ⟨2, 4, b_Amounts_times, .all⟩, ⟨2, 4, b_AmountsD_addD, .all⟩, ⟨2, 5, b_AmountsD_subD, .all⟩, ⟨2, 4, b_AmountsD_mulD, .all⟩, ⟨1, 1, b_AmountsD_lenD, .all⟩, ⟨1, 1, b_AmountsD_boolD, .all⟩, ⟨2, 2, b_AmountsD_eqD, .all⟩]
def P0 : Iv.Prg where
  globs := [(.int (1000000000000000000000000000000000000000000000000000000000000)), (.str [97, 98, 99, 100, 101, 102, 103, 104, 105, 106, 107, 108, 109, 110, 111, 112, 113, 114, 115, 116, 117, 118, 119, 120, 121, 122]), (.str [48, 49, 50, 51, 52, 53, 54, 55, 56, 57]), (.str [110, 111, 116, 104, 105, 110, 103]), (.int (8)), (.int (60)), (.int (1000000))]
  sub := fun _ _ => false
  fuel := 1000
  mks := [(0, 20), (0, 21)]
  sls := [(0, 0), (0, 1)]
  mts := [(0, 24), (0, 25), (0, 26)]
  prs := [(0, 23)]
  cms := [(0, 22)]
  isc := fun c j => (([(0, 0, true)] : List (Nat × Nat × Bool)).find? fun q => decide (q.1 = c) && decide (q.2.1 = j)).map (·.2.2)
  opf := fun o c => (([(.add, 0, 27), (.sub, 0, 28), (.mul, 0, 29)] : List (Iv.BOp × Nat × Nat)).find? fun q => decide (q.1 = o) && decide (q.2.1 = c)).map (·.2.2)
  eqf := fun c => (([(0, 32)] : List (Nat × Nat)).find? fun q => decide (q.1 = c)).map (·.2)
  lnf := fun c => (([(0, 30)] : List (Nat × Nat)).find? fun q => decide (q.1 = c)).map (·.2)
  bof := fun c => (([(0, 31)] : List (Nat × Nat)).find? fun q => decide (q.1 = c)).map (·.2)
end K01
end
section
set_option maxRecDepth 100000
set_option maxHeartbeats 1000000
namespace K01
open Iv
abbrev c (k : Nat) : Cal := call P0 fns0 k
theorem call_all {k f : Nat} {fn : Fn} {vs : List Vl} {S : Hs} (h : fns0[f]? = some fn) (had : fn.ad = .all) (hl : vs.length = fn.np) : c (k + 1) f vs S = fin S.length (exec P0 (c k) fn.body (vs.map some ++ List.replicate (fn.ns - fn.np) none) S) := by
  simp only [c, call, h, had, adapt, runF, hl, if_true]
/-- a body that hands back data and leaves the heap -/
theorem fin_ret (x : D) (S : Hs) : fin S.length (.ret (.d x) S) = .ok (.d x) S := by simp [fin]
theorem fin_nx (r : Ev) (S : Hs) : fin S.length (.nx r S) = .ok (.d .non) S := by simp [fin]
theorem is_integer {k : Nat} {S : Hs} {i : Int} (h1 : -1000000000000000000000000000000000000000000000000000000000000 < i) (h2 : i < 1000000000000000000000000000000000000000000000000000000000000) : c (k + 1) 0 [.d (.int i)] S = .ok (.d (.bl true)) S := by
  rw [call_all (fn := ⟨1, 1, b_is_integer, .all⟩) rfl rfl rfl]
  rw [← fin_ret]
  congr 1
  simp [b_is_integer, exec, ev, R.st, R.bind, D.wk, isiD, isTy, R.opt, P0, cmpD, h1, h2]
theorem is_from {k : Nat} {S : Hs} {i : Int} (h1 : 1 ≤ i) (h2 : i ≤ 1000000) : c (k + 2) 1 [.d (.int i), .d (.int 1), .d (.int 1000000)] S = .ok (.d (.bl true)) S := by
  rw [call_all (fn := ⟨3, 3, b_is_from, .all⟩) rfl rfl rfl]
  rw [← fin_ret]
  congr 1
  have e := is_integer (k := k) (S := S) (i := i) (by omega) (by omega)
  simp [b_is_from, exec, ev, evs, R.st, R.bind, D.wk, e, cmpD, R.opt, h1, h2]
end K01
end
section
set_option maxRecDepth 100000
set_option maxHeartbeats 1000000
namespace K01
open Iv
def KS : List Cs := [[97], [98, 49], [99, 111, 114, 101], [103, 112, 117], [109, 101, 109], [120]]
theorem begins {k : Nat} {S : Hs} {s : Cs} (h : s ∈ KS) : c (k + 1) 2 [.d (.str s), .d (.int 8)] S = .ok (.d (.bl true)) S := by
  rw [call_all (fn := ⟨2, 3, b_begins_with_letter, .all⟩) rfl rfl rfl]
  rw [← fin_ret]
  congr 1
  simp only [KS, List.mem_cons, List.not_mem_nil, or_false] at h
  rcases h with rfl | rfl | rfl | rfl | rfl | rfl <;> rfl
theorem is_kind {k : Nat} {S : Hs} {s : Cs} (h : s ∈ KS) : c (k + 2) 3 [.d (.str s)] S = .ok (.d (.bl true)) S := by
  rw [call_all (fn := ⟨1, 1, b_is_kind, .all⟩) rfl rfl rfl]
  rw [← fin_ret]
  congr 1
  have e := begins (k := k) (S := S) h
  simp only [KS, List.mem_cons, List.not_mem_nil, or_false] at h
  have e2 : s ≠ [110, 111, 116, 104, 105, 110, 103] := by rcases h with rfl | rfl | rfl | rfl | rfl | rfl <;> decide
  simp [b_is_kind, exec, ev, evs, R.st, R.bind, D.wk, P0, e, cmpD, rdV, D.plain, D.eqv, R.opt, e2] 
/-! ### loops over lists -/
theorem compL_all {f : D → Hs → R (Option D)} {S : Hs} {p : D → Bool} {g : D → D} : ∀ {xs acc : List D}, (∀ x ∈ xs, f x S = .ok (if p x then some (g x) else none) S) → compL f xs acc S = .ok (acc ++ (xs.filter p).map g) S
  | [], acc, _ => by simp [compL]
  | x :: xs, acc, h => by
    simp only [compL, h x List.mem_cons_self]
    have ih := fun acc => compL_all (acc := acc) (fun y hy => h y (List.mem_cons_of_mem _ hy))
    by_cases q : p x = true
    · rw [if_pos q]; dsimp only; rw [ih, List.filter_cons_of_pos q]; simp
    · rw [if_neg q]; dsimp only; rw [ih, List.filter_cons_of_neg q]
theorem compL_map {f : D → Hs → R (Option D)} {S : Hs} {g : D → D} {xs acc : List D} (h : ∀ x ∈ xs, f x S = .ok (some (g x)) S) : compL f xs acc S = .ok (acc ++ xs.map g) S := by
  rw [compL_all (p := fun _ => true) (g := g) (fun x hx => by rw [h x hx]; simp), List.filter_eq_self.mpr (fun _ _ => rfl)]
theorem kput_new {k : Ky} {v : D} {xs : List (Ky × D)} (h : ∀ p ∈ xs, p.1 ≠ k) : kput k v xs = xs ++ [(k, v)] := by
  unfold kput
  rw [if_neg]
  rw [List.any_eq_true]
  rintro ⟨p, hp, e⟩
  exact h p hp (of_decide_eq_true e)
theorem dcmpL_all {f : D → Hs → R (Option (Ky × D))} {S : Hs} {p : D → Bool} {g : D → Ky × D} : ∀ {xs : List D} {acc : List (Ky × D)}, (∀ x ∈ xs, f x S = .ok (if p x then some (g x) else none) S) → (acc.map (·.1) ++ ((xs.filter p).map fun x => (g x).1)).Nodup →
    dcmpL f xs acc S = .ok (acc ++ (xs.filter p).map g) S
  | [], acc, _, _ => by simp [dcmpL]
  | x :: xs, acc, h, nd => by
    simp only [dcmpL, h x List.mem_cons_self]
    by_cases q : p x = true
    · rw [if_pos q]; dsimp only
      rw [List.filter_cons_of_pos q] at nd ⊢
      rw [kput_new, dcmpL_all (fun y hy => h y (List.mem_cons_of_mem _ hy))]
      · simp
      · simpa using nd
      · intro a ha e
        rw [List.nodup_append] at nd
        exact nd.2.2 a.1 (List.mem_map_of_mem ha) (g x).1 (by simp) e
    · rw [if_neg q]; dsimp only
      rw [List.filter_cons_of_neg q] at nd ⊢
      exact dcmpL_all (fun y hy => h y (List.mem_cons_of_mem _ hy)) nd
/-! ### amounts -/
abbrev Wt := Cs → Int
def sup (w : Wt) : List Cs := KS.filter fun k => decide (0 < w k)
def prD (w : Wt) (k : Cs) : D := .tup [.str k, .int (w k)]
def prs (w : Wt) : List D := (sup w).map (prD w)
def tab (w : Wt) : List (Ky × D) := (sup w).map fun k => (.s k, .int (w k))
def amt (w : Wt) : D := .ins 0 [.ptp (prs w), .dct (tab w)]
/-- amounts that can be -/
def Ok (w : Wt) : Prop := ∀ k ∈ KS, 0 ≤ w k ∧ w k ≤ 1000000
theorem KS_nodup : KS.Nodup := by decide
theorem sup_nodup (w : Wt) : (sup w).Nodup := List.filter_sublist.nodup KS_nodup
theorem mem_sup {w : Wt} {k : Cs} : k ∈ sup w ↔ k ∈ KS ∧ 0 < w k := by simp [sup]
theorem kget_map {w : Wt} {k : Cs} : ∀ {l : List Cs}, kget (.s k) (l.map fun k => ((.s k : Ky), D.int (w k))) = if k ∈ l then some (.int (w k)) else none
  | [] => by simp [kget]
  | x :: l => by
    simp only [List.map_cons, kget]
    by_cases e : x = k
    · subst e; simp
    · have : ¬ (Ky.s x = Ky.s k) := fun q => e (by cases q; rfl)
      rw [if_neg this, kget_map]
      have e' : k ≠ x := fun q => e q.symm
      simp [e']
theorem kget_tab {w : Wt} {k : Cs} : kget (.s k) (tab w) = if k ∈ KS ∧ 0 < w k then some (.int (w k)) else none := by
  unfold tab; rw [kget_map]; simp only [mem_sup]
theorem get_tab {w : Wt} {k : Cs} (hk : k ∈ KS) (h : 0 ≤ w k) : (kget (.s k) (tab w)).getD (.int 0) = .int (w k) := by
  rw [kget_tab]
  by_cases e : 0 < w k
  · rw [if_pos ⟨hk, e⟩]; rfl
  · rw [if_neg (fun q => e q.2)]
    have : w k = 0 := by omega
    rw [this]; rfl
end K01
end
section
set_option maxRecDepth 100000
set_option maxHeartbeats 1000000
namespace K01
open Iv
theorem bools_true {α : Type} : ∀ xs : List α, bools (xs.map fun _ => D.bl true) = some (xs.map fun _ => true)
  | [] => rfl
  | x :: xs => by simp [bools, bools_true xs]
theorem allB_true {α : Type} : ∀ xs : List α, allB (xs.map fun _ => true) = true
  | [] => rfl
  | x :: xs => by simp [allB, allB_true xs]
theorem zip_asc : ∀ {l : List Cs}, l.Pairwise (fun a b => ltCs a b = true) → ∀ x ∈ zipD (l.map .str) ((l.map D.str).drop 1), ∃ a b, x = .tup [.str a, .str b] ∧ ltCs a b = true
  | [], _, x, h => by simp [zipD] at h
  | [a], _, x, h => by simp [zipD] at h
  | a :: b :: l, hp, x, h => by
    have h' : x ∈ zipD (D.str a :: D.str b :: l.map .str) (D.str b :: l.map .str) := by simpa using h
    simp only [zipD, List.mem_cons] at h'
    rw [List.pairwise_cons] at hp
    rcases h' with rfl | h'
    · exact ⟨a, b, rfl, hp.1 b List.mem_cons_self⟩
    · exact zip_asc hp.2 x (by simpa using h')
theorem are_asc {k : Nat} {S : Hs} {l : List Cs} (h : l.Pairwise (fun a b => ltCs a b = true)) (hl : l.length ≤ 60) : c (k + 1) 4 [.d (.lst (l.map .str))] S = .ok (.d (.bl true)) S := by
  rw [call_all (fn := ⟨1, 3, b_are_ascending, .all⟩) rfl rfl rfl]
  rw [← fin_ret]
  congr 1
  have hcut : cutL (l.map D.str) (some 1) none = (l.map D.str).drop 1 := by
    cases l with
    | nil => rfl
    | cons a l =>
      simp only [cutL, highD, lowD, List.map_cons, List.length_cons, List.length_map]
      rw [List.take_of_length_le (by simp)]
      simp
  have hz : ∀ (xs ys : List D), (zipD xs ys).length ≤ xs.length := by
    intro xs
    induction xs with
    | nil => intro ys; simp [zipD]
    | cons x xs ih => intro ys; cases ys with
      | nil => simp [zipD]
      | cons y ys => simp only [zipD, List.length_cons]; have := ih ys; omega
  have hb : ¬ (big < (zipD (l.map D.str) ((l.map D.str).drop 1)).length) := by
    have := hz (l.map D.str) ((l.map D.str).drop 1)
    rw [List.length_map] at this
    have e : big = 1000000 := rfl
    omega
  simp only [b_are_ascending, exec, ev, evs, evi, evo, R.st, R.bind, List.map_cons, List.map_nil, List.cons_append, List.nil_append, List.getElem?_cons_zero, D.wk, rdV, slD, R.opt, Option.map_some, hcut, if_neg hb]
  rw [compL_map (g := fun _ => D.bl true) (fun x hx => by
    obtain ⟨a, b, rfl, hab⟩ := zip_asc h x hx
    simp [asgD, asgL, wipes, List.replicate, D.wk, cmpD, rdV, R.opt, R.bind, ev, hab])]
  simp [rdVs, rdV, biD, bools_true, allB_true, R.opt]
theorem KS_asc : KS.Pairwise (fun a b => ltCs a b = true) := by decide
theorem sup_asc (w : Wt) : (sup w).Pairwise (fun a b => ltCs a b = true) := List.Pairwise.sublist List.filter_sublist KS_asc
theorem sup_len (w : Wt) : (sup w).length ≤ 6 := List.length_filter_le _ KS
theorem forL_all {t : Tg} {f : Ev → Hs → RS} {S : Hs} {I : Ev → Prop} : ∀ {xs : List D} {r : Ev}, I r → (∀ x ∈ xs, ∀ r, I r → ∃ r1 r2, asgD t x r = some r1 ∧ f r1 S = .nx r2 S ∧ I r2) → ∃ r', forL t f xs r S = .nx r' S ∧ I r'
  | [], r, hI, _ => ⟨r, rfl, hI⟩
  | x :: xs, r, hI, h => by
    obtain ⟨r1, r2, h1, h2, h3⟩ := h x List.mem_cons_self r hI
    obtain ⟨r', h4, h5⟩ := forL_all h3 (fun y hy => h y (List.mem_cons_of_mem _ hy))
    exact ⟨r', by simp only [forL, h1, h2, h4], h5⟩
theorem x_nx {cal : Cal} {a b : St} {r r1 : Ev} {S S1 : Hs} (h : exec P0 cal a r S = .nx r1 S1) : exec P0 cal (.seq a b) r S = exec P0 cal b r1 S1 := by simp only [exec, h]
theorem x_ret {cal : Cal} {a b : St} {r : Ev} {S S1 : Hs} {v : Vl} (h : exec P0 cal a r S = .ret v S1) : exec P0 cal (.seq a b) r S = .ret v S1 := by simp only [exec, h]
theorem x_loop {cal : Cal} {t : Tg} {it : Ex} {b : St} {r : Ev} {S S1 : Hs} {xs : List D} (h : evi P0 cal it r S = .ok xs S1) : exec P0 cal (.loop t it b) r S = forL t (fun r S => exec P0 cal b r S) xs r S1 := by simp only [exec, h, R.st]
theorem x_if {cal : Cal} {e : Ex} {a b : St} {r : Ev} {S S1 : Hs} {q : Bool} (h : ev P0 cal e r S = .ok (.d (.bl q)) S1) : exec P0 cal (.ite e a b) r S = if q then exec P0 cal a r S1 else exec P0 cal b r S1 := by
  cases q <;> simp only [exec, h, R.st] <;> rfl
theorem x_asg {cal : Cal} {e : Ex} {i : Nat} {r : Ev} {S S1 : Hs} {v : Vl} (h : ev P0 cal e r S = .ok v S1) : exec P0 cal (.asg i e) r S = .nx (r.set i (some v)) S1 := by simp only [exec, h, R.st]
theorem x_expr {cal : Cal} {e : Ex} {r : Ev} {S S1 : Hs} {v : Vl} (h : ev P0 cal e r S = .ok v S1) : exec P0 cal (.expr e) r S = .nx r S1 := by simp only [exec, h, R.st]
theorem x_retv {cal : Cal} {e : Ex} {r : Ev} {S S1 : Hs} {v : Vl} (h : ev P0 cal e r S = .ok v S1) : exec P0 cal (.ret e) r S = .ret v S1 := by simp only [exec, h, R.st]
/-- a list comprehension, an item at a time -/
theorem e_comp {cal : Cal} {own : List Nat} {t : Tg} {it c e : Ex} {r : Ev} {S S1 : Hs} {xs : List D} (p : D → Bool) (g : D → D) (h : evi P0 cal it r S = .ok xs S1) (hb : xs.length ≤ 1000000)
    (hx : ∀ x ∈ xs, ∃ r1, asgD t x (wipes r own) = some r1 ∧ ev P0 cal c r1 S1 = .ok (.d (.bl (p x))) S1 ∧ (p x = true → ev P0 cal e r1 S1 = .ok (.d (g x)) S1)) :
    ev P0 cal (.comp own t it c e) r S = .ok (.d (.lst ((xs.filter p).map g))) S1 := by
  simp only [ev, h, R.bind, if_neg (show ¬ big < xs.length from Nat.not_lt.mpr hb)]
  rw [compL_all (p := p) (g := g) fun x hm => ?_]
  · simp
  · obtain ⟨r1, h1, h2, h3⟩ := hx x hm
    simp only [h1, h2, R.bind]
    cases q : p x with
    | true => simp only [h3 q, if_true]
    | false => simp
theorem e_dcmp {cal : Cal} {own : List Nat} {t : Tg} {it c k e : Ex} {r : Ev} {S S1 : Hs} {xs : List D} (p : D → Bool) (g : D → Ky × D) (h : evi P0 cal it r S = .ok xs S1) (hb : xs.length ≤ 1000000)
    (hx : ∀ x ∈ xs, ∃ r1 y, asgD t x (wipes r own) = some r1 ∧ ev P0 cal c r1 S1 = .ok (.d (.bl (p x))) S1 ∧ (p x = true → ev P0 cal k r1 S1 = .ok (.d y) S1 ∧ keyD y = some (g x).1 ∧ ev P0 cal e r1 S1 = .ok (.d (g x).2) S1))
    (nd : ((xs.filter p).map fun x => (g x).1).Nodup) : ev P0 cal (.dcmp own t it c k e) r S = .ok (.d (.dct ((xs.filter p).map g))) S1 := by
  simp only [ev, h, R.bind, if_neg (show ¬ big < xs.length from Nat.not_lt.mpr hb)]
  rw [dcmpL_all (p := p) (g := g) (fun x hm => ?_) (by simpa using nd)]
  · simp
  · obtain ⟨r1, y, h1, h2, h3⟩ := hx x hm
    simp only [h1, h2, R.bind]
    cases q : p x with
    | true =>
      obtain ⟨a1, a2, a3⟩ := h3 q
      simp only [a1, a2, a3, if_true]
    | false => simp
theorem are_pairs {k : Nat} {S : Hs} {w : Wt} (h : ∀ x ∈ KS, w x ≤ 1000000) : c (k + 3) 5 [.d (.tup (prs w))] S = .ok (.d (.bl true)) S := by
  rw [call_all (fn := ⟨1, 2, b_are_pairs, .all⟩) rfl rfl rfl]
  rw [← fin_ret]
  congr 1
  have hlen : ¬ ((60 : Int) < ((prs w).length : Int)) := by have := sup_len w; simp only [prs, List.length_map]; omega
  have asc := are_asc (k := k + 1) (S := S) (sup_asc w) (by have := sup_len w; omega)
  show exec P0 (c (k + 2)) b_are_pairs [some (.d (.tup (prs w))), none] S = _
  unfold b_are_pairs
  rw [x_nx (r1 := [some (.d (.tup (prs w))), none]) (S1 := S) (by
    rw [x_if (q := false) (S1 := S) (by simp [ev, evs, R.bind, D.wk, isiD, isTy, R.opt, rdVs, rdV, biD, P0, cmpD, hlen])]
    simp [exec])]
  have hloop := forL_all (t := .nm 1) (f := fun r S => exec P0 (c (k + 2)) (.seq (.ite (.or (.not (.isi (.var 1) .tup)) (.or (.cmp .ne (.bi .len (.cons (.var 1) .nil)) (.int 2)) (.or (.not (.call 3 (.cons (.ix (.var 1) (.int 0)) .nil))) (.one (.not (.call 1 (.cons (.ix (.var 1) (.int 1)) (.cons (.int 1) (.cons (.glob 6) .nil))))))))) (.seq (.ret (.bl false)) .skip) .skip) .skip) r S) (S := S) (xs := prs w) (r := [some (.d (.tup (prs w))), none]) (I := fun r => ∃ z, r = [some (.d (.tup (prs w))), z]) ⟨none, rfl⟩ (fun x hx r hI => by
    obtain ⟨y, hy, rfl⟩ := List.mem_map.mp hx
    obtain ⟨hk, hpos⟩ := mem_sup.mp hy
    obtain ⟨z, rfl⟩ := hI
    refine ⟨_, [some (.d (.tup (prs w))), some (.d (prD w y))], rfl, ?_, _, rfl⟩
    have e1 := is_kind (k := k) (S := S) hk
    have e2 := is_from (k := k) (S := S) (i := w y) (by omega) (h y hk)
    simp [prD, exec, ev, evs, R.st, R.bind, D.wk, isiD, isTy, R.opt, rdVs, rdV, biD, cmpD, D.plain, D.eqv, ixD, plc, P0, e1, e2])
  obtain ⟨r', h1, z, rfl⟩ := hloop
  rw [x_nx (r1 := [some (.d (.tup (prs w))), z]) (S1 := S) (by rw [x_loop (xs := prs w) (S1 := S) (by simp [evi, ev, R.bind, D.wk])]; exact h1)]
  refine x_ret (x_retv ?_)
  have e := e_comp (cal := c (k + 2)) (own := [1]) (t := .nm 1) (it := .one (.var 0)) (c := .bl true) (e := .ix (.var 1) (.int 0)) (r := [some (.d (.tup (prs w))), z]) (S := S) (S1 := S) (xs := prs w) (fun _ => true) (fun x => match x with | .tup [a, _] => a | y => y) (by simp [evi, ev, R.bind, D.wk]) (by have := sup_len w; simp only [prs, List.length_map]; omega) (fun x hx => by
    obtain ⟨y, hy, rfl⟩ := List.mem_map.mp hx
    refine ⟨_, rfl, by simp [ev], fun _ => by simp [prD, wipes, ev, R.bind, D.wk, rdV, R.opt, ixD, plc]⟩)
  have e' : ((prs w).filter fun _ => true).map (fun x => match x with | .tup [a, _] => a | y => y) = (sup w).map D.str := by
    rw [List.filter_eq_self.mpr (fun _ _ => rfl)]
    simp [prs, prD, Function.comp_def]
  rw [e'] at e
  rw [ev, evs, e]
  simp only [R.bind, evs]
  exact asc
end K01
end
section
set_option maxRecDepth 100000
set_option maxHeartbeats 1000000
namespace K01
open Iv
/-! ### expressions, part by part -/
section
variable {cal : Cal} {r : Ev} {S S1 S2 : Hs}
theorem v_nil : evs P0 cal .nil r S = .ok [] S := by simp only [evs]
theorem v_cons {e es : Ex} {v : Vl} {vs : List Vl} (h : ev P0 cal e r S = .ok v S1) (h2 : evs P0 cal es r S1 = .ok vs S2) : evs P0 cal (.cons e es) r S = .ok (v :: vs) S2 := by simp only [evs, h, h2, R.bind]
theorem v_one {e : Ex} {v : Vl} (h : ev P0 cal e r S = .ok v S1) : evs P0 cal (.cons e .nil) r S = .ok [v] S1 := v_cons h v_nil
theorem v_var {i : Nat} {x : D} (h : r[i]? = some (some (.d x))) : ev P0 cal (.var i) r S = .ok (.d x.wk) S := by simp only [ev, h]
theorem v_loc {i n : Nat} (h : r[i]? = some (some (.loc n))) : ev P0 cal (.var i) r S = .ok (.loc n) S := by simp only [ev, h]
theorem v_mk {j : Nat} {es : Ex} {q : Nat × Nat} {vs : List Vl} {x : R Vl} (hq : P0.mks[j]? = some q) (h : evs P0 cal es r S = .ok vs S1) (h2 : mkV cal q.1 q.2 vs S1 = x) : ev P0 cal (.mk j es) r S = x := by simp only [ev, hq, h, R.bind, h2]
theorem v_ptl {e : Ex} {xs : List D} (h : ev P0 cal e r S = .ok (.d (.lst xs)) S1) : ev P0 cal (.ptl e) r S = .ok (.d (.ptp xs)) S1 := by simp only [ev, h, R.bind]
theorem v_call {f : Nat} {es : Ex} {vs : List Vl} {x : R Vl} (h : evs P0 cal es r S = .ok vs S1) (h2 : cal f vs S1 = x) : ev P0 cal (.call f es) r S = x := by simp only [ev, h, R.bind, h2]
theorem v_mth {j : Nat} {o es : Ex} {q : Nat × Nat} {fs : List D} {vs : List Vl} {x : R Vl} (hq : P0.mts[j]? = some q) (h : ev P0 cal o r S = .ok (.d (.ins q.1 fs)) S1) (h2 : evs P0 cal es r S1 = .ok vs S2) (h3 : cal q.2 (.d (.ins q.1 fs) :: vs) S2 = x) : ev P0 cal (.mth j o es) r S = x := by
  simp only [ev, hq, h, R.bind, insOf, beq_self_eq_true, if_true, h2, h3]
theorem v_cme {j : Nat} {es : Ex} {q : Nat × Nat} {vs : List Vl} {x : R Vl} (hq : P0.cms[j]? = some q) (h : evs P0 cal es r S = .ok vs S1) (h3 : cal q.2 (.d (.cls q.1) :: vs) S1 = x) : ev P0 cal (.cme j es) r S = x := by
  simp only [ev, hq, h, R.bind, h3]
theorem v_bin {o : BOp} {a b : Ex} {c0 f : Nat} {fs : List D} {y : D} {x : R Vl} (ha : ev P0 cal a r S = .ok (.d (.ins c0 fs)) S1) (hb : ev P0 cal b r S1 = .ok (.d y) S2) (ho : okR c0 y = true) (hf : P0.opf o c0 = some f) (h : cal f [.d (.ins c0 fs), .d y] S2 = x) : ev P0 cal (.bin o a b) r S = x := by
  simp only [ev, ha, hb, R.bind, ho, if_true, hf, h]
theorem v_eq {a b : Ex} {c0 f : Nat} {fs gs : List D} {q : Bool} {S3 : Hs} (ha : ev P0 cal a r S = .ok (.d (.ins c0 fs)) S1) (hb : ev P0 cal b r S1 = .ok (.d (.ins c0 gs)) S2) (hf : P0.eqf c0 = some f) (h : cal f [.d (.ins c0 fs), .d (.ins c0 gs)] S2 = .ok (.d (.bl q)) S3) : ev P0 cal (.cmp .eq a b) r S = .ok (.d (.bl q)) S3 := by
  simp only [ev, ha, hb, R.bind, rdV, okE, beq_self_eq_true, if_true, hf, h]
theorem v_ne {a b : Ex} {c0 f : Nat} {fs gs : List D} {q : Bool} {S3 : Hs} (ha : ev P0 cal a r S = .ok (.d (.ins c0 fs)) S1) (hb : ev P0 cal b r S1 = .ok (.d (.ins c0 gs)) S2) (hf : P0.eqf c0 = some f) (h : cal f [.d (.ins c0 fs), .d (.ins c0 gs)] S2 = .ok (.d (.bl q)) S3) : ev P0 cal (.cmp .ne a b) r S = .ok (.d (.bl (!q))) S3 := by
  simp only [ev, ha, hb, R.bind, rdV, okE, beq_self_eq_true, if_true, hf, h]
theorem v_not {a : Ex} {q : Bool} (h : ev P0 cal a r S = .ok (.d (.bl q)) S1) : ev P0 cal (.not a) r S = .ok (.d (.bl (!q))) S1 := by simp only [ev, h, R.bind]
theorem v_and {a b : Ex} {p q : Bool} (h : ev P0 cal a r S = .ok (.d (.bl p)) S) (h2 : p = true → ev P0 cal b r S = .ok (.d (.bl q)) S) : ev P0 cal (.and a b) r S = .ok (.d (.bl (p && q))) S := by
  cases p with
  | true => simp only [ev, h, R.bind, h2 rfl, Bool.true_and]
  | false => simp only [ev, h, R.bind, Bool.false_and]
theorem v_or {a b : Ex} {p q : Bool} (h : ev P0 cal a r S = .ok (.d (.bl p)) S) (h2 : p = false → ev P0 cal b r S = .ok (.d (.bl q)) S) : ev P0 cal (.or a b) r S = .ok (.d (.bl (p || q))) S := by
  cases p with
  | true => simp only [ev, h, R.bind, Bool.true_or]
  | false => simp only [ev, h, R.bind, h2 rfl, Bool.false_or]
theorem v_1 {a : Ex} {x : R Vl} (h : ev P0 cal a r S = x) : ev P0 cal (.one a) r S = x := by simp only [ev, h]
theorem v_slt {j : Nat} {o : Ex} {q : Nat × Nat} {fs : List D} {d : D} (hq : P0.sls[j]? = some q) (h : ev P0 cal o r S = .ok (.d (.ins q.1 fs)) S1) (h2 : fs[q.2]? = some d) : ev P0 cal (.slt j o) r S = .ok (.d d.wk) S1 := by
  simp only [ev, h, R.bind, hq, fldOf, if_true, h2, Option.map_some, R.opt]
theorem v_deq {ng : Bool} {d : Ex} {kvs : List (Ky × D)} (h : ev P0 cal d r S = .ok (.d (.dct kvs)) S1) : ev P0 cal (.deq0 ng d) r S = .ok (.d (.bl (if ng then !kvs.isEmpty else kvs.isEmpty))) S1 := by simp only [ev, h, R.bind]
theorem v_dgt {d k z : Ex} {kvs : List (Ky × D)} {y w : D} {q : Ky} (h : ev P0 cal d r S = .ok (.d (.dct kvs)) S) (h2 : ev P0 cal k r S = .ok (.d y) S) (h3 : ev P0 cal z r S = .ok (.d w) S) (hk : keyD y = some q) : ev P0 cal (.dgt d k z) r S = .ok (.d ((kget q kvs).getD w)) S := by
  simp only [ev, h, R.bind, rdK, h2, h3, hk, Option.map_some, R.opt]
end
/-! ### the order of texts -/
theorem lt_asym : ∀ {a b : Cs}, ltCs a b = true → ltCs b a = false
  | [], [], h => by simp [ltCs] at h
  | [], _ :: _, _ => rfl
  | _ :: _, [], h => by simp [ltCs] at h
  | x :: a, y :: b, h => by
    simp only [ltCs] at h ⊢
    split at h
    · rw [if_neg (by omega), if_neg (by omega)]
    · split at h
      · rename_i e; subst e
        rw [if_neg (by omega), if_pos rfl]
        exact lt_asym h
      · cases h
theorem lt_neg : ∀ {a b c : Cs}, ltCs c a = true → ltCs b a = true ∨ ltCs c b = true
  | a, b, [], h => by
    cases a with
    | nil => simp [ltCs] at h
    | cons x a => cases b with
      | nil => exact .inl rfl
      | cons y b => exact .inr rfl
  | [], b, _ :: _, h => by simp [ltCs] at h
  | x :: a, [], z :: c, h => .inl rfl
  | x :: a, y :: b, z :: c, h => by
    simp only [ltCs] at h ⊢
    by_cases h1 : y < x
    · rw [if_pos h1]; exact .inl rfl
    · by_cases h2 : z < y
      · right; rw [if_pos h2]
      · rw [if_neg h1, if_neg h2]
        by_cases h3 : z < x
        · omega
        · rw [if_neg h3] at h
          by_cases h4 : z = x
          · rw [if_pos h4] at h
            have h5 : y = x := by omega
            have h6 : z = y := by omega
            rw [if_pos h5, if_pos h6]
            exact lt_neg h
          · rw [if_neg h4] at h; cases h
theorem lt_tri : ∀ {a b : Cs}, ltCs b a = false → a ≠ b → ltCs a b = true
  | [], [], _, h => absurd rfl h
  | [], _ :: _, _, _ => rfl
  | _ :: _, [], h, _ => by simp [ltCs] at h
  | x :: a, y :: b, h, ne => by
    simp only [ltCs] at h ⊢
    by_cases h1 : x < y
    · rw [if_pos h1]
    · rw [if_neg h1]
      by_cases h2 : x = y
      · subst h2
        rw [if_neg (by omega), if_pos rfl] at h
        rw [if_pos rfl]
        exact lt_tri h fun e => ne (by rw [e])
      · rw [if_pos (by omega)] at h; cases h
theorem asc_one : ∀ {l m : List Cs}, l.Perm m → l.Pairwise (fun a b => ltCs a b = true) → m.Pairwise (fun a b => ltCs a b = true) → l = m
  | [], m, p, _, _ => by rw [List.nil_perm.mp p]
  | a :: l, [], p, _, _ => by simp at p
  | a :: l, b :: m, p, hl, hm => by
    rw [List.pairwise_cons] at hl hm
    have e : a = b := by
      by_cases q : a = b
      · exact q
      · have h1 : a ∈ b :: m := p.subset List.mem_cons_self
        have h2 : b ∈ a :: l := p.symm.subset List.mem_cons_self
        have h3 := hm.1 a ((List.mem_cons.mp h1).resolve_left q)
        have h4 := hl.1 b ((List.mem_cons.mp h2).resolve_left fun z => q z.symm)
        rw [lt_asym h3] at h4; cases h4
    subst e
    rw [asc_one (List.Perm.cons_inv p) hl.2 hm.2]
theorem sort_strs {L m : List Cs} (nd : L.Nodup) (hm : m.Pairwise (fun a b => ltCs a b = true)) (p : L.Perm m) : sortD (L.map .str) = m.map .str := by
  unfold sortD
  rw [← List.map_mergeSort (r := fun a b => !ltCs b a) (fun a _ b _ => rfl)]
  congr 1
  refine asc_one ((List.mergeSort_perm _ _).trans p) ?_ hm
  have hp := List.pairwise_mergeSort (le := fun a b => !ltCs b a) (fun a b c h1 h2 => by
    simp only [Bool.not_eq_true'] at h1 h2 ⊢
    cases q : ltCs c a with
    | false => rfl
    | true => rcases lt_neg (b := b) q with z | z
              · rw [z] at h1; cases h1
              · rw [z] at h2; cases h2) (fun a b => by
    cases q : ltCs b a with
    | false => simp
    | true => simp [lt_asym q]) L
  have nd' : (L.mergeSort fun a b => !ltCs b a).Nodup := (List.mergeSort_perm L _).nodup_iff.mpr nd
  exact (List.Pairwise.and hp nd').imp fun {a b} h => lt_tri (by simpa using h.1) h.2
theorem sort_ok {L : List Cs} (h : L.length ≤ 1000000) : sortOk (L.map .str) = true := by
  unfold sortOk alikeAll
  simp [List.all_map, D.alike, D.plain, notTup, Function.comp_def, h]
/-! ### dict(pairs), making amounts -/
theorem dofL_tab {w : Wt} : ∀ {l : List Cs} {acc : List (Ky × D)}, (acc.map (·.1) ++ l.map Ky.s).Nodup → dofL (l.map (prD w)) acc = some (acc ++ l.map fun k => (.s k, .int (w k)))
  | [], acc, _ => by simp [dofL]
  | x :: l, acc, nd => by
    simp only [List.map_cons, prD, dofL, keyD]
    rw [kput_new]
    · have := dofL_tab (w := w) (l := l) (acc := acc ++ [(.s x, .int (w x))]) (by simpa using nd)
      rw [this]; simp
    · intro a ha e
      rw [List.nodup_append] at nd
      exact nd.2.2 a.1 (List.mem_map_of_mem ha) (.s x) (by simp) e
theorem map_s_nodup {l : List Cs} (h : l.Nodup) : (l.map Ky.s).Nodup := by
  exact List.pairwise_map.mpr (List.Pairwise.imp (fun {a b} ne e => ne (by cases e; rfl)) h)
theorem init {k : Nat} {S : Hs} {w : Wt} {f : Nat} (hf : f = 20) (h : ∀ x ∈ KS, w x ≤ 1000000) : c (k + 4) 20 [.loc S.length, .d (.ptp (prs w))] (S ++ [.ins 0 []]) = .ok (.d .non) (S ++ [.ins 0 [some (.ptp (prs w)), some (.dct (tab w))]]) := by
  rw [call_all (fn := ⟨2, 2, b_AmountsD_initD, .all⟩) rfl rfl rfl]
  have e := are_pairs (k := k) (S := S ++ [.ins 0 []]) h
  have d := dofL_tab (w := w) (l := sup w) (acc := []) (by simpa using map_s_nodup (sup_nodup w))
  have d' : dofL (prs w) [] = some (tab w) := by simpa [prs, tab] using d
  have e2 : exec P0 (c (k + 3)) b_AmountsD_initD [some (.loc S.length), some (.d (.ptp (prs w)))] (S ++ [.ins 0 []]) = .nx [some (.loc S.length), some (.d (.ptp (prs w)))] (S ++ [.ins 0 [some (.ptp (prs w)), some (.dct (tab w))]]) := by
    unfold b_AmountsD_initD
    simp [exec, ev, evs, R.st, R.bind, D.wk, e, P0, d', R.opt, putF]
  show fin (S ++ [Ob.ins 0 []]).length (exec P0 (c (k + 3)) b_AmountsD_initD [some (.loc S.length), some (.d (.ptp (prs w)))] (S ++ [.ins 0 []])) = _
  rw [e2]
  simp only [fin]
  rw [List.take_of_length_le (by simp)]
theorem mk {k : Nat} {S : Hs} {w : Wt} (h : ∀ x ∈ KS, w x ≤ 1000000) : mkV (c (k + 4)) 0 20 [.d (.ptp (prs w))] S = .ok (.d (amt w)) S := by
  unfold mkV
  rw [init rfl h]
  simp [R.bind, allD, amt]
theorem mk0 {k : Nat} {S : Hs} : mkV (c (k + 4)) 0 21 [] S = .ok (.d (amt fun _ => 0)) S := by
  have e1 : prs (fun _ => 0) = [] := by simp [prs, sup]
  have e2 : c (k + 4) 21 [.loc S.length] (S ++ [.ins 0 []]) = c (k + 4) 20 [.loc S.length, .d (.ptp (prs fun _ => 0))] (S ++ [.ins 0 []]) := by
    rw [e1]
    simp only [c, call]
    rfl
  unfold mkV
  rw [e2, init rfl (by intro x _; decide)]
  simp [R.bind, allD, amt]
/-! ### amounts_of -/
theorem amounts_of {k : Nat} {S : Hs} {v w : Wt} {L : List Cs} (nd : L.Nodup) (hL : ∀ x ∈ L, x ∈ KS) (hw : ∀ x ∈ KS, w x ≤ 1000000) (hv : ∀ x ∈ KS, (0 < w x ↔ x ∈ L ∧ 0 < v x) ∧ (0 < w x → w x = v x)) :
    c (k + 5) 6 [.d (.dct (L.map fun x => (.s x, .int (v x))))] S = .ok (.d (amt w)) S := by
  rw [call_all (fn := ⟨1, 2, b_amounts_of, .all⟩) rfl rfl rfl]
  rw [← fin_ret]
  congr 1
  show exec P0 (c (k + 4)) b_amounts_of [some (.d (.dct (L.map fun x => (.s x, .int (v x))))), none] S = _
  unfold b_amounts_of
  refine x_ret (x_retv ?_)
  have hlen : L.length ≤ 6 := (List.Nodup.length_le_of_subset nd hL)
  have hm : sortD (L.map D.str) = (KS.filter fun x => decide (x ∈ L)).map .str := sort_strs nd (List.Pairwise.sublist List.filter_sublist KS_asc) (by
    refine (List.perm_ext_iff_of_nodup nd (List.filter_sublist.nodup KS_nodup)).mpr fun a => ?_
    simp only [List.mem_filter, decide_eq_true_eq]
    exact ⟨fun h => ⟨hL a h, h⟩, fun h => h.2⟩)
  have hk : (L.map fun x => ((.s x : Ky), D.int (v x))).map (fun p => kyD p.1) = L.map D.str := by simp [kyD, Function.comp_def]
  have it : evi P0 (c (k + 4)) (.one (.srt (.var 0))) [some (.d (.dct (L.map fun x => (.s x, .int (v x))))), none] S = .ok ((KS.filter fun x => decide (x ∈ L)).map .str) S := by
    simp only [evi, ev, R.bind, List.getElem?_cons_zero, D.wk, srtL, rdK, hk, sort_ok (show L.length ≤ 1000000 by omega), if_true, hm]
  have e := e_comp (cal := c (k + 4)) (own := [1]) (t := .nm 1) (c := .one (.cmp .gt (.dix (.var 0) (.var 1)) (.int 0))) (e := .tup (.cons (.var 1) (.cons (.dix (.var 0) (.var 1)) .nil))) (fun d => match d with | .str x => decide (0 < v x) | _ => false) (fun d => match d with | .str x => .tup [.str x, .int (v x)] | y => y) it (by rw [List.length_map]; exact Nat.le_trans (List.length_filter_le _ _) (by decide)) (fun d hd => by
    obtain ⟨x, hx, rfl⟩ := List.mem_map.mp hd
    have hx' : x ∈ L := by simpa using (List.mem_filter.mp hx).2
    have g : kget (.s x) (L.map fun x => ((.s x : Ky), D.int (v x))) = some (.int (v x)) := by rw [kget_map, if_pos hx']
    refine ⟨_, rfl, ?_, fun _ => ?_⟩
    · simp [wipes, ev, R.bind, D.wk, rdK, rdV, keyD, g, R.opt, cmpD]
    · simp [wipes, ev, evs, R.bind, D.wk, rdK, rdV, keyD, g, R.opt, dsOf, big])
  have e' : (((KS.filter fun x => decide (x ∈ L)).map D.str).filter fun d => match d with | .str x => decide (0 < v x) | _ => false).map (fun d => match d with | .str x => .tup [.str x, .int (v x)] | y => y) = prs w := by
    rw [List.filter_map, List.map_map, List.filter_filter]
    unfold prs sup
    have hf : (KS.filter fun a => ((fun d => match d with | .str x => decide (0 < v x) | _ => false) ∘ D.str) a && decide (a ∈ L)) = KS.filter fun k => decide (0 < w k) := by
      refine List.filter_congr fun x hx => ?_
      have := (hv x hx).1
      simp only [Function.comp_apply]
      by_cases a1 : 0 < w x
      · have := this.mp a1; simp [a1, this.1, this.2]
      · have a2 : ¬ (x ∈ L ∧ 0 < v x) := fun q => a1 (this.mpr q)
        simp only [a1, decide_false]
        by_cases b1 : x ∈ L <;> by_cases b2 : 0 < v x <;> simp [b1, b2] <;> exact a2 ⟨b1, b2⟩
    rw [hf]
    refine List.map_congr_left fun x hx => ?_
    have hx' := List.mem_filter.mp hx
    have := (hv x hx'.1).2 (by simpa using hx'.2)
    simp [prD, this]
  rw [e'] at e
  exact v_mk (q := (0, 20)) rfl (v_one (v_ptl e)) (mk (k := k) (S := S) hw)
end K01
end
section
set_option maxRecDepth 100000
set_option maxHeartbeats 1000000
namespace K01
open Iv
variable {k : Nat} {S : Hs}
theorem v_amt {cal : Cal} {r : Ev} {i : Nat} {w : Wt} (h : r[i]? = some (some (.d (amt w)))) : ev P0 cal (.var i) r S = .ok (.d (amt w)) S := v_var h
theorem v_dct {cal : Cal} {r : Ev} {i : Nat} {w : List (Ky × D)} (h : r[i]? = some (some (.d (.dct w)))) : ev P0 cal (.var i) r S = .ok (.d (.dct w)) S := v_var h
theorem v_own {cal : Cal} {r : Ev} {i : Nat} {w : Wt} (h : r[i]? = some (some (.d (amt w)))) : ev P0 cal (.slt 1 (.var i)) r S = .ok (.d (.dct (tab w))) S := by
  rw [ev, v_amt h]; rfl
theorem v_prs {cal : Cal} {r : Ev} {i : Nat} {w : Wt} (h : r[i]? = some (some (.d (amt w)))) : ev P0 cal (.slt 0 (.var i)) r S = .ok (.d (.tup (prs w))) S := by
  rw [ev, v_amt h]; rfl
theorem req {w : Wt} : c (k + 1) 7 [.d (amt w)] S = .ok (.d .non) S := by
  rw [call_all (fn := ⟨1, 1, b_require_amounts, .all⟩) rfl rfl rfl]
  rw [← fin_nx [some (.d (amt w))]]
  rfl
theorem req2 {w : Wt} : c (k + 1) 8 [.d (amt w)] S = .ok (.d .non) S := by
  rw [call_all (fn := ⟨1, 1, b_require_operand, .all⟩) rfl rfl rfl]
  rw [← fin_nx [some (.d (amt w))]]
  rfl
theorem prs_map {v : Wt} {β : Type} {g : D → β} {f : Cs → β} (h : ∀ y ∈ sup v, g (prD v y) = f y) : ((prs v).filter fun _ => true).map g = (sup v).map f := by
  rw [List.filter_eq_self.mpr (fun _ _ => rfl)]
  unfold prs
  rw [List.map_map]
  exact List.map_congr_left h
theorem prs_len (v : Wt) : (prs v).length ≤ 1000000 := by have := sup_len v; simp only [prs, List.length_map]; omega
theorem missing {u v : Wt} (hu : ∀ x ∈ KS, 0 ≤ u x) : c (k + 1) 9 [.d (amt u), .d (amt v)] S = .ok (.d (.dct (tab fun x => v x - u x))) S := by
  rw [call_all (fn := ⟨2, 5, b_missing, .all⟩) rfl rfl rfl]
  rw [← fin_ret]
  congr 1
  show exec P0 (c k) b_missing [some (.d (amt u)), some (.d (amt v)), none, none, none] S = _
  unfold b_missing
  have e1 := e_dcmp (cal := c k) (own := [3, 4]) (t := .tp (.cons (.nm 3) (.cons (.nm 4) .nil))) (it := .one (.slt 0 (.var 1))) (c := .bl true) (k := .var 3) (e := .bin .sub (.var 4) (.dgt (.slt 1 (.var 0)) (.var 3) (.int 0))) (r := [some (.d (amt u)), some (.d (amt v)), none, none, none]) (S := S) (S1 := S) (xs := prs v)
    (fun _ => true) (fun x => match x with | .tup [.str y, _] => (.s y, .int (v y - u y)) | _ => (.i 0, .non)) (by simp [evi, ev, R.bind, D.wk, amt, P0, fldOf, R.opt]) (prs_len v) (fun x hx => by
      obtain ⟨y, hy, rfl⟩ := List.mem_map.mp hx
      have hk := (mem_sup.mp hy).1
      have g := get_tab hk (hu y hk)
      refine ⟨_, .str y, rfl, by simp [ev], fun _ => ⟨by simp [prD, wipes, ev, D.wk], rfl, ?_⟩⟩
      simp [prD, wipes, ev, R.bind, D.wk, amt, P0, fldOf, R.opt, rdK, keyD, g, binD]) (by
      rw [prs_map (f := fun y => Ky.s y) (fun y _ => rfl)]; exact map_s_nodup (sup_nodup v))
  rw [prs_map (f := fun y => ((Ky.s y : Ky), D.int (v y - u y))) (fun y _ => rfl)] at e1
  rw [x_nx (x_asg e1)]
  refine x_ret (x_retv ?_)
  have e2 := e_dcmp (cal := c k) (own := [3]) (t := .nm 3) (it := .one (.var 2)) (c := .one (.cmp .gt (.dix (.var 2) (.var 3)) (.int 0))) (k := .var 3) (e := .dix (.var 2) (.var 3)) (r := [some (.d (amt u)), some (.d (amt v)), some (.d (.dct ((sup v).map fun y => (.s y, .int (v y - u y))))), none, none]) (S := S) (S1 := S) (xs := (sup v).map .str)
    (fun x => match x with | .str y => decide (0 < v y - u y) | _ => false) (fun x => match x with | .str y => (.s y, .int (v y - u y)) | _ => (.i 0, .non)) (by simp [evi, ev, R.bind, D.wk, kyD, Function.comp_def]) (by have := sup_len v; rw [List.length_map]; omega) (fun x hx => by
      obtain ⟨y, hy, rfl⟩ := List.mem_map.mp hx
      have g : kget (.s y) ((sup v).map fun y => ((.s y : Ky), D.int (v y - u y))) = some (.int (v y - u y)) := by rw [kget_map (w := fun y => v y - u y), if_pos hy]
      refine ⟨_, .str y, rfl, ?_, fun _ => ⟨by simp [wipes, ev, D.wk], rfl, ?_⟩⟩
      · simp [wipes, ev, R.bind, D.wk, rdK, keyD, g, R.opt, rdV, cmpD]
      · simp [wipes, ev, R.bind, D.wk, rdK, keyD, g, R.opt]) (by
      rw [List.filter_map, List.map_map]
      exact List.pairwise_map.mpr (List.Pairwise.imp (fun {a b} ne e => ne (by cases e; rfl)) (List.filter_sublist.nodup (sup_nodup v))))
  have e3 : (((sup v).map D.str).filter fun x => match x with | .str y => decide (0 < v y - u y) | _ => false).map (fun x => match x with | .str y => ((Ky.s y : Ky), D.int (v y - u y)) | _ => (.i 0, .non)) = tab fun x => v x - u x := by
    rw [List.filter_map, List.map_map]
    unfold tab sup
    rw [List.filter_filter]
    have hf : (KS.filter fun a => ((fun x => match x with | .str y => decide (0 < v y - u y) | _ => false) ∘ D.str) a && decide (0 < v a)) = KS.filter fun k => decide (0 < v k - u k) := by
      refine List.filter_congr fun x hx => ?_
      have := hu x hx
      simp only [Function.comp_apply]
      by_cases a : 0 < v x - u x
      · have b : 0 < v x := by omega
        simp [a, b]
      · simp only [decide_eq_false a, Bool.false_and]
    rw [hf]
    rfl
  rw [e3] at e2
  exact e2
theorem covers {u v : Wt} (hu : ∀ x ∈ KS, 0 ≤ u x) : c (k + 2) 24 [.d (amt u), .d (amt v)] S = .ok (.d (.bl (decide (∀ x ∈ KS, v x ≤ u x)))) S := by
  rw [call_all (fn := ⟨2, 2, b_Amounts_covers, .all⟩) rfl rfl rfl]
  rw [← fin_ret]
  congr 1
  show exec P0 (c (k + 1)) b_Amounts_covers [some (.d (amt u)), some (.d (amt v))] S = _
  unfold b_Amounts_covers
  rw [x_nx (x_expr (v_call (v_one (v_var rfl)) req))]
  refine x_ret (x_retv ?_)
  rw [v_deq (v_call (v_cons (v_var rfl) (v_one (v_var rfl))) (missing hu))]
  congr 3
  simp only [Bool.false_eq_true, if_false, tab, List.isEmpty_map]
  have : (sup fun x => v x - u x).isEmpty = decide (∀ x ∈ KS, v x ≤ u x) := by
    by_cases h : ∀ x ∈ KS, v x ≤ u x
    · rw [decide_eq_true h, List.isEmpty_iff]
      unfold sup
      rw [List.filter_eq_nil_iff]
      intro x hx; have := h x hx; simp; omega
    · rw [decide_eq_false h]
      cases q : sup (fun x => v x - u x) with
      | nil =>
        exfalso; apply h
        intro x hx
        unfold sup at q
        rw [List.filter_eq_nil_iff] at q
        have := q x hx; simp at this; omega
      | cons _ _ => rfl
  exact this
theorem lacks {u v : Wt} (hu : ∀ x ∈ KS, 0 ≤ u x) (hv : ∀ x ∈ KS, v x ≤ 1000000) : c (k + 6) 25 [.d (amt u), .d (amt v)] S = .ok (.d (amt fun x => max 0 (v x - u x))) S := by
  rw [call_all (fn := ⟨2, 2, b_Amounts_lacks, .all⟩) rfl rfl rfl]
  rw [← fin_ret]
  congr 1
  show exec P0 (c (k + 5)) b_Amounts_lacks [some (.d (amt u)), some (.d (amt v))] S = _
  unfold b_Amounts_lacks
  rw [x_nx (x_expr (v_call (v_one (v_var rfl)) (req (k := k + 4))))]
  refine x_ret (x_retv (v_call (v_one (v_call (v_cons (v_var rfl) (v_one (v_var rfl))) (missing (k := k + 4) hu))) ?_))
  exact amounts_of (k := k) (v := fun x => v x - u x) (sup_nodup _) (fun x hx => (mem_sup.mp hx).1) (fun x hx => by have := hv x hx; have := hu x hx; omega) (fun x hx => by
    simp only [mem_sup]
    constructor
    · constructor
      · intro h; exact ⟨⟨hx, by omega⟩, by omega⟩
      · intro h; omega
    · intro h; omega)
theorem eqvs_prs : ∀ {l m : List Cs} {u v : Wt}, D.eqvs (l.map (prD u)) (m.map (prD v)) = decide (l.map (fun k => (k, u k)) = m.map (fun k => (k, v k)))
  | [], [], u, v => by simp [D.eqvs]
  | [], _ :: _, u, v => by simp [D.eqvs]
  | _ :: _, [], u, v => by simp [D.eqvs]
  | a :: l, b :: m, u, v => by
    have ih := eqvs_prs (l := l) (m := m) (u := u) (v := v)
    simp only [List.map_cons, D.eqvs, ih, prD, D.eqv]
    by_cases h1 : a = b <;> by_cases h2 : u a = v b <;> simp [h1, h2] <;> simp_all
theorem plain_prs {v : Wt} : ∀ {l : List Cs} {n : Nat}, D.plains (l.map (prD v)) (n + 1) = true
  | [], n => rfl
  | a :: l, n => by
    simp only [List.map_cons, D.plains, prD, D.plain, plain_prs, Bool.and_true]
theorem sup_same {u v : Wt} (hu : ∀ x ∈ KS, 0 ≤ u x) (hv : ∀ x ∈ KS, 0 ≤ v x) : ((sup u).map (fun k => (k, u k)) = (sup v).map (fun k => (k, v k))) ↔ ∀ x ∈ KS, u x = v x := by
  constructor
  · intro h x hx
    have h1 := hu x hx
    have h2 := hv x hx
    by_cases a : 0 < u x
    · have m : (x, u x) ∈ (sup v).map (fun k => (k, v k)) := by rw [← h]; exact List.mem_map.mpr ⟨x, mem_sup.mpr ⟨hx, a⟩, rfl⟩
      obtain ⟨y, _, e⟩ := List.mem_map.mp m
      have e1 := congrArg Prod.fst e
      have e2 := congrArg Prod.snd e
      dsimp only at e1 e2
      subst e1; exact e2.symm
    · by_cases b : 0 < v x
      · have m : (x, v x) ∈ (sup u).map (fun k => (k, u k)) := by rw [h]; exact List.mem_map.mpr ⟨x, mem_sup.mpr ⟨hx, b⟩, rfl⟩
        obtain ⟨y, _, e⟩ := List.mem_map.mp m
        have e1 := congrArg Prod.fst e
        have e2 := congrArg Prod.snd e
        dsimp only at e1 e2
        subst e1; exact e2
      · omega
  · intro h
    have e : sup u = sup v := List.filter_congr fun x hx => by rw [h x hx]
    rw [e]
    exact List.map_congr_left fun x hx => by rw [h x (mem_sup.mp hx).1]
/-- the same amounts -/
def same (u v : Wt) : Bool := decide (∀ x ∈ KS, u x = v x)
theorem cmp_prs {u v : Wt} (hu : ∀ x ∈ KS, 0 ≤ u x) (hv : ∀ x ∈ KS, 0 ≤ v x) : cmpD .eq (.tup (prs u)) (.tup (prs v)) = some (same u v) := by
  have p1 : (D.tup (prs u)).plain deep = true := plain_prs (n := 28)
  have p2 : (D.tup (prs v)).plain deep = true := plain_prs (n := 28)
  have e : cmpD .eq (.tup (prs u)) (.tup (prs v)) = if (D.tup (prs u)).plain deep && (D.tup (prs v)).plain deep then some (D.eqvs (prs u) (prs v)) else none := rfl
  rw [e, p1, p2, Bool.and_self, if_pos rfl]
  simp only [prs, eqvs_prs, same]
  congr 1
  exact decide_eq_decide.mpr (sup_same hu hv)
theorem eq {u v : Wt} (hu : ∀ x ∈ KS, 0 ≤ u x) (hv : ∀ x ∈ KS, 0 ≤ v x) : c (k + 1) 32 [.d (amt u), .d (amt v)] S = .ok (.d (.bl (same u v))) S := by
  rw [call_all (fn := ⟨2, 2, b_AmountsD_eqD, .all⟩) rfl rfl rfl]
  rw [← fin_ret]
  congr 1
  show exec P0 (c k) b_AmountsD_eqD [some (.d (amt u)), some (.d (amt v))] S = _
  unfold b_AmountsD_eqD
  refine x_ret (x_retv ?_)
  have e := cmp_prs hu hv
  simp [ev, R.bind, D.wk, amt, P0, fldOf, R.opt, rdV, e]
/-- amounts that stand for the same are the same -/
theorem amt_ext {u v : Wt} (h : ∀ x ∈ KS, u x = v x) : amt u = amt v := by
  have e : sup u = sup v := List.filter_congr fun x hx => by rw [h x hx]
  have e1 : prs u = prs v := by unfold prs; rw [e]; exact List.map_congr_left fun x hx => by simp [prD, h x (mem_sup.mp hx).1]
  have e2 : tab u = tab v := by unfold tab; rw [e]; exact List.map_congr_left fun x hx => by simp [h x (mem_sup.mp hx).1]
  rw [amt, amt, e1, e2]
theorem len {u : Wt} : c (k + 1) 30 [.d (amt u)] S = .ok (.d (.int (sup u).length)) S := by
  rw [call_all (fn := ⟨1, 1, b_AmountsD_lenD, .all⟩) rfl rfl rfl]
  rw [← fin_ret]
  congr 1
  show exec P0 (c k) b_AmountsD_lenD [some (.d (amt u))] S = _
  simp [b_AmountsD_lenD, exec, ev, evs, R.st, R.bind, D.wk, amt, P0, fldOf, R.opt, rdVs, rdV, biD, prs]
theorem bool {u : Wt} : c (k + 1) 31 [.d (amt u)] S = .ok (.d (.bl (!(sup u).isEmpty))) S := by
  rw [call_all (fn := ⟨1, 1, b_AmountsD_boolD, .all⟩) rfl rfl rfl]
  rw [← fin_ret]
  congr 1
  show exec P0 (c k) b_AmountsD_boolD [some (.d (amt u))] S = _
  simp [b_AmountsD_boolD, exec, ev, evs, R.st, R.bind, D.wk, amt, P0, fldOf, R.opt, rdVs, rdV, biD, prs]
theorem pairs {u : Wt} : c (k + 1) 23 [.d (amt u)] S = .ok (.d (.tup (prs u))) S := by
  rw [call_all (fn := ⟨1, 1, b_Amounts_pairs, .all⟩) rfl rfl rfl]
  rw [← fin_ret]
  rfl
theorem mul {u : Wt} {m : Int} (h0 : 0 ≤ m) (hm : m ≤ 1000000) (hu : ∀ x ∈ KS, 0 ≤ u x ∧ u x ≤ 1000000) (hmu : ∀ x ∈ KS, m * u x ≤ 1000000) : c (k + 6) 29 [.d (amt u), .d (.int m)] S = .ok (.d (amt fun x => m * u x)) S := by
  rw [call_all (fn := ⟨2, 4, b_AmountsD_mulD, .all⟩) rfl rfl rfl]
  rw [← fin_ret]
  congr 1
  show exec P0 (c (k + 5)) b_AmountsD_mulD [some (.d (amt u)), some (.d (.int m)), none, none] S = _
  unfold b_AmountsD_mulD
  have i := is_integer (k := k + 4) (S := S) (i := m) (by omega) (by omega)
  rw [x_nx (r1 := [some (.d (amt u)), some (.d (.int m)), none, none]) (S1 := S) (by
    rw [x_if (q := false) (S1 := S) (by rw [v_not (v_call (v_one (v_var rfl)) i)]; rfl)]
    simp [exec])]
  rw [x_nx (r1 := [some (.d (amt u)), some (.d (.int m)), none, none]) (S1 := S) (by
    rw [x_if (q := false) (S1 := S) (by simp [ev, R.bind, D.wk, rdV, cmpD, R.opt]; omega)]
    simp [exec])]
  have e1 := e_dcmp (cal := c (k + 5)) (own := [2, 3]) (t := .tp (.cons (.nm 2) (.cons (.nm 3) .nil))) (it := .one (.slt 0 (.var 0))) (c := .bl true) (k := .var 2) (e := .bin .mul (.var 1) (.var 3)) (r := [some (.d (amt u)), some (.d (.int m)), none, none]) (S := S) (S1 := S) (xs := prs u)
    (fun _ => true) (fun x => match x with | .tup [.str y, _] => (.s y, .int (m * u y)) | _ => (.i 0, .non)) (by simp [evi, ev, R.bind, D.wk, amt, P0, fldOf, R.opt]) (prs_len u) (fun x hx => by
      obtain ⟨y, hy, rfl⟩ := List.mem_map.mp hx
      have hk := (mem_sup.mp hy).1
      have ok : mulOk m (u y) = true := by simp [mulOk]; left; left; omega
      refine ⟨_, .str y, rfl, by simp [ev], fun _ => ⟨by simp [prD, wipes, ev, D.wk], rfl, ?_⟩⟩
      simp [prD, wipes, ev, R.bind, D.wk, R.opt, binD, ok]) (by
      rw [prs_map (f := fun y => Ky.s y) (fun y _ => rfl)]; exact map_s_nodup (sup_nodup u))
  rw [prs_map (f := fun y => ((Ky.s y : Ky), D.int (m * u y))) (fun y _ => rfl)] at e1
  refine x_ret (x_retv (v_call (v_one e1) ?_))
  exact amounts_of (k := k) (v := fun x => m * u x) (sup_nodup _) (fun x hx => (mem_sup.mp hx).1) hmu (fun x hx => by
    simp only [mem_sup]
    refine ⟨⟨fun h => ⟨⟨hx, ?_⟩, h⟩, fun h => h.2⟩, fun _ => trivial⟩
    have := (hu x hx).1
    rcases Int.lt_or_eq_of_le this with q | q
    · exact q
    · rw [← q] at h; simp at h)
theorem add {u v : Wt} (hu : ∀ x ∈ KS, 0 ≤ u x) (hv : ∀ x ∈ KS, 0 ≤ v x) (hs : ∀ x ∈ KS, u x + v x ≤ 1000000) : c (k + 6) 27 [.d (amt u), .d (amt v)] S = .ok (.d (amt fun x => u x + v x)) S := by
  rw [call_all (fn := ⟨2, 4, b_AmountsD_addD, .all⟩) rfl rfl rfl]
  rw [← fin_ret]
  congr 1
  show exec P0 (c (k + 5)) b_AmountsD_addD [some (.d (amt u)), some (.d (amt v)), none, none] S = _
  unfold b_AmountsD_addD
  rw [x_nx (x_expr (v_call (v_one (v_var rfl)) (req2 (k := k + 4))))]
  have hin : ∀ y, (kget (.s y) (tab u)).isSome = decide (y ∈ sup u) := fun y => by
    unfold tab; rw [kget_map]; by_cases q : y ∈ sup u <;> simp [q]
  have ec := e_comp (cal := c (k + 5)) (own := [3]) (t := .nm 3) (it := .one (.slt 1 (.var 1))) (c := .one (.din true (.var 3) (.slt 1 (.var 0)))) (e := .var 3) (r := [some (.d (amt u)), some (.d (amt v)), none, none]) (S := S) (S1 := S) (xs := (sup v).map .str)
    (fun x => match x with | .str y => !decide (y ∈ sup u) | _ => false) (fun x => x) (by simp [evi, ev, R.bind, D.wk, amt, P0, fldOf, R.opt, tab, kyD, Function.comp_def]) (by have := sup_len v; rw [List.length_map]; omega) (fun x hx => by
      obtain ⟨y, hy, rfl⟩ := List.mem_map.mp hx
      refine ⟨_, rfl, ?_, fun _ => by simp [wipes, ev, D.wk]⟩
      have := hin y
      have this2 : (kget (.s y) (tab u)).isNone = !decide (y ∈ sup u) := by rw [← this, Option.not_isSome]
      simp [wipes, ev, R.bind, D.wk, amt, P0, fldOf, R.opt, rdK, keyD, this, this2])
  let L : List Cs := sup u ++ (sup v).filter fun y => !decide (y ∈ sup u)
  have eL : (sup u).map D.str ++ ((((sup v).map D.str).filter fun x => match x with | .str y => !decide (y ∈ sup u) | _ => false).map fun x => x) = L.map .str := by
    rw [List.filter_map, List.map_map]; simp [L, Function.comp_def]
  have hL6 : L.length ≤ 12 := by
    have h1 := sup_len u
    have h2 := Nat.le_trans (List.length_filter_le (fun y => !decide (y ∈ sup u)) (sup v)) (sup_len v)
    simp only [L, List.length_append]; omega
  have e1 : ev P0 (c (k + 5)) (.stars (.slt 1 (.var 0)) (.comp [3] (.nm 3) (.one (.slt 1 (.var 1))) (.one (.din true (.var 3) (.slt 1 (.var 0)))) (.var 3))) [some (.d (amt u)), some (.d (amt v)), none, none] S = .ok (.d (.lst (L.map .str))) S := by
    rw [ev, v_own rfl]
    simp only [R.bind, D.wk, starL]
    rw [ec]
    have e0 : (tab u).map (fun p => kyD p.1) = (sup u).map D.str := by simp [tab, kyD, Function.comp_def]
    simp only [starL, e0]
    rw [if_pos, eL]
    have := congrArg List.length eL
    rw [List.length_append, List.length_map (f := D.str) (as := L)] at this
    rw [this]
    show L.length ≤ 1000000
    omega
  rw [x_nx (x_asg e1)]
  have nd : L.Nodup := by
    rw [List.nodup_append]
    refine ⟨sup_nodup u, List.filter_sublist.nodup (sup_nodup v), fun a ha b hb e => ?_⟩
    have := (List.mem_filter.mp hb).2
    subst e
    simp [ha] at this
  have hsub : ∀ x ∈ L, x ∈ KS := fun x hx => by
    rcases List.mem_append.mp hx with h | h
    · exact (mem_sup.mp h).1
    · exact (mem_sup.mp (List.mem_filter.mp h).1).1
  have e2 := e_dcmp (cal := c (k + 5)) (own := [3]) (t := .nm 3) (it := .one (.var 2)) (c := .bl true) (k := .var 3) (e := .bin .add (.dgt (.slt 1 (.var 0)) (.var 3) (.int 0)) (.dgt (.slt 1 (.var 1)) (.var 3) (.int 0))) (r := [some (.d (amt u)), some (.d (amt v)), some (.d (.lst (L.map .str))), none]) (S := S) (S1 := S) (xs := L.map .str)
    (fun _ => true) (fun x => match x with | .str y => (.s y, .int (u y + v y)) | _ => (.i 0, .non)) (by simp [evi, ev, R.bind, D.wk]) (by rw [List.length_map]; omega) (fun x hx => by
      obtain ⟨y, hy, rfl⟩ := List.mem_map.mp hx
      have hk := hsub y hy
      have g1 := get_tab hk (hu y hk)
      have g2 := get_tab hk (hv y hk)
      refine ⟨_, .str y, rfl, by simp [ev], fun _ => ⟨by simp [wipes, ev, D.wk], rfl, ?_⟩⟩
      simp [wipes, ev, R.bind, D.wk, amt, P0, fldOf, R.opt, rdK, keyD, g1, g2, binD]) (by
      rw [List.filter_eq_self.mpr (fun _ _ => rfl), List.map_map]; exact map_s_nodup nd)
  have e3 : ((L.map D.str).filter fun _ => true).map (fun x => match x with | .str y => ((Ky.s y : Ky), D.int (u y + v y)) | _ => (.i 0, .non)) = L.map fun y => (.s y, .int (u y + v y)) := by
    rw [List.filter_eq_self.mpr (fun _ _ => rfl), List.map_map]; rfl
  rw [e3] at e2
  refine x_ret (x_retv (v_call (v_one e2) ?_))
  exact amounts_of (k := k) (v := fun x => u x + v x) nd hsub hs (fun x hx => by
    have h1 := hu x hx
    have h2 := hv x hx
    refine ⟨⟨fun h => ⟨?_, h⟩, fun h => h.2⟩, fun _ => rfl⟩
    by_cases a : 0 < u x
    · exact List.mem_append_left _ (mem_sup.mpr ⟨hx, a⟩)
    · refine List.mem_append_right _ (List.mem_filter.mpr ⟨mem_sup.mpr ⟨hx, by omega⟩, ?_⟩)
      simp [mem_sup, a])
theorem sub {u v : Wt} (hv : ∀ x ∈ KS, 0 ≤ v x) (hs : ∀ x ∈ KS, v x ≤ u x ∧ u x ≤ 1000000) : c (k + 6) 28 [.d (amt u), .d (amt v)] S = .ok (.d (amt fun x => u x - v x)) S := by
  rw [call_all (fn := ⟨2, 5, b_AmountsD_subD, .all⟩) rfl rfl rfl]
  rw [← fin_ret]
  congr 1
  show exec P0 (c (k + 5)) b_AmountsD_subD [some (.d (amt u)), some (.d (amt v)), none, none, none] S = _
  unfold b_AmountsD_subD
  rw [x_nx (x_expr (v_call (v_one (v_var rfl)) (req2 (k := k + 4))))]
  have em : tab (fun x => v x - u x) = [] := by
    unfold tab sup
    rw [List.filter_eq_nil_iff.mpr (fun x hx => by have := hs x hx; simp; omega)]; rfl
  have m := missing (k := k + 4) (S := S) (u := u) (v := v) (fun x hx => by have := hs x hx; have := hv x hx; omega)
  rw [em] at m
  rw [x_nx (x_asg (v_call (v_cons (v_var rfl) (v_one (v_var rfl))) m))]
  rw [x_nx (r1 := [some (.d (amt u)), some (.d (amt v)), some (.d (.dct [])), none, none]) (S1 := S) (by
    rw [x_if (q := false) (S1 := S) (by rw [v_deq (v_dct rfl)]; rfl)]
    simp [exec])]
  have e1 := e_dcmp (cal := c (k + 5)) (own := [3, 4]) (t := .tp (.cons (.nm 3) (.cons (.nm 4) .nil))) (it := .one (.slt 0 (.var 0))) (c := .bl true) (k := .var 3) (e := .bin .sub (.var 4) (.dgt (.slt 1 (.var 1)) (.var 3) (.int 0))) (r := [some (.d (amt u)), some (.d (amt v)), some (.d (.dct [])), none, none]) (S := S) (S1 := S) (xs := prs u)
    (fun _ => true) (fun x => match x with | .tup [.str y, _] => (.s y, .int (u y - v y)) | _ => (.i 0, .non)) (by simp [evi, ev, R.bind, D.wk, amt, P0, fldOf, R.opt]) (prs_len u) (fun x hx => by
      obtain ⟨y, hy, rfl⟩ := List.mem_map.mp hx
      have hk := (mem_sup.mp hy).1
      have g := get_tab hk (hv y hk)
      refine ⟨_, .str y, rfl, by simp [ev], fun _ => ⟨by simp [prD, wipes, ev, D.wk], rfl, ?_⟩⟩
      simp [prD, wipes, ev, R.bind, D.wk, amt, P0, fldOf, R.opt, rdK, keyD, g, binD]) (by
      rw [prs_map (f := fun y => Ky.s y) (fun y _ => rfl)]; exact map_s_nodup (sup_nodup u))
  rw [prs_map (f := fun y => ((Ky.s y : Ky), D.int (u y - v y))) (fun y _ => rfl)] at e1
  refine x_ret (x_retv (v_call (v_one e1) ?_))
  exact amounts_of (k := k) (v := fun x => u x - v x) (sup_nodup _) (fun x hx => (mem_sup.mp hx).1) (fun x hx => by have := hs x hx; have := hv x hx; omega) (fun x hx => by
    have h1 := hs x hx
    have h2 := hv x hx
    simp only [mem_sup]
    exact ⟨⟨fun h => ⟨⟨hx, by omega⟩, h⟩, fun h => h.2⟩, fun _ => by simp⟩)
end K01
end
section
set_option maxRecDepth 100000
set_option maxHeartbeats 1000000
namespace K01
open Iv
variable {k : Nat} {S : Hs}
theorem least_spec : ∀ (ns : List Int) (m : Int), (leastI m ns = m ∨ leastI m ns ∈ ns) ∧ leastI m ns ≤ m ∧ ∀ x ∈ ns, leastI m ns ≤ x
  | [], m => by simp [leastI]
  | n :: ns, m => by
    obtain ⟨h1, h2, h3⟩ := least_spec ns (if n < m then n else m)
    simp only [leastI]
    refine ⟨?_, ?_, ?_⟩
    · rcases h1 with h | h
      · by_cases q : n < m
        · rw [if_pos q] at h ⊢; right; rw [h]; exact List.mem_cons_self
        · rw [if_neg q] at h ⊢; left; exact h
      · right; exact List.mem_cons_of_mem _ h
    · by_cases q : n < m
      · rw [if_pos q] at h2 ⊢; omega
      · rw [if_neg q] at h2 ⊢; exact h2
    · intro x hx
      rcases List.mem_cons.mp hx with rfl | hx
      · by_cases q : x < m
        · rw [if_pos q] at h2 ⊢; exact h2
        · rw [if_neg q] at h2 ⊢; omega
      · exact h3 x hx
theorem ints_map {α : Type} (f : α → Int) : ∀ l : List α, intsD (l.map fun x => D.int (f x)) = some (l.map f)
  | [] => rfl
  | x :: l => by simp [intsD, ints_map f l]
theorem times {u v : Wt} (hu : ∀ x ∈ KS, 0 ≤ u x) (hv : ∀ x ∈ KS, v x ≤ 1000000) (ne : ∃ x ∈ KS, 0 < v x) : ∃ t, c (k + 2) 26 [.d (amt u), .d (amt v)] S = .ok (.d (.int t)) S ∧ (∀ x ∈ KS, 0 < v x → t ≤ u x / v x) ∧ ∃ x ∈ KS, 0 < v x ∧ t = u x / v x := by
  obtain ⟨x0, hx0, hp0⟩ := ne
  have m0 : x0 ∈ sup v := mem_sup.mpr ⟨hx0, hp0⟩
  cases hs : sup v with
  | nil => rw [hs] at m0; cases m0
  | cons y ys =>
    obtain ⟨l1, l2, l3⟩ := least_spec (ys.map fun x => u x / v x) (u y / v y)
    refine ⟨leastI (u y / v y) (ys.map fun x => u x / v x), ?_, fun x hx hp => ?_, ?_⟩
    · rw [call_all (fn := ⟨2, 4, b_Amounts_times, .all⟩) rfl rfl rfl]
      rw [← fin_ret]
      congr 1
      show exec P0 (c (k + 1)) b_Amounts_times [some (.d (amt u)), some (.d (amt v)), none, none] S = _
      unfold b_Amounts_times
      rw [x_nx (x_expr (v_call (v_one (v_amt rfl)) (req (k := k))))]
      have hne : cmpD .eq (.tup (prs v)) (.tup []) = some false := by
        have p1 : (D.tup (prs v)).plain deep = true := plain_prs (n := 28)
        have e : cmpD .eq (.tup (prs v)) (.tup []) = if (D.tup (prs v)).plain deep && true then some (D.eqvs (prs v) []) else none := rfl
        rw [e, p1, Bool.and_self, if_pos rfl]
        simp [prs, hs, D.eqvs]
      rw [x_nx (r1 := [some (.d (amt u)), some (.d (amt v)), none, none]) (S1 := S) (by
        rw [x_if (q := false) (S1 := S) (by
          rw [ev, v_prs rfl]
          simp [ev, evs, R.bind, dsOf, big, rdV, hne, R.opt])]
        simp [exec])]
      refine x_ret (x_retv ?_)
      have e1 := e_comp (cal := c (k + 1)) (own := [2, 3]) (t := .tp (.cons (.nm 2) (.cons (.nm 3) .nil))) (it := .one (.slt 0 (.var 1))) (c := .bl true) (e := .bin .fdiv (.dgt (.slt 1 (.var 0)) (.var 2) (.int 0)) (.var 3)) (r := [some (.d (amt u)), some (.d (amt v)), none, none]) (S := S) (S1 := S) (xs := prs v)
        (fun _ => true) (fun x => match x with | .tup [.str y, _] => .int (u y / v y) | _ => .non) (by simp [evi, ev, R.bind, D.wk, amt, P0, fldOf, R.opt]) (prs_len v) (fun x hx => by
          obtain ⟨y, hy, rfl⟩ := List.mem_map.mp hx
          obtain ⟨hk, hpos⟩ := mem_sup.mp hy
          have g := get_tab hk (hu y hk)
          have ok : (0 < v y ∧ v y < 2 ^ 1000) := ⟨hpos, Int.lt_of_le_of_lt (hv y hk) (by decide)⟩
          refine ⟨_, rfl, by simp [ev], fun _ => ?_⟩
          have b : binD .fdiv (.int (u y)) (.int (v y)) = some (.int (u y / v y)) := by
            show (if 0 < v y ∧ v y < 2 ^ 1000 then _ else _) = _
            rw [if_pos ok]
          simp [prD, wipes, ev, R.bind, D.wk, amt, P0, fldOf, R.opt, rdK, keyD, g, b])
      rw [prs_map (f := fun y => D.int (u y / v y)) (fun y _ => rfl)] at e1
      rw [ev, v_one e1]
      have hi := ints_map (fun y => u y / v y) (sup v)
      simp only [R.bind, rdVs, rdV, Option.bind_some, Option.map_some, biD, hi, R.opt]
      rw [hs]
      rfl
    · have hm : x ∈ sup v := mem_sup.mpr ⟨hx, hp⟩
      rw [hs] at hm
      rcases List.mem_cons.mp hm with rfl | hm
      · exact l2
      · exact l3 _ (List.mem_map_of_mem hm)
    · rcases l1 with h | h
      · have hy : y ∈ sup v := by rw [hs]; exact List.mem_cons_self
        exact ⟨y, (mem_sup.mp hy).1, (mem_sup.mp hy).2, h⟩
      · obtain ⟨z, hz, e⟩ := List.mem_map.mp h
        have hy : z ∈ sup v := by rw [hs]; exact List.mem_cons_of_mem _ hz
        exact ⟨z, (mem_sup.mp hy).1, (mem_sup.mp hy).2, e.symm⟩
/-! ### covers -/
/-- the dict stands for m -/
def Stands (E : List (Ky × D)) (m : Wt) : Prop := (∀ x ∈ KS, 0 ≤ m x) ∧ ∃ L : List Cs, L.Nodup ∧ (∀ x ∈ L, x ∈ KS) ∧ (∀ x ∈ KS, x ∈ L ↔ 0 < m x) ∧ E = L.map fun x => (.s x, .int (m x))
theorem Stands.len {E : List (Ky × D)} {m : Wt} (h : Stands E m) : E.length ≤ 6 := by
  obtain ⟨_, L, h1, h2, _, rfl⟩ := h
  rw [List.length_map]
  exact List.Nodup.length_le_of_subset h1 h2
theorem Stands.get {E : List (Ky × D)} {m : Wt} (h : Stands E m) {y : Cs} (hy : y ∈ KS) : (kget (.s y) E).getD (.int 0) = .int (m y) := by
  obtain ⟨h0, L, h1, h2, h3, rfl⟩ := h
  rw [kget_map]
  by_cases q : y ∈ L
  · rw [if_pos q]; rfl
  · rw [if_neg q]
    have : m y = 0 := by
      have z : ¬ (0 < m y) := fun w => q ((h3 y hy).mpr w)
      have := h0 y hy; omega
    rw [this]; rfl
theorem Stands.put {E : List (Ky × D)} {m : Wt} (h : Stands E m) {y : Cs} {n : Int} (hy : y ∈ KS) (hn : 0 < n) : Stands (kput (.s y) (.int n) E) (fun x => if x = y then n else m x) := by
  obtain ⟨h0, L, h1, h2, h3, rfl⟩ := h
  refine ⟨fun x hx => ?_, ?_⟩
  · by_cases q : x = y
    · simp only [q, if_true]; omega
    · simp only [q, if_false]; exact h0 x hx
  · by_cases q : y ∈ L
    · refine ⟨L, h1, h2, fun x hx => ?_, ?_⟩
      · by_cases e : x = y
        · subst e; simp [q, hn]
        · simp only [e, if_false]; exact h3 x hx
      · unfold kput
        rw [if_pos (by rw [List.any_eq_true]; exact ⟨(.s y, .int (m y)), List.mem_map_of_mem q, by simp⟩), List.map_map]
        refine List.map_congr_left fun x _ => ?_
        by_cases e : x = y
        · subst e; simp
        · have : ¬ (Ky.s x = Ky.s y) := fun z => e (by cases z; rfl)
          simp [e, this]
    · refine ⟨L ++ [y], ?_, ?_, fun x hx => ?_, ?_⟩
      · rw [List.nodup_append]; exact ⟨h1, by simp, fun a ha b hb e => by simp at hb; subst hb; subst e; exact q ha⟩
      · intro x hx
        rcases List.mem_append.mp hx with z | z
        · exact h2 x z
        · simp at z; subst z; exact hy
      · by_cases e : x = y
        · subst e; simp [hn]
        · simp only [e, if_false, List.mem_append, List.mem_singleton, or_false]; exact h3 x hx
      · rw [kput_new]
        · rw [List.map_append]
          congr 1
          · refine List.map_congr_left fun x hx => ?_
            have : x ≠ y := fun z => q (z ▸ hx)
            simp [this]
          · simp
        · intro p hp e
          obtain ⟨x, hx, rfl⟩ := List.mem_map.mp hp
          cases e
          exact q hx
theorem sort_by {L m : List Cs} {f : Cs → D} (hf : ∀ a b, D.lt (f b) (f a) = ltCs b a) (nd : L.Nodup) (hm : m.Pairwise (fun a b => ltCs a b = true)) (p : L.Perm m) : sortD (L.map f) = m.map f := by
  have e := sort_strs nd hm p
  unfold sortD at e ⊢
  rw [← List.map_mergeSort (r := fun a b => !ltCs b a) (fun a _ b _ => rfl)] at e
  have e' : (L.mergeSort fun a b => !ltCs b a) = m := by
    have := congrArg (List.map fun d => match d with | D.str s => s | _ => []) e
    simpa [List.map_map, Function.comp_def] using this
  rw [← List.map_mergeSort (r := fun a b => !ltCs b a) (fun a _ b _ => by rw [hf]), e']
theorem lt_irr (a : Cs) : ltCs a a = false := by
  cases q : ltCs a a with
  | false => rfl
  | true => have := lt_asym q; rw [q] at this; cases this
theorem Stands.sorted {E : List (Ky × D)} {m : Wt} (h : Stands E m) : sortOk (E.map pairD) = true ∧ sortD (E.map pairD) = prs m ∧ E.all (fun p => p.2.flat) = true := by
  have hl := h.len
  obtain ⟨h0, L, h1, h2, h3, rfl⟩ := h
  have e : (L.map fun x => ((Ky.s x : Ky), D.int (m x))).map pairD = L.map (prD m) := by rw [List.map_map]; rfl
  rw [e]
  refine ⟨?_, ?_, ?_⟩
  · rw [List.length_map] at hl
    unfold sortOk alikeAll
    have : L.length ≤ 1000000 := by omega
    simp [List.all_map, D.alike, D.alikes, D.plain, D.plains, prD, notTup, tup1, Function.comp_def, this]
  · refine sort_by (fun a b => ?_) h1 (sup_asc m) ?_
    · show (if D.eqv (.str b) (.str a) = true then D.lts [.int (m b)] [.int (m a)] else D.lt (.str b) (.str a)) = ltCs b a
      by_cases q : b = a
      · subst q
        have e1 : D.eqv (.str b) (.str b) = true := by simp [D.eqv]
        rw [if_pos e1, lt_irr]
        simp [D.lts, D.eqv]
      · have e1 : ¬ (D.eqv (.str b) (.str a) = true) := by simpa [D.eqv] using q
        rw [if_neg e1]
        rfl
    · refine (List.perm_ext_iff_of_nodup h1 (sup_nodup m)).mpr fun a => ?_
      rw [mem_sup]
      exact ⟨fun q => ⟨h2 a q, (h3 a (h2 a q)).mp q⟩, fun q => (h3 a q.1).mpr q.2⟩
  · simp [List.all_map, D.flat, Function.comp_def]
theorem forL_S {t : Tg} {f : Ev → Hs → RS} {I : Nat → Ev → Hs → Prop} : ∀ {xs : List D} {r : Ev} {S : Hs} {i : Nat}, I i r S → (∀ j x, xs[j]? = some x → ∀ r S, I (i + j) r S → ∃ r1 r2 S2, asgD t x r = some r1 ∧ f r1 S = .nx r2 S2 ∧ I (i + j + 1) r2 S2) → ∃ r' S', forL t f xs r S = .nx r' S' ∧ I (i + xs.length) r' S'
  | [], r, S, i, hI, _ => ⟨r, S, rfl, hI⟩
  | x :: xs, r, S, i, hI, h => by
    obtain ⟨r1, r2, S2, h1, h2, h3⟩ := h 0 x rfl r S hI
    obtain ⟨r', S', h4, h5⟩ := forL_S (i := i + 1) (r := r2) (S := S2) (xs := xs) h3 (fun j y hy r S hI => by
      have e : i + 1 + j = i + (j + 1) := by omega
      rw [e] at hI ⊢
      exact h (j + 1) y (by simpa using hy) r S hI)
    refine ⟨r', S', by simp only [forL, h1, h2, h4], ?_⟩
    have e : i + (x :: xs).length = i + 1 + xs.length := by simp; omega
    rw [e]; exact h5
/-- the greatest of some -/
def most : List Wt → Wt
  | [] => fun _ => 0
  | w :: ws => fun x => max (w x) (most ws x)
def upTo' (m w : Wt) (l : List Cs) : Wt := fun x => if x ∈ l then max (w x) (m x) else m x
theorem cover_of {ws : List Wt} (h5 : ws.length ≤ 5) (hw : ∀ w ∈ ws, ∀ x ∈ KS, 0 ≤ w x ∧ w x ≤ 1000000) : c (k + 5) 22 (.d (.cls 0) :: ws.map fun w => .d (amt w)) S = .ok (.d (amt (most ws.reverse))) S := by
  have hds : ∀ l : List Wt, dsOf (l.map fun w => .d (amt w)) = some (l.map amt) := by
    intro l
    induction l with
    | nil => rfl
    | cons w l ih => simp [dsOf, ih]
  have e0 : c (k + 5) 22 (.d (.cls 0) :: ws.map fun w => .d (amt w)) S = fin S.length (exec P0 (c (k + 4)) b_Amounts_cover_of [some (.d (.cls 0)), some (.d (.tup (ws.map amt))), none, none, none, none] S) := by
    have hf : fns0[22]? = some ⟨2, 6, b_Amounts_cover_of, .star⟩ := rfl
    simp only [c, call, hf, adapt, List.length_map, h5, if_true, hds, Option.map_some, runF, List.length_cons, List.length_nil]
    rfl
  rw [e0]
  have key : ∃ E, exec P0 (c (k + 4)) b_Amounts_cover_of [some (.d (.cls 0)), some (.d (.tup (ws.map amt))), none, none, none, none] S = .ret (.d (amt (most ws.reverse))) (S ++ [.dct E]) ∧ Stands E (most ws.reverse) := by
    unfold b_Amounts_cover_of
    rw [x_nx (x_asg (v := .loc S.length) (S1 := S ++ [.dct []]) (by simp only [ev]))]
    let R0 : Option Vl → Option Vl → Option Vl → Ev := fun a b d => [some (.d (.cls 0)), some (.d (.tup (ws.map amt))), some (.loc S.length), a, b, d]
    have inner : ∀ (w : Wt) (a b d : Option Vl) (m : Wt) (E : List (Ky × D)), (∀ x ∈ KS, 0 ≤ w x) → Stands E m → ∃ b' d' E', forL (.tp (.cons (.nm 4) (.cons (.nm 5) .nil))) (fun r S => exec P0 (c (k + 4)) (.seq (.setd 2 (.var 4) (.bi .max2 (.cons (.var 5) (.cons (.dgt (.var 2) (.var 4) (.int 0)) .nil)))) .skip) r S) (prs w) (R0 a b d) (S ++ [.dct E]) = .nx (R0 a b' d') (S ++ [.dct E']) ∧ Stands E' (fun x => max (w x) (m x)) := by
      intro w a b d m E hw0 hE
      have := forL_S (t := .tp (.cons (.nm 4) (.cons (.nm 5) .nil))) (f := fun r S => exec P0 (c (k + 4)) (.seq (.setd 2 (.var 4) (.bi .max2 (.cons (.var 5) (.cons (.dgt (.var 2) (.var 4) (.int 0)) .nil)))) .skip) r S) (xs := prs w) (r := R0 a b d) (S := S ++ [.dct E]) (i := 0)
        (I := fun i r S' => ∃ b' d' E', r = R0 a b' d' ∧ S' = S ++ [.dct E'] ∧ Stands E' (upTo' m w ((sup w).take i))) ⟨b, d, E, rfl, rfl, by rw [show upTo' m w ((sup w).take 0) = m by funext x; simp [upTo']]; exact hE⟩ (fun j x hx r S' hI => by
          obtain ⟨b', d', E', rfl, rfl, hE'⟩ := hI
          rw [Nat.zero_add] at hE' ⊢
          unfold prs at hx
          rw [List.getElem?_map] at hx
          cases hy : (sup w)[j]? with
          | none => rw [hy] at hx; cases hx
          | some y =>
            rw [hy] at hx
            cases hx
            obtain ⟨hk, hpos⟩ := mem_sup.mp (List.mem_of_getElem? hy)
            have g := hE'.get hk
            have len := hE'.len
            have nin : y ∉ (sup w).take j := fun hm => by
              obtain ⟨i, hi⟩ := List.mem_iff_getElem?.mp hm
              have hij : i < j := by
                have := (List.getElem?_eq_some_iff.mp hi).1
                rw [List.length_take] at this; omega
              rw [List.getElem?_take_of_lt hij] at hi
              have := (List.getElem?_inj (List.getElem?_eq_some_iff.mp hi).1 (sup_nodup w)).mp (hi.trans hy.symm)
              omega
            have um : upTo' m w ((sup w).take j) y = m y := by simp [upTo', nin]
            rw [um] at g
            have hm0 := hE.1 y hk
            refine ⟨R0 a (some (.d (.str y))) (some (.d (.int (w y)))), R0 a (some (.d (.str y))) (some (.d (.int (w y)))), S ++ [.dct (kput (.s y) (.int (if m y > w y then m y else w y)) E')], rfl, ?_, some (.d (.str y)), some (.d (.int (w y))), _, rfl, rfl, ?_⟩
            · have lb : E'.length < big := Nat.lt_of_le_of_lt len (by decide)
              simp [R0, exec, ev, evs, R.st, R.bind, D.wk, rdK, keyD, g, R.opt, rdVs, rdV, biD, lb]
            · have q := hE'.put hk (n := if m y > w y then m y else w y) (by split <;> omega)
              have e : (fun x => if x = y then (if m y > w y then m y else w y) else upTo' m w ((sup w).take j) x) = upTo' m w ((sup w).take (j + 1)) := by
                funext x
                have ht : (sup w).take (j + 1) = (sup w).take j ++ [y] := by
                  rw [List.take_succ, hy]; rfl
                unfold upTo'
                rw [ht]
                by_cases ex : x = y
                · subst ex
                  simp only [if_true, List.mem_append, List.mem_singleton, or_true]
                  split <;> omega
                · simp [ex]
              rw [e] at q
              exact q)
      obtain ⟨r', S', h1, b', d', E', rfl, rfl, hE'⟩ := this
      refine ⟨b', d', E', h1, ?_⟩
      have e : ∀ x ∈ KS, upTo' m w ((sup w).take (0 + (prs w).length)) x = max (w x) (m x) := by
        intro x hx
        have : (sup w).take (0 + (prs w).length) = sup w := by rw [Nat.zero_add]; unfold prs; rw [List.length_map, List.take_length]
        rw [this]
        unfold upTo'
        by_cases q : x ∈ sup w
        · rw [if_pos q]
        · rw [if_neg q]
          have z : ¬ (0 < w x) := fun z => q (mem_sup.mpr ⟨hx, z⟩)
          have := hw0 x hx
          have := hE.1 x hx
          omega
      obtain ⟨a0, L, a1, a2, a3, a4⟩ := hE'
      exact ⟨fun x hx => by show 0 ≤ max (w x) (m x); rw [← e x hx]; exact a0 x hx, L, a1, a2, fun x hx => by show x ∈ L ↔ 0 < max (w x) (m x); rw [← e x hx]; exact a3 x hx, by rw [a4]; exact List.map_congr_left fun x hx => by rw [e x (a2 x hx)]⟩
    have outer := forL_S (t := .nm 3) (f := fun r S => exec P0 (c (k + 4)) (.seq (.expr (.call 7 (.cons (.var 3) .nil))) (.seq (.loop (.tp (.cons (.nm 4) (.cons (.nm 5) .nil))) (.one (.slt 0 (.var 3))) (.seq (.setd 2 (.var 4) (.bi .max2 (.cons (.var 5) (.cons (.dgt (.var 2) (.var 4) (.int 0)) .nil)))) .skip)) .skip)) r S) (xs := ws.map amt) (r := R0 none none none) (S := S ++ [.dct []]) (i := 0)
      (I := fun i r S' => ∃ a b d E, r = R0 a b d ∧ S' = S ++ [.dct E] ∧ Stands E (most (ws.take i).reverse)) ⟨none, none, none, [], rfl, rfl, fun x _ => Int.le_refl 0, [], List.nodup_nil, (fun x h => by cases h), (fun x _ => by simp [most]), rfl⟩ (fun j x hx r S' hI => by
        obtain ⟨a, b, d, E, rfl, rfl, hE⟩ := hI
        rw [Nat.zero_add] at hE ⊢
        rw [List.getElem?_map] at hx
        cases hy : ws[j]? with
        | none => rw [hy] at hx; cases hx
        | some w =>
          rw [hy] at hx
          cases hx
          obtain ⟨b', d', E', h1, h2⟩ := inner w (some (.d (amt w))) b d _ E (fun x hx => (hw w (List.mem_of_getElem? hy) x hx).1) hE
          refine ⟨R0 (some (.d (amt w))) b d, R0 (some (.d (amt w))) b' d', S ++ [.dct E'], rfl, ?_, _, _, _, _, rfl, rfl, ?_⟩
          · show exec P0 (c (k + 4)) (.seq (.expr (.call 7 (.cons (.var 3) .nil))) (.seq (.loop (.tp (.cons (.nm 4) (.cons (.nm 5) .nil))) (.one (.slt 0 (.var 3))) (.seq (.setd 2 (.var 4) (.bi .max2 (.cons (.var 5) (.cons (.dgt (.var 2) (.var 4) (.int 0)) .nil)))) .skip)) .skip)) (R0 (some (.d (amt w))) b d) (S ++ [.dct E]) = _
            rw [x_nx (x_expr (v_call (v_one (v_amt (w := w) rfl)) (req (k := k + 3))))]
            rw [x_nx (r1 := R0 (some (.d (amt w))) b' d') (S1 := S ++ [.dct E']) (by rw [x_loop (xs := prs w) (S1 := S ++ [.dct E]) (by rw [evi, v_prs (w := w) rfl]; rfl)]; exact h1)]
            simp [exec]
          · have ht : ws.take (j + 1) = ws.take j ++ [w] := by rw [List.take_succ, hy]; rfl
            rw [ht, List.reverse_append]
            exact h2)
    obtain ⟨r', S', h1, a, b, d, E, rfl, rfl, hE⟩ := outer
    rw [Nat.zero_add, List.length_map, List.take_length] at hE
    refine ⟨E, ?_, hE⟩
    rw [x_nx (r1 := R0 a b d) (S1 := S ++ [.dct E]) (by rw [x_loop (xs := ws.map amt) (S1 := S ++ [.dct []]) (by simp [evi, ev, R.bind, D.wk])]; exact h1)]
    obtain ⟨s1, s2, s3⟩ := hE.sorted
    refine x_ret (x_retv ?_)
    have hm : ∀ x ∈ KS, most ws.reverse x ≤ 1000000 := by
      intro x hx
      have : ∀ l : List Wt, (∀ w ∈ l, w x ≤ 1000000) → most l x ≤ 1000000 := by
        intro l
        induction l with
        | nil => intro _; simp [most]
        | cons w l ih =>
          intro h
          have h1 := h w List.mem_cons_self
          have h2 := ih fun w hw => h w (List.mem_cons_of_mem _ hw)
          simp only [most]; omega
      exact this _ fun w hw' => (hw w (List.mem_reverse.mp hw') x hx).2
    have e1 : ev P0 (c (k + 4)) (.ptl (.srti (.var 2))) (R0 a b d) (S ++ [.dct E]) = .ok (.d (.ptp (prs (most ws.reverse)))) (S ++ [.dct E]) := by
      refine v_ptl ?_
      simp [R0, ev, R.bind, s1, s2, s3]
    have m := mk (k := k) (S := S ++ [.dct E]) hm
    show ev P0 (c (k + 4)) (.mkc 0 0 (.cons (.ptl (.srti (.var 2))) .nil)) (R0 a b d) (S ++ [.dct E]) = _
    have hr0 : (R0 a b d)[0]? = some (some (.d (.cls 0))) := rfl
    have hq0 : P0.mks[0]? = some (0, 20) := rfl
    simp only [ev, hr0, hq0, if_true]
    rw [v_one e1]
    simp only [R.bind]
    exact m
  obtain ⟨E, h1, _⟩ := key
  rw [h1]
  simp [fin]
end K01
end
section
set_option maxRecDepth 100000
set_option maxHeartbeats 1000000
set_option exponentiation.threshold 2000
namespace K01
open Iv
variable {k : Nat} {S : Hs}
/-- the dice stand at n -/
def Dice (n : Nat) (S : Hs) : Prop := ∃ a b d : Int, S[n]? = some (.lst [.int a, .int b, .int d])
theorem mulL {i j : Int} (h : i.natAbs < 2 ^ 64) : mulOk i j = true := by simp only [mulOk, decide_eq_true h, Bool.true_or]
theorem mulR {i j : Int} (h : j.natAbs < 2 ^ 64) : mulOk i j = true := by simp only [mulOk, decide_eq_true h, Bool.true_or, Bool.or_true]
theorem b_mul {i j : Int} (h : mulOk i j = true) : binD .mul (.int i) (.int j) = some (.int (i * j)) := by simp only [binD, h, if_true]
theorem b_mod {i j : Int} (h : 0 < j) : binD .mod (.int i) (.int j) = some (.int (i % j)) := by simp only [binD, h, if_true]
theorem b_div {i j : Int} (h : 0 < j) (h' : j < 2 ^ 1000) : binD .fdiv (.int i) (.int j) = some (.int (i / j)) := by simp only [binD, h, h', and_self, if_true]
theorem roll {n : Nat} {t : Int} (h0 : 0 < t) (h1 : t < 1000000) (hd : Dice n S) : ∃ v S', c (k + 1) 11 [.loc n, .d (.int t)] S = .ok (.d (.int v)) S' ∧ 0 ≤ v ∧ v < t ∧ Dice n S' ∧ S'.length = S.length ∧ ∀ j, j ≠ n → S'[j]? = S[j]? := by
  obtain ⟨a, b, d, hS⟩ := hd
  have hn : n < S.length := (List.getElem?_eq_some_iff.mp hS).1
  have fd : ∀ x : Int, binD .fdiv (.int x) (.int t) = some (.int (x / t)) := fun x => b_div h0 (Int.lt_trans h1 (by decide))
  have md : ∀ x : Int, binD .mod (.int x) (.int t) = some (.int (x % t)) := fun x => b_mod h0
  rw [call_all (fn := ⟨2, 5, b__law_roll, .all⟩) rfl rfl rfl]
  show ∃ v S', fin S.length (exec P0 (c k) b__law_roll [some (.loc n), some (.d (.int t)), none, none, none] S) = .ok (.d (.int v)) S' ∧ _
  by_cases ha : 0 < a
  · refine ⟨a % t, S.set n (.lst [.int (a / t), .int b, .int d]), ?_, Int.emod_nonneg _ (by omega), Int.emod_lt_of_pos _ h0, ⟨a / t, b, d, by simp [hn]⟩, by simp, fun j hj => by simp [Ne.symm hj]⟩
    have e : exec P0 (c k) b__law_roll [some (.loc n), some (.d (.int t)), none, none, none] S = .ret (.d (.int (a % t))) (S.set n (.lst [.int (a / t), .int b, .int d])) := by
      simp [b__law_roll, exec, ev, evs, R.st, R.bind, D.wk, rdV, hS, ixD, plc, R.opt, cmpD, ha, rdVs, biD, md, fd]
    rw [e]
    simp only [fin]
    rw [List.take_of_length_le (by simp)]
  · have e : ∃ v, exec P0 (c k) b__law_roll [some (.loc n), some (.d (.int t)), none, none, none] S = .ret (.d (.int (v % t))) (S.set n (.lst [.int a, .int b, .int (d + 1)])) := by
      unfold b__law_roll
      rw [x_nx (r1 := [some (.loc n), some (.d (.int t)), none, none, none]) (S1 := S) (by
        rw [x_if (q := false) (S1 := S) (by simp [ev, R.bind, rdV, hS, ixD, plc, R.opt, cmpD]; omega)]
        simp [exec])]
      rw [x_nx (r1 := [some (.loc n), some (.d (.int t)), none, none, none]) (S1 := S.set n (.lst [.int a, .int b, .int (d + 1)])) (by simp [exec, ev, R.st, R.bind, rdV, hS, ixD, plc, R.opt, binD])]
      have hS' : (S.set n (.lst [.int a, .int b, .int (d + 1)]))[n]? = some (.lst [.int a, .int b, .int (d + 1)]) := by simp [hn]
      generalize S.set n (.lst [.int a, .int b, .int (d + 1)]) = S' at hS' ⊢
      obtain ⟨x, hx, e3⟩ : ∃ x : Int, x.natAbs < 2 ^ 64 ∧ ev P0 (c k) (.bin .mod (.bi .int (.cons (.bin .add (.ix (.var 0) (.int 1)) (.bin .mul (.int 67867967) (.ix (.var 0) (.int 2)))) .nil)) (.int 2305843009213693561)) [some (.loc n), some (.d (.int t)), none, none, none] S' = .ok (.d (.int x)) S' := by
        refine ⟨(b + 67867967 * (d + 1)) % 2305843009213693561, ?_, ?_⟩
        · have h1 := Int.emod_nonneg (b + 67867967 * (d + 1)) (show (2305843009213693561 : Int) ≠ 0 by decide)
          have h2 := Int.emod_lt_of_pos (b + 67867967 * (d + 1)) (show (0 : Int) < 2305843009213693561 by decide)
          omega
        · have k1 := b_mul (i := 67867967) (j := d + 1) (mulL (by decide))
          have q1 := b_mod (i := b + 67867967 * (d + 1)) (j := 2305843009213693561) (by decide)
          have k0 : binD .add (.int b) (.int (67867967 * (d + 1))) = some (.int (b + 67867967 * (d + 1))) := rfl
          simp [ev, evs, R.bind, rdV, hS', ixD, plc, R.opt, k1, k0, rdVs, biD, q1]
      rw [x_nx (x_asg e3)]
      obtain ⟨y, e4⟩ : ∃ y : Int, ev P0 (c k) (.bin .add (.bin .mul (.bin .mod (.bi .int (.cons (.bin .add (.bin .mul (.var 3) (.var 3)) (.bin .mul (.int 101) (.ix (.var 0) (.int 2)))) .nil)) (.int 2305843009213693907)) (.int 7368847)) (.var 3)) [some (.loc n), some (.d (.int t)), none, some (.d (.int x)), none] S' = .ok (.d (.int y)) S' := by
        refine ⟨(x * x + 101 * (d + 1)) % 2305843009213693907 * 7368847 + x, ?_⟩
        have k1 := b_mul (i := 101) (j := d + 1) (mulL (by decide))
        have k2 := b_mul (i := x) (j := x) (mulL hx)
        have k0 : binD .add (.int (x * x)) (.int (101 * (d + 1))) = some (.int (x * x + 101 * (d + 1))) := rfl
        have q1 := b_mod (i := x * x + 101 * (d + 1)) (j := 2305843009213693907) (by decide)
        have k4 := b_mul (i := (x * x + 101 * (d + 1)) % 2305843009213693907) (j := 7368847) (mulR (by decide))
        have k5 : binD .add (.int ((x * x + 101 * (d + 1)) % 2305843009213693907 * 7368847)) (.int x) = some (.int ((x * x + 101 * (d + 1)) % 2305843009213693907 * 7368847 + x)) := rfl
        simp [ev, evs, R.bind, D.wk, rdV, hS', ixD, plc, R.opt, k1, k2, k0, rdVs, biD, q1, k4, k5]
      show ∃ v, exec P0 (c k) _ [some (.loc n), some (.d (.int t)), none, some (.d (.int x)), none] S' = _
      rw [x_nx (x_asg e4)]
      refine ⟨y / 65536, x_ret (x_retv ?_)⟩
      have q3 := b_div (i := y) (j := 65536) (by decide) (by decide)
      simp [ev, evs, R.bind, D.wk, R.opt, q3, rdVs, rdV, biD, md]
    obtain ⟨v, e⟩ := e
    refine ⟨v % t, S.set n (.lst [.int a, .int b, .int (d + 1)]), ?_, Int.emod_nonneg _ (by omega), Int.emod_lt_of_pos _ h0, ⟨a, b, d + 1, by simp [hn]⟩, by simp, fun j hj => by simp [Ne.symm hj]⟩
    rw [e]
    simp only [fin]
    rw [List.take_of_length_le (by simp)]
end K01
end
section
set_option maxRecDepth 100000
set_option maxHeartbeats 1000000
set_option exponentiation.threshold 2000
namespace K01
open Iv
variable {k : Nat} {S : Hs}
def Near (n : Nat) (S S' : Hs) : Prop := Dice n S' ∧ S'.length = S.length ∧ ∀ j, j ≠ n → S'[j]? = S[j]?
theorem Near.trans {n : Nat} {A B C : Hs} (h : Near n A B) (g : Near n B C) : Near n A C := ⟨g.1, g.2.1.trans h.2.1, fun j hj => (g.2.2 j hj).trans (h.2.2 j hj)⟩
inductive Ea (Rel : D → Option D → Prop) : List D → List (Option D) → Prop
  | nil : Ea Rel [] []
  | cons {x : D} {o : Option D} {xs : List D} {os : List (Option D)} : Rel x o → Ea Rel xs os → Ea Rel (x :: xs) (o :: os)
theorem compL_S {f : D → Hs → R (Option D)} {I : Hs → Prop} {Rel : D → Option D → Prop} : ∀ {xs acc : List D} {S : Hs}, I S → (∀ x ∈ xs, ∀ S, I S → ∃ o S', f x S = .ok o S' ∧ I S' ∧ Rel x o) → ∃ os S', compL f xs acc S = .ok (acc ++ os.filterMap id) S' ∧ I S' ∧ Ea Rel xs os
  | [], acc, S, hI, _ => ⟨[], S, by simp [compL], hI, .nil⟩
  | x :: xs, acc, S, hI, h => by
    obtain ⟨o, S1, h1, h2, h3⟩ := h x List.mem_cons_self S hI
    cases o with
    | none =>
      obtain ⟨os, S', a, b, d⟩ := compL_S (acc := acc) h2 (fun y hy => h y (List.mem_cons_of_mem _ hy))
      exact ⟨none :: os, S', by simp only [compL, h1, a]; simp, b, .cons h3 d⟩
    | some y =>
      obtain ⟨os, S', a, b, d⟩ := compL_S (acc := acc ++ [y]) h2 (fun y hy => h y (List.mem_cons_of_mem _ hy))
      exact ⟨some y :: os, S', by simp only [compL, h1, a]; simp, b, .cons h3 d⟩
def turn (cal : Cal) (own : List Nat) (t : Tg) (c e : Ex) (r : Ev) : D → Hs → R (Option D) := fun x S2 => match asgD t x (wipes r own) with
  | none => .bad
  | some r1 => (ev P0 cal c r1 S2).bind fun k S3 => match k with
    | .d (.bl true) => (ev P0 cal e r1 S3).bind fun y S4 => match y with
      | .d y => .ok (some y) S4
      | _ => .bad
    | .d (.bl false) => .ok none S3
    | _ => .bad
theorem ev_comp0 {cal : Cal} {own : List Nat} {t : Tg} {it c e : Ex} {r : Ev} {S : Hs} : ev P0 cal (.comp own t it c e) r S = (evi P0 cal it r S).bind fun xs S1 => if big < xs.length then .bad else (compL (turn cal own t c e r) xs [] S1).bind fun ys S5 => .ok (.d (.lst ys)) S5 := rfl
theorem ev_newc0 {cal : Cal} {own : List Nat} {t : Tg} {it c e : Ex} {r : Ev} {S : Hs} : ev P0 cal (.newc own t it c e) r S = (evi P0 cal it r S).bind fun xs S1 => if big < xs.length then .bad else (compL (turn cal own t c e r) xs [] S1).bind fun ys S5 => .ok (.loc S5.length) (S5 ++ [.lst ys]) := rfl
theorem compS {cal : Cal} {own : List Nat} {t : Tg} {it c e : Ex} {r : Ev} {S S1 : Hs} {xs : List D} {I : Hs → Prop} (Rel : D → Option D → Prop) (h : evi P0 cal it r S = .ok xs S1) (hb : xs.length ≤ 1000000) (hI : I S1)
    (hx : ∀ x ∈ xs, ∀ S, I S → ∃ r1 S3 b, asgD t x (wipes r own) = some r1 ∧ ev P0 cal c r1 S = .ok (.d (.bl b)) S3 ∧ ((b = false ∧ I S3 ∧ Rel x none) ∨ (b = true ∧ ∃ y S4, ev P0 cal e r1 S3 = .ok (.d y) S4 ∧ I S4 ∧ Rel x (some y)))) :
    ∃ os S', ev P0 cal (.comp own t it c e) r S = .ok (.d (.lst (os.filterMap id))) S' ∧ ev P0 cal (.newc own t it c e) r S = .ok (.loc S'.length) (S' ++ [.lst (os.filterMap id)]) ∧ I S' ∧ Ea Rel xs os := by
  obtain ⟨os, S', a, b, d⟩ := compL_S (f := turn cal own t c e r) (I := I) (Rel := Rel) (xs := xs) (acc := []) (S := S1) hI (fun x hm S hIS => by
    obtain ⟨r1, S3, b, h1, h2, h3⟩ := hx x hm S hIS
    rcases h3 with ⟨rfl, q1, q2⟩ | ⟨rfl, y, S4, q1, q2, q3⟩
    · exact ⟨none, S3, by simp only [turn, h1, h2, R.bind], q1, q2⟩
    · exact ⟨some y, S4, by simp only [turn, h1, h2, q1, R.bind], q2, q3⟩)
  rw [List.nil_append] at a
  refine ⟨os, S', ?_, ?_, b, d⟩
  · rw [ev_comp0, h]; simp only [R.bind, if_neg (show ¬ big < xs.length from Nat.not_lt.mpr hb), a]
  · rw [ev_newc0, h]; simp only [R.bind, if_neg (show ¬ big < xs.length from Nat.not_lt.mpr hb), a]
theorem fin_len {x : D} {S S' : Hs} (h : S'.length = S.length) : fin S.length (.ret (.d x) S') = .ok (.d x) S' := by
  simp only [fin]; rw [List.take_of_length_le (by omega)]
theorem pick {n : Nat} (hd : Dice n S) : ∃ v S', c (k + 2) 12 [.loc n, .d (.lst [.int 2, .int 4, .int 90000])] S = .ok (.d (.int v)) S' ∧ (v = 2 ∨ v = 4 ∨ v = 90000) ∧ Near n S S' := by
  obtain ⟨v, S', h1, h2, h3, h4⟩ := roll (k := k) (t := 3) (by decide) (by decide) hd
  rw [call_all (fn := ⟨2, 2, b__law_pick, .all⟩) rfl rfl rfl]
  show ∃ v S', fin S.length (exec P0 (c (k + 1)) b__law_pick [some (.loc n), some (.d (.lst [.int 2, .int 4, .int 90000]))] S) = .ok (.d (.int v)) S' ∧ _
  have hv : v = 0 ∨ v = 1 ∨ v = 2 := by omega
  have e1 : evs P0 (c (k + 1)) (.cons (.var 0) (.cons (.bi .len (.cons (.var 1) .nil)) .nil)) [some (.loc n), some (.d (.lst [.int 2, .int 4, .int 90000]))] S = .ok [.loc n, .d (.int 3)] S := by
    simp [evs, ev, R.bind, D.wk, rdVs, rdV, biD, R.opt]
  have e2 : ∀ w : D, ixD (.lst [.int 2, .int 4, .int 90000]) (.int v) = some w → exec P0 (c (k + 1)) b__law_pick [some (.loc n), some (.d (.lst [.int 2, .int 4, .int 90000]))] S = .ret (.d w) S' := fun w hw => by
    unfold b__law_pick
    refine x_ret (x_retv ?_)
    rw [ev, v_var rfl]
    simp only [R.bind, D.wk]
    rw [v_call e1 h1]
    simp only [rdV, hw, Option.map_some, R.opt]
  rcases hv with rfl | rfl | rfl
  · exact ⟨2, S', by rw [e2 (.int 2) rfl]; exact fin_len h4.2.1, .inl rfl, h4⟩
  · exact ⟨4, S', by rw [e2 (.int 4) rfl]; exact fin_len h4.2.1, .inr (.inl rfl), h4⟩
  · exact ⟨90000, S', by rw [e2 (.int 90000) rfl]; exact fin_len h4.2.1, .inr (.inr rfl), h4⟩
theorem ea_sub : ∀ {l : List Cs} {os : List (Option D)}, Ea (fun x o => o = none ∨ o = some x) (l.map D.str) os → ∃ ys : List Cs, os.filterMap id = ys.map D.str ∧ ys.Sublist l
  | [], _, .nil => ⟨[], rfl, .slnil⟩
  | a :: l, _, .cons h t => by
    obtain ⟨ys, e1, e2⟩ := ea_sub t
    rcases h with rfl | rfl
    · exact ⟨ys, by simpa using e1, .cons a e2⟩
    · exact ⟨a :: ys, by simp [e1], .cons₂ a e2⟩
theorem some' {n : Nat} (hd : Dice n S) : ∃ (ys : List Cs) (S' : Hs), c (k + 2) 13 [.loc n, .d (.lst (KS.map .str))] S = .ok (.d (.lst (ys.map .str))) S' ∧ ys.Sublist KS ∧ Near n S S' := by
  rw [call_all (fn := ⟨2, 3, b__law_some, .all⟩) rfl rfl rfl]
  show ∃ (ys : List Cs) (S' : Hs), fin S.length (exec P0 (c (k + 1)) b__law_some [some (.loc n), some (.d (.lst (KS.map .str))), none] S) = _ ∧ _
  obtain ⟨os, S', h1, _, h2, h3⟩ := compS (cal := c (k + 1)) (own := [2]) (t := .nm 2) (it := .one (.var 1)) (c := .one (.cmp .eq (.call 11 (.cons (.var 0) (.cons (.int 2) .nil))) (.int 0))) (e := .var 2) (r := [some (.loc n), some (.d (.lst (KS.map .str))), none]) (S := S) (S1 := S) (xs := KS.map .str) (I := fun S' => Near n S S') (fun x o => o = none ∨ o = some x)
    (by simp [evi, ev, R.bind, D.wk]) (by decide) ⟨hd, rfl, fun _ _ => rfl⟩ (fun x hx S1 hI => by
      obtain ⟨v, S2, a1, a2, a3, a4⟩ := roll (k := k) (t := 2) (by decide) (by decide) hI.1
      obtain ⟨y, hy, rfl⟩ := List.mem_map.mp hx
      refine ⟨_, S2, decide (v = 0), rfl, ?_, ?_⟩
      · refine v_1 ?_
        rw [ev, v_call (v_cons (v_loc rfl) (v_one (by simp only [ev]))) a1]
        have e : (v == 0) = decide (v = 0) := by by_cases q : v = 0 <;> simp [q]
        simp [R.bind, ev, rdV, cmpD, D.plain, D.eqv, R.opt, e]
      · by_cases q : v = 0
        · exact .inr ⟨by simp [q], .str y, S2, by simp [wipes, ev, D.wk], hI.trans a4, .inr rfl⟩
        · exact .inl ⟨by simp [q], hI.trans a4, .inl rfl⟩)
  obtain ⟨ys, e1, e2⟩ := ea_sub h3
  rw [e1] at h1
  exact ⟨ys, S', by unfold b__law_some; rw [x_ret (x_retv h1)]; exact fin_len h2.2.1, e2, h2⟩
theorem ea_pairs {b : Int} : ∀ {l : List Cs} {os : List (Option D)}, l.Nodup → Ea (fun x o => ∃ y v, x = D.str y ∧ o = some (.tup [.str y, .int v]) ∧ 1 ≤ v ∧ v ≤ b) (l.map D.str) os → ∃ w : Wt, os.filterMap id = l.map (prD w) ∧ (∀ x ∈ l, 1 ≤ w x ∧ w x ≤ b) ∧ ∀ x, x ∉ l → w x = 0
  | [], _, _, .nil => ⟨fun _ => 0, rfl, (fun x h => by cases h), fun _ _ => rfl⟩
  | a :: l, _, nd, .cons h t => by
    rw [List.nodup_cons] at nd
    obtain ⟨w, e1, e2, e3⟩ := ea_pairs nd.2 t
    obtain ⟨y, v, q1, rfl, q2, q3⟩ := h
    cases q1
    refine ⟨fun x => if x = a then v else w x, ?_, fun x hx => ?_, fun x hx => ?_⟩
    · simp only [List.filterMap_cons, id, e1, List.map_cons, prD, if_true]
      congr 1
      refine List.map_congr_left fun x hx => ?_
      have : x ≠ a := fun e => nd.1 (e ▸ hx)
      simp [prD, this]
    · by_cases q : x = a
      · simp only [q, if_true]; exact ⟨q2, q3⟩
      · simp only [q, if_false]; exact e2 x ((List.mem_cons.mp hx).resolve_left q)
    · have q : x ≠ a := fun e => hx (e ▸ List.mem_cons_self)
      simp only [q, if_false]
      exact e3 x fun h => hx (List.mem_cons_of_mem _ h)
/-- amounts as they are drawn -/
def Drawn (w : Wt) : Prop := ∀ x ∈ KS, 0 ≤ w x ∧ w x ≤ 90000
theorem drawn {n : Nat} (hd : Dice n S) : ∃ w S', c (k + 5) 14 [.loc n] S = .ok (.d (amt w)) S' ∧ Drawn w ∧ Near n S S' := by
  rw [call_all (fn := ⟨1, 4, b__law_drawn, .all⟩) rfl rfl rfl]
  show ∃ w S', fin S.length (exec P0 (c (k + 4)) b__law_drawn [some (.loc n), none, none, none] S) = _ ∧ _
  obtain ⟨ys, S1, a1, a2, a3⟩ := some' (k := k + 2) hd
  obtain ⟨m, S2, b1, b2, b3⟩ := pick (k := k + 2) a3.1
  have hm : 0 < m ∧ m < 1000000 ∧ m ≤ 90000 := by omega
  obtain ⟨os, S3, h1, _, h2, h3⟩ := compS (cal := c (k + 4)) (own := [3]) (t := .nm 3) (it := .one (.var 1)) (c := .bl true) (e := .tup (.cons (.var 3) (.cons (.bin .add (.int 1) (.call 11 (.cons (.var 0) (.cons (.var 2) .nil)))) .nil))) (r := [some (.loc n), some (.d (.lst (ys.map .str))), some (.d (.int m)), none]) (S := S2) (S1 := S2) (xs := ys.map .str) (I := fun S' => Near n S S') (fun x o => ∃ y v, x = D.str y ∧ o = some (.tup [.str y, .int v]) ∧ 1 ≤ v ∧ v ≤ 90000)
    (by simp [evi, ev, R.bind, D.wk]) (by rw [List.length_map]; exact Nat.le_trans a2.length_le (by decide)) (a3.trans b3) (fun x hx S1 hI => by
      obtain ⟨v, S4, q1, q2, q3, q4⟩ := roll (k := k + 3) hm.1 hm.2.1 hI.1
      obtain ⟨y, hy, rfl⟩ := List.mem_map.mp hx
      refine ⟨_, S1, true, rfl, by simp [ev], .inr ⟨rfl, .tup [.str y, .int (1 + v)], S4, ?_, hI.trans q4, y, 1 + v, rfl, rfl, by omega, by omega⟩⟩
      rw [ev, v_cons (v := .d (.str y)) (S1 := S1) (by simp [wipes, ev, D.wk]) (v_one (v := .d (.int (1 + v))) (S1 := S4) (by
        rw [ev]
        simp only [ev, R.bind]
        rw [v_cons (v_loc (n := n) rfl) (v_one (v_var (x := .int m) rfl))]
        simp only [R.bind, D.wk, q1, binD, Option.map_some, R.opt]))]
      simp [R.bind, dsOf, big])
  obtain ⟨w, e1, e2, e3⟩ := ea_pairs (a2.nodup KS_nodup) h3
  have hpr : ys.map (prD w) = prs w := by
    unfold prs
    congr 1
    refine asc_one ((List.perm_ext_iff_of_nodup (a2.nodup KS_nodup) (sup_nodup w)).mpr fun x => ?_) (List.Pairwise.sublist a2 KS_asc) (sup_asc w)
    rw [mem_sup]
    constructor
    · intro h; have := e2 x h; exact ⟨a2.subset h, by omega⟩
    · intro h
      by_cases q : x ∈ ys
      · exact q
      · rw [e3 x q] at h; omega
  have dr : Drawn w := fun x hx => by
    by_cases q : x ∈ ys
    · have := e2 x q; omega
    · rw [e3 x q]; omega
  refine ⟨w, S3, ?_, dr, h2⟩
  have ex : exec P0 (c (k + 4)) b__law_drawn [some (.loc n), none, none, none] S = .ret (.d (amt w)) S3 := by
    unfold b__law_drawn
    rw [x_nx (x_asg (v_call (v_cons (v_loc (n := n) rfl) (v_one (v := .d (.lst (KS.map .str))) (by simp [ev, evs, R.bind, dsOf, big, KS]))) a1))]
    rw [x_nx (x_asg (v_call (v_cons (v_loc (n := n) rfl) (v_one (v := .d (.lst [.int 2, .int 4, .int 90000])) (by simp [ev, evs, R.bind, dsOf, big]))) b1))]
    rw [e1, hpr] at h1
    exact x_ret (x_retv (v_mk (q := (0, 20)) rfl (v_one (v_ptl h1)) (mk (k := k) (S := S3) fun x hx => by have := dr x hx; omega)))
  rw [ex]
  exact fin_len h2.2.1
end K01
end
section
set_option maxRecDepth 100000
set_option maxHeartbeats 1000000
set_option exponentiation.threshold 2000
namespace K01
open Iv
variable {k : Nat} {S : Hs} {r : Ev}
def Bd (b : Int) (w : Wt) : Prop := ∀ x ∈ KS, 0 ≤ w x ∧ w x ≤ b
theorem same_t {u v : Wt} (h : ∀ x ∈ KS, u x = v x) : same u v = true := decide_eq_true h
theorem x_no {cal : Cal} {e : Ex} (h : ev P0 cal e r S = .ok (.d (.bl false)) S) : exec P0 cal (.ite e (.seq (.ret (.bl false)) .skip) .skip) r S = .nx r S := by
  rw [x_if h]; simp [exec]
theorem v_no {cal : Cal} {a : Ex} {p : Bool} (h : ev P0 cal a r S = .ok (.d (.bl p)) S) (hp : p = true) : ev P0 cal (.not a) r S = .ok (.d (.bl false)) S := by rw [v_not h, hp]; rfl
theorem v_ors {cal : Cal} {a b : Ex} (h : ev P0 cal a r S = .ok (.d (.bl false)) S) (h2 : ev P0 cal b r S = .ok (.d (.bl false)) S) : ev P0 cal (.or a b) r S = .ok (.d (.bl false)) S := v_or h fun _ => h2
theorem v_ands {cal : Cal} {a b : Ex} (h : ev P0 cal a r S = .ok (.d (.bl true)) S) (h2 : ev P0 cal b r S = .ok (.d (.bl true)) S) : ev P0 cal (.and a b) r S = .ok (.d (.bl true)) S := v_and h fun _ => h2
theorem v_neb {cal : Cal} {a b : Ex} {p q : Bool} (ha : ev P0 cal a r S = .ok (.d (.bl p)) S) (hb : ev P0 cal b r S = .ok (.d (.bl q)) S) : ev P0 cal (.cmp .ne a b) r S = .ok (.d (.bl (!(p == q)))) S := by
  simp only [ev, ha, hb, R.bind, rdV, cmpD, D.plain, D.eqv, Bool.and_self, if_true, Option.map_some, R.opt]
theorem v_eqb {cal : Cal} {a b : Ex} {p q : Bool} (ha : ev P0 cal a r S = .ok (.d (.bl p)) S) (hb : ev P0 cal b r S = .ok (.d (.bl q)) S) : ev P0 cal (.cmp .eq a b) r S = .ok (.d (.bl (p == q))) S := by
  simp only [ev, ha, hb, R.bind, rdV, cmpD, D.plain, D.eqv, Bool.and_self, if_true, Option.map_some, R.opt]
theorem v_eqi {cal : Cal} {a b : Ex} {p q : Int} (ha : ev P0 cal a r S = .ok (.d (.int p)) S) (hb : ev P0 cal b r S = .ok (.d (.int q)) S) : ev P0 cal (.cmp .eq a b) r S = .ok (.d (.bl (p == q))) S := by
  simp only [ev, ha, hb, R.bind, rdV, cmpD, D.plain, D.eqv, Bool.and_self, if_true, Option.map_some, R.opt]
theorem v_int {cal : Cal} {i : Int} : ev P0 cal (.int i) r S = .ok (.d (.int i)) S := by simp only [ev]
/-! ### amounts, at the depth k + 6 -/
section
variable {a b : Ex} {u v : Wt}
theorem a_add {B : Int} (ha : ev P0 (c (k + 6)) a r S = .ok (.d (amt u)) S) (hb : ev P0 (c (k + 6)) b r S = .ok (.d (amt v)) S) (hu : Bd B u) (hv : Bd (1000000 - B) v) : ev P0 (c (k + 6)) (.bin .add a b) r S = .ok (.d (amt fun x => u x + v x)) S :=
  v_bin (c0 := 0) (f := 27) ha hb rfl rfl (add (k := k) (fun x hx => (hu x hx).1) (fun x hx => (hv x hx).1) (fun x hx => by have := hu x hx; have := hv x hx; omega)) 
theorem a_sub (ha : ev P0 (c (k + 6)) a r S = .ok (.d (amt u)) S) (hb : ev P0 (c (k + 6)) b r S = .ok (.d (amt v)) S) (hv : ∀ x ∈ KS, 0 ≤ v x) (hs : ∀ x ∈ KS, v x ≤ u x ∧ u x ≤ 1000000) : ev P0 (c (k + 6)) (.bin .sub a b) r S = .ok (.d (amt fun x => u x - v x)) S :=
  v_bin (c0 := 0) (f := 28) ha hb rfl rfl (sub (k := k) hv hs)
theorem a_mul {m : Int} (ha : ev P0 (c (k + 6)) a r S = .ok (.d (amt u)) S) (hb : ev P0 (c (k + 6)) b r S = .ok (.d (.int m)) S) (h0 : 0 ≤ m) (hm : m ≤ 1000000) (hu : Bd 1000000 u) (hmu : ∀ x ∈ KS, m * u x ≤ 1000000) : ev P0 (c (k + 6)) (.bin .mul a b) r S = .ok (.d (amt fun x => m * u x)) S :=
  v_bin (c0 := 0) (f := 29) ha hb rfl rfl (mul (k := k) h0 hm hu hmu)
theorem a_mk0 : ev P0 (c (k + 6)) (.mk 1 .nil) r S = .ok (.d (amt fun _ => 0)) S := v_mk (q := (0, 21)) rfl v_nil (mk0 (k := k + 2))
theorem a_eq {q : Bool} (ha : ev P0 (c (k + 6)) a r S = .ok (.d (amt u)) S) (hb : ev P0 (c (k + 6)) b r S = .ok (.d (amt v)) S) (hu : ∀ x ∈ KS, 0 ≤ u x) (hv : ∀ x ∈ KS, 0 ≤ v x) (hq : same u v = q) : ev P0 (c (k + 6)) (.cmp .eq a b) r S = .ok (.d (.bl q)) S := by
  rw [← hq]; exact v_eq (c0 := 0) (f := 32) ha hb rfl (eq (k := k + 5) hu hv)
theorem a_ne (ha : ev P0 (c (k + 6)) a r S = .ok (.d (amt u)) S) (hb : ev P0 (c (k + 6)) b r S = .ok (.d (amt v)) S) (hu : ∀ x ∈ KS, 0 ≤ u x) (h : ∀ x ∈ KS, u x = v x) : ev P0 (c (k + 6)) (.cmp .ne a b) r S = .ok (.d (.bl false)) S := by
  have e := v_ne (c0 := 0) (f := 32) ha hb rfl (eq (k := k + 5) hu (fun x hx => by rw [← h x hx]; exact hu x hx))
  rw [same_t h] at e; exact e
theorem a_cov (ha : ev P0 (c (k + 6)) a r S = .ok (.d (amt u)) S) (hb : ev P0 (c (k + 6)) b r S = .ok (.d (amt v)) S) (hu : ∀ x ∈ KS, 0 ≤ u x) : ev P0 (c (k + 6)) (.mth 0 a (.cons b .nil)) r S = .ok (.d (.bl (decide (∀ x ∈ KS, v x ≤ u x)))) S :=
  v_mth (q := (0, 24)) rfl ha (v_one hb) (covers (k := k + 4) hu)
theorem a_lacks (ha : ev P0 (c (k + 6)) a r S = .ok (.d (amt u)) S) (hb : ev P0 (c (k + 6)) b r S = .ok (.d (amt v)) S) (hu : ∀ x ∈ KS, 0 ≤ u x) (hv : ∀ x ∈ KS, v x ≤ 1000000) : ev P0 (c (k + 6)) (.mth 1 a (.cons b .nil)) r S = .ok (.d (amt fun x => max 0 (v x - u x))) S :=
  v_mth (q := (0, 25)) rfl ha (v_one hb) (lacks (k := k) hu hv)
theorem a_cover {ws : List Wt} {es : Ex} (he : evs P0 (c (k + 6)) es r S = .ok (ws.map fun w => .d (amt w)) S) (h5 : ws.length ≤ 5) (hw : ∀ w ∈ ws, Bd 1000000 w) : ev P0 (c (k + 6)) (.cme 0 es) r S = .ok (.d (amt (most ws.reverse))) S :=
  v_cme (q := (0, 22)) rfl he (cover_of (k := k + 1) h5 hw)
end
theorem Bd.mono {a b : Int} {w : Wt} (h : Bd a w) (hab : a ≤ b) : Bd b w := fun x hx => ⟨(h x hx).1, Int.le_trans (h x hx).2 hab⟩
theorem Bd.add {a b : Int} {u v : Wt} (h : Bd a u) (g : Bd b v) : Bd (a + b) (fun x => u x + v x) := fun x hx => by have := h x hx; have := g x hx; show 0 ≤ u x + v x ∧ u x + v x ≤ a + b; omega
theorem Bd.nn {a : Int} {w : Wt} (h : Bd a w) : ∀ x ∈ KS, 0 ≤ w x := fun x hx => (h x hx).1
theorem bd0 {a : Int} (h : 0 ≤ a) : Bd a (fun _ => 0) := fun _ _ => ⟨Int.le_refl 0, h⟩
theorem sums_right {u v t : Wt} (hu : Bd 90000 u) (hv : Bd 180000 v) (ht : Bd 90000 t) : c (k + 7) 15 [.d (amt u), .d (amt v), .d (amt t)] S = .ok (.d (.bl true)) S := by
  rw [call_all (fn := ⟨3, 4, b__law_sums_right, .all⟩) rfl rfl rfl]
  rw [← fin_ret]
  congr 1
  show exec P0 (c (k + 6)) b__law_sums_right [some (.d (amt u)), some (.d (amt v)), some (.d (amt t)), none] S = _
  unfold b__law_sums_right
  have U : ∀ {z : Option Vl}, ev P0 (c (k + 6)) (.var 0) [some (.d (amt u)), some (.d (amt v)), some (.d (amt t)), z] S = .ok (.d (amt u)) S := v_amt rfl
  have V : ∀ {z : Option Vl}, ev P0 (c (k + 6)) (.var 1) [some (.d (amt u)), some (.d (amt v)), some (.d (amt t)), z] S = .ok (.d (amt v)) S := v_amt rfl
  have T : ∀ {z : Option Vl}, ev P0 (c (k + 6)) (.var 2) [some (.d (amt u)), some (.d (amt v)), some (.d (amt t)), z] S = .ok (.d (amt t)) S := v_amt rfl
  have uv := hu.add hv
  have vt := hv.add ht
  rw [x_nx (x_no (v_ors (a_ne (a_add (B := 90000) U V hu (hv.mono (by decide))) (a_add (B := 180000) V U hv (hu.mono (by decide))) uv.nn (fun x _ => Int.add_comm _ _))
    (v_1 (a_ne (a_add (B := 270000) (a_add (B := 90000) U V hu (hv.mono (by decide))) T uv (ht.mono (by decide))) (a_add (B := 90000) U (a_add (B := 180000) V T hv (ht.mono (by decide))) hu (vt.mono (by decide))) (uv.add ht).nn (fun x _ => Int.add_assoc _ _ _)))))]
  have m1 : ∀ x ∈ KS, v x ≤ u x + v x ∧ u x + v x ≤ 1000000 := fun x hx => by have := hu x hx; have := hv x hx; omega
  have m2 : ∀ x ∈ KS, u x ≤ u x ∧ u x ≤ 1000000 := fun x hx => by have := hu x hx; omega
  rw [x_nx (x_no (v_ors (a_ne (a_add (B := 90000) U a_mk0 hu (bd0 (by decide))) U (fun x hx => by have := hu x hx; omega) (fun x _ => by omega))
    (v_ors (a_ne (a_sub (a_add (B := 90000) U V hu (hv.mono (by decide))) V hv.nn m1) U (fun x hx => by have := hu x hx; omega) (fun x _ => by omega))
      (v_1 (a_ne (a_sub U U hu.nn m2) a_mk0 (fun x hx => by omega) (fun x _ => by omega))))))]
  have n2u : ∀ x ∈ KS, 2 * u x ≤ 1000000 := fun x hx => by have := hu x hx; omega
  have n2v : ∀ x ∈ KS, 2 * v x ≤ 1000000 := fun x hx => by have := hv x hx; omega
  have b2u : Bd 180000 (fun x => 2 * u x) := fun x hx => by have := hu x hx; show 0 ≤ 2 * u x ∧ 2 * u x ≤ 180000; omega
  have b2v : Bd 360000 (fun x => 2 * v x) := fun x hx => by have := hv x hx; show 0 ≤ 2 * v x ∧ 2 * v x ≤ 360000; omega
  have W := a_add (k := k) (B := 180000) (a_mul (k := k) (m := 2) (U (z := none)) v_int (by decide) (by decide) (hu.mono (by decide)) n2u) (a_mul (k := k) (m := 2) V v_int (by decide) (by decide) (hv.mono (by decide)) n2v) b2u (b2v.mono (by decide))
  rw [x_nx (x_asg W)]
  refine x_ret (x_retv ?_)
  have W3 : ev P0 (c (k + 6)) (.var 3) [some (.d (amt u)), some (.d (amt v)), some (.d (amt t)), some (.d (amt fun x => 2 * u x + 2 * v x))] S = .ok (.d (amt fun x => 2 * u x + 2 * v x)) S := v_amt rfl
  have nuv : ∀ x ∈ KS, 2 * (u x + v x) ≤ 1000000 := fun x hx => by have := hu x hx; have := hv x hx; omega
  have n3u : ∀ x ∈ KS, 3 * u x ≤ 1000000 := fun x hx => by have := hu x hx; omega
  have n1u : ∀ x ∈ KS, 1 * u x ≤ 1000000 := fun x hx => by have := hu x hx; omega
  have n0u : ∀ x ∈ KS, 0 * u x ≤ 1000000 := fun x hx => by omega
  exact v_ands (a_eq (a_mul (m := 2) (a_add (B := 90000) U V hu (hv.mono (by decide))) v_int (by decide) (by decide) (uv.mono (by decide)) nuv) W3 (fun x hx => by have := uv x hx; dsimp only at this ⊢; omega) (fun x hx => by have h1 := b2u x hx; have h2 := b2v x hx; dsimp only at h1 h2 ⊢; omega) (same_t fun x _ => by omega))
    (v_ands (a_eq (a_mul (m := 3) U v_int (by decide) (by decide) (hu.mono (by decide)) n3u) (a_add (B := 180000) (a_add (B := 90000) U U hu (hu.mono (by decide))) U (hu.add hu) (hu.mono (by decide))) (fun x hx => by have := hu x hx; omega) (fun x hx => by have := hu x hx; omega) (same_t fun x _ => by omega))
      (v_ands (a_eq (a_mul (m := 1) U v_int (by decide) (by decide) (hu.mono (by decide)) n1u) U (fun x hx => by have := hu x hx; omega) hu.nn (same_t fun x _ => by omega))
        (v_1 (a_eq (a_mul (m := 0) U v_int (by decide) (by decide) (hu.mono (by decide)) n0u) a_mk0 (fun x hx => by omega) (fun x hx => by omega) (same_t fun x _ => by omega)))))
theorem covers_right {u v t : Wt} (hu : Bd 90000 u) (hv : Bd 180000 v) (ht : Bd 90000 t) : c (k + 7) 16 [.d (amt u), .d (amt v), .d (amt t)] S = .ok (.d (.bl true)) S := by
  rw [call_all (fn := ⟨3, 4, b__law_covers_right, .all⟩) rfl rfl rfl]
  rw [← fin_ret]
  congr 1
  show exec P0 (c (k + 6)) b__law_covers_right [some (.d (amt u)), some (.d (amt v)), some (.d (amt t)), none] S = _
  unfold b__law_covers_right
  have U : ∀ {z : Option Vl}, ev P0 (c (k + 6)) (.var 0) [some (.d (amt u)), some (.d (amt v)), some (.d (amt t)), z] S = .ok (.d (amt u)) S := v_amt rfl
  have V : ∀ {z : Option Vl}, ev P0 (c (k + 6)) (.var 1) [some (.d (amt u)), some (.d (amt v)), some (.d (amt t)), z] S = .ok (.d (amt v)) S := v_amt rfl
  have T : ∀ {z : Option Vl}, ev P0 (c (k + 6)) (.var 2) [some (.d (amt u)), some (.d (amt v)), some (.d (amt t)), z] S = .ok (.d (amt t)) S := v_amt rfl
  have hu' := hu.mono (b := 1000000) (by decide)
  have hv' := hv.mono (b := 1000000) (by decide)
  have ht' := ht.mono (b := 1000000) (by decide)
  have C := a_cover (k := k) (ws := [u, v]) (v_cons (U (z := none)) (v_one V)) (by simp) (fun w hw => by simp at hw; rcases hw with rfl | rfl <;> assumption)
  rw [x_nx (x_asg C)]
  let m : Wt := most [v, u]
  have hm : ∀ x ∈ KS, m x = max (v x) (u x) ∧ 0 ≤ m x ∧ m x ≤ 180000 := fun x hx => by
    have := hu x hx; have := hv x hx
    simp only [m, most]; omega
  have hmB : Bd 1000000 m := fun x hx => by have := hm x hx; constructor <;> omega
  show exec P0 (c (k + 6)) _ [some (.d (amt u)), some (.d (amt v)), some (.d (amt t)), some (.d (amt m))] S = _
  have M : ev P0 (c (k + 6)) (.var 3) [some (.d (amt u)), some (.d (amt v)), some (.d (amt t)), some (.d (amt m))] S = .ok (.d (amt m)) S := v_amt rfl
  have c1 : decide (∀ x ∈ KS, u x ≤ m x) = true := decide_eq_true fun x hx => by have := hm x hx; omega
  have c2 : decide (∀ x ∈ KS, v x ≤ m x) = true := decide_eq_true fun x hx => by have := hm x hx; omega
  have C2 := a_cover (k := k) (ws := [v, u, u]) (v_cons (V (z := some (.d (amt m)))) (v_cons U (v_one U))) (by simp) (fun w hw => by simp at hw; rcases hw with rfl | rfl | rfl <;> assumption)
  rw [x_nx (x_no (v_ors (v_no (a_cov M U hmB.nn) c1) (v_ors (v_no (a_cov M V hmB.nn) c2) (v_1 (a_ne M C2 hmB.nn (fun x hx => by have := hm x hx; have := hu x hx; have := hv x hx; simp only [List.reverse_cons, List.reverse_nil, List.nil_append, List.cons_append, most]; omega))))))]
  have C3 := a_cover (k := k) (ws := [m, t]) (v_cons M (v_one T)) (by simp) (fun w hw => by simp at hw; rcases hw with rfl | rfl <;> assumption)
  have C4 := a_cover (k := k) (ws := [u, v, t]) (v_cons (U (z := some (.d (amt m)))) (v_cons V (v_one T))) (by simp) (fun w hw => by simp at hw; rcases hw with rfl | rfl | rfl <;> assumption)
  rw [x_nx (x_no (a_ne C3 C4 (fun x hx => by have := hm x hx; have := ht x hx; simp only [List.reverse_cons, List.reverse_nil, List.nil_append, List.cons_append, most]; omega) (fun x hx => by have := hm x hx; have := hu x hx; have := hv x hx; have := ht x hx; simp only [List.reverse_cons, List.reverse_nil, List.nil_append, List.cons_append, most]; omega)))]
  have e3 : decide (∀ x ∈ KS, m x ≤ t x) = (decide (∀ x ∈ KS, u x ≤ t x) && decide (∀ x ∈ KS, v x ≤ t x)) := by
    rw [← Bool.decide_and]
    refine decide_eq_decide.mpr ⟨fun h => ⟨fun x hx => ?_, fun x hx => ?_⟩, fun h x hx => ?_⟩
    · have := h x hx; have := hm x hx; omega
    · have := h x hx; have := hm x hx; omega
    · have := h.1 x hx; have := h.2 x hx; have := hm x hx; omega
  have E3 := v_neb (a_cov (k := k) T M ht.nn) (v_and (a_cov (k := k) T U ht.nn) (fun _ => v_1 (a_cov (k := k) T V ht.nn)))
  rw [e3, beq_self_eq_true] at E3
  rw [x_nx (x_no E3)]
  have L1 := a_lacks (k := k) (U (z := some (.d (amt m)))) V hu.nn (fun x hx => (hv' x hx).2)
  have L2 := a_lacks (k := k) (V (z := some (.d (amt m)))) U hv.nn (fun x hx => (hu' x hx).2)
  rw [x_nx (x_no (v_ors (a_ne (a_add (B := 90000) U L1 hu (fun x hx => by have := hu x hx; have := hv x hx; constructor <;> omega)) M (fun x hx => by have := hu x hx; omega) (fun x hx => by have := hm x hx; omega))
    (v_1 (a_ne (a_add (B := 180000) V L2 hv (fun x hx => by have := hu x hx; have := hv x hx; constructor <;> omega)) M (fun x hx => by have := hv x hx; omega) (fun x hx => by have := hm x hx; omega)))))]
  have E4 := v_and (a_cov (k := k) (U (z := some (.d (amt m)))) V hu.nn) (fun _ => v_and (a_cov (k := k) V T hv.nn) (fun _ => v_1 (v_not (a_cov (k := k) U T hu.nn))))
  have e4 : (decide (∀ x ∈ KS, v x ≤ u x) && (decide (∀ x ∈ KS, t x ≤ v x) && !decide (∀ x ∈ KS, t x ≤ u x))) = false := by
    by_cases h1 : ∀ x ∈ KS, v x ≤ u x
    · by_cases h2 : ∀ x ∈ KS, t x ≤ v x
      · rw [decide_eq_true (show ∀ x ∈ KS, t x ≤ u x from fun x hx => by have := h1 x hx; have := h2 x hx; omega)]; simp
      · rw [decide_eq_false h2]; simp
    · rw [decide_eq_false h1]; simp
  rw [e4] at E4
  rw [x_nx (x_no E4)]
  refine x_ret (x_retv ?_)
  have E5 := v_eqb (v_and (a_cov (k := k) (U (z := some (.d (amt m)))) V hu.nn) (fun _ => v_1 (a_cov (k := k) V U hv.nn))) (a_eq (k := k) U V hu.nn hv.nn rfl)
  have e5 : ((decide (∀ x ∈ KS, v x ≤ u x) && decide (∀ x ∈ KS, u x ≤ v x)) == same u v) = true := by
    rw [beq_iff_eq, ← Bool.decide_and]
    refine decide_eq_decide.mpr ⟨fun h x hx => ?_, fun h => ⟨fun x hx => ?_, fun x hx => ?_⟩⟩
    · have := h.1 x hx; have := h.2 x hx; omega
    · have := h x hx; omega
    · have := h x hx; omega
  rw [e5] at E5
  have c6 : decide (∀ x ∈ KS, (0 : Int) ≤ u x) = true := decide_eq_true hu.nn
  have E6 := a_cov (k := k) (U (z := some (.d (amt m)))) a_mk0 hu.nn
  rw [c6] at E6
  exact v_ands E5 (v_1 E6)
end K01
end
section
set_option maxRecDepth 100000
set_option maxHeartbeats 1000000
set_option exponentiation.threshold 2000
namespace K01
open Iv
variable {k : Nat} {S : Hs} {r : Ev}
def lenV (cal : Cal) : Vl → Hs → R Vl := fun x S1 => match x with
    | .d (.ins c fs) => match P0.lnf c with
      | some f => (cal f [.d (.ins c fs)] S1).bind fun v S2 => match v with
        | .d (.int i) => if 0 ≤ i ∧ i < 2 ^ 63 then .ok (.d (.int i)) S2 else .bad
        | _ => .bad
      | none => .bad
    | _ => .bad
theorem ev_olen0 {cal : Cal} {o : Ex} : ev P0 cal (.olen o) r S = (ev P0 cal o r S).bind (lenV cal) := rfl
theorem lenV_amt {cal : Cal} {u : Wt} {n : Int} (h : cal 30 [.d (amt u)] S = .ok (.d (.int n)) S) (h0 : 0 ≤ n) (h1 : n < 2 ^ 63) : lenV cal (.d (amt u)) S = .ok (.d (.int n)) S := by
  have hf : P0.lnf 0 = some 30 := rfl
  unfold lenV
  simp only [amt] at h ⊢
  simp only [hf, h, R.bind, if_pos (And.intro h0 h1)]
theorem sup6 {u : Wt} : (sup u).length ≤ 6 := Nat.le_trans (List.length_filter_le _ _) (by decide)
theorem small {n : Nat} (h : n ≤ 6) : (n : Int) < 2 ^ 63 := by
  have : (6 : Int) < 2 ^ 63 := by decide
  have : (n : Int) ≤ 6 := by omega
  omega
theorem v_olen0 {cal : Cal} {e : Ex} {u : Wt} {n : Nat} (h : ev P0 cal e r S = .ok (.d (amt u)) S) (l : cal 30 [.d (amt u)] S = .ok (.d (.int n)) S) (h6 : n ≤ 6) : ev P0 cal (.olen e) r S = .ok (.d (.int n)) S := by
  have q := lenV_amt l (Int.natCast_nonneg _) (small h6)
  rw [ev_olen0, h]
  simp only [R.bind]
  rw [q]
theorem v_olen {e : Ex} {u : Wt} (h : ev P0 (c (k + 1)) e r S = .ok (.d (amt u)) S) : ev P0 (c (k + 1)) (.olen e) r S = .ok (.d (.int (sup u).length)) S := v_olen0 h len sup6
theorem v_obool {e : Ex} {u : Wt} (h : ev P0 (c (k + 1)) e r S = .ok (.d (amt u)) S) : ev P0 (c (k + 1)) (.obool e) r S = .ok (.d (.bl (!(sup u).isEmpty))) S := by
  have hf : P0.bof 0 = some 31 := rfl
  have l := bool (k := k) (S := S) (u := u)
  simp only [amt] at h l
  simp only [ev, h, R.bind, hf, l]
theorem v_prp {e : Ex} {u : Wt} (h : ev P0 (c (k + 1)) e r S = .ok (.d (amt u)) S) : ev P0 (c (k + 1)) (.prp 0 e) r S = .ok (.d (.tup (prs u))) S := by
  have hf : P0.prs[0]? = some (0, 23) := rfl
  have l := pairs (k := k) (S := S) (u := u)
  have i : insOf 0 (.d (amt u)) S = true := rfl
  simp only [ev, hf, h, R.bind, i, if_true, l, R.noX]
theorem sup_nil {u : Wt} : (sup u).length = 0 ↔ ∀ x ∈ KS, ¬ 0 < u x := by
  rw [List.length_eq_zero_iff, sup, List.filter_eq_nil_iff]
  simp
theorem a_times {a b : Ex} {u v : Wt} (ha : ev P0 (c (k + 6)) a r S = .ok (.d (amt u)) S) (hb : ev P0 (c (k + 6)) b r S = .ok (.d (amt v)) S) (hu : ∀ x ∈ KS, 0 ≤ u x) (hv : ∀ x ∈ KS, v x ≤ 1000000) (ne : ∃ x ∈ KS, 0 < v x) : ∃ t, ev P0 (c (k + 6)) (.mth 2 a (.cons b .nil)) r S = .ok (.d (.int t)) S ∧ (∀ x ∈ KS, 0 < v x → t ≤ u x / v x) ∧ ∃ x ∈ KS, 0 < v x ∧ t = u x / v x := by
  obtain ⟨t, h1, h2⟩ := times (k := k + 4) (S := S) hu hv ne
  exact ⟨t, v_mth (q := (0, 26)) rfl ha (v_one hb) h1, h2⟩
theorem v_addi {cal : Cal} {a b : Ex} {i j : Int} (ha : ev P0 cal a r S = .ok (.d (.int i)) S) (hb : ev P0 cal b r S = .ok (.d (.int j)) S) : ev P0 cal (.bin .add a b) r S = .ok (.d (.int (i + j))) S := by
  simp only [ev, ha, hb, R.bind, binD, Option.map_some, R.opt]
theorem v_vi {cal : Cal} {i : Nat} {x : Int} (h : r[i]? = some (some (.d (.int x)))) : ev P0 cal (.var i) r S = .ok (.d (.int x)) S := v_var h
theorem x_go {cal : Cal} {e : Ex} {b : St} (h : ev P0 cal e r S = .ok (.d (.bl false)) S) : exec P0 cal (.ite e b .skip) r S = .nx r S := by
  rw [x_if h]; simp [exec]
theorem often_right {u v : Wt} (hu : Bd 90000 u) (hv : Bd 180000 v) : c (k + 7) 17 [.d (amt u), .d (amt v)] S = .ok (.d (.bl true)) S := by
  rw [call_all (fn := ⟨2, 3, b__law_often_right, .all⟩) rfl rfl rfl]
  rw [← fin_ret]
  refine congrArg (fin S.length) ?_
  show exec P0 (c (k + 6)) b__law_often_right [some (.d (amt u)), some (.d (amt v)), none] S = _
  unfold b__law_often_right
  have U : ∀ {z : Option Vl}, ev P0 (c (k + 6)) (.var 0) [some (.d (amt u)), some (.d (amt v)), z] S = .ok (.d (amt u)) S := v_amt rfl
  have V : ∀ {z : Option Vl}, ev P0 (c (k + 6)) (.var 1) [some (.d (amt u)), some (.d (amt v)), z] S = .ok (.d (amt v)) S := v_amt rfl
  have hv1 : ∀ x ∈ KS, v x ≤ 1000000 := fun x hx => by have := hv x hx; omega
  have C0 := v_eqi (v_olen (k := k + 5) (V (z := none))) (v_int (i := 0))
  by_cases h0 : (sup v).length = 0
  · rw [h0] at C0
    have z := sup_nil.mp h0
    have cv : decide (∀ x ∈ KS, v x ≤ u x) = true := decide_eq_true fun x hx => by have := z x hx; have := hu x hx; omega
    have E := a_cov (k := k) (U (z := none)) V hu.nn
    rw [cv] at E
    refine x_ret ?_
    rw [x_if (q := true) C0]
    exact x_ret (x_retv E)
  · have C1 : ev P0 (c (k + 6)) (.cmp .eq (.olen (.var 1)) (.int 0)) [some (.d (amt u)), some (.d (amt v)), none] S = .ok (.d (.bl false)) S := by
      have e : (((sup v).length : Int) == 0) = false := by rw [beq_eq_false_iff_ne]; omega
      rw [e] at C0; exact C0
    rw [x_nx (x_go C1)]
    have ne : ∃ x ∈ KS, 0 < v x := by
      refine Classical.byContradiction fun h => h0 (sup_nil.mpr fun x hx hp => h ⟨x, hx, hp⟩)
    obtain ⟨t, T1, T2, y, hy, py, ty⟩ := a_times (k := k) (U (z := none)) V hu.nn hv1 ne
    rw [x_nx (x_asg T1)]
    show exec P0 (c (k + 6)) _ [some (.d (amt u)), some (.d (amt v)), some (.d (.int t))] S = _
    have W : ev P0 (c (k + 6)) (.var 2) [some (.d (amt u)), some (.d (amt v)), some (.d (.int t))] S = .ok (.d (.int t)) S := v_vi rfl
    have t0 : 0 ≤ t := by rw [ty]; exact Int.ediv_nonneg (hu y hy).1 (by omega)
    have t1 : t ≤ 90000 := by rw [ty]; have := hu y hy; exact Int.le_trans (Int.ediv_le_self _ this.1) this.2
    have tv : ∀ x ∈ KS, t * v x ≤ u x := fun x hx => by
      by_cases p : 0 < v x
      · have := T2 x hx p
        exact Int.le_trans (Int.mul_le_mul_of_nonneg_right this (by omega)) (Int.ediv_mul_le _ (by omega))
      · have : v x = 0 := by have := hv x hx; omega
        rw [this]; have := hu x hx; omega
    have tv1 : ∀ x ∈ KS, (t + 1) * v x ≤ 1000000 := fun x hx => by
      have := tv x hx; have := hu x hx; have := hv x hx; rw [Int.add_mul]; omega
    have cy : ¬ (t + 1) * v y ≤ u y := by
      have := Int.lt_ediv_add_one_mul_self (u y) py
      rw [← ty] at this; omega
    have M1 := a_mul (k := k) V W t0 (by omega) (hv.mono (by decide)) (fun x hx => by have := tv x hx; have := hu x hx; omega)
    have M2 := a_mul (k := k) V (v_addi W (v_int (i := 1))) (by omega) (by omega) (hv.mono (by decide)) tv1
    have d1 : decide (∀ x ∈ KS, t * v x ≤ u x) = true := decide_eq_true tv
    have d2 : decide (∀ x ∈ KS, (t + 1) * v x ≤ u x) = false := decide_eq_false fun h => cy (h y hy)
    have A2 := a_cov (k := k) U M2 hu.nn
    rw [d2] at A2
    rw [x_nx (x_no (v_ors (v_no (a_cov (k := k) U M1 hu.nn) d1) (v_1 A2)))]
    refine x_ret (x_retv ?_)
    obtain ⟨s, s1, s2, z, hz, pz, sz⟩ := a_times (k := k) (a_add (k := k) (B := 90000) (U (z := some (.d (.int t)))) V hu (hv.mono (by decide))) V (hu.add hv).nn hv1 ne
    obtain ⟨s', s1', s2', z', hz', pz', sz'⟩ := a_times (k := k) (a_mul (k := k) (V (z := some (.d (.int t)))) (v_int (i := 5)) (by decide) (by decide) (hv.mono (by decide)) (fun x hx => by have := hv x hx; omega)) V (fun x hx => by have := hv x hx; show 0 ≤ 5 * v x; omega) hv1 ne
    have q : ∀ x ∈ KS, 0 < v x → (u x + v x) / v x = u x / v x + 1 := fun x _ p => by
      rw [Int.add_ediv_of_dvd_right (Int.dvd_refl _), Int.ediv_self (by omega)]
    have e1 : s = t + 1 := by
      have a1 := s2 y hy py
      rw [q y hy py, ← ty] at a1
      rw [q z hz pz] at sz
      have := T2 z hz pz
      omega
    have e2 : s' = 5 := by
      rw [sz']; exact Int.mul_ediv_cancel _ (by omega)
    rw [e1] at s1
    rw [e2] at s1'
    have F1 := v_eqi s1 (v_addi W (v_int (i := 1)))
    have F2 := v_eqi s1' (v_int (i := 5))
    rw [beq_self_eq_true] at F1 F2
    exact v_ands F1 (v_1 F2)
end K01
end
section
set_option maxRecDepth 100000
set_option maxHeartbeats 1000000
set_option exponentiation.threshold 2000
namespace K01
open Iv
variable {k : Nat} {S : Hs} {r : Ev}
theorem ea_amts : ∀ {xs : List D} {os : List (Option D)}, Ea (fun _ o => ∃ w, o = some (amt w) ∧ Drawn w) xs os → ∃ ws : List Wt, ws.length = xs.length ∧ os.filterMap id = ws.map amt ∧ ∀ w ∈ ws, Drawn w
  | [], _, .nil => ⟨[], rfl, rfl, fun _ h => by cases h⟩
  | x :: xs, _, .cons h t => by
    obtain ⟨ws, a, b, d⟩ := ea_amts t
    obtain ⟨w, rfl, hw⟩ := h
    refine ⟨w :: ws, by simp [a], by simp [b], fun y hy => ?_⟩
    rcases List.mem_cons.mp hy with rfl | hy
    · exact hw
    · exact d y hy
theorem v_ixl {cal : Cal} {i n : Nat} {j : Int} {xs : List D} {x : D} (h : r[i]? = some (some (.loc n))) (hS : S[n]? = some (.lst xs)) (hx : ixD (.lst xs) (.int j) = some x) : ev P0 cal (.ix (.var i) (.int j)) r S = .ok (.d x) S := by
  rw [ev, v_loc h]
  simp only [R.bind, ev, rdV, hS, hx, Option.map_some, R.opt]
theorem v_ixd {cal : Cal} {i : Nat} {j : Int} {xs : List D} {x : D} (h : r[i]? = some (some (.d (.lst xs)))) (hx : ixD (.lst xs) (.int j) = some x) : ev P0 cal (.ix (.var i) (.int j)) r S = .ok (.d x) S := by
  rw [ev, v_var h]
  simp only [R.bind, ev, rdV, D.wk, hx, Option.map_some, R.opt]
theorem x_app {cal : Cal} {i n : Nat} {e : Ex} {xs : List D} {x : D} (h : r[i]? = some (some (.loc n))) (hS : S[n]? = some (.lst xs)) (he : ev P0 cal e r S = .ok (.d x) S) (hl : xs.length < big) : exec P0 cal (.app i e) r S = .nx r (S.set n (.lst (xs ++ [x]))) := by
  simp only [exec, h, hS, he, R.st, hl, if_true]
theorem x_frz {cal : Cal} {i n : Nat} {b : St} {xs : List D} (h : r[i]? = some (some (.loc n))) (hS : S[n]? = some (.lst xs)) : exec P0 cal (.frzv i b) r S = exec P0 cal b (r.set i (some (.d (.lst xs)))) (S.set n .dead) := by
  simp only [exec, h, hS]
theorem v_eqp {cal : Cal} {a b : Ex} {u v : Wt} (ha : ev P0 cal a r S = .ok (.d (.tup (prs u))) S) (hb : ev P0 cal b r S = .ok (.d (.tup (prs v))) S) (hu : ∀ x ∈ KS, 0 ≤ u x) (hv : ∀ x ∈ KS, 0 ≤ v x) : ev P0 cal (.cmp .eq a b) r S = .ok (.d (.bl (same u v))) S := by
  have q := cmp_prs hu hv
  simp only [ev, ha, hb, R.bind, rdV, q, Option.map_some, R.opt]
def inner : St := (.seq (.ite (.or (.cmp .ne (.cmp .eq (.var 3) (.var 4)) (.cmp .eq (.prp 0 (.var 3)) (.prp 0 (.var 4)))) (.one (.cmp .ne (.mth 0 (.var 3) (.cons (.var 4) .nil)) (.cmp .eq (.olen (.mth 1 (.var 3) (.cons (.var 4) .nil))) (.int 0))))) (.seq (.ret (.bl false)) .skip) .skip) (.seq (.ite (.or (.and (.mth 0 (.var 3) (.cons (.var 4) .nil)) (.one (.cmp .ne (.bin .add (.bin .sub (.var 3) (.var 4)) (.var 4)) (.var 3)))) (.one (.not (.call 17 (.cons (.var 3) (.cons (.var 4) .nil)))))) (.seq (.ret (.bl false)) .skip) .skip) (.seq (.ite (.or (.not (.call 15 (.cons (.var 3) (.cons (.var 4) (.cons (.ix (.var 1) (.int 3)) .nil))))) (.one (.not (.call 16 (.cons (.var 3) (.cons (.var 4) (.cons (.ix (.var 1) (.int 3)) .nil))))))) (.seq (.ret (.bl false)) .skip) .skip) .skip)))
theorem inner_nx {u v t : Wt} {xs : List D} (h3 : r[3]? = some (some (.d (amt u)))) (h4 : r[4]? = some (some (.d (amt v)))) (h1 : r[1]? = some (some (.d (.lst xs)))) (hx : ixD (.lst xs) (.int 3) = some (amt t)) (hu : Bd 90000 u) (hv : Bd 180000 v) (ht : Bd 90000 t) : exec P0 (c (k + 7)) inner r S = .nx r S := by
  unfold inner
  have U : ev P0 (c (k + 7)) (.var 3) r S = .ok (.d (amt u)) S := v_amt h3
  have V : ev P0 (c (k + 7)) (.var 4) r S = .ok (.d (amt v)) S := v_amt h4
  have T : ev P0 (c (k + 7)) (.ix (.var 1) (.int 3)) r S = .ok (.d (amt t)) S := v_ixd h1 hx
  have hv1 : ∀ x ∈ KS, v x ≤ 1000000 := fun x hx => by have := hv x hx; omega
  have A1 := v_neb (a_eq (k := k + 1) U V hu.nn hv.nn rfl) (v_eqp (v_prp (k := k + 6) U) (v_prp (k := k + 6) V) hu.nn hv.nn)
  rw [beq_self_eq_true] at A1
  have e2 : decide (∀ x ∈ KS, v x ≤ u x) = (((sup fun x => max 0 (v x - u x)).length : Int) == 0) := by
    rw [Bool.eq_iff_iff, decide_eq_true_iff, beq_iff_eq]
    have q := sup_nil (u := fun x => max 0 (v x - u x))
    constructor
    · intro h
      have : (sup fun x => max 0 (v x - u x)).length = 0 := q.mpr fun x hx => by have := h x hx; omega
      omega
    · intro h x hx
      have : (sup fun x => max 0 (v x - u x)).length = 0 := by omega
      have := q.mp this x hx
      omega
  have A2 := v_neb (a_cov (k := k + 1) U V hu.nn) (v_eqi (v_olen (k := k + 6) (a_lacks (k := k + 1) U V hu.nn hv1)) (v_int (i := 0)))
  rw [e2, beq_self_eq_true] at A2
  rw [x_nx (x_no (v_ors A1 (v_1 A2)))]
  have A3 := v_and (q := false) (a_cov (k := k + 1) U V hu.nn) (fun h => by
    have h := of_decide_eq_true h
    refine v_1 (a_ne (a_add (k := k + 1) (B := 90000) (a_sub (k := k + 1) U V hv.nn (fun x hx => ?_)) V (fun x hx => ?_) (hv.mono (by decide))) U (fun x hx => ?_) (fun x hx => ?_))
    · have := h x hx; have := hu x hx; omega
    · have := h x hx; have := hu x hx; have := hv x hx; constructor <;> omega
    · have := hu x hx; omega
    · omega)
  rw [Bool.and_false] at A3
  rw [x_nx (x_no (v_ors A3 (v_1 (v_no (v_call (v_cons U (v_one V)) (often_right (k := k) hu hv)) rfl))))]
  rw [x_nx (x_no (v_ors (v_no (v_call (v_cons U (v_cons V (v_one T))) (sums_right (k := k) hu hv ht)) rfl) (v_1 (v_no (v_call (v_cons U (v_cons V (v_one T))) (covers_right (k := k) hu hv ht)) rfl))))]
  simp [exec]
theorem right {n : Nat} (hd : Dice n S) : ∃ S', c (k + 8) 18 [.loc n] S = .ok (.d (.bl true)) S' := by
  rw [call_all (fn := ⟨1, 5, b__law_right, .all⟩) rfl rfl rfl]
  show ∃ S', fin S.length (exec P0 (c (k + 7)) b__law_right [some (.loc n), none, none, none, none] S) = _
  obtain ⟨os, S1, _, h1, h2, h3⟩ := compS (cal := c (k + 7)) (own := [2]) (t := .nm 2) (it := .rng (.int 4)) (c := .bl true) (e := .call 14 (.cons (.var 0) .nil)) (r := [some (.loc n), none, none, none, none]) (S := S) (S1 := S) (xs := upTo 4 0) (I := fun S' => Near n S S') (fun _ o => ∃ w, o = some (amt w) ∧ Drawn w)
    (by simp [evi, ev, R.bind]) (by decide) ⟨hd, rfl, fun _ _ => rfl⟩ (fun x hx S1 hI => by
      obtain ⟨w, S2, a1, a2, a3⟩ := drawn (k := k + 2) hI.1
      exact ⟨_, S1, true, rfl, by simp [ev], .inr ⟨rfl, amt w, S2, v_call (v_one (v_loc rfl)) a1, hI.trans a3, w, rfl, a2⟩⟩)
  obtain ⟨ws, l4, e1, dw⟩ := ea_amts h3
  rw [e1] at h1
  match ws, l4, dw with
  | [a, b, d, t], _, dw =>
    have ha : Bd 90000 a := dw a (by simp)
    have hb : Bd 90000 b := dw b (by simp)
    have hd' : Bd 90000 d := dw d (by simp)
    have ht : Bd 90000 t := dw t (by simp)
    have hab : Bd 180000 (fun x => a x + b x) := ha.add hb
    simp only [List.map_cons, List.map_nil] at h1
    have g1 : (S1 ++ [.lst [amt a, amt b, amt d, amt t]] : Hs)[S1.length]? = some (.lst [amt a, amt b, amt d, amt t]) := by simp
    generalize hS2 : (S1 ++ [.lst [amt a, amt b, amt d, amt t]] : Hs) = S2 at h1 g1
    generalize S1.length = m at h1 g1
    have hm : m < S2.length := (List.getElem?_eq_some_iff.mp g1).1
    unfold b__law_right
    rw [x_nx (x_asg h1)]
    show ∃ S', fin S.length (exec P0 (c (k + 7)) _ [some (.loc n), some (.loc m), none, none, none] S2) = _
    rw [x_nx (x_app (x := amt fun x => a x + b x) rfl g1 (a_add (k := k + 1) (B := 90000) (v_ixl rfl g1 rfl) (v_ixl rfl g1 rfl) ha (hb.mono (by decide))) (by simp [big]))]
    show ∃ S', fin S.length (exec P0 (c (k + 7)) _ [some (.loc n), some (.loc m), none, none, none] (S2.set m (.lst [amt a, amt b, amt d, amt t, amt fun x => a x + b x]))) = _
    have g2 : (S2.set m (.lst [amt a, amt b, amt d, amt t, amt fun x => a x + b x]))[m]? = some (.lst [amt a, amt b, amt d, amt t, amt fun x => a x + b x]) := by simp [hm]
    rw [x_frz (xs := [amt a, amt b, amt d, amt t, amt fun x => a x + b x]) rfl g2]
    show ∃ S', fin S.length (exec P0 (c (k + 7)) _ [some (.loc n), some (.d (.lst [amt a, amt b, amt d, amt t, amt fun x => a x + b x])), none, none, none] _) = _
    generalize (S2.set m (.lst [amt a, amt b, amt d, amt t, amt fun x => a x + b x])).set m .dead = S3
    let L : List D := [amt a, amt b, amt d, amt t, amt fun x => a x + b x]
    obtain ⟨r', f1, y, z, rfl⟩ := forL_all (t := .nm 3) (f := fun r S => exec P0 (c (k + 7)) (.seq (.loop (.nm 4) (.one (.var 1)) inner) .skip) r S) (S := S3) (I := fun r => ∃ y z, r = [some (.loc n), some (.d (.lst L)), none, y, z]) (xs := [amt a, amt b, amt d]) (r := [some (.loc n), some (.d (.lst L)), none, none, none]) ⟨none, none, rfl⟩ (by
      rintro x hx r ⟨y, z, rfl⟩
      obtain ⟨u, rfl, hu⟩ : ∃ u, x = amt u ∧ Bd 90000 u := by
        simp only [List.mem_cons, List.not_mem_nil, or_false] at hx
        rcases hx with rfl | rfl | rfl
        · exact ⟨a, rfl, ha⟩
        · exact ⟨b, rfl, hb⟩
        · exact ⟨d, rfl, hd'⟩
      refine ⟨[some (.loc n), some (.d (.lst L)), none, some (.d (amt u)), z], ?_⟩
      obtain ⟨r', f1, z', rfl⟩ := forL_all (t := .nm 4) (f := fun r S => exec P0 (c (k + 7)) inner r S) (S := S3) (I := fun r => ∃ z, r = [some (.loc n), some (.d (.lst L)), none, some (.d (amt u)), z]) (xs := L) (r := [some (.loc n), some (.d (.lst L)), none, some (.d (amt u)), z]) ⟨z, rfl⟩ (by
        rintro x hx r ⟨z, rfl⟩
        obtain ⟨v, rfl, hv⟩ : ∃ v, x = amt v ∧ Bd 180000 v := by
          simp only [L, List.mem_cons, List.not_mem_nil, or_false] at hx
          rcases hx with rfl | rfl | rfl | rfl | rfl
          · exact ⟨a, rfl, ha.mono (by decide)⟩
          · exact ⟨b, rfl, hb.mono (by decide)⟩
          · exact ⟨d, rfl, hd'.mono (by decide)⟩
          · exact ⟨t, rfl, ht.mono (by decide)⟩
          · exact ⟨_, rfl, hab⟩
        exact ⟨[some (.loc n), some (.d (.lst L)), none, some (.d (amt u)), some (.d (amt v))], [some (.loc n), some (.d (.lst L)), none, some (.d (amt u)), some (.d (amt v))], rfl, inner_nx (t := t) rfl rfl rfl rfl hu hv ht, _, rfl⟩)
      refine ⟨[some (.loc n), some (.d (.lst L)), none, some (.d (amt u)), z'], rfl, ?_, _, _, rfl⟩
      have hev : evi P0 (c (k + 7)) (.one (.var 1)) [some (.loc n), some (.d (.lst L)), none, some (.d (amt u)), z] S3 = .ok L S3 := by
        simp [evi, ev, R.bind, D.wk]
      show exec P0 (c (k + 7)) (.seq (.loop (.nm 4) (.one (.var 1)) inner) .skip) _ S3 = _
      rw [x_nx ((x_loop hev).trans f1)]
      simp only [exec])
    have hev : evi P0 (c (k + 7)) (.one (.sl (.var 1) .no (.one (.int 3)))) [some (.loc n), some (.d (.lst L)), none, none, none] S3 = .ok [amt a, amt b, amt d] S3 := by
      simp [evi, ev, evo, R.bind, D.wk, rdV, slD, cutL, highD, lowD, L, R.opt]
    show ∃ S', fin S.length (exec P0 (c (k + 7)) (.seq (.loop (.nm 3) (.one (.sl (.var 1) .no (.one (.int 3)))) (.seq (.loop (.nm 4) (.one (.var 1)) inner) .skip)) _) [some (.loc n), some (.d (.lst L)), none, none, none] S3) = _
    rw [x_nx ((x_loop hev).trans f1)]
    have A4 : ev P0 (c (k + 7)) (.ix (.var 1) (.int 4)) [some (.loc n), some (.d (.lst L)), none, y, z] S3 = .ok (.d (amt fun x => a x + b x)) S3 := v_ixd rfl rfl
    have A0 : ev P0 (c (k + 7)) (.ix (.var 1) (.int 0)) [some (.loc n), some (.d (.lst L)), none, y, z] S3 = .ok (.d (amt a)) S3 := v_ixd rfl rfl
    have A1 : ev P0 (c (k + 7)) (.ix (.var 1) (.int 1)) [some (.loc n), some (.d (.lst L)), none, y, z] S3 = .ok (.d (amt b)) S3 := v_ixd rfl rfl
    have c0 : decide (∀ x ∈ KS, a x ≤ a x + b x) = true := decide_eq_true fun x hx => by have := hb x hx; omega
    have c1 : decide (∀ x ∈ KS, b x ≤ a x + b x) = true := decide_eq_true fun x hx => by have := ha x hx; omega
    have B0 := a_cov (k := k + 1) A4 A0 hab.nn
    have B1 := a_cov (k := k + 1) A4 A1 hab.nn
    rw [c0] at B0
    rw [c1] at B1
    rw [x_ret (x_retv (v_ands B0 (v_1 B1)))]
    exact ⟨_, rfl⟩
end K01
end
section
set_option maxRecDepth 100000
set_option maxHeartbeats 1000000
set_option exponentiation.threshold 2000
namespace K01
open Iv
variable {k : Nat} {S : Hs} {r : Ev}
section
variable {cal : Cal} {a b : Ex} {i j : Int}
theorem v_b {o : BOp} {z : Int} (ha : ev P0 cal a r S = .ok (.d (.int i)) S) (hb : ev P0 cal b r S = .ok (.d (.int j)) S) (h : binD o (.int i) (.int j) = some (.int z)) : ev P0 cal (.bin o a b) r S = .ok (.d (.int z)) S := by
  simp only [ev, ha, hb, R.bind, h, Option.map_some, R.opt]
theorem v_bi1 {f : Bi} {x y : D} (ha : ev P0 cal a r S = .ok (.d x) S) (h : biD f [x] = some y) : ev P0 cal (.bi f (.cons a .nil)) r S = .ok (.d y) S := by
  simp only [ev, v_one ha, R.bind, rdVs, rdV, Option.map_some, Option.bind_some, h, R.opt]
theorem v_bi2 {f : Bi} {x y z : D} (ha : ev P0 cal a r S = .ok (.d x) S) (hb : ev P0 cal b r S = .ok (.d y) S) (h : biD f [x, y] = some z) : ev P0 cal (.bi f (.cons a (.cons b .nil))) r S = .ok (.d z) S := by
  simp only [ev, v_cons ha (v_one hb), R.bind, rdVs, rdV, Option.map_some, Option.bind_some, h, R.opt]
theorem v_lt (ha : ev P0 cal a r S = .ok (.d (.int i)) S) (hb : ev P0 cal b r S = .ok (.d (.int j)) S) : ev P0 cal (.cmp .lt a b) r S = .ok (.d (.bl (decide (i < j)))) S := by
  simp only [ev, ha, hb, R.bind, rdV, cmpD, Option.map_some, R.opt]
end
theorem hide {x : R Vl} {z : Int} (h : x = .ok (.d (.int z)) S) : ∃ m : Int, x = .ok (.d (.int m)) S := ⟨z, h⟩
def t60 : Int := 10 ^ 60
theorem p60 : binD .pow (.int 10) (.int 60) = some (.int t60) := rfl
theorem t60_mul : mulOk t60 t60 = true := by decide
theorem t60_pos : 0 < t60 * t60 := by decide
theorem p16 : binD .pow (.int 10) (.int 16) = some (.int (10 ^ 16)) := rfl
theorem v_ro {cal : Cal} {i : Nat} {xs : List D} (h : r[i]? = some (some (.d (.ro xs)))) : ev P0 cal (.var i) r S = .ok (.d (.ro xs)) S := v_var h
theorem dice {ns : List Int} {i : Int} (h0 : 0 ≤ i) (h1 : i < 3) : ∃ a b, c (k + 1) 10 [.d (.ro (ns.map .int)), .d (.int i)] S = .ok (.loc S.length) (S ++ [.lst [.int a, .int b, .int 0]]) := by
  rw [call_all (fn := ⟨2, 4, b__law_dice, .all⟩) rfl rfl rfl]
  show ∃ a b, fin S.length (exec P0 (c k) b__law_dice [some (.d (.ro (ns.map .int))), some (.d (.int i)), none, none] S) = _
  unfold b__law_dice
  have N : ∀ {y z : Option Vl}, ev P0 (c k) (.var 0) [some (.d (.ro (ns.map .int))), some (.d (.int i)), y, z] S = .ok (.d (.ro (ns.map .int))) S := v_ro rfl
  have I : ∀ {y z : Option Vl}, ev P0 (c k) (.var 1) [some (.d (.ro (ns.map .int))), some (.d (.int i)), y, z] S = .ok (.d (.int i)) S := v_vi rfl
  have hl : biD .len [.ro (ns.map .int)] = some (.int ns.length) := by simp [biD]
  obtain ⟨s, hs⟩ : ∃ s : Int, ev P0 (c k) (.ite (.cmp .lt (.var 1) (.bi .len (.cons (.var 0) .nil))) (.bi .int (.cons (.ix (.var 0) (.var 1)) .nil)) (.bin .add (.bin .mul (.int 71) (.var 1)) (.int 31))) [some (.d (.ro (ns.map .int))), some (.d (.int i)), none, none] S = .ok (.d (.int s)) S := by
    have C := v_lt (I (y := none) (z := none)) (v_bi1 N hl)
    by_cases q : i < (ns.length : Int)
    · rw [decide_eq_true q] at C
      have hn : i.toNat < ns.length := by omega
      refine ⟨ns[i.toNat], ?_⟩
      have hx : ixD (.ro (ns.map .int)) (.int i) = some (.int ns[i.toNat]) := by
        simp [ixD, plc, h0, q, hn]
      have X : ev P0 (c k) (.ix (.var 0) (.var 1)) [some (.d (.ro (ns.map .int))), some (.d (.int i)), none, none] S = .ok (.d (.int ns[i.toNat])) S := by
        rw [ev, N]; simp only [R.bind]; rw [I]; simp only [rdV, hx, Option.map_some, R.opt]
      have Y := v_bi1 (f := .int) X (y := .int ns[i.toNat]) rfl
      rw [ev, C]
      simp only [R.bind, Y]
    · rw [decide_eq_false q] at C
      refine ⟨71 * i + 31, ?_⟩
      have Y := v_b (o := .add) (v_b (o := .mul) (v_int (i := 71)) (I (y := none) (z := none)) (b_mul (mulL (by decide)))) (v_int (i := 31)) rfl
      rw [ev, C]
      simp only [R.bind, Y]
  rw [x_nx (x_asg hs)]
  show ∃ a b, fin S.length (exec P0 (c k) _ [some (.d (.ro (ns.map .int))), some (.d (.int i)), some (.d (.int s)), none] S) = _
  have W : ∀ {z : Option Vl}, ev P0 (c k) (.var 2) [some (.d (.ro (ns.map .int))), some (.d (.int i)), some (.d (.int s)), z] S = .ok (.d (.int s)) S := v_vi rfl
  have Ab := v_bi1 (f := .abs) (W (z := none)) rfl
  have Ab2 := fun m : Int => v_bi1 (f := .abs) (W (z := some (.d (.int m)))) rfl
  have M := v_b (o := .mod) (v_bi2 (f := .max2) (v_int (i := 0)) (v_b (o := .sub) Ab (v_b (o := .pow) (v_int (i := 10)) (v_int (i := 16)) p16) rfl) rfl) (v_b (o := .mul) (v_b (o := .pow) (v_int (i := 10)) (v_int (i := 60)) p60) (v_b (o := .pow) (v_int (i := 10)) (v_int (i := 60)) p60) (b_mul t60_mul)) (b_mod t60_pos)
  obtain ⟨m, M⟩ := hide M
  rw [x_nx (x_asg M)]
  show ∃ a b, fin S.length (exec P0 (c k) _ [some (.d (.ro (ns.map .int))), some (.d (.int i)), some (.d (.int s)), some (.d (.int m))] S) = _
  have V3 : ev P0 (c k) (.var 3) [some (.d (.ro (ns.map .int))), some (.d (.int i)), some (.d (.int s)), some (.d (.int m))] S = .ok (.d (.int m)) S := v_vi rfl
  have Lt := v_bi1 (f := .int) (v_lt (W (z := some (.d (.int m)))) (v_int (i := 0))) rfl
  have Q := v_b (o := .add) (v_b (o := .add) (v_b (o := .add) (v_b (o := .mul) (v_b (o := .mod) (Ab2 m) (v_int (i := 1152921504606846697)) (b_mod (by decide))) (v_int (i := 59)) (b_mul (mulR (by decide)))) (v_b (o := .mul) (v_int (i := 821)) I (b_mul (mulL (by decide)))) rfl) (v_b (o := .mul) (v_int (i := 37)) Lt (b_mul (mulL (by decide)))) rfl) (v_int (i := 5)) rfl
  obtain ⟨q, Q⟩ := hide Q
  refine ⟨m, q, ?_⟩
  have E := v_cons V3 (v_cons Q (v_one (v_int (i := 0))))
  have F : ∀ {es : Ex} {x y : Int} {r : Ev}, evs P0 (c k) es r S = .ok [.d (.int x), .d (.int y), .d (.int 0)] S → ev P0 (c k) (.newl es) r S = .ok (.loc S.length) (S ++ [.lst [.int x, .int y, .int 0]]) := fun h => by
    rw [ev, h]; simp [R.bind, dsOf, big]
  rw [x_ret (x_retv (F E))]
  rfl
theorem upTo_mem : ∀ {n : Nat} {a : Int} {x : D}, x ∈ upTo n a → ∃ i, x = .int i ∧ a ≤ i ∧ i < a + n
  | 0, _, _, h => by cases h
  | n + 1, a, x, h => by
    rcases List.mem_cons.mp h with rfl | h
    · exact ⟨a, rfl, by omega, by omega⟩
    · obtain ⟨i, e, h1, h2⟩ := upTo_mem h
      exact ⟨i, e, by omega, by omega⟩
theorem right' {ns : List Int} {i : Int} {r : Ev} (h : r = [some (.d (.ro (ns.map .int))), some (.d (.int i))]) (h0 : 0 ≤ i) (h1 : i < 3) : ∃ S', ev P0 (c (k + 8)) (.call 18 (.cons (.call 10 (.cons (.var 0) (.cons (.var 1) .nil))) .nil)) r S = .ok (.d (.bl true)) S' := by
  subst h
  obtain ⟨a, b, hd⟩ := dice (k := k + 7) (S := S) (ns := ns) h0 h1
  have D' : Dice S.length (S ++ [.lst [.int a, .int b, .int 0]]) := ⟨a, b, 0, by simp⟩
  obtain ⟨S', hr⟩ := right (k := k) D'
  exact ⟨S', v_call (v_one (v_call (v_cons (v_ro rfl) (v_one (v_vi rfl))) hd)) hr⟩
def core : Cs := [99, 111, 114, 101]
def w0 : Wt := fun x => if x = core then 1000000 else 0
theorem prs_w0 : prs w0 = [.tup [.str core, .int 1000000]] := rfl
theorem w0_b : Bd 1000000 w0 := fun x _ => by
  show 0 ≤ (if x = core then (1000000 : Int) else 0) ∧ (if x = core then (1000000 : Int) else 0) ≤ 1000000
  split <;> decide
theorem plain0 (ns : List Int) : ∃ S, runF P0 (c (k + 8)) ⟨1, 2, b_law, .all⟩ [.d (.ro (ns.map .int))] [] = .ok (.d (.bl true)) S := by
  have e : runF P0 (c (k + 8)) ⟨1, 2, b_law, .all⟩ [.d (.ro (ns.map .int))] [] = fin 0 (exec P0 (c (k + 8)) b_law [some (.d (.ro (ns.map .int))), none] []) := rfl
  rw [e]
  unfold b_law
  have N : ev P0 (c (k + 8)) (.var 0) [some (.d (.ro (ns.map .int))), none] [] = .ok (.d (.ro (ns.map .int))) [] := v_ro rfl
  have hl : biD .len [.ro (ns.map .int)] = some (.int ns.length) := by simp [biD]
  have R1 := v_bi2 (f := .max2) (v_int (i := 1)) (v_bi2 (f := .min2) (v_int (i := 3)) (v_bi1 N hl) rfl) rfl
  obtain ⟨j, hj1, hj3, R2⟩ : ∃ j : Int, 1 ≤ j ∧ j ≤ 3 ∧ ev P0 (c (k + 8)) (.bi .max2 (.cons (.int 1) (.cons (.bi .min2 (.cons (.int 3) (.cons (.bi .len (.cons (.var 0) .nil)) .nil))) .nil))) [some (.d (.ro (ns.map .int))), none] [] = .ok (.d (.int j)) [] := by
    refine ⟨_, ?_, ?_, R1⟩
    · split <;> split at * <;> omega
    · split <;> split at * <;> omega
  have hev : evi P0 (c (k + 8)) (.rng (.bi .max2 (.cons (.int 1) (.cons (.bi .min2 (.cons (.int 3) (.cons (.bi .len (.cons (.var 0) .nil)) .nil))) .nil)))) [some (.d (.ro (ns.map .int))), none] [] = .ok (upTo j.toNat 0) [] := by
    rw [evi, R2]
    simp only [R.bind]
    rw [if_pos ⟨by omega, by omega⟩]
  obtain ⟨r', S', f1, z, rfl⟩ := forL_S (t := .nm 1) (f := fun r S => exec P0 (c (k + 8)) (.seq (.ite (.not (.call 18 (.cons (.call 10 (.cons (.var 0) (.cons (.var 1) .nil))) .nil))) (.seq (.ret (.bl false)) .skip) .skip) .skip) r S) (S := []) (i := 0) (I := fun _ r _ => ∃ z, r = [some (.d (.ro (ns.map .int))), z]) (xs := upTo j.toNat 0) (r := [some (.d (.ro (ns.map .int))), none]) ⟨none, rfl⟩ (by
    rintro p x hx r S ⟨z, rfl⟩
    obtain ⟨i, rfl, h1, h2⟩ := upTo_mem (List.mem_of_getElem? hx)
    obtain ⟨S2, hr⟩ := right' (k := k) (S := S) (ns := ns) (i := i) rfl h1 (by omega)
    refine ⟨[some (.d (.ro (ns.map .int))), some (.d (.int i))], [some (.d (.ro (ns.map .int))), some (.d (.int i))], S2, rfl, ?_, _, rfl⟩
    show exec P0 (c (k + 8)) (.seq (.ite (.not (.call 18 (.cons (.call 10 (.cons (.var 0) (.cons (.var 1) .nil))) .nil))) (.seq (.ret (.bl false)) .skip) .skip) .skip) _ S = _
    rw [x_nx (r1 := [some (.d (.ro (ns.map .int))), some (.d (.int i))]) (S1 := S2) (by
      rw [x_if (q := false) (S1 := S2) (v_not hr)]; simp [exec])]
    simp only [exec])
  rw [x_nx ((x_loop hev).trans f1)]
  have Z := a_mk0 (k := k + 2) (S := S') (r := [some (.d (.ro (ns.map .int))), z])
  have B1 := a_eq (k := k + 2) (a_cover (k := k + 2) (ws := []) v_nil (by decide) (fun w hw => by cases hw)) Z (fun _ _ => Int.le_refl 0) (fun _ _ => Int.le_refl 0) (same_t fun _ _ => rfl)
  have B2 := v_not (v_obool (k := k + 7) Z)
  have P1 : ev P0 (c (k + 8)) (.ptup (.cons (.tup (.cons (.str [99, 111, 114, 101]) (.cons (.int 1000000) .nil))) .nil)) [some (.d (.ro (ns.map .int))), z] S' = .ok (.d (.ptp (prs w0))) S' := by
    rw [prs_w0]
    simp [ev, evs, R.bind, dsOf, big, core]
  have M := v_mk (j := 0) (q := (0, 20)) rfl (v_one P1) (mk (k := k + 4) (S := S') (w := w0) fun x hx => (w0_b x hx).2)
  have B3 := a_cov (k := k + 2) M Z w0_b.nn
  have c3 : decide (∀ x ∈ KS, (0 : Int) ≤ w0 x) = true := decide_eq_true w0_b.nn
  rw [c3] at B3
  rw [x_ret (x_retv (v_ands B1 (v_ands B2 (v_1 B3))))]
  exact ⟨_, rfl⟩
end K01
end
section
set_option maxRecDepth 100000
namespace K01
open PySem L2 Iv
def tb : Tb where
  fns := fns0
  Ns := [(["value"] : List Str), (["value", "least", "most"] : List Str), (["value", "most", "sign"] : List Str), (["value"] : List Str), (["items", "one", "other"] : List Str), (["value", "pair"] : List Str), (["table", "kind"] : List Str), (["value"] : List Str), (["value"] : List Str), (["have", "want", "found", "kind", "number"] : List Str), (["_law_script", "_law_spot", "_law_cell", "_law_left"] : List Str), (["_law_dice_here", "_law_total", "_law_found", "_law_one", "_law_two"] : List Str), (["_law_dice_here", "_law_items"] : List Str), (["_law_dice_here", "_law_items", "_law_item"] : List Str), (["_law_dice_here", "_law_some_here", "_law_most", "_law_kind"] : List Str), (["_law_one", "_law_other", "_law_third", "_law_whole"] : List Str), (["_law_one", "_law_other", "_law_third", "_law_least"] : List Str), (["_law_one", "_law_other", "_law_often"] : List Str), (["_law_dice_here", "_law_some_here", "_law_turn", "_law_one", "_law_other"] : List Str), (["_law_script", "_law_spot"] : List Str), (["self", "pairs"] : List Str), (["self", "pairs"] : List Str), (["cls", "some", "found", "one", "kind", "number"] : List Str), (["self"] : List Str), (["self", "other"] : List Str), (["self", "other"] : List Str), (["self", "want", "kind", "number"] : List Str), (["self", "other", "kinds", "kind"] : List Str), (["self", "other", "short", "kind", "number"] : List Str), (["self", "number", "kind", "one"] : List Str), (["self"] : List Str), (["self"] : List Str), (["self", "other"] : List Str)]
  wh := [.glo "is_integer", .glo "is_from", .glo "begins_with_letter", .glo "is_kind", .glo "are_ascending", .glo "are_pairs", .glo "amounts_of", .glo "require_amounts", .glo "require_operand", .glo "missing", .glo "_law_dice", .glo "_law_roll", .glo "_law_pick", .glo "_law_some", .glo "_law_drawn", .glo "_law_sums_right", .glo "_law_covers_right", .glo "_law_often_right", .glo "_law_right", .glo "law", .met 0 "__init__", .met 0 "__init__", .cmt 0 "cover_of", .prp 0 "pairs", .met 0 "covers", .met 0 "lacks", .met 0 "times", .met 0 "__add__", .met 0 "__sub__", .met 0 "__mul__", .met 0 "__len__", .met 0 "__bool__", .met 0 "__eq__"]
  gfn := ["is_integer", "is_from", "begins_with_letter", "is_kind", "are_ascending", "are_pairs", "amounts_of", "require_amounts", "require_operand", "missing", "_law_dice", "_law_roll", "_law_pick", "_law_some", "_law_drawn", "_law_sums_right", "_law_covers_right", "_law_often_right", "_law_right", "law"]
  globs := [("GREATEST", (.int (1000000000000000000000000000000000000000000000000000000000000))), ("LETTERS", (.str [97, 98, 99, 100, 101, 102, 103, 104, 105, 106, 107, 108, 109, 110, 111, 112, 113, 114, 115, 116, 117, 118, 119, 120, 121, 122])), ("DIGITS", (.str [48, 49, 50, 51, 52, 53, 54, 55, 56, 57])), ("NOTHING", (.str [110, 111, 116, 104, 105, 110, 103])), ("MAX_KIND", (.int (8))), ("MAX_KINDS", (.int (60))), ("MAX_AMOUNT", (.int (1000000)))]
  cls := ["Amounts"]
  excs := []
  fuel := 1000
  mks := [(0, 20), (0, 21)]
  sls := [("own_pairs", 0, 0), ("own_table", 0, 1)]
  mts := [("covers", 0, 24), ("lacks", 0, 25), ("times", 0, 26)]
  prs := [("pairs", 0, 23)]
  cms := [("cover_of", 0, 22)]
  ops := [(.add, 0, 27), (.sub, 0, 28), (.mul, 0, 29)]
  eqs := [(0, 32)]
  lns := [(0, 30)]
  bls := [(0, 31)]
  isc := [(0, 0, true)]
theorem tb_prg : tb.prg = P0 := rfl
theorem tb_fns : tb.fns = fns0 := rfl
end K01
end
theorem K01.plain : ∀ ns : List Int, ns.length ≤ 63 → ∃ S, Iv.runF K01.tb.prg (Iv.call K01.tb.prg K01.tb.fns 10) ⟨1, 2, K01.b_law, .all⟩ [.d (.ro (ns.map .int))] [] = .ok (.d (.bl true)) S := by
  intro ns _
  rw [K01.tb_prg, K01.tb_fns]
  exact K01.plain0 (k := 2) ns
set_option maxRecDepth 100000
set_option maxHeartbeats 0
open PySem PySem.W PyProof.Rows
theorem PySem.Challenge.cw_toldstarts_k01_amounts_as_a_lattice_holds : PySem.Challenge.rw_toldstarts_k01_amounts_as_a_lattice.Holds := by
  w_on; o_law; k_head; (case hw => w_witness2)
  k_fill
  exact Iv.walk (l := PySem.Challenge.rw_toldstarts_k01_amounts_as_a_lattice) K01.tb 19 ⟨1, 2, K01.b_law, .all⟩ 10 "_law_script" rfl rfl ⟨rfl, by decide, by decide⟩ (fun w h Y => PySem.W.kIn_of Y) rfl rfl (fun p => by kernel_rfl) (fun p => by kernel_rfl) K01.plain
